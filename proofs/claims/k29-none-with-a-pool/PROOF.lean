import PyProof.Rows.All
import Wide.All
import OpenK.AllK
import Wide.FinOn
import PySem.Challenge.RW_forkyields_k29_whole_none_with_a_pool
import HandS.ForMost
import HandS.Head0
import HandS.Head1
import HandS.Head2
import HandS.HeadEnd
import HandS.HeadHook1
import HandS.HeadHook2
import HandS.HeadHook3
import HandS.HeadHook4
import HandS.Star
import HandS.TupAny
import HandS.TupMul
import HandS.Deep
import HandS.SetKeys
import KE.SortData
import HandS.IsInst
import HandS.Strs
import HandS.Zip
import HandS.DictComp
import HandS.Conv
import KE.GoesMore
import HandS.Iter
import HandS.TupSets
import PyProof.RulesMatch
import HandS.Small
import HandS.Codes
import HandS.Words
import HandS.Defaults
import KE.KStateDown
import HandS.Ends
import HandS.More
import HandS.Wide
set_option Elab.async false
set_option linter.all false
set_option maxRecDepth 100000
set_option maxHeartbeats 4000000
section
/-! FyHead -/
set_option maxHeartbeats 0
namespace FyH
open PySem PySem.Spec PyProof.Rows L2
def top (i : Nat) : Stmt := PySem.Challenge.pw_forkyields_k29_whole_none_with_a_pool.main.body.getD i (.Pass ⟨0, 0, 0, 0⟩)
def defD (x : Str) (i : Nat) : He.DefD := ⟨(x, none), x, x, defArgs (top i), defBody (top i), defScope (top i), [], []⟩
def fn : List He.DefD := ([defD "is_integer" 14, defD "is_number" 15, defD "is_name" 16, defD "is_rising" 17, defD "is_name_set" 18, defD "are_numbers" 19, defD "is_tuple_of" 20, defD "is_place_or_none" 21, defD "is_row" 22, defD "are_rows" 23, defD "is_wait" 24, defD "is_fork" 25, defD "is_instruction" 26, defD "has_kind_shape" 27, defD "is_step" 28, defD "targets_of" 29, defD "slots_named" 30, defD "instructions_fault" 31, defD "system_fault" 32, defD "is_system" 33, defD "named_kind" 38, defD "new_row" 39, defD "first_tree" 40, defD "instruction_of" 41, defD "slot_index" 42] : List He.DefD) ++ ([defD "children_in" 43, defD "has_ended" 44, defD "replaced" 45, defD "at_place" 46, defD "with_slot" 47, defD "pooled" 48, defD "released" 49, defD "ended" 50, defD "watched_children" 51, defD "wait_moves" 52, defD "moves_of" 53, defD "steps_in" 54, defD "step_fault" 55, defD "forked" 56, defD "taken" 57, defD "killed" 58, defD "after_step" 59, defD "walked" 61, defD "need_system" 62, defD "tree_behind" 63, defD "need_process" 64, defD "rows_of" 65, defD "tree_after" 66, defD "next_steps" 67, defD "born_of" 68] : List He.DefD) ++ ([defD "family_of" 70, defD "_law_source" 72, defD "_law_pick" 73, defD "_law_any" 74, defD "_law_scene" 75, defD "_law_wait" 76, defD "_law_fork" 77, defD "_law_instruction" 78, defD "_law_kind" 79, defD "_law_system" 80, defD "_law_newborn" 81, defD "_law_first" 82, defD "_law_put" 83, defD "_law_pooled" 84, defD "_law_slotted" 85, defD "_law_ended" 86, defD "_law_at" 87, defD "_law_in_rows" 88, defD "_law_steps" 89, defD "_law_next" 90, defD "_law_forked" 91, defD "_law_taken" 92, defD "_law_done" 93, defD "_law_led" 94, defD "_law_behind_right" 95] : List He.DefD) ++ ([defD "law" 96] : List He.DefD)
def fa : List He.Fa := ([.glo "is_integer", .glo "is_number", .glo "is_name", .glo "is_rising", .glo "is_name_set", .glo "are_numbers", .glo "is_tuple_of", .glo "is_place_or_none", .glo "is_row", .glo "are_rows", .glo "is_wait", .glo "is_fork", .glo "is_instruction", .glo "has_kind_shape", .glo "is_step", .glo "targets_of", .glo "slots_named", .glo "instructions_fault", .glo "system_fault", .glo "is_system", .glo "named_kind", .glo "new_row", .glo "first_tree", .glo "instruction_of", .glo "slot_index"] : List He.Fa) ++ ([.glo "children_in", .glo "has_ended", .glo "replaced", .glo "at_place", .glo "with_slot", .glo "pooled", .glo "released", .glo "ended", .glo "watched_children", .glo "wait_moves", .glo "moves_of", .glo "steps_in", .glo "step_fault", .glo "forked", .glo "taken", .glo "killed", .glo "after_step", .glo "walked", .glo "need_system", .glo "tree_behind", .glo "need_process", .glo "rows_of", .glo "tree_after", .glo "next_steps", .glo "born_of"] : List He.Fa) ++ ([.glo "family_of", .glo "_law_source", .glo "_law_pick", .glo "_law_any", .glo "_law_scene", .glo "_law_wait", .glo "_law_fork", .glo "_law_instruction", .glo "_law_kind", .glo "_law_system", .glo "_law_newborn", .glo "_law_first", .glo "_law_put", .glo "_law_pooled", .glo "_law_slotted", .glo "_law_ended", .glo "_law_at", .glo "_law_in_rows", .glo "_law_steps", .glo "_law_next", .glo "_law_forked", .glo "_law_taken", .glo "_law_done", .glo "_law_led", .glo "_law_behind_right"] : List He.Fa) ++ ([.glo "law", .free "isinstance", .free "int", .free "bool", .free "str", .free "tuple", .free "len", .free "all", .free "zip", .free "list", .free "enumerate", .free "dict", .free "sorted", .free "range", .free "set", .int "LONGEST_NAME" (8), .int "NO_PLACE" (-1), .int "LIVING" (-1), .int "NOBODY" (-1), .int "KILLED" (2), .str "LETTERS" "abcdefghijklmnopqrstuvwxyz", .str "POOL" "", .glo "STEP_WORDS", .glo "NUMBERED_WORDS", .glo "WAIT_WORDS"] : List He.Fa) ++ ([.glo "SLOT_WORDS", .glo "WORDS_AT"] : List He.Fa)
def ts : List He.Tab := [(fun K => He.ga K "WORDS_AT", ["go", "fork", "wait", "poll", "kill", "release", "exit"])]
/-- the tuple that a dict of the top has under a text key -/
def atKey (x k : Str) (K : PySem.W.Frag) : Addr := match PySem.W.nsIn K (He.ga K x) k with
  | some (some (.ref a)) => a
  | _ => 0
def okTup (K : PySem.W.Frag) (a : Addr) (vs : List Str) : Bool := match K.lookup a with
  | some ⟨.type c, none, .seq its _, _⟩ => decide (c = "tuple") && (decide (its.size ≤ sizeLine) && He.relAll (vs.map V.str) its.toList)
  | _ => false
def ex (K : PySem.W.Frag) : Bool :=
  okTup K (He.ga K "STEP_WORDS") ["go", "fork", "take", "none", "later", "kill", "release", "exit"] && okTup K (He.ga K "NUMBERED_WORDS") ["go", "take"] && okTup K (He.ga K "WAIT_WORDS") ["wait", "poll"] && okTup K (He.ga K "SLOT_WORDS") ["kill", "release"] && okTup K (atKey "WORDS_AT" "go" K) ["go"] && okTup K (atKey "WORDS_AT" "fork" K) ["fork"] && okTup K (atKey "WORDS_AT" "wait" K) ["take", "none"] && okTup K (atKey "WORDS_AT" "poll" K) ["take", "none", "later"] && okTup K (atKey "WORDS_AT" "kill" K) ["kill"] && okTup K (atKey "WORDS_AT" "release" K) ["release"] && okTup K (atKey "WORDS_AT" "exit" K) ["exit"] && He.valsB K (He.ga K "WORDS_AT") [("go", .adr (atKey "WORDS_AT" "go")), ("fork", .adr (atKey "WORDS_AT" "fork")), ("wait", .adr (atKey "WORDS_AT" "wait")), ("poll", .adr (atKey "WORDS_AT" "poll")), ("kill", .adr (atKey "WORDS_AT" "kill")), ("release", .adr (atKey "WORDS_AT" "release")), ("exit", .adr (atKey "WORDS_AT" "exit"))]
abbrev R : PySem.W.OpenRow := PySem.W.OpenLaw.row PySem.Challenge.rw_forkyields_k29_whole_none_with_a_pool
abbrev hk : PySem.W.Hook := He.hookX 4 fa fn ts [] ex
def ob (s : PySem.W.SharedT) : He.AlX := He.obsX 4 fa fn ts [] ex (HandSHeadRun.getT s)
theorem ob_eq (s : PySem.W.SharedT) : ob s = hk.obs s.abs := He.obsX_eq (HandSHeadRun.getT_eq s)
def loose : List Str := (["ForkError", "KindError", "NotUsable", "LETTERS", "LONGEST_NAME", "POOL", "NO_PLACE", "LIVING", "STEP_WORDS", "NUMBERED_WORDS", "WAIT_WORDS", "SLOT_WORDS", "is_integer", "is_number", "is_name", "is_rising", "is_name_set", "are_numbers", "is_tuple_of", "is_place_or_none", "is_row", "are_rows", "is_wait", "is_fork", "is_instruction"] : List Str) ++ (["has_kind_shape", "is_step", "targets_of", "slots_named", "instructions_fault", "system_fault", "is_system", "NOBODY", "KILLED", "WORDS_AT", "named_kind", "new_row", "first_tree", "instruction_of", "slot_index", "children_in", "has_ended", "replaced", "at_place", "with_slot", "pooled", "released", "ended", "watched_children", "wait_moves"] : List Str) ++ (["moves_of", "steps_in", "step_fault", "forked", "taken", "killed", "after_step", "walked", "need_system", "tree_behind", "need_process", "rows_of", "tree_after", "next_steps", "born_of", "family_of", "_law_source", "_law_pick", "_law_any", "_law_scene", "_law_wait", "_law_fork", "_law_instruction", "_law_kind", "_law_system"] : List Str) ++ (["_law_newborn", "_law_first", "_law_put", "_law_pooled", "_law_slotted", "_law_ended", "_law_at", "_law_in_rows", "_law_steps", "_law_next", "_law_forked", "_law_taken", "_law_done", "_law_led", "_law_behind_right"] : List Str)

def runP (w : World) : Prop := HandSHeadRun.RunEq R (PySem.W.view R.prog [96]) hk ob 5000 loose w
theorem run0 (w : World) : HandSHeadRun.RunEq R (PySem.W.view R.prog [96]) hk ob 5000 loose (w.withFollow "special-get-raises" false) := by
  intro os
  kernel_rfl
theorem run1 (w : World) : HandSHeadRun.RunEq R (PySem.W.view R.prog [96]) hk ob 5000 loose (w.withFollow "special-get-raises" true) := by
  intro os
  kernel_rfl
theorem run (w : World) : HandSHeadRun.RunEq R (PySem.W.view R.prog [96]) hk ob 5000 loose w := PySem.W.byRow2 (P := fun w => HandSHeadRun.RunEq R (PySem.W.view R.prog [96]) hk ob 5000 loose w) "special-get-raises" run0 run1 w
end FyH
end
section
/-! FyNew -/
namespace Fy
open PySem PySem.Spec PyProof.Rows L2
/-! ### tuples that are made here, with the object known: they have no dict of their own -/
def PlT (o : Obj) : Prop := o.cls = .type "tuple" ∧ o.dict = none
def NewT (H : Hp) (Q : VK) (xs : List L2.V) : Prop := ∀ p o, H p = none → PlT o → Q (.ref p) (upd H p (.frz o (.tup xs)))
section
variable {X : Cx} {pins : List (Addr × Obj)} {σ : L2.St} {H : Hp} {s : Shared} {xs : List L2.V} {us : List Value} {Q : VK}
theorem newT_run (I : Inv X pins σ H s) (r : Vals xs us) (hz : xs.length ≤ sizeLine) (q : NewT H Q xs) : EP X pins σ Q (.ref s.heap.objs.size) { s with heap := s.heap.push { cls := .type "tuple", data := .seq us.toArray }, toks := s.toks } :=
  ⟨.ref s.heap.objs.size, _, I.laid (t' := s.toks) (o := .frz { cls := .type "tuple", data := .seq us.toArray } (.tup xs)) (fun b u e => Heap.get?_push_of_some _ e) (Nat.le_refl _)
    ⟨Heap.get?_push_size _ rfl, hz, us, r, IsTup.new _ _⟩, rfl, q _ _ (I.hok.fresh (Nat.le_refl _)) ⟨rfl, rfl⟩⟩
end
section
variable {X : Cx}
def tTupF (t : TA) : TE := fun σ H Q => t σ H fun xs H1 => xs.length ≤ sizeLine ∧ NewT H1 Q xs
theorem pe_tupF {es : List Expr} {k : Nat} {pos : Pos} {t : TA} (h : PA X es t) : PE X (.Tuple es k pos) (tTupF t) :=
  ⟨fun pins s σ H Q I hq => wpAny_Tuple_spliced (thn (h.run pos pins s σ H _ I hq) fun us s1 ⟨xs, H1, I1, r, z, q⟩ => ⟨by rw [← r.length]; exact z, newT_run I1 r z q⟩)⟩
def rCatF (K : PySem.W.Frag) : R2 := fun x y H Q => ∃ a b xs ys, x = .ref a ∧ y = .ref b ∧ SqT K H a xs ∧ SqT K H b ys ∧ xs.length + ys.length ≤ sizeLine ∧
  (xs = [] → Q (.ref b) H) ∧ (xs ≠ [] → ys = [] → Q (.ref a) H) ∧ NewT H Q (xs ++ ys)
theorem op_catF : OpR X (binaryOp .Add) (rCatF X.K) := by
  intro pins s σ H x y v u Q I rx ry ⟨a, b, xs, ys, ex, ey, ha, hb, hz, q0, q1, q2⟩
  subst ex ey
  obtain rfl : v = Value.ref a := rx
  obtain rfl : u = Value.ref b := ry
  obtain ⟨its, r1, p1, _⟩ := I.tuple ha
  obtain ⟨jts, r2, p2, _⟩ := I.tuple hb
  by_cases hx : xs = []
  · subst hx
    cases r1
    exact cat_tup0 p1 p2 ⟨.ref b, H, I, rfl, q0 rfl⟩
  · exact HT.cat_tup p1 p2 (fun z => hx (r1.nil_iff.mp z)) (fun z => ⟨.ref a, H, I, rfl, q1 hx (r2.nil_iff.mp z)⟩) (fun _ => newT_run I (r1.append r2) (by rw [List.length_append]; exact hz) q2) (by rw [← r1.length, ← r2.length]; exact hz)
def rSlF (K : PySem.W.Frag) : L2.V → Option Int → Option Int → Hp → VK → Prop := fun x lo hi H Q => ∃ a xs, x = .ref a ∧ SqT K H a xs ∧
  (HT.sIx xs.length 0 lo = 0 ∧ HT.sIx xs.length xs.length hi = xs.length → Q (.ref a) H) ∧ NewT H Q (cutV xs lo hi)
theorem sl_tupF : SlR X (rSlF X.K) := by
  intro pins s σ H x v vl vu lo hi sl Q I rx hs pl pu ⟨a, xs, ex, hx, q1, q2⟩
  subst ex
  obtain rfl : v = Value.ref a := rx
  obtain ⟨its, r, ht, hz⟩ := I.tuple hx
  have hl : its.toArray.size = xs.length := by rw [List.size_toArray]; exact r.length.symm
  refine ⟨"tuple", _, PyProof.Rows.slot_tuple_getitem.lookup, ht.typeIs, ?_⟩
  by_cases hw : HT.sIx xs.length 0 lo = 0 ∧ HT.sIx xs.length xs.length hi = xs.length
  · exact getItem_tuple_whole ht hs pl pu (by rw [hl]; exact hw) ⟨.ref a, H, I, rfl, q1 hw⟩
  · refine HT.getItem_tuple_cut ht hs pl pu (by rw [hl]; exact hw) ?_ (by rw [hl]; exact hz)
    rw [hl]
    exact newT_run I ((r.drop (HT.sIx xs.length 0 lo)).take (HT.sIx xs.length xs.length hi - HT.sIx xs.length 0 lo)) (Nat.le_trans (cutV_length xs lo hi) hz) q2
theorem call_tupleF : CallR X (.type "tuple") (fun xs H Q => ∃ p ys, xs = [.ref p] ∧ ((SqL X.K H p ys ∧ NewT H Q ys) ∨ (SqT X.K H p ys ∧ Q (.ref p) H))) := by
  intro pins s σ H xs us Q I r ⟨p, ys, e, h⟩
  subst e
  obtain ⟨u, rfl, rx⟩ := vals1 r
  obtain rfl : u = Value.ref p := rx
  rcases h with ⟨hq, q⟩ | ⟨hq, q⟩
  · obtain ⟨its, r2, pl, hz⟩ := I.list hq
    have hl := r2.length
    exact call_tuple_list pl.isList (fun h' kp => newT_run (I.kept (t' := s.toks) kp) r2 hz q) (by simp only [List.size_toArray] <;> omega)
  · obtain ⟨its, r2, pl, hz⟩ := I.tuple hq
    exact call_tuple_same pl ⟨.ref p, H, I, rfl, q⟩
theorem mulOne (l : Addr) (items : Array Value) (n : Nat) (dd : Option Addr) (sl : Array (Option Value)) (u : Tok) :
    Meets (Builtin.«tuple.__mul__» ⟨[.ref l, .int 1 u], []⟩) (fun _ R s => s.heap.get? l = some { cls := .type "tuple", dict := dd, data := .seq items n, slots := sl } ∧ R (.ok (.ret (Value.ref l))) s) :=
  .of_wp fun prog w A R s h => by
    obtain ⟨hp, g, d, tk, os⟩ := s
    obtain ⟨hl, h⟩ := h
    have f1 := AutoSeq1.idx_int
    have c1 : (items.isEmpty || (1 : Int) == 1) = true := by simp
    wp_walk using wpAny_loadPart' hl
    exact ⟨_, rfl, h⟩
theorem mulNil (l : Addr) (items : Array Value) (n : Nat) (dd : Option Addr) (sl : Array (Option Value)) (u : Tok) (hi : items.isEmpty = false) :
    Meets (Builtin.«tuple.__mul__» ⟨[.ref l, .int 0 u], []⟩) (fun _ R s => s.heap.get? l = some { cls := .type "tuple", dict := dd, data := .seq items n, slots := sl } ∧
      R (.ok (.ret (Value.ref s.heap.objs.size))) { s with heap := s.heap.push { cls := Value.type "tuple", data := Data.seq #[] }, toks := s.toks }) :=
  .of_wp fun prog w A R s h => by
    obtain ⟨hp, g, d, tk, os⟩ := s
    obtain ⟨hl, h⟩ := h
    have f1 := AutoSeq1.idx_int
    wp_walk using wpAny_loadPart' hl
    exact ⟨_, rfl, h⟩
theorem flat_rep {α : Type} (x : α) : ∀ k : Nat, (List.replicate k [x]).flatten = List.replicate k x
  | 0 => rfl
  | k + 1 => by rw [List.replicate_succ, List.flatten_cons, flat_rep x k]; rfl
/-- (x,) * k -/
def rMulF (K : PySem.W.Frag) : R2 := fun x y H Q => ∃ l k a, x = .ref l ∧ y = .int k ∧ SqT K H l [a] ∧ 0 ≤ k ∧ k ≤ 1000 ∧ (k = 1 → Q (.ref l) H) ∧ NewT H Q (List.replicate k.toNat a)
theorem op_mulF : OpR X (binaryOp .Mult) (rMulF X.K) := by
  intro pins s σ H x y v u Q I rx ry ⟨l, k, a, ex, ey, hT, h0, h1, q1, q2⟩
  subst ex ey
  obtain rfl : v = Value.ref l := rx
  obtain ⟨t, rfl⟩ := ry
  obtain ⟨its, r, ⟨⟨cls, dd, data, sl⟩, ho, hc, n, hd⟩, hs⟩ := I.tuple hT
  simp only at hc hd
  subst hc hd
  obtain ⟨b, rfl, rb⟩ : ∃ b, its = [b] ∧ RelV a b := by
    cases r with
    | cons r1 r2 => cases r2; exact ⟨_, rfl, r1⟩
  have core : ∀ R : Value → Shared → Prop, wpAny (model X.prog X.w) X.A (call (.builtin "tuple.__mul__") [.ref l, .int k t]) R X.xe s → wpAny (model X.prog X.w) X.A (binaryOp .Mult (.ref l) (.int k t)) R X.xe s := fun R hR =>
    wpAny_binaryOp_repeat_ref (T := "tuple") (U := "int") (by decide) ⟨_, ho, rfl⟩ (fun s' => typeIs_int s' k t) noFill_tuple_mul F.fills_int_mul F.slot_int_rmul repeat_tuple F.slot_int_index.lookup
      (call_meets F.slot_int_rmul (typeIs_int s k t) F.entry_int_rmul (F.args_int_rmul_2 _ _) (int_rmul_tuple k t l [b].toArray n dd sl) ⟨ho, rfl, ⟨_, ho, rfl⟩, hR⟩)
  refine core _ ?_
  by_cases e0 : k = 0
  · subst e0
    exact call_meets F.slot_tuple_mul ⟨_, ho, rfl⟩ F.entry_tuple_mul (F.args_tuple_mul_2 _ _) (mulNil l [b].toArray n dd sl t rfl) ⟨ho, newT_run I .nil (Nat.zero_le _) q2⟩
  · by_cases e1 : k = 1
    · subst e1
      exact call_meets F.slot_tuple_mul ⟨_, ho, rfl⟩ F.entry_tuple_mul (F.args_tuple_mul_2 _ _) (mulOne l [b].toArray n dd sl t) ⟨ho, .ref l, H, I.tok _, rfl, q1 rfl⟩
    · have c0 : (decide (k < -(2 ^ 63)) || decide (k ≥ 2 ^ 63)) = false := by rw [decide_eq_false (by omega), decide_eq_false (by omega)]; rfl
      have c1 : ([b].toArray.isEmpty || k == 1) = false := beq_eq_false_iff_ne.mpr e1
      have c2 : (decide (k ≤ 0) || [b].toArray.isEmpty) = false := by rw [decide_eq_false (by omega)]; rfl
      have z1 : (([b].toArray.size : Nat) : Int) * k = k := by show (1 : Int) * k = k; omega
      have c4 : Builtin.Tuple.tupleTooMany ((([b].toArray.size : Nat) : Int) * k) = false := by
        unfold Builtin.Tuple.tupleTooMany
        rw [z1, sizeLine_eq]
        exact decide_eq_false (by omega)
      have e2 : (List.foldl (fun x1 x2 => x1 ++ x2) #[] (List.replicate k.toNat [b].toArray)) = (List.replicate k.toNat b).toArray := by rw [size_rep, flat_rep]
      refine call_meets F.slot_tuple_mul ⟨_, ho, rfl⟩ F.entry_tuple_mul (F.args_tuple_mul_2 _ _) (tuple_mulW l [b].toArray n dd sl k t c0 c1 c2 (by rw [z1]; omega) c4 (by rw [e2, List.size_toArray, List.length_replicate, sizeLine_eq]; omega)) ⟨ho, ?_⟩
      rw [e2]
      refine newT_run I ?_ (by rw [List.length_replicate, sizeLine_eq]; omega) q2
      have := r.rep k.toNat
      rwa [flat_rep, flat_rep] at this
end
end Fy
end
section
/-! FyD -/
namespace Fy
open PySem PySem.Spec PyProof.Rows L2
/-! ### plain data -/
inductive D where
  | non | bl (b : Bool) | int (i : Int) | str (x : Str) | tup (ds : List D) | raw (ds : List D) | lst (ds : List D) | dic (ks : List Int) (ds : List D) | src
  deriving Inhabited

/-- the source: its dict, its list of cells -/
structure Sr where
  d : Addr
  l : Addr
instance : Coe Sr Addr := ⟨Sr.d⟩
section
variable (K : PySem.W.Frag) (S : Sr) (H : Hp)
/-- a tuple of the module's own -/
def KTup (a : Addr) (xs : List V) : Prop := ∃ (o : Obj) (its : Array Value) (n : Nat), K.lookup a = some o ∧ PlT o ∧ o.data = .seq its n ∧ its.size ≤ sizeLine ∧ Vals xs its.toList
def STup (a : Addr) (xs : List V) : Prop := (a ≠ S ∧ ∃ o, PlT o ∧ H a = some (.frz o (.tup xs))) ∨ KTup K a xs
mutual
/-- the value v is the datum: what S holds is never looked into -/
def Is : D → V → Prop
  | .non, v => v = .non
  | .bl b, v => v = .bl b
  | .int i, v => v = .int i
  | .str x, v => v = .str x
  | .tup ds, v => ∃ a xs, v = .ref a ∧ STup K S H a xs ∧ IsL ds xs
  | .raw ds, v => ∃ (a : Addr) (xs : List L2.V), v = .ref a ∧ a ≠ S.d ∧ H a = some (.tup xs) ∧ IsL ds xs
  | .lst ds, v => ∃ (a : Addr) (xs : List L2.V), v = .ref a ∧ a ≠ S.d ∧ H a = some (.lst xs) ∧ IsL ds xs
  | .dic ks ds, v => ∃ (a : Addr) (kvs : List (Key × L2.V)), v = .ref a ∧ a ≠ S.d ∧ H a = some (.dK kvs) ∧ kvs.map (·.1) = ks.map Sum.inl ∧ IsL ds (kvs.map (·.2))
  | .src, v => v = .ref S.d
def IsL : List D → List V → Prop
  | [], xs => xs = []
  | d :: ds, xs => ∃ x r, xs = x :: r ∧ Is d x ∧ IsL ds r
end
end
/-- all stands but what S holds -/
def Ext (S : Sr) (H H' : Hp) : Prop := ∀ (a : Addr) (o : HO), a ≠ S.d → H a = some o → H' a = some o
theorem Ext.refl {S : Sr} {H : Hp} : Ext S H H := fun _ _ _ h => h
theorem Ext.trans {S : Sr} {H H1 H2 : Hp} (a : Ext S H H1) (b : Ext S H1 H2) : Ext S H H2 := fun c o n h => b c o n (a c o n h)
theorem Ext.new {S : Sr} {H : Hp} {p : Addr} {o : HO} (h : H p = none) : Ext S H (upd H p o) := fun a u _ e => by
  rw [upd_ne (ne_of_none e h)]; exact e
def hide (O : List Addr) (H : Hp) : Hp := fun a => if a ∈ O then none else H a
theorem hide_in {O : List Addr} {H : Hp} {a : Addr} (h : a ∈ O) : hide O H a = none := if_pos h
theorem hide_out {O : List Addr} {H : Hp} {a : Addr} (h : a ∉ O) : hide O H a = H a := if_neg h
theorem hide_some {O : List Addr} {H : Hp} {a : Addr} {o : HO} (h : hide O H a = some o) : a ∉ O ∧ H a = some o := by
  unfold hide at h
  split at h
  · cases h
  · exact ⟨‹_›, h⟩
theorem hide_nil {H : Hp} : hide [] H = H := by funext a; unfold hide; simp
theorem Ext.hide {S : Sr} {H H' : Hp} (O : List Addr) (e : Ext S H H') : Ext S (hide O H) (hide O H') := fun a o n h => by
  obtain ⟨h1, h2⟩ := hide_some h
  rw [hide_out h1]; exact e a o n h2
theorem Ext.less {S : Sr} {H : Hp} {O O' : List Addr} (h : ∀ a ∈ O', a ∈ O) : Ext S (Fy.hide O H) (Fy.hide O' H) := fun a o n e => by
  obtain ⟨h1, h2⟩ := hide_some e
  rw [hide_out fun z => h1 (h a z)]; exact h2

section
variable {K : PySem.W.Frag} {S : Sr} {H H' : Hp}
theorem STup.mono (e : Ext S H H') {a : Addr} {xs : List V} (h : STup K S H a xs) : STup K S H' a xs := by
  rcases h with ⟨n, o, p, h⟩ | h
  · exact .inl ⟨n, o, p, e _ _ n h⟩
  · exact .inr h
mutual
theorem Is.mono (e : Ext S H H') : ∀ (d : D) (v : V), Is K S H d v → Is K S H' d v
  | .non, v, h => by unfold Is at h ⊢; exact h
  | .bl b, v, h => by unfold Is at h ⊢; exact h
  | .int i, v, h => by unfold Is at h ⊢; exact h
  | .str x, v, h => by unfold Is at h ⊢; exact h
  | .tup ds, v, h => by
    unfold Is at h ⊢
    obtain ⟨a, xs, h1, h2, h3⟩ := h
    exact ⟨a, xs, h1, h2.mono e, IsL.mono e ds xs h3⟩
  | .raw ds, v, h => by
    unfold Is at h ⊢
    obtain ⟨a, xs, h1, h2, h3, h4⟩ := h
    exact ⟨a, xs, h1, h2, e _ _ h2 h3, IsL.mono e ds xs h4⟩
  | .lst ds, v, h => by
    unfold Is at h ⊢
    obtain ⟨a, xs, h1, h2, h3, h4⟩ := h
    exact ⟨a, xs, h1, h2, e _ _ h2 h3, IsL.mono e ds xs h4⟩
  | .dic ks ds, v, h => by
    unfold Is at h ⊢
    obtain ⟨a, kvs, h1, h2, h3, h4, h5⟩ := h
    exact ⟨a, kvs, h1, h2, e _ _ h2 h3, h4, IsL.mono e ds _ h5⟩
  | .src, v, h => by unfold Is at h ⊢; exact h
theorem IsL.mono (e : Ext S H H') : ∀ (ds : List D) (xs : List V), IsL K S H ds xs → IsL K S H' ds xs
  | [], xs, h => by unfold IsL at h ⊢; exact h
  | d :: ds, xs, h => by
    unfold IsL at h ⊢
    obtain ⟨x, r, h1, h2, h3⟩ := h
    exact ⟨x, r, h1, Is.mono e d x h2, IsL.mono e ds r h3⟩
end
theorem isL_nil : IsL K S H [] [] := by unfold IsL; rfl
theorem isL_cons {d : D} {ds : List D} {x : V} {xs : List V} (h : Is K S H d x) (r : IsL K S H ds xs) : IsL K S H (d :: ds) (x :: xs) := by
  unfold IsL; exact ⟨x, xs, rfl, h, r⟩
theorem IsL.len : ∀ {ds : List D} {xs : List V}, IsL K S H ds xs → xs.length = ds.length
  | [], xs, h => by unfold IsL at h; subst h; rfl
  | d :: ds, xs, h => by
    unfold IsL at h
    obtain ⟨x, r, rfl, _, h⟩ := h
    simp [IsL.len h]
theorem IsL.get : ∀ {ds : List D} {xs : List V} {i : Nat} {d : D}, IsL K S H ds xs → ds[i]? = some d → ∃ x, xs[i]? = some x ∧ Is K S H d x
  | [], _, _, _, _, e => by simp at e
  | d :: ds, xs, 0, d', h, e => by
    unfold IsL at h
    obtain ⟨x, r, rfl, h1, _⟩ := h
    simp at e; subst e
    exact ⟨x, rfl, h1⟩
  | d :: ds, xs, i + 1, d', h, e => by
    unfold IsL at h
    obtain ⟨x, r, rfl, _, h1⟩ := h
    obtain ⟨y, h2, h3⟩ := IsL.get (i := i) h1 (by simpa using e)
    exact ⟨y, by simpa using h2, h3⟩
theorem IsL.got : ∀ {ds : List D} {xs : List V} {i : Nat} {x : V}, IsL K S H ds xs → xs[i]? = some x → ∃ d, ds[i]? = some d ∧ Is K S H d x := fun {ds xs i x} h e => by
  have hl := h.len
  have hi : i < ds.length := by rw [← hl]; exact (List.getElem?_eq_some_iff.mp e).1
  obtain ⟨y, h1, h2⟩ := h.get (List.getElem?_eq_getElem hi)
  rw [e] at h1; cases h1
  exact ⟨_, List.getElem?_eq_getElem hi, h2⟩
theorem isL_of_get : ∀ {ds : List D} {xs : List V}, xs.length = ds.length → (∀ (i : Nat) d x, ds[i]? = some d → xs[i]? = some x → Is K S H d x) → IsL K S H ds xs
  | [], [], _, _ => isL_nil
  | [], _ :: _, h, _ => by simp at h
  | _ :: _, [], h, _ => by simp at h
  | d :: ds, x :: xs, h, g => isL_cons (g 0 d x rfl rfl) (isL_of_get (by simpa using h) fun i d x e1 e2 => g (i + 1) d x (by simpa using e1) (by simpa using e2))
theorem IsL.app {ds es : List D} {xs ys : List V} (a : IsL K S H ds xs) (b : IsL K S H es ys) : IsL K S H (ds ++ es) (xs ++ ys) := by
  induction ds generalizing xs with
  | nil => unfold IsL at a; subst a; exact b
  | cons d ds ih =>
    unfold IsL at a
    obtain ⟨x, r, rfl, h1, h2⟩ := a
    exact isL_cons h1 (ih h2)
theorem IsL.snoc {ds : List D} {xs : List V} {d : D} {x : V} (a : IsL K S H ds xs) (b : Is K S H d x) : IsL K S H (ds ++ [d]) (xs ++ [x]) := a.app (isL_cons b isL_nil)
theorem IsL.split : ∀ {ds es : List D} {xs : List V}, IsL K S H (ds ++ es) xs → ∃ ys zs, xs = ys ++ zs ∧ IsL K S H ds ys ∧ IsL K S H es zs
  | [], es, xs, h => ⟨[], xs, rfl, isL_nil, h⟩
  | d :: ds, es, xs, h => by
    have h : IsL K S H (d :: (ds ++ es)) xs := h
    unfold IsL at h
    obtain ⟨x, r, rfl, h1, h2⟩ := h
    obtain ⟨ys, zs, rfl, h3, h4⟩ := IsL.split h2
    exact ⟨x :: ys, zs, rfl, isL_cons h1 h3, h4⟩
theorem IsL.drop {ds : List D} {xs : List V} (h : IsL K S H ds xs) (n : Nat) : IsL K S H (ds.drop n) (xs.drop n) :=
  isL_of_get (by simp [h.len]) fun i d x e1 e2 => by
    rw [List.getElem?_drop] at e1 e2
    obtain ⟨y, h1, h2⟩ := h.get e1
    rw [e2] at h1; cases h1; exact h2
theorem IsL.take {ds : List D} {xs : List V} (h : IsL K S H ds xs) (n : Nat) : IsL K S H (ds.take n) (xs.take n) :=
  isL_of_get (by simp [h.len]) fun i d x e1 e2 => by
    rw [List.getElem?_take] at e1 e2
    split at e1
    · rw [if_pos ‹_›] at e2
      obtain ⟨y, h1, h2⟩ := h.get e1
      rw [e2] at h1; cases h1; exact h2
    · cases e1
theorem IsL.set {ds : List D} {xs : List V} (h : IsL K S H ds xs) (n : Nat) {d : D} {x : V} (hd : Is K S H d x) : IsL K S H (ds.set n d) (xs.set n x) :=
  isL_of_get (by simp [h.len]) fun i e y e1 e2 => by
    rw [List.getElem?_set] at e1 e2
    split at e1
    · rw [if_pos ‹_›] at e2
      split at e1
      · split at e2
        · cases e1; cases e2; exact hd
        · cases e2
      · cases e1
    · rw [if_neg ‹_›] at e2
      obtain ⟨z, h1, h2⟩ := h.get e1
      rw [e2] at h1; cases h1; exact h2
theorem isL_ints : ∀ (ns : List Int), IsL K S H (ns.map D.int) (ns.map V.int)
  | [] => isL_nil
  | n :: ns => isL_cons (by unfold Is; rfl) (isL_ints ns)
theorem isL_strs : ∀ (ns : List Str), IsL K S H (ns.map D.str) (ns.map V.str)
  | [] => isL_nil
  | n :: ns => isL_cons (by unfold Is; rfl) (isL_strs ns)
end
end Fy
end
section
/-! FyE -/
namespace Fy
open PySem PySem.Spec PyProof.Rows L2
/-! ### the small text: expressions and statements with slots -/
inductive Op where | eq | ne | lt | le | gt | ge | isin | notin | is | isnot
  deriving DecidableEq
inductive Tg where | name (i : Nat) | tup (is : List Nat)
inductive Blt where | len | all | sorted | tuple | list | dict | sset | int
  deriving DecidableEq
mutual
inductive E where
  | var (i : Nat) | cst (c : D) | gl (n : Nat) | neg (a : E)
  | add (a b : E) | sub (a b : E) | mul (a b : E)
  | cmp (o : Op) (a b : E) | chn (o o' : Op) (a b c : E)
  | nt (a : E) | and (a b : E) | or (a b : E) | ife (c a b : E)
  | tup (es : EL) | lst (es : EL)
  | ix (a b : E) | sl (a : E) (lo hi : EO)
  | call (f : Nat) (es : EL) | blt (b : Blt) (a : E) | isi (a : E) (t : String) | idx (a b : E) | words (a : E)
  | lc (own : List (Str × Nat)) (tg : Tg) (it : It) (c : EO) (e : E)
  | lc2 (own : List (Str × Nat)) (tg : Tg) (it : It) (tg2 : List Nat) (it2 : It) (e : E)
  | lci (own : List (Str × Nat)) (tg : Tg) (d : Nat) (kp : List Nat) (c : EO) (e : E)
  | dci (own : List (Str × Nat)) (tg : Tg) (d : Nat) (kp : List Nat) (c : EO) (k v : E)
  | d1 (k v : E)
  | imm (a : E)
inductive EL where | nil | cons (e : E) (r : EL) | star (e : E) (r : EL)
inductive EO where | no | so (e : E)
inductive It where | seq (e : E) | enum (e : E) | zip (a b : E) | rng (e : E) | rng2 (a b : E) | chars (e : E)
end
inductive Pat where | lit (x : Str) | alt (xs : List Str) | cap (i : Nat) | wild
mutual
inductive S where
  | asg (i : Nat) (e : E) | own (i : Nat) (e : E) | unp (is : List Nat) (e : E) | par (i j : Nat) (oi oj : Bool) (a b : E)
  | ret (e : E) | ite (c : E) (a b : SL) | «for» (tg : Tg) (it : It) (b : SL) | brk
  | app (i : Nat) (e : E) | drp (e : E) | put (i : Nat) (k v : E) | mtch (e : E) (cs : ML) | nev
inductive SL where | nil | cons (s : S) (r : SL)
inductive ML where | nil | cons (p : Pat) (b : SL) (r : ML)
end

/-! ### data: equality, order, what a type is -/
mutual
def D.toP : D → PyData
  | .non => .none | .bl b => .bool b | .int i => .int i | .str x => .str x
  | .tup ds => .tuple (toPs ds) | .lst ds => .list (toPs ds) | .raw _ => .none | .dic _ _ => .none | .src => .none
def toPs : List D → List PyData
  | [] => []
  | d :: ds => d.toP :: toPs ds
end
mutual
/-- no dict, no source within -/
def D.plain : D → Bool
  | .tup ds => plains ds | .lst ds => plains ds | .raw _ => false | .dic _ _ => false | .src => false | _ => true
def plains : List D → Bool
  | [] => true
  | d :: ds => d.plain && plains ds
end
mutual
/-- nothing in it can change -/
def D.fixed : D → Bool
  | .tup ds => fixeds ds | .raw _ => false | .lst _ => false | .dic _ _ => false | .src => true | _ => true
def fixeds : List D → Bool
  | [] => true
  | d :: ds => d.fixed && fixeds ds
end
def D.eqd (a b : D) : Bool := PyData.eqv a.toP b.toP
def D.okd (a : D) : Prop := a.plain = true ∧ SeqAt.shaped a.toP = true
def D.le (a b : D) : Bool := !PySem.W.dataLt b.toP a.toP
def D.ty : D → String
  | .non => "NoneType" | .bl _ => "bool" | .int _ => "int" | .str _ => "str" | .tup _ => "tuple" | .raw _ => "tuple" | .lst _ => "list" | .dic _ _ => "dict" | .src => "dict"
def D.isT (d : D) (t : String) : Bool := d.ty == t || (d.ty == "bool" && t == "int")
/-- the module's constants -/
def strsD (xs : List Str) : D := .tup (xs.map .str)
def gcs : List (Str × D) := [("LETTERS", .str "abcdefghijklmnopqrstuvwxyz"), ("LONGEST_NAME", .int 8), ("POOL", .str ""), ("NO_PLACE", .int (-1)), ("LIVING", .int (-1)),
  ("STEP_WORDS", strsD ["go", "fork", "take", "none", "later", "kill", "release", "exit"]), ("NUMBERED_WORDS", strsD ["go", "take"]), ("WAIT_WORDS", strsD ["wait", "poll"]), ("SLOT_WORDS", strsD ["kill", "release"]),
  ("NOBODY", .int (-1)), ("KILLED", .int 2)]
/-! ### what each construct asks -/
abbrev Slot := Option (Bool × D)
abbrev Rho := List Slot
abbrev Spec := List D → (D → Prop) → Prop
def scalD : D → D → Bool
  | .int _, .int _ => true | .str _, .str _ => true | .bl _, .bl _ => true | _, _ => false
def flatD : D → Bool
  | .int _ => true | .str _ => true | .bl _ => true | .non => true | _ => false
def eqOk (a b : D) : Prop := scalD a b = true ∨ (a.okd ∧ b.okd)
def inOk (a : D) (ds : List D) (c : D) : Prop := (flatD a = true ∧ ds.all flatD = true) ∨ (a.okd ∧ c.okd)
def cmpW : Op → D → D → (Bool → Prop) → Prop
  | .eq, a, b, Q => eqOk a b ∧ Q (a.eqd b)
  | .ne, a, b, Q => eqOk a b ∧ Q (!a.eqd b)
  | .lt, .int i, .int j, Q => Q (decide (i < j))
  | .lt, .str x, .str y, Q => Q (decide (x.cps.toList < y.cps.toList))
  | .le, .int i, .int j, Q => Q (decide (i ≤ j))
  | .gt, .int i, .int j, Q => Q (decide (j < i))
  | .ge, .int i, .int j, Q => Q (decide (j ≤ i))
  | .isin, .str x, .str y, Q => Q (!(Builtin.Str.occurrences y x 0 y.length 1).isEmpty)
  | .isin, .int i, .dic ks _, Q => Q (decide (i ∈ ks))
  | .isin, a, .lst ds, Q => inOk a ds (.lst ds) ∧ Q (ds.any fun z => z.eqd a)
  | .isin, a, .tup ds, Q => inOk a ds (.tup ds) ∧ Q (ds.any fun z => z.eqd a)
  | .notin, .int i, .dic ks _, Q => Q (!decide (i ∈ ks))
  | .notin, a, .lst ds, Q => inOk a ds (.lst ds) ∧ Q (!ds.any fun z => z.eqd a)
  | .notin, a, .tup ds, Q => inOk a ds (.tup ds) ∧ Q (!ds.any fun z => z.eqd a)
  | .is, .non, .non, Q => Q true
  | .is, .tup _, .non, Q => Q false
  | .isnot, .non, .non, Q => Q false
  | .isnot, .tup _, .non, Q => Q true
  | _, _, _, _ => False
def addW : D → D → (D → Prop) → Prop
  | .int i, .int j, Q => Q (.int (i + j))
  | .tup a, .tup b, Q => a.length + b.length ≤ sizeLine ∧ Q (.tup (a ++ b))
  | .lst a, .lst b, Q => a.length + b.length ≤ sizeLine ∧ Q (.lst (a ++ b))
  | _, _, _ => False
def subW : D → D → (D → Prop) → Prop
  | .int i, .int j, Q => Q (.int (i - j))
  | _, _, _ => False
def mulW : D → D → (D → Prop) → Prop
  | .tup [a], .int k, Q => 0 ≤ k ∧ k ≤ 1000 ∧ Q (.tup (List.replicate k.toNat a))
  | _, _, _ => False
def dget : List Int → List D → Int → Option D
  | k :: ks, d :: ds, i => if k = i then some d else dget ks ds i
  | _, _, _ => none
def ixW : D → D → (D → Prop) → Prop
  | .tup ds, .int i, Q => ∃ d, atI ds i = some d ∧ Q d
  | .lst ds, .int i, Q => ∃ d, atI ds i = some d ∧ Q d
  | .dic ks ds, .int i, Q => ∃ d, dget ks ds i = some d ∧ Q d
  | _, _, _ => False
def cutD (ds : List D) (lo hi : Option Int) : List D := (ds.drop (HT.sIx ds.length 0 lo)).take (HT.sIx ds.length ds.length hi - HT.sIx ds.length 0 lo)
def slW : D → Option Int → Option Int → (D → Prop) → Prop
  | .tup ds, lo, hi, Q => Q (.tup (cutD ds lo hi))
  | .lst ds, lo, hi, Q => Q (.lst (cutD ds lo hi))
  | _, _, _, _ => False
def wordsD (z : Str) : Option (List Str) :=
  if z = "go" then some ["go"] else if z = "fork" then some ["fork"] else if z = "wait" then some ["take", "none"] else if z = "poll" then some ["take", "none", "later"]
  else if z = "kill" then some ["kill"] else if z = "release" then some ["release"] else if z = "exit" then some ["exit"] else none
def blsD : List D → Option (List Bool)
  | [] => some []
  | .bl b :: r => (blsD r).map (b :: ·)
  | _ :: _ => none
def pairD : D → Option (Int × D)
  | .tup [a, e] => (match a with | .int i => some (i, e) | _ => none)
  | _ => none
def pairsD : List D → Option (List Int × List D)
  | [] => some ([], [])
  | d :: r => (pairD d).bind fun q => (pairsD r).map fun p => (q.1 :: p.1, q.2 :: p.2)
/-- a dict's d[k] = v -/
def dput (ks : List Int) (ds : List D) (i : Int) (e : D) : List Int × List D := if i ∈ ks then (ks, List.zipWith (fun k d => if k = i then e else d) ks ds) else (ks ++ [i], ds ++ [e])
def dputs : List Int → List D → List Int → List D → List Int × List D
  | ks, ds, i :: is, e :: es => dputs (dput ks ds i e).1 (dput ks ds i e).2 is es
  | ks, ds, _, _ => (ks, ds)
/-- data that sort together: all ints, all texts, or all tuples int, text, int -/
def sortsD (ds : List D) : Prop := (∃ ns : List Int, ds = ns.map .int) ∨ (∃ xs : List Str, ds = xs.map .str) ∨ ∃ ts : List (Int × Str × Int), ds = ts.map fun t => .tup [.int t.1, .str t.2.1, .int t.2.2]
def bltW : Blt → D → (D → Prop) → Prop
  | .len, .tup ds, Q => Q (.int ds.length)
  | .len, .lst ds, Q => Q (.int ds.length)
  | .len, .str x, Q => x.length ≤ sizeLine ∧ Q (.int x.length)
  | .all, .lst ds, Q => ∃ bs, blsD ds = some bs ∧ Q (.bl (bs.all id))
  | .sorted, .lst ds, Q => sortsD ds ∧ ∀ es, es.Perm ds → es.Pairwise (fun a b => a.le b = true) → Q (.lst es)
  | .tuple, .lst ds, Q => Q (.tup ds)
  | .tuple, .tup ds, Q => Q (.tup ds)
  | .list, .tup ds, Q => Q (.lst ds)
  | .list, .lst ds, Q => Q (.lst ds)
  | .list, .dic ks _, Q => Q (.lst (ks.map .int))
  | .dict, .lst ds, Q => ∃ ks es, pairsD ds = some (ks, es) ∧ Q (.dic (dputs [] [] ks es).1 (dputs [] [] ks es).2)
  | .sset, .lst ds, Q => sortsD ds ∧ ds.length < 60 ∧ (ds.Nodup ∨ ∀ d ∈ ds, flatD d = true) ∧ ∀ es, es.Nodup → (∀ d, d ∈ es ↔ d ∈ ds) → es.Pairwise (fun a b => a.le b = true) → Q (.lst es)
  | .int, .int i, Q => Q (.int i)
  | _, _, _ => False
def idxW : D → D → (D → Prop) → Prop
  | .tup ds, .str z, Q => ∃ xs : List Str, ds = xs.map .str ∧ ∃ j : Nat, xs[j]? = some z ∧ (∀ m, m < j → xs[m]? ≠ some z) ∧ Q (.int j)
  | .lst ds, .str z, Q => ∃ xs : List Str, ds = xs.map .str ∧ ∃ j : Nat, xs[j]? = some z ∧ (∀ m, m < j → xs[m]? ≠ some z) ∧ Q (.int j)
  | .tup ds, .int z, Q => ∃ xs : List Int, ds = xs.map .int ∧ ∃ j : Nat, xs[j]? = some z ∧ (∀ m, m < j → xs[m]? ≠ some z) ∧ Q (.int j)
  | _, _, _ => False
def setAll : Rho → List Nat → List D → Rho
  | ρ, i :: is, d :: ds => setAll (ρ.set i (some (false, d))) is ds
  | ρ, _, _ => ρ
def bindT : Tg → D → Rho → (Rho → Prop) → Prop
  | .name i, d, ρ, k => k (ρ.set i (some (false, d)))
  | .tup is, .tup ds, ρ, k => is.length = ds.length ∧ k (setAll ρ is ds)
  | .tup is, .raw ds, ρ, k => is.length = ds.length ∧ k (setAll ρ is ds)
  | _, _, _, _ => False
def wipeR (ρ : Rho) : List Nat → Rho
  | [] => ρ
  | v :: vs => (wipeR ρ vs).set v none
/-- what is owned is given up: from here on it is as any other -/
def shown : Slot → Slot
  | some (_, d) => some (false, d)
  | none => none
def rvR (rv : Bool) (ρ : Rho) : Rho := if rv = true then ρ.map shown else ρ
/-- the slots that are kept while a dict is walked: what they hold cannot change -/
def keepR (ρ : Rho) (kp : List Nat) : Rho := (List.range ρ.length).map fun i => if i ∈ kp then (ρ[i]?).join else none
def fixKs (ρ : Rho) (kp : List Nat) : Prop := ∀ i ∈ kp, ∃ d, ρ[i]? = some (some (false, d)) ∧ d.fixed = true
def enumD (n : Nat) : List D → List D
  | [] => []
  | d :: ds => .raw [.int n, d] :: enumD (n + 1) ds
def zipD : List D → List D → List D
  | a :: as, b :: bs => .raw [a, b] :: zipD as bs
  | _, _ => []
def rngD (lo : Int) (n : Nat) : List D := (List.range n).map fun i => .int (lo + (i : Nat))
def charsD (x : Str) : List D := x.cps.toList.map fun c => .str ⟨#[c]⟩
def itemsD : D → Option (List D)
  | .tup ds => some ds | .lst ds => some ds | .raw ds => some ds | _ => none
def itsD : List Int → List D → List D
  | k :: ks, d :: ds => .raw [.int k, d] :: itsD ks ds
  | _, _ => []
def compW (tg : Tg) (own : List Nat) (cW : Rho → (Bool → Prop) → Prop) (eW : Rho → (D → Prop) → Prop) (ρ : Rho) : List D → List D → (List D → Prop) → Prop
  | [], acc, Q => Q acc
  | d :: r, acc, Q => bindT tg d (wipeR ρ own) fun ρ' => cW ρ' fun b => if b = true then eW ρ' fun y => compW tg own cW eW ρ r (acc ++ [y]) Q else compW tg own cW eW ρ r acc Q
/-- the inner loop of two: the items of the inner target go to the slots is -/
def compI (is : List Nat) (eW : Rho → (D → Prop) → Prop) (ρ : Rho) : List D → List D → (List D → Prop) → Prop
  | [], acc, Q => Q acc
  | d :: r, acc, Q => bindT (match is with | [i] => .name i | _ => .tup is) d (wipeR ρ is) fun ρ' => eW ρ' fun y => acc.length < sizeLine ∧ compI is eW ρ r (acc ++ [y]) Q
def comp2W (tg : Tg) (own is : List Nat) (iW : Rho → (List D → Prop) → Prop) (eW : Rho → (D → Prop) → Prop) (ρ : Rho) : List D → List D → (List D → Prop) → Prop
  | [], acc, Q => Q acc
  | d :: r, acc, Q => bindT tg d (wipeR ρ own) fun ρ' => iW ρ' fun its => compI is eW ρ' its acc fun acc' => comp2W tg own is iW eW ρ r acc' Q
def dcW (tg : Tg) (own : List Nat) (cW : Rho → (Bool → Prop) → Prop) (kW vW : Rho → (D → Prop) → Prop) (ρ : Rho) : List D → List Int → List D → (List Int → List D → Prop) → Prop
  | [], ks, ds, Q => Q ks ds
  | d :: r, ks, ds, Q => bindT tg d (wipeR ρ own) fun ρ' => cW ρ' fun b => if b = true then kW ρ' fun k => vW ρ' fun v => ∃ i, k = .int i ∧ dcW tg own cW kW vW ρ r (dput ks ds i v).1 (dput ks ds i v).2 Q
    else dcW tg own cW kW vW ρ r ks ds Q
def boolW (Q : Bool → Prop) (d : D) : Prop := ∃ b, d = .bl b ∧ Q b
mutual
/-- the reading of an expression: rv: the owned lists may be looked at -/
def wpE (Γ : Nat → Spec) : E → Bool → Rho → (D → Prop) → Prop
  | .var i, rv, ρ, Q => ∃ o d, ρ[i]? = some (some (o, d)) ∧ (o = true → rv = true) ∧ Q d
  | .cst c, _, _, Q => Q c
  | .gl n, _, _, Q => ∃ p, gcs[n]? = some p ∧ Q p.2
  | .neg a, rv, ρ, Q => wpE Γ a rv ρ fun d => ∃ i, d = .int i ∧ Q (.int (-i))
  | .add a b, rv, ρ, Q => wpE Γ a rv ρ fun x => wpE Γ b rv ρ fun y => addW x y Q
  | .sub a b, rv, ρ, Q => wpE Γ a rv ρ fun x => wpE Γ b rv ρ fun y => subW x y Q
  | .mul a b, rv, ρ, Q => wpE Γ a rv ρ fun x => wpE Γ b rv ρ fun y => mulW x y Q
  | .cmp o a b, rv, ρ, Q => wpE Γ a rv ρ fun x => wpE Γ b rv ρ fun y => cmpW o x y fun c => Q (.bl c)
  | .chn o o' a b c, rv, ρ, Q => wpE Γ a rv ρ fun x => wpE Γ b rv ρ fun y => cmpW o x y fun k => if k = true then wpE Γ c rv ρ fun z => cmpW o' y z fun k' => Q (.bl k') else Q (.bl false)
  | .nt a, rv, ρ, Q => wpE Γ a rv ρ (boolW fun b => Q (.bl (!b)))
  | .and a b, rv, ρ, Q => wpE Γ a rv ρ (boolW fun k => if k = true then wpE Γ b rv ρ (boolW fun k' => Q (.bl k')) else Q (.bl false))
  | .or a b, rv, ρ, Q => wpE Γ a rv ρ (boolW fun k => if k = true then Q (.bl true) else wpE Γ b rv ρ (boolW fun k' => Q (.bl k')))
  | .ife c a b, rv, ρ, Q => wpE Γ c rv ρ (boolW fun k => if k = true then wpE Γ a rv ρ Q else wpE Γ b rv ρ Q)
  | .tup es, rv, ρ, Q => wpL Γ es rv ρ fun ds => ds.length ≤ sizeLine ∧ Q (.tup ds)
  | .lst es, rv, ρ, Q => wpL Γ es rv ρ fun ds => ds.length ≤ sizeLine ∧ Q (.lst ds)
  | .ix a b, rv, ρ, Q => wpE Γ a rv ρ fun x => wpE Γ b rv ρ fun y => ixW x y Q
  | .sl a lo hi, rv, ρ, Q => wpE Γ a rv ρ fun x => wpO Γ lo rv ρ fun l => wpO Γ hi rv ρ fun h => slW x l h Q
  | .call f es, rv, ρ, Q => wpL Γ es rv ρ fun ds => ∃ R, Γ f ds R ∧ ∀ d, R d → Q d
  | .blt b a, rv, ρ, Q => wpE Γ a rv ρ fun x => bltW b x Q
  | .isi a t, rv, ρ, Q => wpE Γ a rv ρ fun x => x ≠ .src ∧ Q (.bl (x.isT t))
  | .idx a b, rv, ρ, Q => wpE Γ a rv ρ fun x => (∃ ds, x = .tup ds ∨ x = .lst ds) ∧ wpE Γ b rv ρ fun y => idxW x y Q
  | .words a, rv, ρ, Q => wpE Γ a rv ρ fun x => ∃ z ws, x = .str z ∧ wordsD z = some ws ∧ Q (.tup (ws.map .str))
  | .lc own tg it c e, rv, ρ, Q => wpI Γ it (rvR rv ρ) fun ds => compW tg (own.map (·.2)) (wpC Γ c) (fun ρ' Q' => wpE Γ e false ρ' Q') (rvR rv ρ) ds [] fun es => Q (.lst es)
  | .lc2 own tg it is it2 e, rv, ρ, Q => wpI Γ it (rvR rv ρ) fun ds => comp2W tg (own.map (·.2)) is (wpI Γ it2) (fun ρ' Q' => wpE Γ e false ρ' Q') (rvR rv ρ) ds [] fun es => Q (.lst es)
  | .lci own tg d kp c e, _, ρ, Q => ∃ ks ds, ρ[d]? = some (some (false, .dic ks ds)) ∧ fixKs ρ kp ∧ (fixeds ds = true ∧ ds.length ≤ sizeLine) ∧ compW tg (own.map (·.2)) (wpC Γ c) (fun ρ' Q' => wpE Γ e false ρ' Q') (keepR ρ kp) (itsD ks ds) [] fun es => Q (.lst es)
  | .dci own tg d kp c k v, _, ρ, Q => ∃ ks ds, ρ[d]? = some (some (false, .dic ks ds)) ∧ fixKs ρ kp ∧ (fixeds ds = true ∧ ds.length ≤ sizeLine) ∧ dcW tg (own.map (·.2)) (wpC Γ c) (fun ρ' Q' => wpE Γ k false ρ' Q') (fun ρ' Q' => wpE Γ v false ρ' Q') (keepR ρ kp) (itsD ks ds) [] [] fun ks' ds' => Q (.dic ks' ds')
  | .d1 k v, rv, ρ, Q => wpE Γ k rv ρ fun x => wpE Γ v rv ρ fun y => ∃ i, x = .int i ∧ Q (.dic [i] [y])
  | .imm a, rv, ρ, Q => wpE Γ a true ρ fun d => d.fixed = true ∧ Q d
def wpL (Γ : Nat → Spec) : EL → Bool → Rho → (List D → Prop) → Prop
  | .nil, _, _, Q => Q []
  | .cons e r, rv, ρ, Q => wpE Γ e rv ρ fun d => wpL Γ r rv ρ fun ds => Q (d :: ds)
  | .star e r, rv, ρ, Q => wpE Γ e rv ρ fun d => ∃ xs, itemsD d = some xs ∧ wpL Γ r rv ρ fun ds => Q (xs ++ ds)
def wpO (Γ : Nat → Spec) : EO → Bool → Rho → (Option Int → Prop) → Prop
  | .no, _, _, Q => Q none
  | .so e, rv, ρ, Q => wpE Γ e rv ρ fun d => ∃ i, d = .int i ∧ Q (some i)
def wpC (Γ : Nat → Spec) : EO → Rho → (Bool → Prop) → Prop
  | .no, _, Q => Q true
  | .so e, ρ, Q => wpE Γ e false ρ (boolW Q)
def wpI (Γ : Nat → Spec) : It → Rho → (List D → Prop) → Prop
  | .seq e, ρ, Q => wpE Γ e false ρ fun d => ∃ xs, itemsD d = some xs ∧ Q xs
  | .enum e, ρ, Q => wpE Γ e false ρ fun d => ∃ xs, itemsD d = some xs ∧ Q (enumD 0 xs)
  | .zip a b, ρ, Q => wpE Γ a false ρ fun x => wpE Γ b false ρ fun y => (∃ xs ys, x = .tup xs ∧ y = .tup ys ∧ Q (zipD xs ys)) ∨ ∃ xs ys, x = .lst xs ∧ y = .lst ys ∧ Q (zipD xs ys)
  | .rng e, ρ, Q => wpE Γ e false ρ fun d => ∃ i : Int, d = .int i ∧ -(2 ^ 62) ≤ i ∧ i ≤ sizeLine ∧ Q (rngD 0 i.toNat)
  | .rng2 a b, ρ, Q => wpE Γ a false ρ fun x => wpE Γ b false ρ fun y => ∃ i j : Int, x = .int i ∧ y = .int j ∧ 0 ≤ i ∧ i ≤ sizeLine ∧ 0 ≤ j ∧ j ≤ sizeLine ∧ Q (rngD i (j - i).toNat)
  | .chars e, ρ, Q => wpE Γ e false ρ fun d => ∃ x : Str, d = .str x ∧ x.length ≤ sizeLine ∧ Q (charsD x)
end
structure Dn where
  nx : Rho → Prop
  rt : D → Prop
  bk : Rho → Prop := fun _ => False
def forW (tg : Tg) (bW : Dn → Rho → Prop) (D : Dn) : List Fy.D → Rho → Prop
  | [], ρ => D.nx ρ
  | d :: r, ρ => bindT tg d ρ fun ρ' => bW { nx := forW tg bW D r, rt := D.rt, bk := D.nx } ρ'
def isLD : D → Bool
  | .lst _ => true | .dic _ _ => true | _ => false
def patW : Pat → Str → Rho → Option Rho
  | .lit x, z, ρ => if z = x then some ρ else none
  | .alt xs, z, ρ => if z ∈ xs then some ρ else none
  | .cap i, z, ρ => some (ρ.set i (some (false, .str z)))
  | .wild, _, ρ => some ρ
mutual
def wpS (Γ : Nat → Spec) : S → Dn → Rho → Prop
  | .asg i e, D, ρ => wpE Γ e false ρ fun d => D.nx (ρ.set i (some (false, d)))
  | .own i e, D, ρ => wpE Γ e false ρ fun d => isLD d = true ∧ D.nx (ρ.set i (some (true, d)))
  | .unp is e, D, ρ => wpE Γ e false ρ fun d => ∃ ds, d = .tup ds ∧ is.length = ds.length ∧ D.nx (setAll ρ is ds)
  | .par i j oi oj a b, D, ρ => wpE Γ a false ρ fun x => wpE Γ b false ρ fun y => (oi = true → isLD x = true) ∧ (oj = true → isLD y = true) ∧ D.nx ((ρ.set i (some (oi, x))).set j (some (oj, y)))
  | .ret e, D, ρ => wpE Γ e true ρ D.rt
  | .ite c a b, D, ρ => wpE Γ c false ρ (boolW fun k => if k = true then wpSL Γ a D ρ else wpSL Γ b D ρ)
  | .for tg it b, D, ρ => wpI Γ it ρ fun ds => forW tg (wpSL Γ b) D ds ρ
  | .brk, D, ρ => D.bk ρ
  | .app i e, D, ρ => ∃ ds, ρ[i]? = some (some (true, .lst ds)) ∧ ds.length < sizeLine ∧ wpE Γ e false ρ fun y => D.nx (ρ.set i (some (true, .lst (ds ++ [y]))))
  | .drp e, D, ρ => wpE Γ e false ρ fun _ => D.nx ρ
  | .put i k v, D, ρ => wpE Γ v false ρ fun y =>
      (∃ ks ds, ρ[i]? = some (some (true, .dic ks ds)) ∧ ks.length < sizeLine ∧ wpE Γ k false ρ fun x => ∃ n, x = .int n ∧ D.nx (ρ.set i (some (true, .dic (dput ks ds n y).1 (dput ks ds n y).2)))) ∨
      ∃ ds, ρ[i]? = some (some (true, .lst ds)) ∧ wpE Γ k false ρ fun x => ∃ n j, x = .int n ∧ ixN ds.length n = some j ∧ D.nx (ρ.set i (some (true, .lst (ds.set j y))))
  | .mtch e cs, D, ρ => wpE Γ e false ρ fun d => ∃ z, d = .str z ∧ wpM Γ cs z D ρ
  | .nev, _, _ => False
def wpSL (Γ : Nat → Spec) : SL → Dn → Rho → Prop
  | .nil, D, ρ => D.nx ρ
  | .cons s r, D, ρ => wpS Γ s { D with nx := wpSL Γ r D } ρ
def wpM (Γ : Nat → Spec) : ML → Str → Dn → Rho → Prop
  | .nil, _, D, ρ => D.nx ρ
  | .cons p b r, z, D, ρ => match patW p z ρ with
    | some ρ' => wpSL Γ b D ρ'
    | none => wpM Γ r z D ρ
end
example (Γ : Nat → Spec) (a b : E) (rv : Bool) (ρ : Rho) (Q : D → Prop) : wpE Γ (.add a b) rv ρ Q = wpE Γ a rv ρ fun x => wpE Γ b rv ρ fun y => addW x y Q := rfl
end Fy
end
section
/-! FyC -/
namespace Fy
open PySem PySem.Spec PyProof.Rows L2
/-! ### does the small text say what the row's text says? -/
def bltN : Blt → Str
  | .len => "len" | .all => "all" | .sorted => "sorted" | .tuple => "tuple" | .list => "list" | .dict => "dict" | .sset => "sorted" | .int => "int"
def opIs : Op → CmpOp → Bool
  | .eq, .Eq => true | .ne, .NotEq => true | .lt, .Lt => true | .le, .LtE => true | .gt, .Gt => true | .ge, .GtE => true
  | .isin, .In => true | .notin, .NotIn => true | .is, .Is => true | .isnot, .IsNot => true | _, _ => false
def okN (x : Str) : Bool := !(x == ("__debug__" : Str)) && !(x == ("__classdict__" : Str)) && !(x == ("__name__" : Str))
def visB (sc : Scope) (x : Str) : Bool := match sc.names.lookup x with
  | some .local => true | some .cell => true | some .free => true | _ => false
def glB (sc : Scope) (x : Str) : Bool := okN x && match sc.names.lookup x with
  | some .globalImplicit => true | _ => false
def locB (sc : Scope) (blk : Bool) (x : Str) : Bool := match sc.names.lookup x with
  | some .local => true | some .cell => !blk | _ => false
def nSlice : Expr → Bool
  | .Slice .. => false | _ => true
def nStar : Expr → Bool
  | .Starred .. => false | _ => true
def nSet : Expr → Bool
  | .Set .. => false | _ => true
def nComp : Expr → Bool
  | .ListComp .. => false | .SetComp .. => false | .DictComp .. => false | _ => true
def nSub : Expr → Bool
  | .Subscript .. => true | .Name .. => true | _ => false
def tgI : Tg → List Nat
  | .name i => [i] | .tup is => is
section
variable (N fnm : List Str)
def chkNames (sc : Scope) (blk : Bool) : List Nat → List Expr → Bool
  | [], [] => true
  | i :: is, .Name x _ :: r => decide (N[i]? = some x) && (okN x && locB sc blk x) && chkNames sc blk is r
  | _, _ => false
def chkTg (sc : Scope) (blk : Bool) : Tg → Expr → Bool
  | .name i, .Name x _ => decide (N[i]? = some x) && (okN x && locB sc blk x)
  | .tup is, .Tuple ts _ _ => chkNames N sc blk is ts
  | _, _ => false
def tyN : List (String × Str) := [("int", "int"), ("bool", "bool"), ("str", "str"), ("tuple", "tuple")]
mutual
def chkE (sc : Scope) : E → Expr → Bool
  | .var i, .Name x _ => decide (N[i]? = some x) && (okN x && visB sc x)
  | .cst (.int i), .Constant (.int j) _ _ => decide (i = j)
  | .cst (.str x), .Constant (.str y) _ _ => decide (x = y)
  | .cst (.bl b), .Constant (.bool c) _ _ => b == c
  | .cst .non, .Constant .none _ _ => true
  | .gl n, .Name x _ => glB sc x && (match gcs[n]? with | some p => decide (p.1 = x) | none => false)
  | .neg a, .UnaryOp .USub e _ => chkE sc a e
  | .add a b, .BinOp l .Add r _ => chkE sc a l && chkE sc b r
  | .sub a b, .BinOp l .Sub r _ => chkE sc a l && chkE sc b r
  | .mul a b, .BinOp l .Mult r _ => chkE sc a l && chkE sc b r
  | .cmp o a b, .Compare l [op] [r] _ => opIs o op && (!behindInMarks op r) && (chkE sc a l && chkE sc b r)
  | .chn o o' a b c, .Compare l [op, op'] [m, r] _ => opIs o op && opIs o' op' && (!behindInMarks op m) && (!behindInMarks op' r) && (chkE sc a l && (chkE sc b m && chkE sc c r))
  | .nt a, .UnaryOp .Not e _ => chkE sc a e
  | .and a b, .BoolOp .And (x :: y :: r) p => chkE sc a x && (match r with | [] => chkE sc b y | _ => chkE sc b (.BoolOp .And (y :: r) p))
  | .or a b, .BoolOp .Or (x :: y :: r) p => chkE sc a x && (match r with | [] => chkE sc b y | _ => chkE sc b (.BoolOp .Or (y :: r) p))
  | .ife c a b, .IfExp c' a' b' _ => chkE sc c c' && (chkE sc a a' && chkE sc b b')
  | .tup es, .Tuple xs _ _ => chkL sc es xs
  | .lst es, .List xs _ => chkL sc es xs
  | .ix a b, .Subscript x y _ => nSlice y && (chkE sc a x && chkE sc b y)
  | .sl a lo hi, .Subscript x (.Slice l u none _) _ => chkE sc a x && (chkO sc lo l && chkO sc hi u)
  | .call f es, .Call (.Name x _) (y :: r) [] _ => decide (fnm[f]? = some x) && glB sc x && nStar y && chkL sc es (y :: r)
  | .blt b a, .Call (.Name x _) [y] [] _ => decide (bltN b = x) && glB sc x && nStar y && (match b with
    | .sset => (match y with
      | .Call (.Name x' _) [y'] [] _ => decide (("set" : Str) = x') && glB sc x' && nStar y' && chkE sc a y'
      | _ => false)
    | _ => chkE sc a y)
  | .isi a t, .Call (.Name x _) [y, .Name z _] [] _ => decide (("isinstance" : Str) = x) && glB sc x && glB sc z && decide ((t, z) ∈ tyN) && nStar y && chkE sc a y
  | .idx a b, .Call (.Attribute o m ap) [y] [] p => decide (("index" : Str) = m) && nSub o && decide (ap.endLine = p.line) && nStar y && (chkE sc a o && chkE sc b y)
  | .words a, .Subscript (.Name x _) y _ => decide (("WORDS_AT" : Str) = x) && glB sc x && nSlice y && chkE sc a y
  | .lc own tg it c e, .ListComp x [⟨t, i, ifs, n⟩] scope _ => decide (n = 0) && blkC N sc scope own && nSet i && (tgI tg).all (fun j => decide (j ∈ own.map (·.2))) && (chkTg N (relS scope sc) true tg t && (chkI sc it i t && (chkC (relS scope sc) c ifs && chkE (relS scope sc) e x)))
  | .lc2 own tg it is it2 e, .ListComp x [⟨t, i, [], n⟩, ⟨t2, i2, [], n2⟩] scope _ => decide (n = 0) && decide (n2 = 0) && blkC N sc scope own && nSet i && nSet i2 && (tgI tg).all (fun j => decide (j ∈ own.map (·.2))) && is.all (fun j => decide (j ∈ own.map (·.2))) &&
      (chkTg N (relS scope sc) true tg t && (chkI sc it i t && (chkTg N (relS scope sc) true (match is with | [j] => .name j | _ => .tup is) t2 && (chkI (relS scope sc) it2 i2 t2 && chkE (relS scope sc) e x))))
  | .lci own tg d _ c e, .ListComp x [⟨t, .Call (.Attribute (.Name y yp) m ap) [] [] cp, ifs, n⟩] scope _ => decide (n = 0) && blkC N sc scope own && (tgI tg).all (fun j => decide (j ∈ own.map (·.2))) && decide (("items" : Str) = m) && decide (ap.endLine = cp.line) &&
      (decide (N[d]? = some y) && (okN y && visB sc y)) && (match tg with | .tup _ => true | _ => false) && (chkTg N (relS scope sc) true tg t && (chkC (relS scope sc) c ifs && chkE (relS scope sc) e x))
  | .dci own tg d _ c k v, .DictComp kx vx [⟨t, .Call (.Attribute (.Name y yp) m ap) [] [] cp, ifs, n⟩] scope _ => decide (n = 0) && blkC N sc scope own && (tgI tg).all (fun j => decide (j ∈ own.map (·.2))) && decide (("items" : Str) = m) && decide (ap.endLine = cp.line) &&
      (decide (N[d]? = some y) && (okN y && visB sc y)) && (match tg with | .tup _ => true | _ => false) && (chkTg N (relS scope sc) true tg t && (chkC (relS scope sc) c ifs && (chkE (relS scope sc) k kx && chkE (relS scope sc) v vx)))
  | .d1 k v, .Dict [some kx] [vx] _ => chkE sc k kx && chkE sc v vx
  | .imm a, x => chkE sc a x
  | _, _ => false
def chkL (sc : Scope) : EL → List Expr → Bool
  | .nil, [] => true
  | .star e r, .Starred x _ :: xs => chkE sc e x && chkL sc r xs
  | .cons e r, x :: xs => nStar x && (chkE sc e x && chkL sc r xs)
  | _, _ => false
def chkO (sc : Scope) : EO → Option Expr → Bool
  | .no, none => true
  | .so e, some x => chkE sc e x
  | _, _ => false
def chkC (sc : Scope) : EO → List Expr → Bool
  | .no, [] => true
  | .so e, [x] => chkE sc e x
  | _, _ => false
def chkI (sc : Scope) : It → Expr → Expr → Bool
  | .seq e, x, _ => chkE sc e x
  | .chars e, x, _ => chkE sc e x
  | .enum e, .Call (.Name x _) [y] [] _, .Tuple _ _ _ => decide (("enumerate" : Str) = x) && glB sc x && nStar y && chkE sc e y
  | .zip a b, .Call (.Name x _) [y, z] [] _, .Tuple _ _ _ => decide (("zip" : Str) = x) && glB sc x && nStar y && nStar z && (chkE sc a y && chkE sc b z)
  | .rng e, .Call (.Name x _) [y] [] _, _ => decide (("range" : Str) = x) && glB sc x && nStar y && chkE sc e y
  | .rng2 a b, .Call (.Name x _) [y, z] [] _, _ => decide (("range" : Str) = x) && glB sc x && nStar y && nStar z && (chkE sc a y && chkE sc b z)
  | _, _, _ => false
end
end
end Fy
end
section
/-! FyI -/
namespace Fy
open PySem PySem.Spec PyProof.Rows L2
theorem b2 {a b : Bool} (h : (a && b) = true) : a = true ∧ b = true := Bool.and_eq_true_iff.mp h
theorem bn {a : Bool} (h : (!a) = true) : a = false := by cases a; rfl; cases h
section
variable {N fnm : List Str} {sc : Scope}
theorem inv_var {i : Nat} {e : Expr} (h : chkE N fnm sc (.var i) e = true) : ∃ x p, e = .Name x p ∧ N[i]? = some x ∧ okN x = true ∧ visB sc x = true := by
  cases e with
  | Name x p => exact ⟨x, p, rfl, of_decide_eq_true (b2 h).1, (b2 (b2 h).2).1, (b2 (b2 h).2).2⟩
  | _ => exact absurd h Bool.false_ne_true
theorem inv_cst {c : D} {e : Expr} (h : chkE N fnm sc (.cst c) e = true) : ∃ k j p, e = .Constant k j p ∧ ((∃ i, c = .int i ∧ k = .int i) ∨ (∃ x, c = .str x ∧ k = .str x) ∨ (∃ b, c = .bl b ∧ k = .bool b) ∨ (c = .non ∧ k = .none)) := by
  cases e with
  | Constant k j p =>
    refine ⟨k, j, p, rfl, ?_⟩
    cases c with
    | int i => cases k with
      | int z => obtain rfl := (of_decide_eq_true h : i = z); exact .inl ⟨i, rfl, rfl⟩
      | _ => exact absurd h Bool.false_ne_true
    | str i => cases k with
      | str z => obtain rfl := (of_decide_eq_true h : i = z); exact .inr (.inl ⟨i, rfl, rfl⟩)
      | _ => exact absurd h Bool.false_ne_true
    | bl i => cases k with
      | bool z => obtain rfl := (eq_of_beq h : i = z); exact .inr (.inr (.inl ⟨i, rfl, rfl⟩))
      | _ => exact absurd h Bool.false_ne_true
    | non => cases k with
      | none => exact .inr (.inr (.inr ⟨rfl, rfl⟩))
      | _ => exact absurd h Bool.false_ne_true
    | _ => exact absurd h Bool.false_ne_true
  | _ => cases c <;> exact absurd h Bool.false_ne_true
theorem inv_gl {n : Nat} {e : Expr} (h : chkE N fnm sc (.gl n) e = true) : ∃ x p q, e = .Name x p ∧ glB sc x = true ∧ gcs[n]? = some q ∧ q.1 = x := by
  cases e with
  | Name x p =>
    obtain ⟨h1, h2⟩ := b2 h
    cases e : gcs[n]? with
    | none => rw [e] at h2; exact absurd h2 Bool.false_ne_true
    | some q => rw [e] at h2; exact ⟨x, p, q, rfl, h1, rfl, of_decide_eq_true h2⟩
  | _ => exact absurd h Bool.false_ne_true
theorem inv_neg {a : E} {e : Expr} (h : chkE N fnm sc (.neg a) e = true) : ∃ x p, e = .UnaryOp .USub x p ∧ chkE N fnm sc a x = true := by
  cases e with
  | UnaryOp op x p => cases op with
    | USub => exact ⟨x, p, rfl, h⟩
    | _ => exact absurd h Bool.false_ne_true
  | _ => exact absurd h Bool.false_ne_true
theorem inv_nt {a : E} {e : Expr} (h : chkE N fnm sc (.nt a) e = true) : ∃ x p, e = .UnaryOp .Not x p ∧ chkE N fnm sc a x = true := by
  cases e with
  | UnaryOp op x p => cases op with
    | Not => exact ⟨x, p, rfl, h⟩
    | _ => exact absurd h Bool.false_ne_true
  | _ => exact absurd h Bool.false_ne_true
theorem inv_add {a b : E} {e : Expr} (h : chkE N fnm sc (.add a b) e = true) : ∃ l r p, e = .BinOp l .Add r p ∧ chkE N fnm sc a l = true ∧ chkE N fnm sc b r = true := by
  cases e with
  | BinOp l op r p => cases op with
    | Add => exact ⟨l, r, p, rfl, b2 h⟩
    | _ => exact absurd h Bool.false_ne_true
  | _ => exact absurd h Bool.false_ne_true
theorem inv_sub {a b : E} {e : Expr} (h : chkE N fnm sc (.sub a b) e = true) : ∃ l r p, e = .BinOp l .Sub r p ∧ chkE N fnm sc a l = true ∧ chkE N fnm sc b r = true := by
  cases e with
  | BinOp l op r p => cases op with
    | Sub => exact ⟨l, r, p, rfl, b2 h⟩
    | _ => exact absurd h Bool.false_ne_true
  | _ => exact absurd h Bool.false_ne_true
theorem inv_mul {a b : E} {e : Expr} (h : chkE N fnm sc (.mul a b) e = true) : ∃ l r p, e = .BinOp l .Mult r p ∧ chkE N fnm sc a l = true ∧ chkE N fnm sc b r = true := by
  cases e with
  | BinOp l op r p => cases op with
    | Mult => exact ⟨l, r, p, rfl, b2 h⟩
    | _ => exact absurd h Bool.false_ne_true
  | _ => exact absurd h Bool.false_ne_true
theorem inv_cmp {o : Op} {a b : E} {e : Expr} (h : chkE N fnm sc (.cmp o a b) e = true) : ∃ l op r p, e = .Compare l [op] [r] p ∧ opIs o op = true ∧ behindInMarks op r = false ∧ chkE N fnm sc a l = true ∧ chkE N fnm sc b r = true := by
  cases e with
  | Compare l ops rs p =>
    match ops, rs, h with
    | [op], [r], h =>
      obtain ⟨h1, h2⟩ := b2 h
      obtain ⟨h3, h4⟩ := b2 h1
      exact ⟨l, op, r, p, rfl, h3, bn h4, b2 h2⟩
    | [], _, h => exact absurd h Bool.false_ne_true
    | _ :: _ :: _, _, h => exact absurd h Bool.false_ne_true
    | [_], [], h => exact absurd h Bool.false_ne_true
    | [_], _ :: _ :: _, h => exact absurd h Bool.false_ne_true
  | _ => exact absurd h Bool.false_ne_true
theorem inv_chn {o o' : Op} {a b c : E} {e : Expr} (h : chkE N fnm sc (.chn o o' a b c) e = true) : ∃ l op op' m r p, e = .Compare l [op, op'] [m, r] p ∧ opIs o op = true ∧ opIs o' op' = true ∧ behindInMarks op m = false ∧ behindInMarks op' r = false ∧ chkE N fnm sc a l = true ∧ chkE N fnm sc b m = true ∧ chkE N fnm sc c r = true := by
  cases e with
  | Compare l ops rs p =>
    match ops, rs, h with
    | [op, op'], [m, r], h =>
      obtain ⟨h1, h2⟩ := b2 h
      obtain ⟨h3, h4⟩ := b2 h1
      obtain ⟨h5, h6⟩ := b2 h3
      obtain ⟨h7, h8⟩ := b2 h5
      obtain ⟨h9, h10⟩ := b2 h2
      exact ⟨l, op, op', m, r, p, rfl, h7, h8, bn h6, bn h4, h9, b2 h10⟩
    | [], _, h => exact absurd h Bool.false_ne_true
    | [_], _, h => exact absurd h Bool.false_ne_true
    | _ :: _ :: _ :: _, _, h => exact absurd h Bool.false_ne_true
    | [_, _], [], h => exact absurd h Bool.false_ne_true
    | [_, _], [_], h => exact absurd h Bool.false_ne_true
    | [_, _], _ :: _ :: _ :: _, h => exact absurd h Bool.false_ne_true
  | _ => exact absurd h Bool.false_ne_true
theorem inv_and {a b : E} {e : Expr} (h : chkE N fnm sc (.and a b) e = true) : ∃ x y r p, e = .BoolOp .And (x :: y :: r) p ∧ chkE N fnm sc a x = true ∧ ((r = [] ∧ chkE N fnm sc b y = true) ∨ chkE N fnm sc b (.BoolOp .And (y :: r) p) = true) := by
  cases e with
  | BoolOp op xs p => cases op with
    | And =>
      match xs, h with
      | x :: y :: [], h => exact ⟨x, y, [], p, rfl, (b2 h).1, .inl ⟨rfl, (b2 h).2⟩⟩
      | x :: y :: z :: r, h => exact ⟨x, y, z :: r, p, rfl, (b2 h).1, .inr (b2 h).2⟩
      | [], h => exact absurd h Bool.false_ne_true
      | [_], h => exact absurd h Bool.false_ne_true
    | _ => exact absurd h Bool.false_ne_true
  | _ => exact absurd h Bool.false_ne_true
theorem inv_or {a b : E} {e : Expr} (h : chkE N fnm sc (.or a b) e = true) : ∃ x y r p, e = .BoolOp .Or (x :: y :: r) p ∧ chkE N fnm sc a x = true ∧ ((r = [] ∧ chkE N fnm sc b y = true) ∨ chkE N fnm sc b (.BoolOp .Or (y :: r) p) = true) := by
  cases e with
  | BoolOp op xs p => cases op with
    | Or =>
      match xs, h with
      | x :: y :: [], h => exact ⟨x, y, [], p, rfl, (b2 h).1, .inl ⟨rfl, (b2 h).2⟩⟩
      | x :: y :: z :: r, h => exact ⟨x, y, z :: r, p, rfl, (b2 h).1, .inr (b2 h).2⟩
      | [], h => exact absurd h Bool.false_ne_true
      | [_], h => exact absurd h Bool.false_ne_true
    | _ => exact absurd h Bool.false_ne_true
  | _ => exact absurd h Bool.false_ne_true
theorem inv_ife {c a b : E} {e : Expr} (h : chkE N fnm sc (.ife c a b) e = true) : ∃ c' a' b' p, e = .IfExp c' a' b' p ∧ chkE N fnm sc c c' = true ∧ chkE N fnm sc a a' = true ∧ chkE N fnm sc b b' = true := by
  cases e with
  | IfExp c' a' b' p => exact ⟨c', a', b', p, rfl, (b2 h).1, b2 (b2 h).2⟩
  | _ => exact absurd h Bool.false_ne_true
theorem inv_tup {es : EL} {e : Expr} (h : chkE N fnm sc (.tup es) e = true) : ∃ xs k p, e = .Tuple xs k p ∧ chkL N fnm sc es xs = true := by
  cases e with
  | Tuple xs k p => exact ⟨xs, k, p, rfl, h⟩
  | _ => exact absurd h Bool.false_ne_true
theorem inv_lst {es : EL} {e : Expr} (h : chkE N fnm sc (.lst es) e = true) : ∃ xs p, e = .List xs p ∧ chkL N fnm sc es xs = true := by
  cases e with
  | List xs p => exact ⟨xs, p, rfl, h⟩
  | _ => exact absurd h Bool.false_ne_true
theorem inv_ix {a b : E} {e : Expr} (h : chkE N fnm sc (.ix a b) e = true) : ∃ x y p, e = .Subscript x y p ∧ nSlice y = true ∧ chkE N fnm sc a x = true ∧ chkE N fnm sc b y = true := by
  cases e with
  | Subscript x y p => exact ⟨x, y, p, rfl, (b2 h).1, b2 (b2 h).2⟩
  | _ => exact absurd h Bool.false_ne_true
theorem inv_sl {a : E} {lo hi : EO} {e : Expr} (h : chkE N fnm sc (.sl a lo hi) e = true) : ∃ x l u p2 p, e = .Subscript x (.Slice l u none p2) p ∧ chkE N fnm sc a x = true ∧ chkO N fnm sc lo l = true ∧ chkO N fnm sc hi u = true := by
  cases e with
  | Subscript x y p =>
    cases y with
    | Slice l u st p2 => cases st with
      | none => exact ⟨x, l, u, p2, p, rfl, (b2 h).1, b2 (b2 h).2⟩
      | some _ => exact absurd h Bool.false_ne_true
    | _ => exact absurd h Bool.false_ne_true
  | _ => exact absurd h Bool.false_ne_true
theorem inv_call {f : Nat} {es : EL} {e : Expr} (h : chkE N fnm sc (.call f es) e = true) : ∃ x p y r p2, e = .Call (.Name x p) (y :: r) [] p2 ∧ fnm[f]? = some x ∧ glB sc x = true ∧ nStar y = true ∧ chkL N fnm sc es (y :: r) = true := by
  cases e with
  | Call fe as ks p2 =>
    cases fe with
    | Name x p =>
      match as, ks, h with
      | y :: r, [], h =>
        obtain ⟨h1, h2⟩ := b2 h
        obtain ⟨h3, h4⟩ := b2 h1
        obtain ⟨h5, h6⟩ := b2 h3
        exact ⟨x, p, y, r, p2, rfl, of_decide_eq_true h5, h6, h4, h2⟩
      | [], _, h => exact absurd h Bool.false_ne_true
      | _ :: _, _ :: _, h => exact absurd h Bool.false_ne_true
    | _ => exact absurd h Bool.false_ne_true
  | _ => exact absurd h Bool.false_ne_true
theorem inv_blt {b : Blt} {a : E} {e : Expr} (h : chkE N fnm sc (.blt b a) e = true) : ∃ x p y p2, e = .Call (.Name x p) [y] [] p2 ∧ bltN b = x ∧ glB sc x = true ∧ nStar y = true ∧ ((b ≠ .sset ∧ chkE N fnm sc a y = true) ∨
    (b = .sset ∧ ∃ x' p' y' p2', y = .Call (.Name x' p') [y'] [] p2' ∧ ("set" : Str) = x' ∧ glB sc x' = true ∧ nStar y' = true ∧ chkE N fnm sc a y' = true)) := by
  cases e with
  | Call fe as ks p2 =>
    cases fe with
    | Name x p =>
      match as, ks, h with
      | [y], [], h =>
        obtain ⟨h1, h2⟩ := b2 h
        obtain ⟨h3, h4⟩ := b2 h1
        obtain ⟨h5, h6⟩ := b2 h3
        refine ⟨x, p, y, p2, rfl, of_decide_eq_true h5, h6, h4, ?_⟩
        cases b with
        | sset =>
          refine .inr ⟨rfl, ?_⟩
          cases y with
          | Call fe' as' ks' p2' =>
            cases fe' with
            | Name x' p' =>
              match as', ks', h2 with
              | [y'], [], h2 =>
                obtain ⟨h1, h2⟩ := b2 h2
                obtain ⟨h3, h4⟩ := b2 h1
                obtain ⟨h5, h6⟩ := b2 h3
                exact ⟨x', p', y', p2', rfl, of_decide_eq_true h5, h6, h4, h2⟩
              | [], _, h2 => exact absurd h2 Bool.false_ne_true
              | _ :: _ :: _, _, h2 => exact absurd h2 Bool.false_ne_true
              | [_], _ :: _, h2 => exact absurd h2 Bool.false_ne_true
            | _ => exact absurd h2 Bool.false_ne_true
          | _ => exact absurd h2 Bool.false_ne_true
        | _ => exact .inl ⟨(fun z => nomatch z), h2⟩
      | [], _, h => exact absurd h Bool.false_ne_true
      | _ :: _ :: _, _, h => exact absurd h Bool.false_ne_true
      | [_], _ :: _, h => exact absurd h Bool.false_ne_true
    | _ => exact absurd h Bool.false_ne_true
  | _ => exact absurd h Bool.false_ne_true
theorem inv_isi {a : E} {t : String} {e : Expr} (h : chkE N fnm sc (.isi a t) e = true) : ∃ x p y z p3 p2, e = .Call (.Name x p) [y, .Name z p3] [] p2 ∧ ("isinstance" : Str) = x ∧ glB sc x = true ∧ glB sc z = true ∧ (t, z) ∈ tyN ∧ nStar y = true ∧ chkE N fnm sc a y = true := by
  cases e with
  | Call fe as ks p2 =>
    cases fe with
    | Name x p =>
      match as, ks, h with
      | [y, z], [], h =>
        cases z with
        | Name z p3 =>
          obtain ⟨h1, h2⟩ := b2 h
          obtain ⟨h3, h4⟩ := b2 h1
          obtain ⟨h5, h6⟩ := b2 h3
          obtain ⟨h7, h8⟩ := b2 h5
          obtain ⟨h9, h10⟩ := b2 h7
          exact ⟨x, p, y, z, p3, p2, rfl, of_decide_eq_true h9, h10, h8, of_decide_eq_true h6, h4, h2⟩
        | _ => exact absurd h Bool.false_ne_true
      | [], _, h => exact absurd h Bool.false_ne_true
      | [_], _, h => exact absurd h Bool.false_ne_true
      | _ :: z :: _ :: _, _, h => cases z <;> exact absurd h Bool.false_ne_true
      | [_, z], _ :: _, h => cases z <;> exact absurd h Bool.false_ne_true
    | _ => exact absurd h Bool.false_ne_true
  | _ => exact absurd h Bool.false_ne_true
theorem inv_idx {a b : E} {e : Expr} (h : chkE N fnm sc (.idx a b) e = true) : ∃ o m ap y p, e = .Call (.Attribute o m ap) [y] [] p ∧ ("index" : Str) = m ∧ nSub o = true ∧ ap.endLine = p.line ∧ nStar y = true ∧ chkE N fnm sc a o = true ∧ chkE N fnm sc b y = true := by
  cases e with
  | Call fe as ks p =>
    cases fe with
    | Attribute o m ap =>
      match as, ks, h with
      | [y], [], h =>
        obtain ⟨h1, h2⟩ := b2 h
        obtain ⟨h3, h4⟩ := b2 h1
        obtain ⟨h5, h6⟩ := b2 h3
        obtain ⟨h7, h8⟩ := b2 h5
        exact ⟨o, m, ap, y, p, rfl, of_decide_eq_true h7, h8, of_decide_eq_true h6, h4, b2 h2⟩
      | [], _, h => exact absurd h Bool.false_ne_true
      | _ :: _ :: _, _, h => exact absurd h Bool.false_ne_true
      | [_], _ :: _, h => exact absurd h Bool.false_ne_true
    | _ => exact absurd h Bool.false_ne_true
  | _ => exact absurd h Bool.false_ne_true
theorem inv_words {a : E} {e : Expr} (h : chkE N fnm sc (.words a) e = true) : ∃ x p y p2, e = .Subscript (.Name x p) y p2 ∧ ("WORDS_AT" : Str) = x ∧ glB sc x = true ∧ nSlice y = true ∧ chkE N fnm sc a y = true := by
  cases e with
  | Subscript x y p2 =>
    cases x with
    | Name x p =>
      obtain ⟨h1, h2⟩ := b2 h
      obtain ⟨h3, h4⟩ := b2 h1
      obtain ⟨h5, h6⟩ := b2 h3
      exact ⟨x, p, y, p2, rfl, of_decide_eq_true h5, h6, h4, h2⟩
    | _ => exact absurd h Bool.false_ne_true
  | _ => exact absurd h Bool.false_ne_true
theorem inv_d1 {k v : E} {e : Expr} (h : chkE N fnm sc (.d1 k v) e = true) : ∃ kx vx p, e = .Dict [some kx] [vx] p ∧ chkE N fnm sc k kx = true ∧ chkE N fnm sc v vx = true := by
  cases e with
  | Dict ks vs p =>
    match ks, vs, h with
    | [some kx], [vx], h => exact ⟨kx, vx, p, rfl, b2 h⟩
    | [], _, h => exact absurd h Bool.false_ne_true
    | [none], _, h => exact absurd h Bool.false_ne_true
    | k :: _ :: _, _, h => cases k <;> exact absurd h Bool.false_ne_true
    | [some _], [], h => exact absurd h Bool.false_ne_true
    | [some _], _ :: _ :: _, h => exact absurd h Bool.false_ne_true
  | _ => exact absurd h Bool.false_ne_true
theorem invL_nil {xs : List Expr} (h : chkL N fnm sc .nil xs = true) : xs = [] := by
  cases xs with
  | nil => rfl
  | cons _ _ => exact absurd h Bool.false_ne_true
theorem invL_cons {e : E} {r : EL} {xs : List Expr} (h : chkL N fnm sc (.cons e r) xs = true) : ∃ x ys, xs = x :: ys ∧ nStar x = true ∧ chkE N fnm sc e x = true ∧ chkL N fnm sc r ys = true := by
  cases xs with
  | nil => exact absurd h Bool.false_ne_true
  | cons x ys => cases x <;> exact ⟨_, ys, rfl, (b2 h).1, b2 (b2 h).2⟩
theorem invL_star {e : E} {r : EL} {xs : List Expr} (h : chkL N fnm sc (.star e r) xs = true) : ∃ x p ys, xs = .Starred x p :: ys ∧ chkE N fnm sc e x = true ∧ chkL N fnm sc r ys = true := by
  cases xs with
  | nil => exact absurd h Bool.false_ne_true
  | cons x ys => cases x with
    | Starred x p => exact ⟨x, p, ys, rfl, b2 h⟩
    | _ => exact absurd h Bool.false_ne_true
theorem invO_no {o : Option Expr} (h : chkO N fnm sc .no o = true) : o = none := by
  cases o with
  | none => rfl
  | some _ => exact absurd h Bool.false_ne_true
theorem invO_so {e : E} {o : Option Expr} (h : chkO N fnm sc (.so e) o = true) : ∃ x, o = some x ∧ chkE N fnm sc e x = true := by
  cases o with
  | none => exact absurd h Bool.false_ne_true
  | some x => exact ⟨x, rfl, h⟩
theorem invC_no {o : List Expr} (h : chkC N fnm sc .no o = true) : o = [] := by
  cases o with
  | nil => rfl
  | cons _ _ => exact absurd h Bool.false_ne_true
theorem invC_so {e : E} {o : List Expr} (h : chkC N fnm sc (.so e) o = true) : ∃ x, o = [x] ∧ chkE N fnm sc e x = true := by
  match o, h with
  | [x], h => exact ⟨x, rfl, h⟩
  | [], h => exact absurd h Bool.false_ne_true
  | _ :: _ :: _, h => exact absurd h Bool.false_ne_true
end
end Fy
end
section
/-! FyS1 -/
namespace Fy
open PySem PySem.Spec PyProof.Rows L2
/-! ### the source's dict -/
def srcKvs (L : Addr) (spot rest count : Int) : List (Key × V) := [(.inr "cells", .ref L), (.inr "spot", .int spot), (.inr "rest", .int rest), (.inr "count", .int count)]
def SrcOk (S : Sr) (H : Hp) : Prop := ∃ (cs : List Int) (spot rest count : Int), S.l ≠ S.d ∧ H S.d = some (.dK (srcKvs S.l spot rest count)) ∧ H S.l = some (.lst (cs.map V.int))
theorem SrcOk.upd {S : Sr} {H : Hp} {p : Addr} {o : HO} (h : SrcOk S H) (h1 : p ≠ S.d) (h2 : p ≠ S.l) : SrcOk S (upd H p o) := by
  obtain ⟨cs, a, b, c, n, e1, e2⟩ := h
  exact ⟨cs, a, b, c, n, by rw [upd_ne h1.symm]; exact e1, by rw [upd_ne h2.symm]; exact e2⟩
theorem SrcOk.ne {S : Sr} {H : Hp} {p : Addr} (h : SrcOk S H) (hp : H p = none) : p ≠ S.d := by
  obtain ⟨cs, a, b, c, n, h1, h2⟩ := h
  exact (ne_of_none h1 hp).symm
theorem SrcOk.nel {S : Sr} {H : Hp} {p : Addr} (h : SrcOk S H) (hp : H p = none) : p ≠ S.l := by
  obtain ⟨cs, a, b, c, n, h1, h2⟩ := h
  exact (ne_of_none h2 hp).symm
theorem SrcOk.new {S : Sr} {H : Hp} {p : Addr} {o : HO} (h : SrcOk S H) (hp : H p = none) : SrcOk S (L2.upd H p o) := SrcOk.upd h (h.ne hp) (h.nel hp)
/-- the heap as it is looked at: V is hidden -/
structure At (S : Sr) (V : List Addr) (H : Hp) : Prop where
  src : SrcOk S H
  out : S.d ∉ V
  outl : S.l ∉ V
  there : ∀ a ∈ V, H a ≠ none
theorem At.new {S : Sr} {V : List Addr} {H : Hp} (h : At S V H) {p : Addr} {o : HO} (hp : H p = none) : At S V (upd H p o) := ⟨h.src.new hp, h.out, h.outl, fun a ha => by
  unfold upd
  split
  · intro z; cases z
  · exact h.there a ha⟩
theorem At.nin {S : Sr} {V : List Addr} {H : Hp} (h : At S V H) {p : Addr} (hp : H p = none) : p ∉ V := fun z => h.there p z hp
theorem At.ext {S : Sr} {V : List Addr} {H H' : Hp} (h : At S V H) (e : Ext S H H') (s : SrcOk S H') : At S V H' := ⟨s, h.out, h.outl, fun a ha => by
  have n : a ≠ S := fun z => h.out (z ▸ ha)
  cases q : H a with
  | none => exact absurd q (h.there a ha)
  | some o => rw [e a o n q]; intro z; cases z⟩
/-- what follows of a datum -/
def Wit (K : PySem.W.Frag) (S : Sr) (V : List Addr) (H : Hp) (Q : VK) (d : D) : Prop := ∀ v H', Ext S H H' → SrcOk S H' → Is K S (hide V H') d v → Q v H'
theorem Wit.ext {K : PySem.W.Frag} {S : Sr} {V : List Addr} {H H1 : Hp} {Q : VK} {d : D} (w : Wit K S V H Q d) (e : Ext S H H1) : Wit K S V H1 Q d := fun v H' e' s' i => w v H' (e.trans e') s' i
section
variable {K : PySem.W.Frag} {S : Sr} {G H : Hp} {V : List Addr} {Q : VK}
theorem is_int {i : Int} {v : L2.V} : Is K S G (.int i) v ↔ v = .int i := by unfold Is; exact Iff.rfl
theorem is_str {i : Str} {v : L2.V} : Is K S G (.str i) v ↔ v = .str i := by unfold Is; exact Iff.rfl
theorem is_bl {i : Bool} {v : L2.V} : Is K S G (.bl i) v ↔ v = .bl i := by unfold Is; exact Iff.rfl
theorem is_non {v : L2.V} : Is K S G .non v ↔ v = .non := by unfold Is; exact Iff.rfl
theorem is_tup {ds : List D} {v : L2.V} : Is K S G (.tup ds) v ↔ ∃ a xs, v = .ref a ∧ STup K S G a xs ∧ IsL K S G ds xs := by
  constructor
  · intro h; unfold Is at h; exact h
  · intro h; unfold Is; exact h
theorem is_lst {ds : List D} {v : L2.V} : Is K S G (.lst ds) v ↔ ∃ (a : Addr) (xs : List L2.V), v = .ref a ∧ a ≠ S.d ∧ G a = some (.lst xs) ∧ IsL K S G ds xs := by
  constructor
  · intro h; unfold Is at h; exact h
  · intro h; unfold Is; exact h
theorem is_dic {ks : List Int} {ds : List D} {v : L2.V} : Is K S G (.dic ks ds) v ↔ ∃ (a : Addr) (kvs : List (Key × L2.V)), v = .ref a ∧ a ≠ S.d ∧ G a = some (.dK kvs) ∧ kvs.map (·.1) = ks.map Sum.inl ∧ IsL K S G ds (kvs.map (·.2)) := by
  constructor
  · intro h; unfold Is at h; exact h
  · intro h; unfold Is; exact h
theorem is_src {v : L2.V} : Is K S G .src v ↔ v = .ref S.d := by unfold Is; exact Iff.rfl
theorem STup.sq {a : Addr} {xs : List L2.V} (h : STup K S (hide V H) a xs) : SqT K H a xs := by
  rcases h with ⟨_, o, _, h⟩ | ⟨o, its, n, h, p, r⟩
  · exact .inl (.inr ⟨o, (hide_some h).2⟩)
  · exact .inr ⟨o, its, n, h, p.1, r⟩
theorem is_raw {ds : List D} {v : L2.V} : Is K S G (.raw ds) v ↔ ∃ (a : Addr) (xs : List L2.V), v = .ref a ∧ a ≠ S.d ∧ G a = some (.tup xs) ∧ IsL K S G ds xs := by
  constructor
  · intro h; unfold Is at h; exact h
  · intro h; unfold Is; exact h
theorem hide_new {p : Addr} {o : HO} (n : p ∉ V) : hide V (upd H p o) p = some o := by rw [hide_out n, upd_same]
/-- a new tuple, a new list of data -/
theorem is_newT {p : Addr} {o : Obj} {ds : List D} {xs : List L2.V} (A : At S V H) (hp : H p = none) (po : PlT o) (h : IsL K S (hide V H) ds xs) : Is K S (hide V (upd H p (.frz o (.tup xs)))) (.tup ds) (.ref p) :=
  is_tup.mpr ⟨p, xs, rfl, .inl ⟨A.src.ne hp, o, po, hide_new (A.nin hp)⟩, IsL.mono (Ext.new hp |>.hide V) ds xs h⟩
theorem is_newL {p : Addr} {ds : List D} {xs : List L2.V} (A : At S V H) (hp : H p = none) (h : IsL K S (hide V H) ds xs) : Is K S (hide V (upd H p (.lst xs))) (.lst ds) (.ref p) :=
  is_lst.mpr ⟨p, xs, rfl, A.src.ne hp, hide_new (A.nin hp), IsL.mono (Ext.new hp |>.hide V) ds xs h⟩
theorem Wit.newT {ds : List D} {xs : List L2.V} (w : Wit K S V H Q (.tup ds)) (A : At S V H) (h : IsL K S (hide V H) ds xs) : NewT H Q xs := fun _ _ hp po =>
  w _ _ (Ext.new hp) (A.src.new hp) (is_newT A hp po h)
theorem Wit.newL {p : Addr} {ds : List D} {xs : List L2.V} (w : Wit K S V H Q (.lst ds)) (A : At S V H) (hp : H p = none) (h : IsL K S (hide V H) ds xs) : Q (.ref p) (upd H p (.lst xs)) :=
  w _ _ (Ext.new hp) (A.src.new hp) (is_newL A hp h)
theorem Wit.here {d : D} {v : L2.V} (w : Wit K S V H Q d) (A : At S V H) (h : Is K S (hide V H) d v) : Q v H := w v H Ext.refl A.src h
end
/-! ### operators by data -/
def rD (K : PySem.W.Frag) (W : D → D → (D → Prop) → Prop) : R2 := fun x y H Q => ∃ S V dx dy, At S V H ∧ Is K S (hide V H) dx x ∧ Is K S (hide V H) dy y ∧ W dx dy (Wit K S V H Q)
section
variable {X : Cx}
theorem orAdd : OpR X (binaryOp .Add) (rD X.K addW) := by
  intro pins s σ H x y v u Q I rx ry ⟨S, V, dx, dy, A, ix, iy, h⟩
  match dx, dy, h with
  | .int i, .int j, h =>
    obtain rfl := is_int.mp ix
    obtain rfl := is_int.mp iy
    exact op_add pins s σ H _ _ v u Q I rx ry ⟨i, j, rfl, rfl, Wit.here h A (is_int.mpr rfl)⟩
  | .tup a, .tup b, h =>
    obtain ⟨p, xs, rfl, tp, lp⟩ := is_tup.mp ix
    obtain ⟨q, ys, rfl, tq, lq⟩ := is_tup.mp iy
    obtain ⟨hz, h⟩ := h
    refine op_catF pins s σ H _ _ v u Q I rx ry ⟨p, q, xs, ys, rfl, rfl, tp.sq, tq.sq, by rw [lp.len, lq.len]; exact hz, fun e => ?_, fun _ e => ?_, Wit.newT h A (lp.app lq)⟩
    · subst e
      have : a = [] := List.eq_nil_of_length_eq_zero (by have := lp.len; simpa using this.symm)
      subst this
      exact Wit.here h A (is_tup.mpr ⟨q, ys, rfl, tq, lq⟩)
    · subst e
      have : b = [] := List.eq_nil_of_length_eq_zero (by have := lq.len; simpa using this.symm)
      subst this
      rw [List.append_nil] at h
      exact Wit.here h A (is_tup.mpr ⟨p, xs, rfl, tp, lp⟩)
  | .lst a, .lst b, h =>
    obtain ⟨p, xs, rfl, np, tp, lp⟩ := is_lst.mp ix
    obtain ⟨q, ys, rfl, nq, tq, lq⟩ := is_lst.mp iy
    obtain ⟨hz, h⟩ := h
    exact op_cat pins s σ H _ _ v u Q I rx ry ⟨p, q, xs, ys, rfl, rfl, (hide_some tp).2, (hide_some tq).2, by rw [lp.len, lq.len]; exact hz, fun r hr => Wit.newL h A hr (lp.app lq)⟩
theorem orSub : OpR X (binaryOp .Sub) (rD X.K subW) := by
  intro pins s σ H x y v u Q I rx ry ⟨S, V, dx, dy, A, ix, iy, h⟩
  match dx, dy, h with
  | .int i, .int j, h =>
    obtain rfl := is_int.mp ix
    obtain rfl := is_int.mp iy
    exact op_sub pins s σ H _ _ v u Q I rx ry ⟨i, j, rfl, rfl, Wit.here h A (is_int.mpr rfl)⟩
end
end Fy
end
section
/-! FyMul -/
namespace Fy
open PySem PySem.Spec PyProof.Rows L2
section
variable {X : Cx}
theorem isL_rep {K : PySem.W.Frag} {S : Sr} {G : Hp} {d : D} {v : L2.V} (h : Is K S G d v) : ∀ k : Nat, IsL K S G (List.replicate k d) (List.replicate k v)
  | 0 => isL_nil
  | k + 1 => isL_cons h (isL_rep h k)
theorem orMul : OpR X (binaryOp .Mult) (rD X.K mulW) := by
  intro pins s σ H x y v u Q I rx ry ⟨S, V, dx, dy, A, ix, iy, h⟩
  match dx, dy, h with
  | .tup [a], .int k, h =>
    obtain ⟨p, xs, rfl, tp, lp⟩ := is_tup.mp ix
    obtain rfl := is_int.mp iy
    obtain ⟨h0, h1, h⟩ := h
    obtain ⟨x0, rfl, ia⟩ : ∃ x0, xs = [x0] ∧ Is X.K S (hide V H) a x0 := by
      unfold IsL at lp
      obtain ⟨x0, r, rfl, i0, l0⟩ := lp
      unfold IsL at l0
      exact ⟨x0, by rw [l0], i0⟩
    exact op_mulF pins s σ H _ _ v u Q I rx ry ⟨p, k, x0, rfl, rfl, tp.sq, h0, h1, fun e => by subst e; exact Wit.here h A (is_tup.mpr ⟨p, [x0], rfl, tp, isL_cons ia isL_nil⟩), Wit.newT h A (isL_rep ia _)⟩
end
end Fy
end
section
/-! FyS2 -/
namespace Fy
open PySem PySem.Spec PyProof.Rows L2
section
variable {K : PySem.W.Frag} {S : Sr} {H : Hp} {V : List Addr}
mutual
theorem Is.dp : ∀ (d : D) (v : L2.V), d.plain = true → Is K S (hide V H) d v → Dp K H v d.toP
  | .non, v, _, h => by obtain rfl := is_non.mp h; exact .non
  | .bl b, v, _, h => by obtain rfl := is_bl.mp h; exact .bl b
  | .int i, v, _, h => by obtain rfl := is_int.mp h; exact .int i
  | .str x, v, _, h => by obtain rfl := is_str.mp h; exact .str x
  | .tup ds, v, p, h => by
    obtain ⟨a, xs, rfl, t, l⟩ := is_tup.mp h
    exact .tup t.sq (IsL.dp ds xs p l)
  | .lst ds, v, p, h => by
    obtain ⟨a, xs, rfl, n, t, l⟩ := is_lst.mp h
    exact .lst (.inl (.inl (hide_some t).2)) (IsL.dp ds xs p l)
  | .dic _ _, _, p, _ => by cases p
  | .src, _, p, _ => by cases p
theorem IsL.dp : ∀ (ds : List D) (xs : List L2.V), plains ds = true → IsL K S (hide V H) ds xs → DpAll K H xs (toPs ds)
  | [], xs, _, h => by unfold IsL at h; subst h; exact .nil
  | d :: ds, xs, p, h => by
    unfold IsL at h
    obtain ⟨x, r, rfl, h1, h2⟩ := h
    have p : (d.plain && plains ds) = true := p
    rw [Bool.and_eq_true] at p
    exact .cons (Is.dp d x p.1 h1) (IsL.dp ds r p.2 h2)
end
theorem toPs_map : ∀ ds : List D, toPs ds = ds.map D.toP
  | [] => rfl
  | d :: ds => by show d.toP :: toPs ds = _; rw [toPs_map ds]; rfl
theorem any_toPs (ds : List D) (a : D) : (toPs ds).any (fun z => PyData.eqv z a.toP) = ds.any fun z => z.eqd a := by
  rw [toPs_map, List.any_map]; rfl
theorem flat_is {d : D} {v : L2.V} (f : flatD d = true) (h : Is K S (hide V H) d v) : flatV v = true := by
  cases d with
  | non => obtain rfl := is_non.mp h; rfl
  | bl b => obtain rfl := is_bl.mp h; rfl
  | int b => obtain rfl := is_int.mp h; rfl
  | str b => obtain rfl := is_str.mp h; rfl
  | _ => cases f
theorem flats_is : ∀ {ds : List D} {xs : List L2.V}, ds.all flatD = true → IsL K S (hide V H) ds xs → xs.all flatV = true
  | [], xs, _, h => by unfold IsL at h; subst h; rfl
  | d :: ds, xs, p, h => by
    unfold IsL at h
    obtain ⟨x, r, rfl, h1, h2⟩ := h
    rw [List.all_cons, Bool.and_eq_true] at p ⊢
    exact ⟨flat_is p.1 h1, flats_is p.2 h2⟩
theorem eqV_is {a b : D} {x y : L2.V} (fa : flatD a = true) (fb : flatD b = true) (ha : Is K S (hide V H) a x) (hb : Is K S (hide V H) b y) : eqV x y = a.eqd b := by
  have u : ∀ d : D, flatD d = true → ∀ v, Is K S (hide V H) d v → (d = .non ∧ v = .non) ∨ (∃ c, d = .bl c ∧ v = .bl c) ∨ (∃ c, d = .int c ∧ v = .int c) ∨ ∃ c, d = .str c ∧ v = .str c := by
    intro d f v h
    cases d with
    | non => exact .inl ⟨rfl, is_non.mp h⟩
    | bl b => exact .inr (.inl ⟨b, rfl, is_bl.mp h⟩)
    | int b => exact .inr (.inr (.inl ⟨b, rfl, is_int.mp h⟩))
    | str b => exact .inr (.inr (.inr ⟨b, rfl, is_str.mp h⟩))
    | _ => cases f
  rcases u a fa x ha with ⟨rfl, rfl⟩ | ⟨c, rfl, rfl⟩ | ⟨c, rfl, rfl⟩ | ⟨c, rfl, rfl⟩ <;> rcases u b fb y hb with ⟨rfl, rfl⟩ | ⟨c', rfl, rfl⟩ | ⟨c', rfl, rfl⟩ | ⟨c', rfl, rfl⟩ <;> simp [eqV, D.eqd, D.toP, PyData.eqv]
theorem anyV_is {a : D} {x : L2.V} (fa : flatD a = true) (ha : Is K S (hide V H) a x) : ∀ {ds : List D} {xs : List L2.V}, ds.all flatD = true → IsL K S (hide V H) ds xs → inV x xs = ds.any fun z => z.eqd a
  | [], xs, _, h => by unfold IsL at h; subst h; rfl
  | d :: ds, xs, p, h => by
    unfold IsL at h
    obtain ⟨y, r, rfl, h1, h2⟩ := h
    rw [List.all_cons, Bool.and_eq_true] at p
    have ih := anyV_is fa ha p.2 h2
    unfold inV at ih ⊢
    rw [List.any_cons, List.any_cons, ih, eqV_is p.1 fa h1 ha]
end
def rC (K : PySem.W.Frag) (o : Op) : R2 := fun x y H Q => ∃ S V dx dy, At S V H ∧ Is K S (hide V H) dx x ∧ Is K S (hide V H) dy y ∧ cmpW o dx dy fun c => Wit K S V H Q (.bl c)
section
variable {X : Cx}
theorem orEq (hu : X.A.units + 65 < cLine) : OpR X (compareOp .Eq) (rC X.K .eq) := by
  intro pins s σ H x y v u Q I rx ry ⟨S, V, dx, dy, A, ix, iy, ok, h⟩
  rcases ok with sc | ⟨⟨p1, s1⟩, p2, s2⟩
  · refine op_eq pins s σ H x y v u Q I rx ry ?_
    match dx, dy, sc, h with
    | .int i, .int j, _, h =>
      obtain rfl := is_int.mp ix
      obtain rfl := is_int.mp iy
      exact ⟨rfl, by rw [dec_int]; exact Wit.here h A (is_bl.mpr rfl)⟩
    | .str i, .str j, _, h =>
      obtain rfl := is_str.mp ix
      obtain rfl := is_str.mp iy
      exact ⟨rfl, by rw [dec_str]; exact Wit.here h A (is_bl.mpr rfl)⟩
    | .bl i, .bl j, _, h =>
      obtain rfl := is_bl.mp ix
      obtain rfl := is_bl.mp iy
      exact ⟨rfl, by rw [dec_bl]; exact Wit.here h A (is_bl.mpr rfl)⟩
  · exact op_eqD (by omega) pins s σ H x y v u Q I rx ry ⟨_, _, Is.dp dx x p1 ix, Is.dp dy y p2 iy, s1, s2, Wit.here h A (is_bl.mpr rfl)⟩
theorem orNe (hu : X.A.units + 65 < cLine) : OpR X (compareOp .NotEq) (rC X.K .ne) := by
  intro pins s σ H x y v u Q I rx ry ⟨S, V, dx, dy, A, ix, iy, ok, h⟩
  rcases ok with sc | ⟨⟨p1, s1⟩, p2, s2⟩
  · refine op_ne pins s σ H x y v u Q I rx ry ?_
    match dx, dy, sc, h with
    | .int i, .int j, _, h =>
      obtain rfl := is_int.mp ix
      obtain rfl := is_int.mp iy
      exact ⟨rfl, by rw [dec_int]; exact Wit.here h A (is_bl.mpr rfl)⟩
    | .str i, .str j, _, h =>
      obtain rfl := is_str.mp ix
      obtain rfl := is_str.mp iy
      exact ⟨rfl, by rw [dec_str]; exact Wit.here h A (is_bl.mpr rfl)⟩
    | .bl i, .bl j, _, h =>
      obtain rfl := is_bl.mp ix
      obtain rfl := is_bl.mp iy
      exact ⟨rfl, by rw [dec_bl]; exact Wit.here h A (is_bl.mpr rfl)⟩
  · exact op_neD (by omega) pins s σ H x y v u Q I rx ry ⟨_, _, Is.dp dx x p1 ix, Is.dp dy y p2 iy, s1, s2, Wit.here h A (is_bl.mpr rfl)⟩
theorem orLt : OpR X (compareOp .Lt) (rC X.K .lt) := by
  intro pins s σ H x y v u Q I rx ry ⟨S, V, dx, dy, A, ix, iy, h⟩
  match dx, dy, h with
  | .int i, .int j, h =>
    obtain rfl := is_int.mp ix
    obtain rfl := is_int.mp iy
    exact op_lt pins s σ H _ _ v u Q I rx ry ⟨i, j, rfl, rfl, Wit.here h A (is_bl.mpr rfl)⟩
  | .str i, .str j, h =>
    obtain rfl := is_str.mp ix
    obtain rfl := is_str.mp iy
    exact op_lt_str pins s σ H _ _ v u Q I rx ry ⟨i, j, rfl, rfl, Wit.here h A (is_bl.mpr rfl)⟩
theorem orLe : OpR X (compareOp .LtE) (rC X.K .le) := by
  intro pins s σ H x y v u Q I rx ry ⟨S, V, dx, dy, A, ix, iy, h⟩
  match dx, dy, h with
  | .int i, .int j, h =>
    obtain rfl := is_int.mp ix
    obtain rfl := is_int.mp iy
    exact op_le pins s σ H _ _ v u Q I rx ry ⟨i, j, rfl, rfl, Wit.here h A (is_bl.mpr rfl)⟩
theorem orGt : OpR X (compareOp .Gt) (rC X.K .gt) := by
  intro pins s σ H x y v u Q I rx ry ⟨S, V, dx, dy, A, ix, iy, h⟩
  match dx, dy, h with
  | .int i, .int j, h =>
    obtain rfl := is_int.mp ix
    obtain rfl := is_int.mp iy
    exact op_gt pins s σ H _ _ v u Q I rx ry ⟨i, j, rfl, rfl, Wit.here h A (is_bl.mpr rfl)⟩
theorem orGe : OpR X (compareOp .GtE) (rC X.K .ge) := by
  intro pins s σ H x y v u Q I rx ry ⟨S, V, dx, dy, A, ix, iy, h⟩
  match dx, dy, h with
  | .int i, .int j, h =>
    obtain rfl := is_int.mp ix
    obtain rfl := is_int.mp iy
    exact op_ge pins s σ H _ _ v u Q I rx ry ⟨i, j, rfl, rfl, Wit.here h A (is_bl.mpr rfl)⟩
theorem orIs : OpR X (compareOp .Is) (rC X.K .is) := by
  intro pins s σ H x y v u Q I rx ry ⟨S, V, dx, dy, A, ix, iy, h⟩
  match dx, dy, h with
  | .non, .non, h =>
    obtain rfl := is_non.mp ix
    obtain rfl := is_non.mp iy
    exact op_isN pins s σ H _ _ v u Q I rx ry ⟨rfl, Wit.here h A (is_bl.mpr (by simp))⟩
  | .tup ds, .non, h =>
    obtain ⟨p, xs, rfl, tp, lp⟩ := is_tup.mp ix
    obtain rfl := is_non.mp iy
    exact op_isN pins s σ H _ _ v u Q I rx ry ⟨rfl, Wit.here h A (is_bl.mpr (by simp))⟩
theorem orIsnot : OpR X (compareOp .IsNot) (rC X.K .isnot) := by
  intro pins s σ H x y v u Q I rx ry ⟨S, V, dx, dy, A, ix, iy, h⟩
  match dx, dy, h with
  | .non, .non, h =>
    obtain rfl := is_non.mp ix
    obtain rfl := is_non.mp iy
    exact op_notN pins s σ H _ _ v u Q I rx ry ⟨rfl, Wit.here h A (is_bl.mpr (by simp))⟩
  | .tup ds, .non, h =>
    obtain ⟨p, xs, rfl, tp, lp⟩ := is_tup.mp ix
    obtain rfl := is_non.mp iy
    exact op_notN pins s σ H _ _ v u Q I rx ry ⟨rfl, Wit.here h A (is_bl.mpr (by simp))⟩
theorem ks_mem {kvs : List (Key × L2.V)} {ks : List Int} (e : kvs.map (·.1) = ks.map Sum.inl) (i : Int) : (valV kvs (Sum.inl i : Key)).isSome = decide (i ∈ ks) := by
  rw [← valV_any, Bool.eq_iff_iff, List.any_eq_true, decide_eq_true_eq]
  have hm : (Sum.inl i : Key) ∈ kvs.map (·.1) ↔ i ∈ ks := by
    rw [e, List.mem_map]
    constructor
    · rintro ⟨a, h, q⟩
      cases q; exact h
    · exact fun h => ⟨i, h, rfl⟩
  rw [← hm, List.mem_map]
  constructor
  · rintro ⟨kv, h1, h2⟩
    exact ⟨kv, h1, of_decide_eq_true h2⟩
  · rintro ⟨kv, h1, h2⟩
    exact ⟨kv, h1, decide_eq_true h2⟩
theorem orIn (hu : X.A.units + 65 < cLine) : OpR X (compareOp .In) (rC X.K .isin) := by
  intro pins s σ H x y v u Q I rx ry ⟨S, V, dx, dy, A, ix, iy, h⟩
  have seqL : ∀ {a : D} {ds : List D}, Is X.K S (hide V H) a x → Is X.K S (hide V H) (.lst ds) y → inOk a ds (.lst ds) → Wit X.K S V H Q (.bl (ds.any fun z => z.eqd a)) → wpAny (model X.prog X.w) X.A (compareOp .In v u) (EP X pins σ Q) X.xe s := by
    intro a ds ia iy ok w
    obtain ⟨p, xs, rfl, np, tp, lp⟩ := is_lst.mp iy
    rcases ok with ⟨f1, f2⟩ | ⟨⟨p1, s1⟩, p2, s2⟩
    · exact op_in_seq pins s σ H _ _ v u Q I rx ry ⟨p, xs, rfl, .inl (.inl (.inl (hide_some tp).2)), flat_is f1 ia, flats_is f2 lp, by
        show Q (.bl (inV x xs)) H
        rw [anyV_is f1 ia f2 lp]; exact Wit.here w A (is_bl.mpr rfl)⟩
    · have e : (toPs ds).any (fun z => PyData.eqv z a.toP) = ds.any fun z => z.eqd a := any_toPs ds a
      exact op_inD hu pins s σ H _ _ v u Q I rx ry ⟨_, _, Is.dp a x p1 ia, Is.dp (.lst ds) _ p2 iy, s1, s2, by rw [e]; exact Wit.here w A (is_bl.mpr rfl)⟩
  have seqT : ∀ {a : D} {ds : List D}, Is X.K S (hide V H) a x → Is X.K S (hide V H) (.tup ds) y → inOk a ds (.tup ds) → Wit X.K S V H Q (.bl (ds.any fun z => z.eqd a)) → wpAny (model X.prog X.w) X.A (compareOp .In v u) (EP X pins σ Q) X.xe s := by
    intro a ds ia iy ok w
    obtain ⟨p, xs, rfl, tp, lp⟩ := is_tup.mp iy
    rcases ok with ⟨f1, f2⟩ | ⟨⟨p1, s1⟩, p2, s2⟩
    · exact op_in_seq pins s σ H _ _ v u Q I rx ry ⟨p, xs, rfl, .inr tp.sq, flat_is f1 ia, flats_is f2 lp, by
        show Q (.bl (inV x xs)) H
        rw [anyV_is f1 ia f2 lp]; exact Wit.here w A (is_bl.mpr rfl)⟩
    · have e : (toPs ds).any (fun z => PyData.eqv z a.toP) = ds.any fun z => z.eqd a := any_toPs ds a
      obtain ⟨as, r1⟩ := Dp.reads I a.toP x v (Is.dp a x p1 ia) rx
      obtain ⟨bs, r2⟩ := Dp.reads I (D.tup ds).toP (.ref p) u (Is.dp (.tup ds) _ p2 iy) ry
      exact SeqAt.in_tuple_reads r2 r1 (SeqAt.canLay_of_shaped s2) (SeqAt.canLay_of_shaped s1) (room_in_shaped s1 hu) ⟨.bl _, H, I, rfl, by rw [e]; exact Wit.here w A (is_bl.mpr rfl)⟩
  cases dy with
  | lst ds => cases dx <;> exact seqL ix iy h.1 h.2
  | tup ds => cases dx <;> exact seqT ix iy h.1 h.2
  | str j =>
    cases dx with
    | str i =>
      obtain rfl := is_str.mp ix
      obtain rfl := is_str.mp iy
      exact op_in_str pins s σ H _ _ v u Q I rx ry ⟨i, j, rfl, rfl, Wit.here h A (is_bl.mpr rfl)⟩
    | _ => exact h.elim
  | dic ks ds =>
    cases dx with
    | int i =>
      obtain rfl := is_int.mp ix
      obtain ⟨p, kvs, rfl, np, tp, ek, lp⟩ := is_dic.mp iy
      obtain rfl : u = Value.ref p := ry
      have g : DGet H p (.int i) (valV kvs (Sum.inl i : Key)) := .inl ⟨kvs, Sum.inl i, (.inl (hide_some tp).2), rfl, rfl⟩
      refine d_in (by omega) I g rx fun s3 I3 => ⟨.bl _, H, I3, rfl, ?_⟩
      rw [ks_mem ek]
      exact Wit.here h A (is_bl.mpr rfl)
    | _ => exact h.elim
  | _ => cases dx <;> exact h.elim
theorem orNotin (hu : X.A.units + 65 < cLine) : OpR X (compareOp .NotIn) (rC X.K .notin) := by
  intro pins s σ H x y v u Q I rx ry ⟨S, V, dx, dy, A, ix, iy, h⟩
  have seqL : ∀ {a : D} {ds : List D}, Is X.K S (hide V H) a x → Is X.K S (hide V H) (.lst ds) y → inOk a ds (.lst ds) → Wit X.K S V H Q (.bl (!ds.any fun z => z.eqd a)) → wpAny (model X.prog X.w) X.A (compareOp .NotIn v u) (EP X pins σ Q) X.xe s := by
    intro a ds ia iy ok w
    obtain ⟨p, xs, rfl, np, tp, lp⟩ := is_lst.mp iy
    rcases ok with ⟨f1, f2⟩ | ⟨⟨p1, s1⟩, p2, s2⟩
    · exact op_notIn_seq pins s σ H _ _ v u Q I rx ry ⟨p, xs, rfl, .inl (.inl (.inl (hide_some tp).2)), flat_is f1 ia, flats_is f2 lp, by
        show Q (.bl (!inV x xs)) H
        rw [anyV_is f1 ia f2 lp]; exact Wit.here w A (is_bl.mpr rfl)⟩
    · have e : (toPs ds).any (fun z => PyData.eqv z a.toP) = ds.any fun z => z.eqd a := any_toPs ds a
      exact op_notInD hu pins s σ H _ _ v u Q I rx ry ⟨_, _, Is.dp a x p1 ia, Is.dp (.lst ds) _ p2 iy, s1, s2, by rw [e]; exact Wit.here w A (is_bl.mpr rfl)⟩
  have seqT : ∀ {a : D} {ds : List D}, Is X.K S (hide V H) a x → Is X.K S (hide V H) (.tup ds) y → inOk a ds (.tup ds) → Wit X.K S V H Q (.bl (!ds.any fun z => z.eqd a)) → wpAny (model X.prog X.w) X.A (compareOp .NotIn v u) (EP X pins σ Q) X.xe s := by
    intro a ds ia iy ok w
    obtain ⟨p, xs, rfl, tp, lp⟩ := is_tup.mp iy
    rcases ok with ⟨f1, f2⟩ | ⟨⟨p1, s1⟩, p2, s2⟩
    · exact op_notIn_seq pins s σ H _ _ v u Q I rx ry ⟨p, xs, rfl, .inr tp.sq, flat_is f1 ia, flats_is f2 lp, by
        show Q (.bl (!inV x xs)) H
        rw [anyV_is f1 ia f2 lp]; exact Wit.here w A (is_bl.mpr rfl)⟩
    · have e : (toPs ds).any (fun z => PyData.eqv z a.toP) = ds.any fun z => z.eqd a := any_toPs ds a
      obtain ⟨as, r1⟩ := Dp.reads I a.toP x v (Is.dp a x p1 ia) rx
      obtain ⟨bs, r2⟩ := Dp.reads I (D.tup ds).toP (.ref p) u (Is.dp (.tup ds) _ p2 iy) ry
      exact SeqAt.notIn_tuple_reads r2 r1 (SeqAt.canLay_of_shaped s2) (SeqAt.canLay_of_shaped s1) (room_in_shaped s1 hu) ⟨.bl _, H, I, rfl, by rw [e]; exact Wit.here w A (is_bl.mpr rfl)⟩
  cases dy with
  | lst ds => cases dx <;> exact seqL ix iy h.1 h.2
  | tup ds => cases dx <;> exact seqT ix iy h.1 h.2
  | dic ks ds =>
    cases dx with
    | int i =>
      obtain rfl := is_int.mp ix
      obtain ⟨p, kvs, rfl, np, tp, ek, lp⟩ := is_dic.mp iy
      obtain rfl : u = Value.ref p := ry
      have g : DGet H p (.int i) (valV kvs (Sum.inl i : Key)) := .inl ⟨kvs, Sum.inl i, (.inl (hide_some tp).2), rfl, rfl⟩
      refine d_notIn (by omega) I g rx fun s3 I3 => ⟨.bl _, H, I3, rfl, ?_⟩
      rw [ks_mem ek]
      exact Wit.here h A (is_bl.mpr rfl)
    | _ => exact h.elim
  | _ => cases dx <;> exact h.elim
theorem orCmp (hu : X.A.units + 65 < cLine) : ∀ {o : Op} {op : CmpOp}, opIs o op = true → OpR X (compareOp op) (rC X.K o)
  | .eq, .Eq, _ => orEq hu
  | .ne, .NotEq, _ => orNe hu
  | .lt, .Lt, _ => orLt
  | .le, .LtE, _ => orLe
  | .gt, .Gt, _ => orGt
  | .ge, .GtE, _ => orGe
  | .isin, .In, _ => orIn hu
  | .notin, .NotIn, _ => orNotin hu
  | .is, .Is, _ => orIs
  | .isnot, .IsNot, _ => orIsnot
end
end Fy
end
section
/-! FyS3 -/
namespace Fy
open PySem PySem.Spec PyProof.Rows L2
theorem tailOf {prog : Program} {w : World} {A : Around} {E : Value → Shared → Prop} {s : Shared} {vx sx : Expr} {ov iv : Value} {T id : String} {Q : Value → Shared → Prop} (ht : s.TypeIs ov T)
    (look : typeLookup (.type T) "__getitem__" = pure (some (.builtin id))) (pl : subscripted sx false ov iv = operate [ov, iv] (getItem ov iv)) (h : wpAny (model prog w) A (getItem ov iv) Q E s) : wpAny (model prog w) A (subscriptTail vx sx ov iv) Q E s := by
  have z : wpAny (model prog w) A (subscripted sx false ov iv) (fun r s1 => wpAny (model prog w) A (letTemporaryGo vx ov r >>= fun _ => pure r) Q E s1) E s := by
    rw [pl]; exact wpAny_operating (wpAny_mono h (fun r s1 q => wpAny_bind (wpAny_letTemporaryGo (wpAny_pure q))) fun _ _ q => q)
  have z2 := wpAny_bind z
  unfold subscriptTail; refine wpAny_bind ?_; rw [getitemInPython_of_ne ht.not_modules]
  refine wpAny_bind (wpAny_specialOf ht look ?_)
  first
    | exact wpAny_pure z2
    | exact wpAny_bind (wpAny_pure z2)
    | exact z2
section
variable {X : Cx}
theorem at_is {K : PySem.W.Frag} {S : Sr} {G : Hp} {ds : List D} {xs : List V} {i : Int} {d : D} (h : IsL K S G ds xs) (e : atI ds i = some d) : ∃ x, atI xs i = some x ∧ Is K S G d x := by
  unfold atI at e ⊢
  rw [h.len]
  cases q : ixN ds.length i with
  | none => rw [q] at e; cases e
  | some j =>
    rw [q] at e
    obtain ⟨x, e1, e2⟩ := h.get (i := j) (d := d) e
    exact ⟨x, e1, e2⟩
theorem dget_is {K : PySem.W.Frag} {S : Sr} {G : Hp} : ∀ {ks : List Int} {ds : List D} {kvs : List (Key × V)} {i : Int} {d : D}, kvs.map (·.1) = ks.map Sum.inl → IsL K S G ds (kvs.map (·.2)) → dget ks ds i = some d → ∃ x, valV kvs (Sum.inl i : Key) = some x ∧ Is K S G d x
  | [], _, _, _, _, _, _, e => by cases e
  | _ :: _, [], _, _, _, _, _, e => by cases e
  | k :: ks, d :: ds, [], _, _, h, _, _ => by simp at h
  | k :: ks, d :: ds, (k', v) :: kvs, i, d', h, l, e => by
    have h1 : k' = Sum.inl k := by simpa using congrArg (fun z => z.head?) h
    have h2 : kvs.map (·.1) = ks.map Sum.inl := by simpa using congrArg (fun z => z.tail) h
    have l' : IsL K S G (d :: ds) (v :: kvs.map (·.2)) := l
    unfold IsL at l'
    obtain ⟨x, r, e1, i1, l1⟩ := l'
    cases e1
    unfold dget at e
    subst h1
    by_cases q : k = i
    · subst q
      rw [if_pos rfl] at e; cases e
      exact ⟨v, valV_pos rfl, i1⟩
    · rw [if_neg q] at e
      obtain ⟨x, e2, i2⟩ := dget_is h2 l1 e
      exact ⟨x, by rw [valV_neg (fun z => q (Sum.inl.inj z))]; exact e2, i2⟩
theorem ixAny (hu : X.A.units + 65 < cLine) : IxR X (rD X.K ixW) := by
  intro value slice pins s σ H x y v u Q I rx ry ⟨S, V, dx, dy, A, ix, iy, h⟩ hs
  cases dx with
  | tup ds =>
    cases dy with
    | int i =>
      obtain ⟨p, xs, rfl, tp, lp⟩ := is_tup.mp ix
      obtain rfl := is_int.mp iy
      obtain ⟨d, e, w⟩ := h
      obtain ⟨x, e1, i1⟩ := at_is lp e
      exact ix_tup value slice pins s σ H _ _ v u Q I rx ry ⟨p, xs, i, x, rfl, rfl, tp.sq, e1, Wit.here w A i1⟩ hs
    | _ => exact h.elim
  | lst ds =>
    cases dy with
    | int i =>
      obtain ⟨p, xs, rfl, np, tp, lp⟩ := is_lst.mp ix
      obtain rfl := is_int.mp iy
      obtain ⟨d, e, w⟩ := h
      obtain ⟨x, e1, i1⟩ := at_is lp e
      exact ix_list value slice pins s σ H _ _ v u Q I rx ry ⟨p, xs, i, x, rfl, rfl, .inl (.inl (hide_some tp).2), e1, Wit.here w A i1⟩ hs
    | _ => exact h.elim
  | dic ks ds =>
    cases dy with
    | int i =>
      obtain ⟨p, kvs, rfl, np, tp, ek, lp⟩ := is_dic.mp ix
      obtain rfl := is_int.mp iy
      obtain ⟨d, e, w⟩ := h
      obtain ⟨x, e1, i1⟩ := dget_is ek lp e
      obtain rfl : v = Value.ref p := rx
      have g : DGet H p (.int i) (some x) := .inl ⟨kvs, Sum.inl i, (.inl (hide_some tp).2), rfl, e1.symm⟩
      exact tailOf (dict_typeIs I g) PySem.F.slot_dict_getitem.lookup hs (d_getItem (by omega) I g ry fun w' s3 I3 rw' => ⟨x, H, I3, rw', Wit.here w A i1⟩)
    | _ => exact h.elim
  | _ => exact h.elim
/-! ### slices -/
def rSlD (K : PySem.W.Frag) : V → Option Int → Option Int → Hp → VK → Prop := fun x lo hi H Q => ∃ S V dx, At S V H ∧ Is K S (hide V H) dx x ∧ slW dx lo hi (Wit K S V H Q)
theorem cut_is {K : PySem.W.Frag} {S : Sr} {G : Hp} {ds : List D} {xs : List V} (h : IsL K S G ds xs) (lo hi : Option Int) : IsL K S G (cutD ds lo hi) (cutV xs lo hi) := by
  unfold cutD cutV
  rw [h.len]
  exact (h.drop _).take _
theorem slAny : SlR X (rSlD X.K) := by
  intro pins s σ H x v vl vu lo hi sl Q I rx hs pl pu ⟨S, V, dx, A, ix, h⟩
  cases dx with
  | tup ds =>
    obtain ⟨p, xs, rfl, tp, lp⟩ := is_tup.mp ix
    refine sl_tupF pins s σ H _ v vl vu lo hi sl Q I rx hs pl pu ⟨p, xs, rfl, tp.sq, fun q => ?_, Wit.newT h A (cut_is lp lo hi)⟩
    · have e : cutD ds lo hi = ds := by
        unfold cutD
        rw [← lp.len, q.1, q.2]
        simp [lp.len]
      have h : Wit X.K S V H Q (.tup (cutD ds lo hi)) := h
      rw [e] at h
      exact Wit.here h A ix
  | lst ds =>
    obtain ⟨p, xs, rfl, np, tp, lp⟩ := is_lst.mp ix
    exact sl_list pins s σ H _ v vl vu lo hi sl Q I rx hs pl pu ⟨p, xs, rfl, .inl (.inl (hide_some tp).2), fun q hq => Wit.newL h A hq (cut_is lp lo hi)⟩
  | _ => exact h.elim
/-! ### built-in calls of one argument -/
def rBl (K : PySem.W.Frag) (b : Blt) : List V → Hp → VK → Prop := fun xs H Q => ∃ S V dx x, xs = [x] ∧ At S V H ∧ Is K S (hide V H) dx x ∧ bltW b dx (Wit K S V H Q)
theorem crLen : CallR X (.builtin "len") (rBl X.K .len) := by
  intro pins s σ H xs us Q I r ⟨S, V, dx, x, e, A, ix, h⟩
  subst e
  cases dx with
  | tup ds =>
    obtain ⟨p, xs, rfl, tp, lp⟩ := is_tup.mp ix
    exact call_len_seq pins s σ H _ us Q I r ⟨p, xs, rfl, .inr tp.sq, by rw [lp.len]; exact Wit.here h A (is_int.mpr rfl)⟩
  | lst ds =>
    obtain ⟨p, xs, rfl, np, tp, lp⟩ := is_lst.mp ix
    exact call_len_seq pins s σ H _ us Q I r ⟨p, xs, rfl, .inl (.inl (.inl (hide_some tp).2)), by rw [lp.len]; exact Wit.here h A (is_int.mpr rfl)⟩
  | str z =>
    obtain rfl := is_str.mp ix
    exact call_len_str pins s σ H _ us Q I r ⟨z, rfl, h.1, Wit.here h.2 A (is_int.mpr rfl)⟩
  | _ => exact h.elim
theorem bls_is {K : PySem.W.Frag} {S : Sr} {G : Hp} : ∀ {ds : List D} {xs : List V} {bs : List Bool}, IsL K S G ds xs → blsD ds = some bs → xs = bs.map V.bl
  | [], xs, bs, h, e => by unfold IsL at h; subst h; cases e; rfl
  | d :: ds, xs, bs, h, e => by
    unfold IsL at h
    obtain ⟨x, r, rfl, h1, h2⟩ := h
    cases d with
    | bl b =>
      unfold blsD at e
      cases q : blsD ds with
      | none => rw [q] at e; cases e
      | some cs =>
        rw [q] at e; cases e
        obtain rfl := is_bl.mp h1
        rw [bls_is h2 q]; rfl
    | _ => cases e
theorem crAll (hc : X.calm = true) : CallR X (.builtin "all") (rBl X.K .all) := by
  intro pins s σ H xs us Q I r ⟨S, V, dx, x, e, A, ix, h⟩
  subst e
  cases dx with
  | lst ds =>
    obtain ⟨p, xs, rfl, np, tp, lp⟩ := is_lst.mp ix
    obtain ⟨bs, eb, h⟩ := h
    obtain rfl := bls_is lp eb
    exact cr_all hc pins s σ H _ us Q I r ⟨p, bs, rfl, .inl (.inl (hide_some tp).2), Wit.here h A (is_bl.mpr rfl)⟩
  | _ => exact h.elim
theorem crTuple : CallR X (.type "tuple") (rBl X.K .tuple) := by
  intro pins s σ H xs us Q I r ⟨S, V, dx, x, e, A, ix, h⟩
  subst e
  cases dx with
  | tup ds =>
    obtain ⟨p, xs, rfl, tp, lp⟩ := is_tup.mp ix
    exact call_tupleF pins s σ H _ us Q I r ⟨p, xs, rfl, .inr ⟨tp.sq, Wit.here h A ix⟩⟩
  | lst ds =>
    obtain ⟨p, xs, rfl, np, tp, lp⟩ := is_lst.mp ix
    exact call_tupleF pins s σ H _ us Q I r ⟨p, xs, rfl, .inl ⟨.inl (.inl (hide_some tp).2), Wit.newT h A lp⟩⟩
  | _ => exact h.elim
theorem crList (hc : X.calm = true) : CallR X (.type "list") (rBl X.K .list) := by
  intro pins s σ H xs us Q I r ⟨S, V, dx, x, e, A, ix, h⟩
  subst e
  cases dx with
  | tup ds =>
    obtain ⟨p, xs, rfl, tp, lp⟩ := is_tup.mp ix
    exact call_list_of pins s σ H _ us Q I r ⟨p, xs, rfl, .inr tp.sq, fun q hq => Wit.newL h A hq lp⟩
  | lst ds =>
    obtain ⟨p, xs, rfl, np, tp, lp⟩ := is_lst.mp ix
    exact call_list_of pins s σ H _ us Q I r ⟨p, xs, rfl, .inl (.inl (.inl (hide_some tp).2)), fun q hq => Wit.newL h A hq lp⟩
  | dic ks ds =>
    obtain ⟨p, kvs, rfl, np, tp, ek, lp⟩ := is_dic.mp ix
    refine call_list_dK hc pins s σ H _ us Q I r ⟨p, kvs, rfl, (hide_some tp).2, fun q hq => ?_⟩
    have e : (kvs.map fun kv => kV kv.1) = ks.map L2.V.int := by
      have e1 : (kvs.map fun kv => kV kv.1) = (kvs.map (·.1)).map kV := by rw [List.map_map]; rfl
      rw [e1, ek, List.map_map]; rfl
    rw [e]
    exact Wit.newL h A hq (isL_ints ks)
  | _ => exact h.elim
theorem crInt : CallR X (.type "int") (rBl X.K .int) := by
  intro pins s σ H xs us Q I r ⟨S, V, dx, x, e, A, ix, h⟩
  subst e
  cases dx with
  | int i =>
    obtain rfl := is_int.mp ix
    exact call_int1 pins s σ H _ us Q I r (.inl ⟨i, rfl, Wit.here h A (is_int.mpr rfl)⟩)
  | _ => exact h.elim
end
end Fy
end
section
/-! FyS4 -/
namespace Fy
open PySem PySem.Spec PyProof.Rows L2
section
variable {X : Cx}
/-! ### dict(..) of a list of pairs -/
theorem zip_is {K : PySem.W.Frag} {S : Sr} {G : Hp} {i : Int} {d : D} {x : L2.V} (hd : Is K S G d x) : ∀ {ks : List Int} {ds : List D} {kvs : List (Key × L2.V)}, kvs.map (·.1) = ks.map Sum.inl → IsL K S G ds (kvs.map (·.2)) →
    IsL K S G (List.zipWith (fun k e => if k = i then d else e) ks ds) ((kvs.map fun kv => if kv.1 = (Sum.inl i : Key) then (kv.1, x) else kv).map (·.2))
  | [], ds, kvs, h, l => by
    have e : kvs = [] := by simpa using h
    subst e
    exact isL_nil
  | k :: ks, [], [], h, _ => by simp at h
  | k :: ks, [], kv :: kvs, _, l => by
    have l' : IsL K S G [] (kv.2 :: kvs.map (·.2)) := l
    unfold IsL at l'
    cases l'
  | k :: ks, d' :: ds, [], h, _ => by simp at h
  | k :: ks, d' :: ds, (k', v) :: kvs, h, l => by
    have h1 : k' = Sum.inl k := by simpa using congrArg (fun z => z.head?) h
    have h2 : kvs.map (·.1) = ks.map Sum.inl := by simpa using congrArg (fun z => z.tail) h
    have l' : IsL K S G (d' :: ds) (v :: kvs.map (·.2)) := l
    unfold IsL at l'
    obtain ⟨y, r, e1, i1, l1⟩ := l'
    cases e1
    subst h1
    have ih := zip_is (i := i) hd h2 l1
    rw [List.zipWith_cons_cons, List.map_cons, List.map_cons]
    refine isL_cons ?_ ih
    by_cases q : k = i
    · rw [if_pos q, if_pos (congrArg Sum.inl q)]; exact hd
    · rw [if_neg q, if_neg (fun z => q (Sum.inl.inj z))]; exact i1
theorem dput_is {K : PySem.W.Frag} {S : Sr} {G : Hp} {i : Int} {d : D} {x : L2.V} (hd : Is K S G d x) {ks : List Int} {ds : List D} {kvs : List (Key × L2.V)} (h : kvs.map (·.1) = ks.map Sum.inl) (l : IsL K S G ds (kvs.map (·.2))) :
    (putK kvs (Sum.inl i : Key) x).map (·.1) = (dput ks ds i d).1.map Sum.inl ∧ IsL K S G (dput ks ds i d).2 ((putK kvs (Sum.inl i : Key) x).map (·.2)) := by
  have hm : (kvs.any fun kv => decide (kv.1 = (Sum.inl i : Key))) = decide (i ∈ ks) := by rw [valV_any]; exact ks_mem h i
  unfold putK dput
  by_cases q : i ∈ ks
  · rw [if_pos (by rw [hm]; exact decide_eq_true q), if_pos q]
    refine ⟨?_, zip_is hd h l⟩
    rw [← h, List.map_map]
    refine List.map_congr_left fun kv _ => ?_
    show (if kv.1 = (Sum.inl i : Key) then (kv.1, x) else kv).1 = kv.1
    split <;> rfl
  · rw [if_neg (by rw [hm, decide_eq_false q]; decide), if_neg q]
    refine ⟨by rw [List.map_append, List.map_append, h]; rfl, by rw [List.map_append]; exact l.snoc hd⟩
theorem dputs_is {K : PySem.W.Frag} {S : Sr} {G : Hp} : ∀ {is : List Int} {es : List D} {more : List (Key × L2.V)} {ks : List Int} {ds : List D} {kvs : List (Key × L2.V)}, more.map (·.1) = is.map Sum.inl → IsL K S G es (more.map (·.2)) → kvs.map (·.1) = ks.map Sum.inl → IsL K S G ds (kvs.map (·.2)) →
    (mergeK kvs more).map (·.1) = (dputs ks ds is es).1.map Sum.inl ∧ IsL K S G (dputs ks ds is es).2 ((mergeK kvs more).map (·.2))
  | [], es, more, ks, ds, kvs, h, l, h', l' => by
    have e : more = [] := by simpa using h
    subst e
    exact ⟨h', l'⟩
  | i :: is, [], [], _, _, _, h, _, _, _ => by simp at h
  | i :: is, [], kv :: more, _, _, _, _, l, _, _ => by
    have l2 : IsL K S G [] (kv.2 :: more.map (·.2)) := l
    unfold IsL at l2
    cases l2
  | i :: is, e :: es, [], _, _, _, h, _, _, _ => by simp at h
  | i :: is, e :: es, (k', v) :: more, ks, ds, kvs, h, l, h', l' => by
    have h1 : k' = Sum.inl i := by simpa using congrArg (fun z => z.head?) h
    have h2 : more.map (·.1) = is.map Sum.inl := by simpa using congrArg (fun z => z.tail) h
    have l2 : IsL K S G (e :: es) (v :: more.map (·.2)) := l
    unfold IsL at l2
    obtain ⟨y, r, e1, i1, l3⟩ := l2
    cases e1
    subst h1
    obtain ⟨a, b⟩ := dput_is i1 h' l'
    have z := dputs_is (is := is) (es := es) (more := more) h2 l3 a b
    exact z
theorem pairD_eq {d : D} {i : Int} {e : D} (h : pairD d = some (i, e)) : d = .tup [.int i, e] := by
  unfold pairD at h
  split at h
  · split at h
    · cases h; rfl
    · cases h
  · cases h
theorem pairs_is {K : PySem.W.Frag} {S : Sr} {H : Hp} {W : List Addr} : ∀ {ds : List D} {xs : List L2.V} {ks : List Int} {es : List D}, IsL K S (hide W H) ds xs → pairsD ds = some (ks, es) →
    ∃ (ps : List Addr) (kvs : List (Key × L2.V)), xs = ps.map L2.V.ref ∧ Paired (fun p kv => SqT K H p [kV kv.1, kv.2]) ps kvs ∧ kvs.map (·.1) = ks.map Sum.inl ∧ IsL K S (hide W H) es (kvs.map (·.2))
  | [], xs, ks, es, h, e => by
    unfold IsL at h
    subst h
    cases e
    exact ⟨[], [], rfl, .nil, rfl, isL_nil⟩
  | d :: ds, xs, ks, es, h, e => by
    unfold IsL at h
    obtain ⟨x, r, rfl, h1, h2⟩ := h
    unfold pairsD at e
    cases qd : pairD d with
    | none => rw [qd] at e; cases e
    | some z =>
      obtain ⟨i, d'⟩ := z
      rw [qd] at e
      have ed := pairD_eq qd
      subst ed
      cases q : pairsD ds with
      | none => rw [q] at e; cases e
      | some p =>
        obtain ⟨ks', es'⟩ := p
        rw [q] at e
        have e : (i :: ks', d' :: es') = (ks, es) := Option.some.inj e
        cases e
        obtain ⟨ps, kvs, rfl, pr, e1, l1⟩ := pairs_is h2 q
        obtain ⟨a, ys, rfl, t, l⟩ := is_tup.mp h1
        unfold IsL at l
        obtain ⟨y, r, rfl, i1, l⟩ := l
        obtain rfl := is_int.mp i1
        unfold IsL at l
        obtain ⟨y', r, rfl, i2, l⟩ := l
        unfold IsL at l
        subst l
        exact ⟨a :: ps, (Sum.inl i, y') :: kvs, rfl, .cons t.sq pr, by rw [List.map_cons, List.map_cons, e1], isL_cons i2 l1⟩
theorem crDict (hc : X.calm = true) : CallR X (.type "dict") (rBl X.K .dict) := by
  intro pins s σ H xs us Q I r ⟨S, V, dx, x, e, A, ix, h⟩
  subst e
  cases dx with
  | lst ds =>
    obtain ⟨p, xs, rfl, np, tp, lp⟩ := is_lst.mp ix
    obtain ⟨ks, es, ep, h⟩ := h
    obtain ⟨ps, kvs, rfl, pr, e1, l1⟩ := pairs_is lp ep
    refine call_dictP hc pins s σ H _ us Q I r ⟨p, ps, kvs, rfl, .inl (.inl (hide_some tp).2), pr, fun q hq => ?_⟩
    obtain ⟨a, b⟩ := dputs_is (ks := []) (ds := []) (kvs := []) e1 l1 rfl isL_nil
    refine h _ _ (Ext.new hq) (A.src.new hq) (is_dic.mpr ⟨q, _, rfl, A.src.ne hq, hide_new (A.nin hq), a, IsL.mono (Ext.new hq |>.hide V) _ _ b⟩)
  | _ => exact h.elim
/-! ### isinstance -/
def rIs (K : PySem.W.Frag) (t : String) : List L2.V → Hp → VK → Prop := fun xs H Q => ∃ S V dx x, xs = [x, .ty t] ∧ At S V H ∧ Is K S (hide V H) dx x ∧ dx ≠ .src ∧ Wit K S V H Q (.bl (dx.isT t))
def tyNs : List String := ["int", "bool", "str", "tuple"]
theorem kb_all : (tyNs.all fun t => (["NoneType", "bool", "int", "str", "tuple", "list", "dict"] : List String).all fun a => decide (kitB a t = some (a == t || (a == "bool" && t == "int")))) = true := by decide +kernel
theorem kb {a t : String} (ht : t ∈ tyNs) (ha : a ∈ (["NoneType", "bool", "int", "str", "tuple", "list", "dict"] : List String)) : kitB a t = some (a == t || (a == "bool" && t == "int")) := by
  have h := List.all_eq_true.mp (List.all_eq_true.mp kb_all t ht) a ha
  exact of_decide_eq_true h
theorem crIsi {t : String} (ht : t ∈ tyNs) : CallR X (.builtin "isinstance") (rIs X.K t) := by
  intro pins s σ H xs us Q I r ⟨S, V, dx, x, e, A, ix, ns, h⟩
  subst e
  have go : ∀ (a : String) (c : Bool), TyX X.K H x (.type a) → a ∈ (["NoneType", "bool", "int", "str", "tuple", "list", "dict"] : List String) → c = (a == t || (a == "bool" && t == "int")) → Wit X.K S V H Q (.bl c) → wpAny (model X.prog X.w) X.A (call (.builtin "isinstance") us) (EP X pins σ Q) X.xe s := by
    intro a c tx ha ec w
    exact call_isi pins s σ H _ us Q I r ⟨x, .ty t, .type a, .type t, c, rfl, .ty t, tx, kit_ty (by rw [ec]; exact kb ht ha), Wit.here w A (is_bl.mpr rfl)⟩
  cases dx with
  | non => obtain rfl := is_non.mp ix; exact go "NoneType" _ (.base .non) (by decide) rfl h
  | bl b => obtain rfl := is_bl.mp ix; exact go "bool" _ (.base (.bl b)) (by decide) rfl h
  | int b => obtain rfl := is_int.mp ix; exact go "int" _ (.base (.int b)) (by decide) rfl h
  | str b => obtain rfl := is_str.mp ix; exact go "str" _ (.base (.str b)) (by decide) rfl h
  | tup ds =>
    obtain ⟨p, xs, rfl, tp, lp⟩ := is_tup.mp ix
    refine go "tuple" _ ?_ (by decide) rfl h
    rcases tp with ⟨_, o, _, tp⟩ | ⟨o, its, n, h1, h2, _⟩
    · exact .fTuple (hide_some tp).2
    · exact .kTuple h1 h2.1
  | raw ds =>
    obtain ⟨p, xs, rfl, np, tp, lp⟩ := is_raw.mp ix
    exact go "tuple" _ (.base (.tup (hide_some tp).2)) (by decide) rfl h
  | lst ds =>
    obtain ⟨p, xs, rfl, np, tp, lp⟩ := is_lst.mp ix
    exact go "list" _ (.base (.lst (hide_some tp).2)) (by decide) rfl h
  | dic ks ds =>
    obtain ⟨p, kvs, rfl, np, tp, ek, lp⟩ := is_dic.mp ix
    exact go "dict" _ (.base (.dK (hide_some tp).2)) (by decide) rfl h
  | src => exact (ns rfl).elim
end
end Fy
end
section
/-! FyS5 -/
namespace Fy
open PySem PySem.Spec PyProof.Rows L2
section
variable {X : Cx}
/-! ### sorted -/
theorem sorts_alike {ds : List D} (h : sortsD ds) : ∀ d, d ∈ ds → ∀ d', d' ∈ ds → PySem.W.alike d.toP d'.toP = true := by
  rcases h with ⟨ns, rfl⟩ | ⟨ns, rfl⟩ | ⟨ns, rfl⟩ <;> intro d hd d' hd' <;> obtain ⟨a, _, rfl⟩ := List.mem_map.mp hd <;> obtain ⟨b, _, rfl⟩ := List.mem_map.mp hd' <;> simp [D.toP, toPs, PySem.W.alike, PySem.W.alikeAll]
theorem sorts_depth {ds : List D} (h : sortsD ds) : ∀ d, d ∈ ds → d.toP.depth ≤ 2 := by
  rcases h with ⟨ns, rfl⟩ | ⟨ns, rfl⟩ | ⟨ns, rfl⟩ <;> intro d hd <;> obtain ⟨a, _, rfl⟩ := List.mem_map.mp hd <;> simp [D.toP, toPs, PyData.depth, PyData.depthAll]
theorem sorts_plain {ds : List D} (h : sortsD ds) : ∀ d, d ∈ ds → d.plain = true := by
  rcases h with ⟨ns, rfl⟩ | ⟨ns, rfl⟩ | ⟨ns, rfl⟩ <;> intro d hd <;> obtain ⟨a, _, rfl⟩ := List.mem_map.mp hd <;> rfl
theorem sorts_able {ds : List D} (h : sortsD ds) : PySem.W.Sortable (ds.map D.toP) := by
  rcases h with ⟨ns, rfl⟩ | ⟨ns, rfl⟩ | ⟨ns, rfl⟩
  · refine .inr fun d hd => ?_
    rw [List.map_map] at hd
    obtain ⟨a, _, rfl⟩ := List.mem_map.mp hd
    exact ⟨(fun e => nomatch e), fun xs e => nomatch e⟩
  · refine .inr fun d hd => ?_
    rw [List.map_map] at hd
    obtain ⟨a, _, rfl⟩ := List.mem_map.mp hd
    exact ⟨(fun e => nomatch e), fun xs e => nomatch e⟩
  · refine .inl fun d hd => ?_
    rw [List.map_map] at hd
    obtain ⟨a, _, rfl⟩ := List.mem_map.mp hd
    exact ⟨_, _, rfl⟩
theorem le_eq (bs : List (D × L2.V)) : PySem.W.dataLe false (fun b : D × L2.V => b.1.toP) = fun a b => a.1.le b.1 := rfl
theorem zip_fst {ds : List D} {xs : List L2.V} (h : xs.length = ds.length) : (ds.zip xs).map (·.1) = ds := by
  exact List.map_fst_zip (l₁ := ds) (l₂ := xs) (by omega)
theorem zip_mem {K : PySem.W.Frag} {S : Sr} {G : Hp} : ∀ {ds : List D} {xs : List L2.V}, IsL K S G ds xs → ∀ p ∈ ds.zip xs, Is K S G p.1 p.2
  | [], _, _, p, hp => by simp at hp
  | d :: ds, xs, h, p, hp => by
    unfold IsL at h
    obtain ⟨x, r, rfl, h1, h2⟩ := h
    rcases List.mem_cons.mp hp with e | hp
    · subst e; exact h1
    · exact zip_mem h2 p hp
theorem isL_of_mem {K : PySem.W.Frag} {S : Sr} {G : Hp} : ∀ {ps : List (D × L2.V)}, (∀ p ∈ ps, Is K S G p.1 p.2) → IsL K S G (ps.map (·.1)) (ps.map (·.2))
  | [], _ => isL_nil
  | p :: ps, h => isL_cons (h p List.mem_cons_self) (isL_of_mem fun q hq => h q (List.mem_cons_of_mem _ hq))
theorem each_rel : ∀ {ds : List D} {xs : List L2.V} {us : List Value}, xs.length = ds.length → Vals xs us → PySem.W.EachIs (fun v (b : D × L2.V) => RelV b.2 v) us (ds.zip xs)
  | [], [], _, _, .nil => .nil
  | [], _ :: _, _, h, _ => by simp at h
  | _ :: _, [], _, h, _ => by simp at h
  | d :: ds, x :: xs, u :: us, h, .cons r t => .cons r (each_rel (by simpa using h) t)
theorem vals_each : ∀ {bs : List (D × L2.V)} {us : List Value}, PySem.W.EachIs (fun v (b : D × L2.V) => RelV b.2 v) us bs → Vals (bs.map (·.2)) us
  | [], _, .nil => .nil
  | b :: bs, u :: us, .cons r t => .cons r (vals_each t)
theorem each_reads {pins : List (Addr × Obj)} {σ : L2.St} {H : Hp} {s : Shared} (I : Inv X pins σ H s) {S : Sr} {V : List Addr} : ∀ {ds : List D} {xs : List L2.V} {us : List Value}, (∀ d ∈ ds, d.plain = true) → IsL X.K S (hide V H) ds xs → Vals xs us →
    PySem.W.EachIs (fun v (b : D × L2.V) => ∃ as, Reads s.heap v b.1.toP as) us (ds.zip xs)
  | [], xs, us, _, h, r => by
    unfold IsL at h
    subst h
    cases r
    exact .nil
  | d :: ds, xs, us, p, h, r => by
    unfold IsL at h
    obtain ⟨x, y, rfl, h1, h2⟩ := h
    cases r with
    | cons r1 r2 => exact .cons (Dp.reads I d.toP x _ (Is.dp d x (p d List.mem_cons_self) h1) r1) (each_reads I (fun e he => p e (List.mem_cons_of_mem _ he)) h2 r2)
theorem crSorted (hu : X.A.units + 65 < cLine) : CallR X (.builtin "sorted") (rBl X.K .sorted) := by
  intro pins s σ H xs us Q I r ⟨S, V, dx, x, e, A, ix, h⟩
  subst e
  cases dx with
  | lst ds =>
    obtain ⟨p, xs, rfl, np, tp, lp⟩ := is_lst.mp ix
    obtain ⟨so, h⟩ := h
    obtain ⟨its, rv, pl, hz⟩ := I.list (show SqL X.K H p xs from .inl (.inl (hide_some tp).2))
    rw [Vals.ref1 r]
    have hl : xs.length = ds.length := lp.len
    have ez : ((ds.zip xs).map fun b : D × L2.V => b.1.toP) = ds.map D.toP := by
      have e1 : ((ds.zip xs).map fun b : D × L2.V => b.1.toP) = ((ds.zip xs).map (·.1)).map D.toP := by rw [List.map_map]; rfl
      rw [e1, zip_fst hl]
    refine PySem.W.sorted_data (R := fun v (b : D × L2.V) => RelV b.2 v) (enc := fun b => b.1.toP) pl.isList (each_rel hl rv) (each_reads I (sorts_plain so) lp rv) (by rw [ez]; intro a ha b hb; obtain ⟨d, hd, rfl⟩ := List.mem_map.mp ha; obtain ⟨d', hd', rfl⟩ := List.mem_map.mp hb; exact sorts_alike so d hd d' hd') (by rw [ez]; exact sorts_able so)
      (by rw [List.length_zip, hl, Nat.min_self, ← hl]; exact hz) (fun b hb => by have := sorts_depth so b.1 (List.of_mem_zip hb).1; omega) fun out ho he => ?_
    rw [le_eq (ds.zip xs)] at he
    have tot : PySem.W.TotalLe (fun a b : D × L2.V => a.1.le b.1) := by
      rw [← le_eq (ds.zip xs)]; unfold PySem.W.dataLe; exact PySem.W.sortLe_total _ _ _
    have pw := PySem.W.sort_pairwise tot (ds.zip xs)
    have pm : ((ds.zip xs).mergeSort fun a b => a.1.le b.1).Perm (ds.zip xs) := List.mergeSort_perm _ _
    generalize (ds.zip xs).mergeSort (fun a b => a.1.le b.1) = ps at he pw pm
    have rel := vals_each he
    have hm : ∀ q ∈ ps, Is X.K S (hide V H) q.1 q.2 := fun q hq => zip_mem lp q (pm.mem_iff.mp hq)
    obtain ⟨ep, he'⟩ := PyProof.Rows.sortedAll_at s.heap its out.toArray
    have hlen : (ps.map (·.2)).length ≤ sizeLine := by rw [List.length_map, pm.length_eq, List.length_zip, hl, Nat.min_self, ← hl]; exact hz
    have hn : H (s.heap.objs.size + 1) = none := I.hok.fresh (Nat.le_succ _)
    refine ⟨.ref _, upd H (s.heap.objs.size + 1) (.lst (ps.map (·.2))), I.laid (t' := s.toks) (fun _ _ => PyProof.Rows.sortedAll_old) (Nat.le_succ _) ⟨hlen, out, ep, rel, he'⟩, rfl, ?_⟩
    refine Wit.newL (h (ps.map (·.1)) ?_ ?_) A hn (isL_of_mem hm)
    · have := pm.map (·.1)
      rw [zip_fst hl] at this
      exact this
    · rw [List.pairwise_map]; exact pw
  | _ => exact h.elim
/-! ### t.index(x) -/
def rIdx (K : PySem.W.Frag) : L2.V → List L2.V → Hp → VK → Prop := fun x xs H Q => ∃ S V dx dy y, xs = [y] ∧ At S V H ∧ Is K S (hide V H) dx x ∧ Is K S (hide V H) dy y ∧ idxW dx dy (Wit K S V H Q)
theorem ints_is {K : PySem.W.Frag} {S : Sr} {G : Hp} : ∀ {ns : List Int} {xs : List L2.V}, IsL K S G (ns.map .int) xs → xs = ns.map L2.V.int
  | [], xs, h => by unfold IsL at h; exact h
  | n :: ns, xs, h => by
    have h : IsL K S G (.int n :: ns.map .int) xs := h
    unfold IsL at h
    obtain ⟨x, r, rfl, h1, h2⟩ := h
    obtain rfl := is_int.mp h1
    rw [ints_is h2]; rfl
theorem strs_is {K : PySem.W.Frag} {S : Sr} {G : Hp} : ∀ {ns : List Str} {xs : List L2.V}, IsL K S G (ns.map .str) xs → xs = ns.map L2.V.str
  | [], xs, h => by unfold IsL at h; exact h
  | n :: ns, xs, h => by
    have h : IsL K S G (.str n :: ns.map .str) xs := h
    unfold IsL at h
    obtain ⟨x, r, rfl, h1, h2⟩ := h
    obtain rfl := is_str.mp h1
    rw [strs_is h2]; rfl
theorem mtIdxI : MtR X "tuple.index" (fun x xs H Q => ∃ p, ∃ ys : List Int, ∃ z, ∃ j : Nat, x = .ref p ∧ xs = [.int z] ∧ SqT X.K H p (ys.map L2.V.int) ∧ ys[j]? = some z ∧ (∀ m, m < j → ys[m]? ≠ some z) ∧ Q (.int (j : Nat)) H) := by
  intro pins s σ H x xs v us Q I rx rs ⟨p, ys, z, j, ex, exs, hq, hy, hno, q⟩
  subst ex exs
  obtain rfl : v = Value.ref p := rx
  obtain ⟨u, rfl, t, rfl⟩ := vals1 rs
  obtain ⟨its, r, pl, hz⟩ := I.tuple hq
  obtain ⟨⟨cls, dd, dt, sl⟩, ho, hc, n, hd⟩ := pl
  simp only at hc hd
  subst hc hd
  have hl : its.toArray.size = ys.length := by simpa using r.length.symm
  have look : ∀ (m : Nat) (hm : m < its.toArray.size), ∃ y t', ys[m]? = some y ∧ its.toArray[m] = Value.int y t' := fun m hm => by
    have hm' : m < ys.length := by omega
    obtain ⟨w, hw, t', hw'⟩ := r.get (i := m) (x := .int ys[m]) (by simp [hm'])
    refine ⟨ys[m], t', List.getElem?_eq_getElem hm', ?_⟩
    have e := (List.getElem?_eq_some_iff.mp hw).2
    rw [← hw', ← e]; simp
  have hj : j < its.toArray.size := by have := (List.getElem?_eq_some_iff.mp hy).1; omega
  have fl : (ys.map L2.V.int).all flatV = true := by rw [List.all_map]; exact List.all_eq_true.mpr fun _ _ => rfl
  refine call_meets PySem.F.slot_tuple_index ⟨_, ho, rfl⟩ PySem.F.entry_tuple_index (PySem.F.args_tuple_index_2 _ _) (TI.tuple_indexAt p its.toArray n dd sl (.int z t) (eqU (.int z)) j hj ?_ fun m hm hmj => ?_)
    ⟨ho, fun w hw => mem_eqAt (x := .int z) ⟨t, rfl⟩ rfl r fl w (by simpa using hw), .int (j : Nat), H, I.tok _, ⟨_, rfl⟩, q⟩
  · obtain ⟨y, t', h1, h2⟩ := look j hj
    rw [hy] at h1; cases h1
    rw [h2]; exact beq_self_eq_true z
  · obtain ⟨y, t', h1, h2⟩ := look m hm
    rw [h2]; exact beq_eq_false_iff_ne.mpr fun e => hno m hmj (e ▸ h1)
theorem mtIdxL : MtR X "list.index" (fun x xs H Q => rIdx X.K x xs H Q ∧ ∃ p ys, x = .ref p ∧ SqL X.K H p ys) := by
  intro pins s σ H x xs v us Q I rx rs ⟨⟨S, V, dx, dy, y, e, A, ix, iy, h⟩, p0, ys0, e0, hq0⟩
  subst e
  cases dx with
  | lst ds =>
    cases dy with
    | str z =>
      obtain ⟨xs, rfl, j, h1, h2, w⟩ := h
      obtain ⟨p, vs, rfl, np, tp, lp⟩ := is_lst.mp ix
      obtain rfl := strs_is lp
      obtain rfl := is_str.mp iy
      refine mt_index pins s σ H _ _ v us Q I rx rs ⟨p, _, .str z, j, .str z, rfl, rfl, .inl (.inl (hide_some tp).2), rfl, ?_, ?_, ?_, ?_, Wit.here w A (is_int.mpr rfl)⟩
      · rw [List.all_map]; exact List.all_eq_true.mpr fun _ _ => rfl
      · rw [List.getElem?_map, h1]; rfl
      · exact beq_self_eq_true z
      · intro m z' hm e
        rw [List.getElem?_map] at e
        cases q : xs[m]? with
        | none => rw [q] at e; cases e
        | some b =>
          rw [q] at e; cases e
          exact beq_eq_false_iff_ne.mpr fun eb => h2 m hm (by rw [q, eb])
    | _ => exact h.elim
  | tup ds =>
    obtain ⟨p, vs, rfl, tp, lp⟩ := is_tup.mp ix
    cases e0
    obtain ⟨its, _, ⟨o, n, g1, g2, _⟩, _⟩ := I.list hq0
    obtain ⟨jts, _, ⟨o', g3, g4, _⟩, _⟩ := I.tuple tp.sq
    rw [g1] at g3; cases g3
    rw [g2] at g4
    exact absurd g4 (by decide)
  | _ => exact h.elim
theorem mtIdx : MtR X "tuple.index" (fun x xs H Q => rIdx X.K x xs H Q ∧ ∃ p ys, x = .ref p ∧ SqT X.K H p ys) := by
  intro pins s σ H x xs v us Q I rx rs ⟨⟨S, V, dx, dy, y, e, A, ix, iy, h⟩, p0, ys0, e0, hq0⟩
  subst e
  cases dx with
  | lst ds =>
    obtain ⟨p, vs, rfl, np, tp, lp⟩ := is_lst.mp ix
    cases e0
    obtain ⟨its, _, ⟨o, g1, g2, _⟩, _⟩ := I.tuple hq0
    obtain ⟨jts, _, ⟨o', n, g3, g4, _⟩, _⟩ := I.list (SqL.of (hide_some tp).2)
    rw [g1] at g3; cases g3
    rw [g2] at g4
    exact absurd g4 (by decide)
  | tup ds =>
    cases dy with
    | str z =>
      obtain ⟨xs, rfl, j, h1, h2, w⟩ := h
      obtain ⟨p, vs, rfl, tp, lp⟩ := is_tup.mp ix
      obtain rfl := strs_is lp
      obtain rfl := is_str.mp iy
      exact mt_tup_index pins s σ H _ _ v us Q I rx rs ⟨p, xs, z, j, rfl, rfl, tp.sq, h1, h2, Wit.here w A (is_int.mpr rfl)⟩
    | int z =>
      obtain ⟨xs, rfl, j, h1, h2, w⟩ := h
      obtain ⟨p, vs, rfl, tp, lp⟩ := is_tup.mp ix
      obtain rfl := ints_is lp
      obtain rfl := is_int.mp iy
      exact mtIdxI pins s σ H _ _ v us Q I rx rs ⟨p, xs, z, j, rfl, rfl, tp.sq, h1, h2, Wit.here w A (is_int.mpr rfl)⟩
    | _ => exact h.elim
  | _ => exact h.elim
end
end Fy
end
section
/-! FyS6 -/
namespace Fy
open PySem PySem.Spec PyProof.Rows L2
/-! ### weakening what is wanted -/
theorem bindT_mono {tg : Tg} {d : D} {ρ : Rho} {k k' : Rho → Prop} (h : ∀ ρ, k ρ → k' ρ) (w : bindT tg d ρ k) : bindT tg d ρ k' := by
  cases tg with
  | name i => exact h _ w
  | tup is =>
    cases d with
    | tup ds => exact ⟨w.1, h _ w.2⟩
    | raw ds => exact ⟨w.1, h _ w.2⟩
    | _ => exact w.elim
theorem boolW_mono {Q Q' : Bool → Prop} (h : ∀ b, Q b → Q' b) {d : D} (w : boolW Q d) : boolW Q' d := by
  obtain ⟨b, e, q⟩ := w
  exact ⟨b, e, h b q⟩
theorem cmpW_mono {o : Op} {a b : D} {Q Q' : Bool → Prop} (h : ∀ b, Q b → Q' b) (w : cmpW o a b Q) : cmpW o a b Q' := by
  cases o with
  | eq => exact ⟨w.1, h _ w.2⟩
  | ne => exact ⟨w.1, h _ w.2⟩
  | lt => cases a <;> cases b <;> first | exact h _ w | exact w.elim
  | le => cases a <;> cases b <;> first | exact h _ w | exact w.elim
  | gt => cases a <;> cases b <;> first | exact h _ w | exact w.elim
  | ge => cases a <;> cases b <;> first | exact h _ w | exact w.elim
  | isin => cases b <;> cases a <;> first | exact h _ w | exact ⟨w.1, h _ w.2⟩ | exact w.elim
  | notin => cases b <;> cases a <;> first | exact h _ w | exact ⟨w.1, h _ w.2⟩ | exact w.elim
  | is => cases a <;> cases b <;> first | exact h _ w | exact w.elim
  | isnot => cases a <;> cases b <;> first | exact h _ w | exact w.elim
theorem addW_mono {a b : D} {Q Q' : D → Prop} (h : ∀ d, Q d → Q' d) (w : addW a b Q) : addW a b Q' := by
  cases a <;> cases b <;> first | exact h _ w | exact ⟨w.1, h _ w.2⟩ | exact w.elim
theorem subW_mono {a b : D} {Q Q' : D → Prop} (h : ∀ d, Q d → Q' d) (w : subW a b Q) : subW a b Q' := by
  cases a <;> cases b <;> first | exact h _ w | exact w.elim
theorem mulW_mono {a b : D} {Q Q' : D → Prop} (h : ∀ d, Q d → Q' d) (w : mulW a b Q) : mulW a b Q' := by
  unfold mulW at w ⊢
  split at w
  · exact ⟨w.1, w.2.1, h _ w.2.2⟩
  · exact w.elim
theorem ixW_mono {a b : D} {Q Q' : D → Prop} (h : ∀ d, Q d → Q' d) (w : ixW a b Q) : ixW a b Q' := by
  cases a <;> cases b <;> first | exact w.elim | exact (let ⟨d, e, q⟩ := w; ⟨d, e, h _ q⟩)
theorem slW_mono {a : D} {l u : Option Int} {Q Q' : D → Prop} (h : ∀ d, Q d → Q' d) (w : slW a l u Q) : slW a l u Q' := by
  cases a <;> first | exact h _ w | exact w.elim
theorem bltW_mono {b : Blt} {a : D} {Q Q' : D → Prop} (h : ∀ d, Q d → Q' d) (w : bltW b a Q) : bltW b a Q' := by
  cases b with
  | len => cases a <;> first | exact h _ w | exact ⟨w.1, h _ w.2⟩ | exact w.elim
  | all => cases a <;> first | exact (let ⟨d, e, q⟩ := w; ⟨d, e, h _ q⟩) | exact w.elim
  | sorted => cases a <;> first | exact ⟨w.1, fun es e1 e2 => h _ (w.2 es e1 e2)⟩ | exact w.elim
  | tuple => cases a <;> first | exact h _ w | exact w.elim
  | list => cases a <;> first | exact h _ w | exact w.elim
  | dict => cases a <;> first | exact (let ⟨d, d', e, q⟩ := w; ⟨d, d', e, h _ q⟩) | exact w.elim
  | sset => cases a <;> first | exact ⟨w.1, w.2.1, w.2.2.1, fun es e1 e2 e3 => h _ (w.2.2.2 es e1 e2 e3)⟩ | exact w.elim
  | int => cases a <;> first | exact h _ w | exact w.elim
theorem idxW_mono {a b : D} {Q Q' : D → Prop} (h : ∀ d, Q d → Q' d) (w : idxW a b Q) : idxW a b Q' := by
  cases a <;> cases b <;> first | exact w.elim | exact (let ⟨xs, e, j, e1, e2, q⟩ := w; ⟨xs, e, j, e1, e2, h _ q⟩)
section
variable {tg : Tg} {own is : List Nat} {cW : Rho → (Bool → Prop) → Prop} {eW kW vW : Rho → (D → Prop) → Prop} {iW : Rho → (List D → Prop) → Prop}
theorem compW_mono (hc : ∀ ρ Q Q', (∀ b, Q b → Q' b) → cW ρ Q → cW ρ Q') (he : ∀ ρ Q Q', (∀ b, Q b → Q' b) → eW ρ Q → eW ρ Q') {ρ : Rho} : ∀ {ds acc : List D} {Q Q' : List D → Prop}, (∀ d, Q d → Q' d) → compW tg own cW eW ρ ds acc Q → compW tg own cW eW ρ ds acc Q'
  | [], _, _, _, h, w => h _ w
  | d :: r, acc, Q, Q', h, w => bindT_mono (fun ρ' w' => hc ρ' _ _ (fun b => by
      cases b with
      | true => exact fun w2 => he ρ' _ _ (fun y w3 => compW_mono hc he h w3) w2
      | false => exact fun w2 => compW_mono hc he h w2) w') w
theorem compI_mono (he : ∀ ρ Q Q', (∀ b, Q b → Q' b) → eW ρ Q → eW ρ Q') {ρ : Rho} : ∀ {ds acc : List D} {Q Q' : List D → Prop}, (∀ d, Q d → Q' d) → compI is eW ρ ds acc Q → compI is eW ρ ds acc Q'
  | [], _, _, _, h, w => h _ w
  | d :: r, acc, Q, Q', h, w => bindT_mono (fun ρ' w' => he ρ' _ _ (fun y w3 => ⟨w3.1, compI_mono he h w3.2⟩) w') w
theorem comp2W_mono (hi : ∀ ρ Q Q', (∀ b, Q b → Q' b) → iW ρ Q → iW ρ Q') (he : ∀ ρ Q Q', (∀ b, Q b → Q' b) → eW ρ Q → eW ρ Q') {ρ : Rho} : ∀ {ds acc : List D} {Q Q' : List D → Prop}, (∀ d, Q d → Q' d) → comp2W tg own is iW eW ρ ds acc Q → comp2W tg own is iW eW ρ ds acc Q'
  | [], _, _, _, h, w => h _ w
  | d :: r, acc, Q, Q', h, w => bindT_mono (fun ρ' w' => hi ρ' _ _ (fun its w2 => compI_mono he (fun acc' w3 => comp2W_mono hi he h w3) w2) w') w
theorem dcW_mono (hc : ∀ ρ Q Q', (∀ b, Q b → Q' b) → cW ρ Q → cW ρ Q') (hk : ∀ ρ Q Q', (∀ b, Q b → Q' b) → kW ρ Q → kW ρ Q') (hv : ∀ ρ Q Q', (∀ b, Q b → Q' b) → vW ρ Q → vW ρ Q') {ρ : Rho} : ∀ {ds : List D} {ks : List Int} {es : List D} {Q Q' : List Int → List D → Prop}, (∀ k d, Q k d → Q' k d) → dcW tg own cW kW vW ρ ds ks es Q → dcW tg own cW kW vW ρ ds ks es Q'
  | [], _, _, _, _, h, w => h _ _ w
  | d :: r, ks, es, Q, Q', h, w => bindT_mono (fun ρ' w' => hc ρ' _ _ (fun b => by
      cases b with
      | true => exact fun w2 => hk ρ' _ _ (fun y w3 => hv ρ' _ _ (fun z w4 => by
          obtain ⟨i, e, w5⟩ := w4
          exact ⟨i, e, dcW_mono hc hk hv h w5⟩) w3) w2
      | false => exact fun w2 => dcW_mono hc hk hv h w2) w') w
end
mutual
theorem wpE_mono (Γ : Nat → Spec) : ∀ (e : E) (rv : Bool) (ρ : Rho) (Q Q' : D → Prop), (∀ d, Q d → Q' d) → wpE Γ e rv ρ Q → wpE Γ e rv ρ Q'
  | .var i, rv, ρ, Q, Q', h, ⟨o, d, e, c, q⟩ => ⟨o, d, e, c, h _ q⟩
  | .cst c, _, _, _, _, h, w => h _ w
  | .gl n, _, _, _, _, h, ⟨p, e, w⟩ => ⟨p, e, h _ w⟩
  | .neg a, rv, ρ, Q, Q', h, w => wpE_mono Γ a rv ρ _ _ (fun d ⟨i, e, q⟩ => ⟨i, e, h _ q⟩) w
  | .add a b, rv, ρ, Q, Q', h, w => wpE_mono Γ a rv ρ _ _ (fun x => wpE_mono Γ b rv ρ _ _ fun y => addW_mono h) w
  | .sub a b, rv, ρ, Q, Q', h, w => wpE_mono Γ a rv ρ _ _ (fun x => wpE_mono Γ b rv ρ _ _ fun y => subW_mono h) w
  | .mul a b, rv, ρ, Q, Q', h, w => wpE_mono Γ a rv ρ _ _ (fun x => wpE_mono Γ b rv ρ _ _ fun y => mulW_mono h) w
  | .cmp o a b, rv, ρ, Q, Q', h, w => wpE_mono Γ a rv ρ _ _ (fun x => wpE_mono Γ b rv ρ _ _ fun y => cmpW_mono fun c => h _) w
  | .chn o o' a b c, rv, ρ, Q, Q', h, w => wpE_mono Γ a rv ρ _ _ (fun x => wpE_mono Γ b rv ρ _ _ fun y => cmpW_mono fun k => by
      cases k with
      | true => exact wpE_mono Γ c rv ρ _ _ fun z => cmpW_mono fun k' => h _
      | false => exact h _) w
  | .nt a, rv, ρ, Q, Q', h, w => wpE_mono Γ a rv ρ _ _ (fun d => boolW_mono fun b => h _) w
  | .and a b, rv, ρ, Q, Q', h, w => wpE_mono Γ a rv ρ _ _ (fun d => boolW_mono fun k => by
      cases k with
      | true => exact wpE_mono Γ b rv ρ _ _ fun d => boolW_mono fun k' => h _
      | false => exact h _) w
  | .or a b, rv, ρ, Q, Q', h, w => wpE_mono Γ a rv ρ _ _ (fun d => boolW_mono fun k => by
      cases k with
      | true => exact h _
      | false => exact wpE_mono Γ b rv ρ _ _ fun d => boolW_mono fun k' => h _) w
  | .ife c a b, rv, ρ, Q, Q', h, w => wpE_mono Γ c rv ρ _ _ (fun d => boolW_mono fun k => by
      cases k with
      | true => exact wpE_mono Γ a rv ρ _ _ h
      | false => exact wpE_mono Γ b rv ρ _ _ h) w
  | .tup es, rv, ρ, Q, Q', h, w => wpL_mono Γ es rv ρ _ _ (fun ds q => ⟨q.1, h _ q.2⟩) w
  | .lst es, rv, ρ, Q, Q', h, w => wpL_mono Γ es rv ρ _ _ (fun ds q => ⟨q.1, h _ q.2⟩) w
  | .ix a b, rv, ρ, Q, Q', h, w => wpE_mono Γ a rv ρ _ _ (fun x => wpE_mono Γ b rv ρ _ _ fun y => ixW_mono h) w
  | .sl a lo hi, rv, ρ, Q, Q', h, w => wpE_mono Γ a rv ρ _ _ (fun x => wpO_mono Γ lo rv ρ _ _ fun l => wpO_mono Γ hi rv ρ _ _ fun u => slW_mono h) w
  | .call f es, rv, ρ, Q, Q', h, w => wpL_mono Γ es rv ρ _ _ (fun ds ⟨R, g, q⟩ => ⟨R, g, fun d r => h d (q d r)⟩) w
  | .blt b a, rv, ρ, Q, Q', h, w => wpE_mono Γ a rv ρ _ _ (fun x => bltW_mono h) w
  | .isi a t, rv, ρ, Q, Q', h, w => wpE_mono Γ a rv ρ _ _ (fun x q => ⟨q.1, h _ q.2⟩) w
  | .idx a b, rv, ρ, Q, Q', h, w => wpE_mono Γ a rv ρ _ _ (fun x p => ⟨p.1, wpE_mono Γ b rv ρ _ _ (fun y => idxW_mono h) p.2⟩) w
  | .words a, rv, ρ, Q, Q', h, w => wpE_mono Γ a rv ρ _ _ (fun x ⟨z, ws, e1, e2, q⟩ => ⟨z, ws, e1, e2, h _ q⟩) w
  | .lc own tg it c e, rv, ρ, Q, Q', h, w => wpI_mono Γ it _ _ _ (fun ds => compW_mono (fun ρ Q Q' h => wpC_mono Γ c ρ Q Q' h) (fun ρ Q Q' h => wpE_mono Γ e false ρ Q Q' h) fun es => h _) w
  | .lc2 own tg it is it2 e, rv, ρ, Q, Q', h, w => wpI_mono Γ it _ _ _ (fun ds => comp2W_mono (fun ρ Q Q' h => wpI_mono Γ it2 ρ Q Q' h) (fun ρ Q Q' h => wpE_mono Γ e false ρ Q Q' h) fun es => h _) w
  | .lci own tg d kp c e, rv, ρ, Q, Q', h, ⟨ks, ds, e1, e2, e3, w⟩ => ⟨ks, ds, e1, e2, e3, compW_mono (fun ρ Q Q' h => wpC_mono Γ c ρ Q Q' h) (fun ρ Q Q' h => wpE_mono Γ e false ρ Q Q' h) (fun es => h _) w⟩
  | .dci own tg d kp c k v, rv, ρ, Q, Q', h, ⟨ks, ds, e1, e2, e3, w⟩ => ⟨ks, ds, e1, e2, e3, dcW_mono (fun ρ Q Q' h => wpC_mono Γ c ρ Q Q' h) (fun ρ Q Q' h => wpE_mono Γ k false ρ Q Q' h) (fun ρ Q Q' h => wpE_mono Γ v false ρ Q Q' h) (fun ks es => h _) w⟩
  | .d1 k v, rv, ρ, Q, Q', h, w => wpE_mono Γ k rv ρ _ _ (fun x => wpE_mono Γ v rv ρ _ _ fun y ⟨i, e, q⟩ => ⟨i, e, h _ q⟩) w
  | .imm a, rv, ρ, Q, Q', h, w => wpE_mono Γ a true ρ _ _ (fun d q => ⟨q.1, h _ q.2⟩) w
theorem wpL_mono (Γ : Nat → Spec) : ∀ (e : EL) (rv : Bool) (ρ : Rho) (Q Q' : List D → Prop), (∀ d, Q d → Q' d) → wpL Γ e rv ρ Q → wpL Γ e rv ρ Q'
  | .nil, _, _, _, _, h, w => h _ w
  | .cons e r, rv, ρ, Q, Q', h, w => wpE_mono Γ e rv ρ _ _ (fun d => wpL_mono Γ r rv ρ _ _ fun ds => h _) w
  | .star e r, rv, ρ, Q, Q', h, w => wpE_mono Γ e rv ρ _ _ (fun d ⟨xs, e1, q⟩ => ⟨xs, e1, wpL_mono Γ r rv ρ _ _ (fun ds => h _) q⟩) w
theorem wpO_mono (Γ : Nat → Spec) : ∀ (e : EO) (rv : Bool) (ρ : Rho) (Q Q' : Option Int → Prop), (∀ d, Q d → Q' d) → wpO Γ e rv ρ Q → wpO Γ e rv ρ Q'
  | .no, _, _, _, _, h, w => h _ w
  | .so e, rv, ρ, Q, Q', h, w => wpE_mono Γ e rv ρ _ _ (fun d ⟨i, e1, q⟩ => ⟨i, e1, h _ q⟩) w
theorem wpC_mono (Γ : Nat → Spec) : ∀ (e : EO) (ρ : Rho) (Q Q' : Bool → Prop), (∀ d, Q d → Q' d) → wpC Γ e ρ Q → wpC Γ e ρ Q'
  | .no, _, _, _, h, w => h _ w
  | .so e, ρ, Q, Q', h, w => wpE_mono Γ e false ρ _ _ (fun d => boolW_mono h) w
theorem wpI_mono (Γ : Nat → Spec) : ∀ (e : It) (ρ : Rho) (Q Q' : List D → Prop), (∀ d, Q d → Q' d) → wpI Γ e ρ Q → wpI Γ e ρ Q'
  | .seq e, ρ, Q, Q', h, w => wpE_mono Γ e false ρ _ _ (fun d ⟨xs, e1, q⟩ => ⟨xs, e1, h _ q⟩) w
  | .enum e, ρ, Q, Q', h, w => wpE_mono Γ e false ρ _ _ (fun d ⟨xs, e1, q⟩ => ⟨xs, e1, h _ q⟩) w
  | .zip a b, ρ, Q, Q', h, w => wpE_mono Γ a false ρ _ _ (fun x => wpE_mono Γ b false ρ _ _ fun y q => by
      rcases q with ⟨xs, ys, e1, e2, q⟩ | ⟨xs, ys, e1, e2, q⟩
      · exact .inl ⟨xs, ys, e1, e2, h _ q⟩
      · exact .inr ⟨xs, ys, e1, e2, h _ q⟩) w
  | .rng e, ρ, Q, Q', h, w => wpE_mono Γ e false ρ _ _ (fun d ⟨i, e1, e2, e3, q⟩ => ⟨i, e1, e2, e3, h _ q⟩) w
  | .rng2 a b, ρ, Q, Q', h, w => wpE_mono Γ a false ρ _ _ (fun x => wpE_mono Γ b false ρ _ _ fun y ⟨i, j, e1, e2, e3, e4, e5, e6, q⟩ => ⟨i, j, e1, e2, e3, e4, e5, e6, h _ q⟩) w
  | .chars e, ρ, Q, Q', h, w => wpE_mono Γ e false ρ _ _ (fun d ⟨xs, e1, e2, q⟩ => ⟨xs, e1, e2, h _ q⟩) w
end
end Fy
end
section
/-! FyS7 -/
namespace Fy
open PySem PySem.Spec PyProof.Rows L2
/-! ### the slots and the data -/
/-- an owned list or dict: nobody else reaches it -/
def IsO (K : PySem.W.Frag) (S : Sr) (G H : Hp) (d : D) (a : Addr) : Prop :=
  (∃ ds xs, d = .lst ds ∧ H a = some (.lst xs) ∧ IsL K S G ds xs) ∨ ∃ ks ds kvs, d = .dic ks ds ∧ H a = some (.dK kvs) ∧ kvs.map (·.1) = ks.map Sum.inl ∧ IsL K S G ds (kvs.map (·.2))
structure EnvR (K : PySem.W.Frag) (S : Sr) (O OA : List Addr) (H : Hp) (σ : L2.St) (ρ : Rho) : Prop where
  src : SrcOk S H
  out : S.d ∉ OA ++ O
  outl : S.l ∉ OA ++ O
  there : ∀ a ∈ OA ++ O, H a ≠ none
  chg : ∀ a ∈ OA, (∃ xs, H a = some (.lst xs)) ∨ ∃ kvs, H a = some (.dK kvs)
  apart : ∀ a ∈ OA, a ∉ O
  len : σ.length = ρ.length
  val : ∀ (i : Nat) d, ρ[i]? = some (some (false, d)) → ∃ v, σ[i]? = some (some v) ∧ Is K S (hide (OA ++ O) H) d v
  own : ∀ (i : Nat) d, ρ[i]? = some (some (true, d)) → ∃ a, σ[i]? = some (some (.ref a)) ∧ a ∈ OA ∧ IsO K S (hide (OA ++ O) H) H d a
  sep : ∀ (i j : Nat) d e a, i ≠ j → ρ[i]? = some (some (true, d)) → ρ[j]? = some (some (true, e)) → σ[i]? = some (some (.ref a)) → σ[j]? ≠ some (some (.ref a))
/-- the view: with the owned ones, or without -/
def vw (rv : Bool) (OA O : List Addr) : List Addr := if rv = true then O else OA ++ O
section
variable {K : PySem.W.Frag} {S : Sr} {O OA : List Addr} {H H' : Hp} {σ : L2.St} {ρ : Rho}
theorem EnvR.at (E : EnvR K S O OA H σ ρ) (rv : Bool) : At S (vw rv OA O) H := by
  unfold vw
  cases rv with
  | true => exact ⟨E.src, fun z => E.out (List.mem_append_right _ z), fun z => E.outl (List.mem_append_right _ z), fun a ha => E.there a (List.mem_append_right _ ha)⟩
  | false => exact ⟨E.src, E.out, E.outl, E.there⟩
theorem EnvR.ext (E : EnvR K S O OA H σ ρ) (e : Ext S H H') (s : SrcOk S H') : EnvR K S O OA H' σ ρ := by
  have nS : ∀ a ∈ OA ++ O, a ≠ S := fun a ha z => E.out (z ▸ ha)
  refine ⟨s, E.out, E.outl, fun a ha => ?_, fun a ha => ?_, E.apart, E.len, fun i d h => ?_, fun i d h => ?_, E.sep⟩
  · cases q : H a with
    | none => exact absurd q (E.there a ha)
    | some o => rw [e a o (nS a ha) q]; intro z; cases z
  · rcases E.chg a ha with ⟨xs, h⟩ | ⟨xs, h⟩
    · exact .inl ⟨xs, e _ _ (nS a (List.mem_append_left _ ha)) h⟩
    · exact .inr ⟨xs, e _ _ (nS a (List.mem_append_left _ ha)) h⟩
  · obtain ⟨v, h1, h2⟩ := E.val i d h
    exact ⟨v, h1, Is.mono (e.hide _) d v h2⟩
  · obtain ⟨a, h1, h2, h3⟩ := E.own i d h
    refine ⟨a, h1, h2, ?_⟩
    rcases h3 with ⟨ds, xs, e1, e2, e3⟩ | ⟨ks, ds, kvs, e1, e2, e3, e4⟩
    · exact .inl ⟨ds, xs, e1, e _ _ (nS a (List.mem_append_left _ h2)) e2, IsL.mono (e.hide _) _ _ e3⟩
    · exact .inr ⟨ks, ds, kvs, e1, e _ _ (nS a (List.mem_append_left _ h2)) e2, e3, IsL.mono (e.hide _) _ _ e4⟩
theorem ext_vw {rv : Bool} : Ext S (hide (OA ++ O) H) (hide (vw rv OA O) H) := by
  unfold vw
  cases rv with
  | true => exact Ext.less fun a ha => List.mem_append_right _ ha
  | false => exact Ext.refl
/-- a variable -/
theorem EnvR.var (E : EnvR K S O OA H σ ρ) {rv : Bool} {i : Nat} {o : Bool} {d : D} (h : ρ[i]? = some (some (o, d))) (c : o = true → rv = true) : ∃ v, σ[i]? = some (some v) ∧ Is K S (hide (vw rv OA O) H) d v := by
  cases o with
  | false =>
    obtain ⟨v, h1, h2⟩ := E.val i d h
    exact ⟨v, h1, Is.mono ext_vw d v h2⟩
  | true =>
    obtain ⟨a, h1, h2, h3⟩ := E.own i d h
    have hn : a ∉ vw rv OA O := by rw [c rfl]; exact E.apart a h2
    have nS : a ≠ S := fun z => E.out (List.mem_append_left _ (z ▸ h2))
    refine ⟨.ref a, h1, ?_⟩
    rcases h3 with ⟨ds, xs, rfl, e2, e3⟩ | ⟨ks, ds, kvs, rfl, e2, e3, e4⟩
    · exact is_lst.mpr ⟨a, xs, rfl, nS, by rw [hide_out hn]; exact e2, IsL.mono ext_vw _ _ e3⟩
    · exact is_dic.mpr ⟨a, kvs, rfl, nS, by rw [hide_out hn]; exact e2, e3, IsL.mono ext_vw _ _ e4⟩
mutual
theorem Is.fix (mu : ∀ a ∈ OA, (∃ xs, H a = some (.lst xs)) ∨ ∃ kvs, H a = some (.dK kvs)) : ∀ (d : D) (v : L2.V), d.fixed = true → Is K S (hide O H) d v → Is K S (hide (OA ++ O) H) d v
  | .non, v, _, h => is_non.mpr (is_non.mp h)
  | .bl b, v, _, h => is_bl.mpr (is_bl.mp h)
  | .int i, v, _, h => is_int.mpr (is_int.mp h)
  | .str x, v, _, h => is_str.mpr (is_str.mp h)
  | .tup ds, v, p, h => by
    obtain ⟨a, xs, rfl, t, l⟩ := is_tup.mp h
    refine is_tup.mpr ⟨a, xs, rfl, ?_, IsL.fix mu ds xs p l⟩
    rcases t with ⟨n, o, po, t⟩ | t
    · obtain ⟨h1, h2⟩ := hide_some t
      refine .inl ⟨n, o, po, ?_⟩
      rw [hide_out]
      · exact h2
      · intro z
        rcases List.mem_append.mp z with z | z
        · rcases mu a z with ⟨xs, q⟩ | ⟨xs, q⟩ <;> rw [h2] at q <;> cases q
        · exact h1 z
    · exact .inr t
  | .lst ds, v, p, h => by cases p
  | .raw ds, v, p, h => by cases p
  | .dic _ _, _, p, _ => by cases p
  | .src, v, _, h => is_src.mpr (is_src.mp h)
theorem IsL.fix (mu : ∀ a ∈ OA, (∃ xs, H a = some (.lst xs)) ∨ ∃ kvs, H a = some (.dK kvs)) : ∀ (ds : List D) (xs : List L2.V), fixeds ds = true → IsL K S (hide O H) ds xs → IsL K S (hide (OA ++ O) H) ds xs
  | [], xs, _, h => by unfold IsL at h ⊢; exact h
  | d :: ds, xs, p, h => by
    unfold IsL at h
    obtain ⟨x, r, rfl, h1, h2⟩ := h
    have p : (d.fixed && fixeds ds) = true := p
    rw [Bool.and_eq_true] at p
    exact isL_cons (Is.fix mu d x p.1 h1) (IsL.fix mu ds r p.2 h2)
end
end
/-! ### readings -/
def WitL (K : PySem.W.Frag) (S : Sr) (V : List Addr) (H : Hp) (Q : List L2.V → Hp → Prop) (ds : List D) : Prop := ∀ vs H', Ext S H H' → SrcOk S H' → IsL K S (hide V H') ds vs → Q vs H'
def WitB (S : Sr) (H : Hp) (Q : Bool → Hp → Prop) (b : Bool) : Prop := ∀ H', Ext S H H' → SrcOk S H' → Q b H'
def tD (K : PySem.W.Frag) (Γ : Nat → Spec) (t : E) : TE := fun σ H Q => ∃ S O OA ρ rv, EnvR K S O OA H σ ρ ∧ wpE Γ t rv ρ (Wit K S (vw rv OA O) H Q)
def tDL (K : PySem.W.Frag) (Γ : Nat → Spec) (t : EL) : TA := fun σ H Q => ∃ S O OA ρ rv, EnvR K S O OA H σ ρ ∧ wpL Γ t rv ρ (WitL K S (vw rv OA O) H Q)
def tDB (K : PySem.W.Frag) (Γ : Nat → Spec) (t : E) : TT := fun σ H Q => ∃ S O OA ρ rv, EnvR K S O OA H σ ρ ∧ wpE Γ t rv ρ (boolW (WitB S H Q))
def tDO (K : PySem.W.Frag) (Γ : Nat → Spec) (t : EO) : TO := fun σ H Q => ∃ S O OA ρ rv, EnvR K S O OA H σ ρ ∧ wpO Γ t rv ρ fun o => ∀ H', Ext S H H' → SrcOk S H' → Q o H'
section
variable {K : PySem.W.Frag} {Γ : Nat → Spec} {S : Sr} {O OA : List Addr} {H : Hp} {σ : L2.St} {ρ : Rho} {rv : Bool}
theorem rd1 (E : EnvR K S O OA H σ ρ) {a : Fy.E} {F : D → Prop} {R : L2.V → Hp → Prop} (w : wpE Γ a rv ρ F) (h : ∀ x vx H1, F x → Ext S H H1 → SrcOk S H1 → EnvR K S O OA H1 σ ρ → Is K S (hide (vw rv OA O) H1) x vx → R vx H1) : tD K Γ a σ H R :=
  ⟨S, O, OA, ρ, rv, E, wpE_mono Γ a rv ρ _ _ (fun x fx v H1 e s i => h x v H1 fx e s (E.ext e s) i) w⟩
theorem rdL (E : EnvR K S O OA H σ ρ) {a : EL} {F : List D → Prop} {R : List L2.V → Hp → Prop} (w : wpL Γ a rv ρ F) (h : ∀ x vx H1, F x → Ext S H H1 → SrcOk S H1 → EnvR K S O OA H1 σ ρ → IsL K S (hide (vw rv OA O) H1) x vx → R vx H1) : tDL K Γ a σ H R :=
  ⟨S, O, OA, ρ, rv, E, wpL_mono Γ a rv ρ _ _ (fun x fx v H1 e s i => h x v H1 fx e s (E.ext e s) i) w⟩
theorem rdB (E : EnvR K S O OA H σ ρ) {a : Fy.E} {F : Bool → Prop} {R : Bool → Hp → Prop} (w : wpE Γ a rv ρ (boolW F)) (h : ∀ b H1, F b → Ext S H H1 → SrcOk S H1 → EnvR K S O OA H1 σ ρ → R b H1) : tDB K Γ a σ H R :=
  ⟨S, O, OA, ρ, rv, E, wpE_mono Γ a rv ρ _ _ (fun x => boolW_mono fun b fb H1 e s => h b H1 fb e s (E.ext e s)) w⟩
theorem rdO (E : EnvR K S O OA H σ ρ) {a : EO} {F : Option Int → Prop} {R : Option Int → Hp → Prop} (w : wpO Γ a rv ρ F) (h : ∀ b H1, F b → Ext S H H1 → SrcOk S H1 → EnvR K S O OA H1 σ ρ → R b H1) : tDO K Γ a σ H R :=
  ⟨S, O, OA, ρ, rv, E, wpO_mono Γ a rv ρ _ _ (fun b fb H1 e s => h b H1 fb e s (E.ext e s)) w⟩
/-- two in a row -/
theorem rd2 (E : EnvR K S O OA H σ ρ) {a b : Fy.E} {F : D → D → Prop} {R : L2.V → L2.V → Hp → Prop} (w : wpE Γ a rv ρ fun x => wpE Γ b rv ρ (F x))
    (h : ∀ x y vx vy H2, F x y → Ext S H H2 → SrcOk S H2 → EnvR K S O OA H2 σ ρ → Is K S (hide (vw rv OA O) H2) x vx → Is K S (hide (vw rv OA O) H2) y vy → R vx vy H2) : tD K Γ a σ H fun vx H1 => tD K Γ b σ H1 fun vy H2 => R vx vy H2 :=
  rd1 E w fun x vx H1 wx e1 s1 E1 ix => rd1 E1 wx fun y vy H2 fy e2 s2 E2 iy => h x y vx vy H2 fy (e1.trans e2) s2 E2 (Is.mono (e2.hide _) x vx ix) iy
end
/-! ### the context -/
/-- what a def promises: by data -/
def spOf (K : PySem.W.Frag) (G : Spec) : Sp := fun vs H Q _ => ∃ S V ds R, At S V H ∧ IsL K S (hide V H) ds vs ∧ G ds R ∧ ∀ d, R d → Wit K S V H Q d
def bltNames : List Str := ["isinstance", "int", "bool", "str", "tuple", "len", "all", "zip", "list", "enumerate", "dict", "sorted", "range", "set"]
structure Bs (Γ : Nat → Spec) (fnm : List Str) (lv : Nat) (X : Cx) : Prop where
  calm : X.calm = true
  room : Room lv X.A
  nd : X.N.Nodup
  fns : ∀ (f : Nat) (x : Str), fnm[f]? = some x → ∃ a, X.mg x = some (.ref a) ∧ PySem.W.keepIn X.K (.ref a) = true ∧ FnR X.prog X.w X.K X.mg X.base CX0 lv a (spOf X.K (Γ f))
  free : ∀ x ∈ bltNames, X.mg x = none
  cons : ∀ (n : Nat) (p : Str × D), gcs[n]? = some p → ∃ u v, X.mg p.1 = some u ∧ RelV v u ∧ ∀ S G, Is X.K S G p.2 v
  words : ∃ d es n, X.mg "WORDS_AT" = some (.ref d) ∧ KDict X.K X.w d es n ∧ ∀ z ws, wordsD z = some ws → ∃ a, PySem.W.nsIn X.K d z = some (some (.ref a)) ∧ KTup X.K a (ws.map L2.V.str)
theorem Bs.hu {Γ : Nat → Spec} {fnm : List Str} {lv : Nat} {X : Cx} (B : Bs Γ fnm lv X) : X.A.units + 65 < cLine := by have := B.room.un; omega
theorem Bs.blk {Γ : Nat → Spec} {fnm : List Str} {lv : Nat} {X : Cx} (B : Bs Γ fnm lv X) (s : Shared) (H : Hp) (sc : Scope) (ce : Env) (fp : List Addr) : Bs Γ fnm lv (X.blk s H sc ce fp) :=
  ⟨B.calm, B.room, B.nd, B.fns, B.free, B.cons, B.words⟩
theorem okN_d {x : Str} (h : okN x = true) : (x == ("__debug__" : Str)) = false := bn (b2 (b2 h).1).1
theorem okN_c {x : Str} (h : okN x = true) : (x == ("__classdict__" : Str)) = false := bn (b2 (b2 h).1).2
theorem okN_n {x : Str} (h : okN x = true) : x ≠ ("__name__" : Str) := fun e => by
  have := bn (b2 h).2
  rw [e] at this
  simp at this
theorem vis_of {sc : Scope} {x : Str} (h : visB sc x = true) : Vis sc x := by
  unfold visB at h
  unfold Vis
  split at h
  · exact .inl ‹_›
  · exact .inr (.inl ‹_›)
  · exact .inr (.inr ‹_›)
  · cases h
theorem gl_of {X : Cx} {sc : Scope} {x : Str} (es : X.env.scope = sc) (h : glB sc x = true) : Gl X x ∧ okN x = true := by
  obtain ⟨h1, h2⟩ := b2 h
  refine ⟨?_, h1⟩
  show X.env.scope.names.lookup x = some .globalImplicit
  rw [es]
  split at h2
  · assumption
  · cases h2
theorem star_ne {e : Expr} {es : List Expr} {env : Env} (h : nStar e = true) : starEach (e :: es) env = (false, eval e env) :: starEach es env := by
  cases e <;> first | rfl | cases h
theorem plainIx {y : Expr} (h : nSlice y = true) : PlainIx y := by
  intro o i
  cases y <;> first | rfl | cases h
end Fy
end
section
/-! FyS8 -/
namespace Fy
open PySem PySem.Spec PyProof.Rows L2
section
variable {X : Cx} {Γ : Nat → Spec} {fnm : List Str} {lv : Nat}
theorem pd_var {x : Str} {p : Pos} {i : Nat} (hN : X.N[i]? = some x) (hv : Vis X.env.scope x) (hx : okN x = true) : PE X (.Name x p) (tD X.K Γ (.var i)) :=
  ⟨fun pins s σ H Q I ⟨S, O, OA, ρ, rv, E, o, d, e, c, q⟩ => by
    obtain ⟨v, e1, i1⟩ := E.var e c
    exact (pe_var hN hv (okN_d hx) (okN_c hx)).run pins s σ H Q I ⟨v, e1, q v H Ext.refl E.src i1⟩⟩
theorem pd_cst {c : D} {k : Const} {j : Nat} {p : Pos} (h : (∃ i, c = .int i ∧ k = .int i) ∨ (∃ x, c = .str x ∧ k = .str x) ∨ (∃ b, c = .bl b ∧ k = .bool b) ∨ (c = .non ∧ k = .none)) : PE X (.Constant k j p) (tD X.K Γ (.cst c)) :=
  ⟨fun pins s σ H Q I ⟨S, O, OA, ρ, rv, E, q⟩ => by
    have q : Wit X.K S (vw rv OA O) H Q c := q
    rcases h with ⟨i, rfl, rfl⟩ | ⟨i, rfl, rfl⟩ | ⟨i, rfl, rfl⟩ | ⟨rfl, rfl⟩
    · exact pe_int.run pins s σ H Q I (q.here (E.at rv) (is_int.mpr rfl))
    · exact pe_str.run pins s σ H Q I (q.here (E.at rv) (is_str.mpr rfl))
    · exact pe_bl.run pins s σ H Q I (q.here (E.at rv) (is_bl.mpr rfl))
    · exact pe_non.run pins s σ H Q I (q.here (E.at rv) (is_non.mpr rfl))⟩
theorem pd_gl (B : Bs Γ fnm lv X) {x : Str} {p : Pos} {n : Nat} {q : Str × D} (hg : Gl X x) (hx : okN x = true) (e : gcs[n]? = some q) (ex : q.1 = x) : PE X (.Name x p) (tD X.K Γ (.gl n)) :=
  ⟨fun pins s σ H Q I ⟨S, O, OA, ρ, rv, E, p', e', w⟩ => by
    rw [e] at e'; cases e'
    obtain ⟨u, v, h1, h2, h3⟩ := B.cons n q e
    have w : Wit X.K S (vw rv OA O) H Q q.2 := w
    exact (pe_glob hg (by rw [← ex]; exact h1) h2 (okN_d hx)).run pins s σ H Q I (w.here (E.at rv) (h3 _ _))⟩
theorem pd_neg {e : Expr} {p : Pos} {a : E} (ha : PE X e (tD X.K Γ a)) : PE X (.UnaryOp .USub e p) (tD X.K Γ (.neg a)) :=
  ⟨fun pins s σ H Q I ⟨S, O, OA, ρ, rv, E, w⟩ => (pe_un un_neg ha).run pins s σ H Q I (rd1 E w fun x vx H1 ⟨i, e, q⟩ e1 s1 E1 ix => by
    subst e
    obtain rfl := is_int.mp ix
    exact ⟨i, rfl, (Wit.ext q e1).here (E1.at rv) (is_int.mpr rfl)⟩)⟩
theorem pd_add {l r : Expr} {p : Pos} {a b : E} (ha : PE X l (tD X.K Γ a)) (hb : PE X r (tD X.K Γ b)) : PE X (.BinOp l .Add r p) (tD X.K Γ (.add a b)) :=
  ⟨fun pins s σ H Q I ⟨S, O, OA, ρ, rv, E, w⟩ => (pe_op orAdd ha hb).run pins s σ H Q I (rd2 E w fun x y vx vy H2 f e2 s2 E2 ix iy => ⟨S, vw rv OA O, x, y, E2.at rv, ix, iy, addW_mono (fun d q => Wit.ext q e2) f⟩)⟩
theorem pd_sub {l r : Expr} {p : Pos} {a b : E} (ha : PE X l (tD X.K Γ a)) (hb : PE X r (tD X.K Γ b)) : PE X (.BinOp l .Sub r p) (tD X.K Γ (.sub a b)) :=
  ⟨fun pins s σ H Q I ⟨S, O, OA, ρ, rv, E, w⟩ => (pe_op orSub ha hb).run pins s σ H Q I (rd2 E w fun x y vx vy H2 f e2 s2 E2 ix iy => ⟨S, vw rv OA O, x, y, E2.at rv, ix, iy, subW_mono (fun d q => Wit.ext q e2) f⟩)⟩
theorem pd_mul {l r : Expr} {p : Pos} {a b : E} (ha : PE X l (tD X.K Γ a)) (hb : PE X r (tD X.K Γ b)) : PE X (.BinOp l .Mult r p) (tD X.K Γ (.mul a b)) :=
  ⟨fun pins s σ H Q I ⟨S, O, OA, ρ, rv, E, w⟩ => (pe_op orMul ha hb).run pins s σ H Q I (rd2 E w fun x y vx vy H2 f e2 s2 E2 ix iy => ⟨S, vw rv OA O, x, y, E2.at rv, ix, iy, mulW_mono (fun d q => Wit.ext q e2) f⟩)⟩
theorem rC_of {K : PySem.W.Frag} {S : Sr} {O OA : List Addr} {H : Hp} {σ : L2.St} {ρ : Rho} {rv : Bool} (E : EnvR K S O OA H σ ρ) {o : Op} {x y : D} {vx vy : L2.V} {Q : VK} {P : Bool → Prop} (ix : Is K S (hide (vw rv OA O) H) x vx) (iy : Is K S (hide (vw rv OA O) H) y vy)
    (w : cmpW o x y P) (h : ∀ c, P c → Wit K S (vw rv OA O) H Q (.bl c)) : rC K o vx vy H Q := ⟨S, vw rv OA O, x, y, E.at rv, ix, iy, cmpW_mono h w⟩
theorem pd_cmp (B : Bs Γ fnm lv X) {l r : Expr} {op : CmpOp} {p : Pos} {a b : E} {o : Op} (ho : opIs o op = true) (hm : behindInMarks op r = false) (ha : PE X l (tD X.K Γ a)) (hb : PE X r (tD X.K Γ b)) : PE X (.Compare l [op] [r] p) (tD X.K Γ (.cmp o a b)) :=
  ⟨fun pins s σ H Q I ⟨S, O, OA, ρ, rv, E, w⟩ => (pe_cmpR (orCmp B.hu ho) ha hb hm).run pins s σ H Q I (rd2 E w fun x y vx vy H2 f e2 s2 E2 ix iy => rC_of E2 ix iy f fun c q => Wit.ext q e2)⟩
theorem pt_of_bl {K : PySem.W.Frag} {S : Sr} {V : List Addr} {H : Hp} {Q : Bool → Hp → Prop} {c : Bool} (q : boolW (WitB S H Q) (.bl c)) : Wit K S V H (fun x H' => ∃ k, x = .bl k ∧ Q k H') (.bl c) := fun v H' e s i => by
  obtain ⟨b, e1, q⟩ := q
  cases e1
  exact ⟨c, is_bl.mp i, q H' e s⟩
theorem pt_cmpD (B : Bs Γ fnm lv X) {l r : Expr} {op : CmpOp} {p : Pos} {a b : E} {o : Op} (ho : opIs o op = true) (hm : behindInMarks op r = false) (ha : PE X l (tD X.K Γ a)) (hb : PE X r (tD X.K Γ b)) : PT X (.Compare l [op] [r] p) (tDB X.K Γ (.cmp o a b)) :=
  ⟨fun pins s σ H Q I ⟨S, O, OA, ρ, rv, E, w⟩ => (pt_cmpR (orCmp B.hu ho) ha hb hm).run pins s σ H Q I (rd2 E w fun x y vx vy H2 f e2 s2 E2 ix iy => rC_of E2 ix iy f fun c q => Wit.ext (pt_of_bl q) e2)⟩
theorem pd_chn (B : Bs Γ fnm lv X) {l m r : Expr} {op op' : CmpOp} {p : Pos} {a b c : E} {o o' : Op} (ho : opIs o op = true) (ho' : opIs o' op' = true) (hm : lastMarks [op, op'] [m, r] = false) (ha : PE X l (tD X.K Γ a)) (hb : PE X m (tD X.K Γ b)) (hc : PE X r (tD X.K Γ c)) :
    PE X (.Compare l [op, op'] [m, r] p) (tD X.K Γ (.chn o o' a b c)) :=
  ⟨fun pins s σ H Q I ⟨S, O, OA, ρ, rv, E, w⟩ => (pe_chain (orCmp B.hu ho) (orCmp B.hu ho') ha hb hc hm).run pins s σ H Q I (rd2 E w fun x y vx vy H2 f e2 s2 E2 ix iy => rC_of E2 ix iy f fun k q v H3 e3 s3 i3 => by
    refine ⟨k, is_bl.mp i3, ?_⟩
    cases k with
    | true =>
      rw [if_pos rfl] at q ⊢
      exact rd1 (E2.ext e3 s3) q fun z vz H4 f4 e4 s4 E4 iz => rC_of E4 (Is.mono (e4.hide _) _ _ (Is.mono (e3.hide _) _ _ iy)) iz f4 fun c q => Wit.ext q ((e2.trans e3).trans e4)
    | false =>
      rw [if_neg Bool.false_ne_true] at q ⊢
      exact (Wit.ext q (e2.trans e3)).here ((E2.ext e3 s3).at rv) (is_bl.mpr rfl))⟩
theorem bw2 {S : Sr} {H H1 : Hp} {Q : Bool → Hp → Prop} {c : Bool} (q : boolW (WitB S H Q) (.bl c)) (e : Ext S H H1) (s : SrcOk S H1) : Q c H1 := by
  obtain ⟨b, e', q⟩ := q
  cases e'
  exact q H1 e s
theorem pt_chnD (B : Bs Γ fnm lv X) {l m r : Expr} {op op' : CmpOp} {p : Pos} {a b c : E} {o o' : Op} (ho : opIs o op = true) (ho' : opIs o' op' = true) (hm : lastMarks [op, op'] [m, r] = false) (ha : PE X l (tD X.K Γ a)) (hb : PE X m (tD X.K Γ b)) (hc : PE X r (tD X.K Γ c)) :
    PT X (.Compare l [op, op'] [m, r] p) (tDB X.K Γ (.chn o o' a b c)) :=
  ⟨fun pins s σ H Q I ⟨S, O, OA, ρ, rv, E, w⟩ => (pt_chain (orCmp B.hu ho) (orCmp B.hu ho') ha hb hc hm).run pins s σ H Q I (rd2 E w fun x y vx vy H2 f e2 s2 E2 ix iy => rC_of E2 ix iy f fun k q v H3 e3 s3 i3 => by
    refine ⟨k, is_bl.mp i3, ?_⟩
    cases k with
    | true =>
      rw [if_pos rfl] at q ⊢
      exact rd1 (E2.ext e3 s3) q fun z vz H4 f4 e4 s4 E4 iz => rC_of E4 (Is.mono (e4.hide _) _ _ (Is.mono (e3.hide _) _ _ iy)) iz f4 fun c q => Wit.ext (pt_of_bl q) ((e2.trans e3).trans e4)
    | false =>
      rw [if_neg Bool.false_ne_true] at q ⊢
      exact ⟨false, rfl, bw2 q (e2.trans e3) s3⟩)⟩
/-! ### truth -/
theorem rdBl {K : PySem.W.Frag} {S : Sr} {O OA : List Addr} {H : Hp} {σ : L2.St} {ρ : Rho} {rv : Bool} (E : EnvR K S O OA H σ ρ) {a : Fy.E} {F : Bool → Prop} {R : Bool → Hp → Prop} (w : wpE Γ a rv ρ (boolW F)) (h : ∀ b H1, F b → Ext S H H1 → SrcOk S H1 → EnvR K S O OA H1 σ ρ → R b H1) : tD K Γ a σ H fun x H1 => ∃ c, x = .bl c ∧ R c H1 :=
  rd1 E w fun x vx H1 ⟨b, eb, f⟩ e s E1 i => by
    subst eb
    exact ⟨b, is_bl.mp i, h b H1 f e s E1⟩
theorem pd_nt {e : Expr} {p : Pos} {a : E} (ha : PE X e (tD X.K Γ a)) : PE X (.UnaryOp .Not e p) (tD X.K Γ (.nt a)) :=
  ⟨fun pins s σ H Q I ⟨S, O, OA, ρ, rv, E, w⟩ => (pe_not ha).run pins s σ H Q I (rdBl E w fun b H1 q e1 s1 E1 => (Wit.ext q e1).here (E1.at rv) (is_bl.mpr rfl))⟩
theorem pt_ntD {e : Expr} {p : Pos} {a : E} (ha : PT X e (tDB X.K Γ a)) : PT X (.UnaryOp .Not e p) (tDB X.K Γ (.nt a)) :=
  ⟨fun pins s σ H Q I ⟨S, O, OA, ρ, rv, E, w⟩ => (pt_not ha).run pins s σ H Q I (rdB E w fun b H1 ⟨b', e', q⟩ e1 s1 E1 => by cases e'; exact q H1 e1 s1)⟩
theorem ite_bl {b : Bool} {A A' : Prop} {C C' : Prop} (h1 : b = true → A → A') (h2 : b = false → C → C') (w : if b = true then A else C) : if b = true then A' else C' := by
  cases b with
  | true => rw [if_pos rfl] at w ⊢; exact h1 rfl w
  | false => rw [if_neg Bool.false_ne_true] at w ⊢; exact h2 rfl w
theorem pd_and {x y : Expr} {r : List Expr} {p : Pos} {a b : E} (ha : PE X x (tD X.K Γ a)) (hb : PE X (.BoolOp .And (y :: r) p) (tD X.K Γ b)) : PE X (.BoolOp .And (x :: y :: r) p) (tD X.K Γ (.and a b)) :=
  ⟨fun pins s σ H Q I ⟨S, O, OA, ρ, rv, E, w⟩ => (pe_and ha hb).run pins s σ H Q I (rdBl E w fun k H1 q e1 s1 E1 => ite_bl (fun _ q => rd1 E1 q fun z vz H2 ⟨b', eb, q2⟩ e2 s2 E2 i2 => by subst eb; exact (Wit.ext q2 (e1.trans e2)).here (E2.at rv) i2) (fun _ q => (Wit.ext q e1).here (E1.at rv) (is_bl.mpr rfl)) q)⟩
theorem pd_or {x y : Expr} {r : List Expr} {p : Pos} {a b : E} (ha : PE X x (tD X.K Γ a)) (hb : PE X (.BoolOp .Or (y :: r) p) (tD X.K Γ b)) : PE X (.BoolOp .Or (x :: y :: r) p) (tD X.K Γ (.or a b)) :=
  ⟨fun pins s σ H Q I ⟨S, O, OA, ρ, rv, E, w⟩ => (pe_or ha hb).run pins s σ H Q I (rdBl E w fun k H1 q e1 s1 E1 => ite_bl (fun _ q => (Wit.ext q e1).here (E1.at rv) (is_bl.mpr rfl)) (fun _ q => rd1 E1 q fun z vz H2 ⟨b', eb, q2⟩ e2 s2 E2 i2 => by subst eb; exact (Wit.ext q2 (e1.trans e2)).here (E2.at rv) i2) q)⟩
theorem pw_andD {x y : Expr} {r : List Expr} {p : Pos} {a b : E} (ha : PT X x (tDB X.K Γ a)) (hb : PW X (.BoolOp .And (y :: r) p) (tDB X.K Γ b)) : PW X (.BoolOp .And (x :: y :: r) p) (tDB X.K Γ (.and a b)) :=
  ⟨fun wh pins s σ H Q I ⟨S, O, OA, ρ, rv, E, w⟩ => (pw_and ha hb).run wh pins s σ H Q I (rdB E w fun k H1 q e1 s1 E1 => ite_bl (fun _ q => rdB E1 q fun b H2 q2 e2 s2 E2 => bw2 q2 (e1.trans e2) s2) (fun _ q => bw2 q e1 s1) q)⟩
theorem pw_orD {x y : Expr} {r : List Expr} {p : Pos} {a b : E} (ha : PT X x (tDB X.K Γ a)) (hb : PW X (.BoolOp .Or (y :: r) p) (tDB X.K Γ b)) : PW X (.BoolOp .Or (x :: y :: r) p) (tDB X.K Γ (.or a b)) :=
  ⟨fun wh pins s σ H Q I ⟨S, O, OA, ρ, rv, E, w⟩ => (pw_or ha hb).run wh pins s σ H Q I (rdB E w fun k H1 q e1 s1 E1 => ite_bl (fun _ q => bw2 q e1 s1) (fun _ q => rdB E1 q fun b H2 q2 e2 s2 E2 => bw2 q2 (e1.trans e2) s2) q)⟩
/-- a plain expression as a test -/
theorem pt_plain {e : Expr} {a : E} (ha : PE X e (tD X.K Γ a)) (he : ∀ whole, isTrue e X.env whole = (do let v ← whole; standAt e.pos; holding [v] (truthy v))) : PT X e (tDB X.K Γ a) :=
  ⟨fun pins s σ H Q I ⟨S, O, OA, ρ, rv, E, w⟩ => (pt_val ha he).run pins s σ H Q I (rdBl E w fun b H1 q e1 s1 E1 => q H1 e1 s1)⟩
theorem pd_ife {c' a' b' : Expr} {p : Pos} {c a b : E} (hc : PT X c' (tDB X.K Γ c)) (ha : PE X a' (tD X.K Γ a)) (hb : PE X b' (tD X.K Γ b)) : PE X (.IfExp c' a' b' p) (tD X.K Γ (.ife c a b)) :=
  ⟨fun pins s σ H Q I ⟨S, O, OA, ρ, rv, E, w⟩ => (pe_ifExp hc ha hb).run pins s σ H Q I (rdB E w fun k H1 q e1 s1 E1 => ite_bl (fun _ q => rd1 E1 q fun z vz H2 q2 e2 s2 E2 i2 => (Wit.ext q2 (e1.trans e2)).here (E2.at rv) i2) (fun _ q => rd1 E1 q fun z vz H2 q2 e2 s2 E2 i2 => (Wit.ext q2 (e1.trans e2)).here (E2.at rv) i2) q)⟩
/-! ### displays, argument lists -/
theorem pl_nil : PA X [] (tDL X.K Γ .nil) := ⟨fun pos pins s σ H Q I ⟨S, O, OA, ρ, rv, E, w⟩ => pa_nil.run pos pins s σ H Q I (w [] H Ext.refl E.src isL_nil)⟩
theorem pl_cons {e : Expr} {es : List Expr} {a : E} {r : EL} (hn : nStar e = true) (ha : PE X e (tD X.K Γ a)) (hr : PA X es (tDL X.K Γ r)) : PA X (e :: es) (tDL X.K Γ (.cons a r)) :=
  ⟨fun pos pins s σ H Q I ⟨S, O, OA, ρ, rv, E, w⟩ => (pa_cons ha hr (star_ne hn)).run pos pins s σ H Q I (rd1 E w fun x vx H1 w1 e1 s1 E1 ix => rdL E1 w1 fun ys vys H2 q e2 s2 E2 iy => q _ H2 (e1.trans e2) s2 (isL_cons (Is.mono (e2.hide _) _ _ ix) iy))⟩
theorem items_is {K : PySem.W.Frag} {S : Sr} {V : List Addr} {H : Hp} {d : D} {xs : List D} {v : L2.V} (e : itemsD d = some xs) (i : Is K S (hide V H) d v) : ∃ p ys, v = .ref p ∧ (SqT K H p ys ∨ SqL K H p ys) ∧ IsL K S (hide V H) xs ys := by
  cases d with
  | tup ds =>
    cases e
    obtain ⟨p, ys, rfl, t, l⟩ := is_tup.mp i
    exact ⟨p, ys, rfl, .inl t.sq, l⟩
  | lst ds =>
    cases e
    obtain ⟨p, ys, rfl, n, t, l⟩ := is_lst.mp i
    exact ⟨p, ys, rfl, .inr (.inl (.inl (hide_some t).2)), l⟩
  | raw ds =>
    cases e
    obtain ⟨p, ys, rfl, n, t, l⟩ := is_raw.mp i
    exact ⟨p, ys, rfl, .inl (.inl (.inl (hide_some t).2)), l⟩
  | _ => cases e
theorem pl_star {e : Expr} {es : List Expr} {p : Pos} {a : E} {r : EL} (ha : PE X e (tD X.K Γ a)) (hr : PA X es (tDL X.K Γ r)) : PA X (.Starred e p :: es) (tDL X.K Γ (.star a r)) :=
  ⟨fun pos pins s σ H Q I ⟨S, O, OA, ρ, rv, E, w⟩ => (StX.pa_star ha hr).run pos pins s σ H Q I (rd1 E w fun x vx H1 ⟨xs, ex, w1⟩ e1 s1 E1 ix => by
    obtain ⟨q, ys, rfl, t, l⟩ := items_is ex ix
    exact ⟨q, ys, rfl, t, rdL E1 w1 fun zs vzs H2 q e2 s2 E2 iy => q _ H2 (e1.trans e2) s2 ((IsL.mono (e2.hide _) _ _ l).app iy)⟩)⟩
theorem pd_tup {es : List Expr} {k : Nat} {p : Pos} {a : EL} (ha : PA X es (tDL X.K Γ a)) : PE X (.Tuple es k p) (tD X.K Γ (.tup a)) :=
  ⟨fun pins s σ H Q I ⟨S, O, OA, ρ, rv, E, w⟩ => (pe_tupF ha).run pins s σ H Q I (rdL E w fun ds vs H1 q e1 s1 E1 l => ⟨by rw [l.len]; exact q.1, (Wit.ext q.2 e1).newT (E1.at rv) l⟩)⟩
theorem pd_lst {es : List Expr} {p : Pos} {a : EL} (ha : PA X es (tDL X.K Γ a)) : PE X (.List es p) (tD X.K Γ (.lst a)) :=
  ⟨fun pins s σ H Q I ⟨S, O, OA, ρ, rv, E, w⟩ => (pe_lst ha).run pins s σ H Q I (rdL E w fun ds vs H1 q e1 s1 E1 l => ⟨by rw [l.len]; exact q.1, fun p hp => (Wit.ext q.2 e1).newL (E1.at rv) hp l⟩)⟩
/-! ### subscripts, slices -/
theorem pd_ix (B : Bs Γ fnm lv X) {l r : Expr} {p : Pos} {a b : E} (hs : nSlice r = true) (ha : PE X l (tD X.K Γ a)) (hb : PE X r (tD X.K Γ b)) : PE X (.Subscript l r p) (tD X.K Γ (.ix a b)) :=
  ⟨fun pins s σ H Q I ⟨S, O, OA, ρ, rv, E, w⟩ => (pe_ix (ixAny B.hu) ha hb (plainIx hs)).run pins s σ H Q I (rd2 E w fun x y vx vy H2 f e2 s2 E2 ix iy => ⟨S, vw rv OA O, x, y, E2.at rv, ix, iy, ixW_mono (fun d q => Wit.ext q e2) f⟩)⟩
theorem po_no : PO X none (tDO X.K Γ .no) := ⟨fun pins s σ H Q I ⟨S, O, OA, ρ, rv, E, w⟩ => po_none.run pins s σ H Q I (w H Ext.refl E.src)⟩
theorem po_so {e : Expr} {a : E} (ha : PE X e (tD X.K Γ a)) : PO X (some e) (tDO X.K Γ (.so a)) :=
  ⟨fun pins s σ H Q I ⟨S, O, OA, ρ, rv, E, w⟩ => (po_some ha).run pins s σ H Q I (rd1 E w fun x vx H1 ⟨i, ei, q⟩ e1 s1 E1 ix => by
    subst ei
    exact ⟨i, is_int.mp ix, q H1 e1 s1⟩)⟩
theorem pd_sl {l : Expr} {lo hi : Option Expr} {p p2 : Pos} {a : E} {b c : EO} (ha : PE X l (tD X.K Γ a)) (hb : PO X lo (tDO X.K Γ b)) (hc : PO X hi (tDO X.K Γ c)) : PE X (.Subscript l (.Slice lo hi none p2) p) (tD X.K Γ (.sl a b c)) :=
  ⟨fun pins s σ H Q I ⟨S, O, OA, ρ, rv, E, w⟩ => (pe_slice slAny ha hb hc).run pins s σ H Q I (rd1 E w fun x vx H1 w1 e1 s1 E1 ix => rdO E1 w1 fun o H2 w2 e2 s2 E2 => rdO E2 w2 fun o' H3 w3 e3 s3 E3 =>
    ⟨S, vw rv OA O, x, E3.at rv, Is.mono (e3.hide _) _ _ (Is.mono (e2.hide _) _ _ ix), slW_mono (fun d q => Wit.ext q ((e1.trans e2).trans e3)) w3⟩)⟩
/-! ### calls -/
theorem pd_callP (B : Bs Γ fnm lv X) {x : Str} {f : Nat} {p pos : Pos} {e : Expr} {es : List Expr} {a : EL} (hf : fnm[f]? = some x) (hg : Gl X x) (hx : okN x = true) (hn : nStar e = true) (ha : PA X (e :: es) (tDL X.K Γ a)) : PE X (.Call (.Name x p) (e :: es) [] pos) (tD X.K Γ (.call f a)) := by
  obtain ⟨g, hm, hk, F⟩ := B.fns f x hf
  have rd : ∀ (σ : L2.St) (H : Hp) (Q : VK), tD X.K Γ (.call f a) σ H Q → tDL X.K Γ a σ H fun vs H1 => spOf X.K (Γ f) vs H1 Q E0 := fun σ H Q ⟨S, O, OA, ρ, rv, E, w⟩ => rdL E w fun ds vs H1 ⟨R, g1, q⟩ e1 s1 E1 l =>
    ⟨S, vw rv OA O, ds, R, E1.at rv, l, g1, fun d r => Wit.ext (q d r) e1⟩
  cases hst : (backTo pos (starEach es X.env)).any (·.1) with
  | true => exact ⟨fun pins s σ H Q I h => (StX.pe_callS2 F B.room hk hg hm pass0 ha (okN_d hx) (star_ne hn) hst).run pins s σ H Q I (rd σ H Q h)⟩
  | false =>
    refine ⟨fun pins s σ H Q I h => ?_⟩
    refine wpAny_Call_Name_kw (ld_glob I hg hm ?_ (okN_d hx))
    exact PySem.W.callWith_K (h₀ := X.base) I.ok.mod.kin hk (thn (ha.run pos pins s σ H _ I (rd σ H Q h)) fun us s1 ⟨vs, H1, I1, r, q⟩ => ⟨I1.kIn, wpAny_call (run_fnR F B.room pass0 I1 r q)⟩) (star_ne hn) hst
theorem args1 {e : Expr} {a : E} (hn : nStar e = true) (ha : PE X e (tD X.K Γ a)) : PA X [e] (tCons (tD X.K Γ a) tNil) := pa_cons ha pa_nil (star_ne hn)
theorem rdBlt {K : PySem.W.Frag} {σ : L2.St} {H : Hp} {Q : VK} {b : Blt} {a : E} (h : tD K Γ (.blt b a) σ H Q) : tCB (rBl K b) (tCons (tD K Γ a) tNil) σ H Q := by
  obtain ⟨S, O, OA, ρ, rv, E, w⟩ := h
  exact rd1 E w fun x vx H1 w1 e1 s1 E1 ix => ⟨S, vw rv OA O, x, vx, rfl, E1.at rv, ix, bltW_mono (fun d q => Wit.ext q e1) w1⟩
theorem pd_blt (B : Bs Γ fnm lv X) {x : Str} {b : Blt} {p pos : Pos} {e : Expr} {a : E} (hb : bltN b = x) (nb : b ≠ .sset) (hg : Gl X x) (hx : okN x = true) (hn : nStar e = true) (ha : PE X e (tD X.K Γ a)) : PE X (.Call (.Name x p) [e] [] pos) (tD X.K Γ (.blt b a)) := by
  have A := args1 hn ha
  have nn := okN_n hx
  have nd := okN_d hx
  refine ⟨fun pins s σ H Q I h => ?_⟩
  have h := rdBlt h
  subst hb
  cases b with
  | len => exact (pe_callB crLen hg (B.free _ (by decide +kernel)) boot_len A nn nd (star_ne hn) rfl).run pins s σ H Q I h
  | all => exact (pe_callB (crAll B.calm) hg (B.free _ (by decide +kernel)) boot_all A nn nd (star_ne hn) rfl).run pins s σ H Q I h
  | sorted => exact (pe_callB (crSorted B.hu) hg (B.free _ (by decide +kernel)) boot_sorted A nn nd (star_ne hn) rfl).run pins s σ H Q I h
  | tuple => exact (pe_callTy crTuple hg (B.free _ (by decide +kernel)) boot_tuple A nn nd (star_ne hn) rfl).run pins s σ H Q I h
  | list => exact (pe_callTy (crList B.calm) hg (B.free _ (by decide +kernel)) boot_list A nn nd (star_ne hn) rfl).run pins s σ H Q I h
  | dict => exact (pe_callTy (crDict B.calm) hg (B.free _ (by decide +kernel)) boot_dict A nn nd (star_ne hn) rfl).run pins s σ H Q I h
  | sset => exact absurd rfl nb
  | int => exact (pe_callTy crInt hg (B.free _ (by decide +kernel)) boot_int A nn nd (star_ne hn) rfl).run pins s σ H Q I h
theorem boot_ty {t : String} {z : Str} (h : (t, z) ∈ tyN) : bootBuiltins z = some (.type t) ∧ t ∈ tyNs ∧ z ∈ bltNames := by
  simp only [tyN, List.mem_cons, List.not_mem_nil, or_false, Prod.mk.injEq] at h
  rcases h with ⟨rfl, rfl⟩ | ⟨rfl, rfl⟩ | ⟨rfl, rfl⟩ | ⟨rfl, rfl⟩
  · exact ⟨boot_int, by decide, by decide +kernel⟩
  · exact ⟨boot_bool, by decide, by decide +kernel⟩
  · exact ⟨boot_str, by decide, by decide +kernel⟩
  · exact ⟨boot_tuple, by decide, by decide +kernel⟩
theorem pd_isi (B : Bs Γ fnm lv X) {x z : Str} {t : String} {p p3 pos : Pos} {e : Expr} {a : E} (ex : ("isinstance" : Str) = x) (hg : Gl X x) (hx : okN x = true) (hg2 : Gl X z) (hz : okN z = true) (ht : (t, z) ∈ tyN) (hn : nStar e = true) (ha : PE X e (tD X.K Γ a)) :
    PE X (.Call (.Name x p) [e, .Name z p3] [] pos) (tD X.K Γ (.isi a t)) := by
  obtain ⟨h1, h2, h3⟩ := boot_ty ht
  subst ex
  refine ⟨fun pins s σ H Q I ⟨S, O, OA, ρ, rv, E, w⟩ => ?_⟩
  exact (pe_callB (crIsi h2) hg (B.free _ (by decide +kernel)) boot_isinstance (pa_cons ha (pa_cons (pe_bltn hg2 (B.free _ h3) h1 (v := .ty t) rfl (okN_n hz) (okN_d hz)) pa_nil (star_ne rfl)) (star_ne hn)) (okN_n hx) (okN_d hx) (star_ne hn) rfl).run pins s σ H Q I
    (rd1 E w fun y vy H1 q e1 s1 E1 iy => ⟨S, vw rv OA O, y, vy, rfl, E1.at rv, iy, q.1, Wit.ext q.2 e1⟩)
theorem plainIn {pins : List (Addr × Obj)} {σ : L2.St} {H : Hp} {s : Shared} {S : Sr} {V : List Addr} {p : Addr} {xs : List L2.V} (I : Inv X pins σ H s) (t : STup X.K S (hide V H) p xs) :
    s.TypeIs (.ref p) "tuple" ∧ ∀ a, Value.ref p = .ref a → ∃ ob, s.heap.get? a = some ob ∧ ob.dict = none := by
  have g : ∃ ob, s.heap.get? p = some ob ∧ PlT ob := by
    rcases t with ⟨_, o, po, h⟩ | ⟨o, its, n, h, po, _⟩
    · exact ⟨o, (I.hok p _ (hide_some h).2).1, po⟩
    · exact ⟨o, I.kIn p o h, po⟩
  obtain ⟨ob, g1, g2⟩ := g
  exact ⟨⟨ob, g1, g2.1⟩, fun a e => by cases e; exact ⟨ob, g1, g2.2⟩⟩
theorem pd_idx {o e : Expr} {m : Str} {ap pos : Pos} {a b : E} (em : ("index" : Str) = m) (ho : nSub o = true) (hl : ap.endLine = pos.line) (hn : nStar e = true) (ha : PE X o (tD X.K Γ a)) (hb : PE X e (tD X.K Γ b)) : PE X (.Call (.Attribute o m ap) [e] [] pos) (tD X.K Γ (.idx a b)) := by
  subst em
  have hbase : attributeBase o "index" X.env (eval o X.env) = eval o X.env := by cases o <;> first | rfl | cases ho
  have hst : starEach [e] X.env = [(false, eval e X.env)] := star_ne hn
  refine ⟨fun pins s σ H Q I ⟨S, O, OA, ρ, rv, E, w⟩ => ?_⟩
  refine wpAny_Call_method_late hbase (by rw [hst]; rfl) (by rw [hl]; exact beq_self_eq_true _) rfl (thn (ha.run pins s σ H _ I (rd1 E w (R := fun vx H1 => ∃ x, ((∃ ds, x = .tup ds ∨ x = .lst ds) ∧ wpE Γ b rv ρ fun y => idxW x y (Wit X.K S (vw rv OA O) H Q)) ∧ Ext S H H1 ∧ SrcOk S H1 ∧ EnvR X.K S O OA H1 σ ρ ∧ Is X.K S (hide (vw rv OA O) H1) x vx)
    fun x vx H1 f e1 s1 E1 ix => ⟨x, f, e1, s1, E1, ix⟩)) fun v s1 ⟨vx, H1, I1, rx, x, ⟨⟨ds, ex⟩, w1⟩, e1, s1', E1, ix⟩ => ?_)
  rcases ex with rfl | rfl
  · obtain ⟨q, ys, rfl, t, l⟩ := is_tup.mp ix
    obtain rfl : v = Value.ref q := rx
    obtain ⟨h1, h2⟩ := plainIn I1 t
    refine ⟨"tuple", _, PySem.F.plainAttrs_tuple, PySem.F.slot_tuple_index, PySem.F.type_tuple_index, h1, h2, ?_⟩
    have hA := (args1 hn hb).run pos pins s1 σ H1 (fun xs H2 => rIdx X.K (.ref q) xs H2 Q ∧ SqT X.K H2 q ys) I1 (rd1 E1 w1 fun y vy H2 q2 e2 s2 E2 iy => ⟨⟨S, vw rv OA O, .tup ds, y, vy, rfl, E2.at rv, Is.mono (e2.hide _) _ _ ix, iy, idxW_mono (fun d q => Wit.ext q (e1.trans e2)) q2⟩, (t.mono (e2.hide _)).sq⟩)
    rw [hst] at hA ⊢
    exact Calls.callWith_builtin rfl (Calls.evalArgs_plain (thn hA fun us s2 ⟨vs, H2, I2, r2, q2, q3⟩ => mtIdx pins s2 σ H2 (.ref q) vs _ us Q I2 rfl r2 ⟨q2, q, ys, rfl, q3⟩))
  · obtain ⟨q, ys, rfl, nq, t, l⟩ := is_lst.mp ix
    have hq : SqL X.K H1 q ys := .inl (.inl (hide_some t).2)
    obtain ⟨h1, h2⟩ := tyV_is I1 rx (T := "list") (.inl ⟨rfl, ys, hq⟩)
    refine ⟨"list", _, PySem.F.plainAttrs_list, PySem.F.slot_list_index, PySem.F.type_list_index, h1, h2, ?_⟩
    have hA := (args1 hn hb).run pos pins s1 σ H1 (fun xs H2 => rIdx X.K (.ref q) xs H2 Q ∧ SqL X.K H2 q ys) I1 (rd1 E1 w1 fun y vy H2 q2 e2 s2 E2 iy => ⟨⟨S, vw rv OA O, .lst ds, y, vy, rfl, E2.at rv, Is.mono (e2.hide _) _ _ ix, iy, idxW_mono (fun d q => Wit.ext q (e1.trans e2)) q2⟩, .inl (.inl (hide_some (e2.hide _ _ _ nq t)).2)⟩)
    rw [hst] at hA ⊢
    exact Calls.callWith_builtin rfl (Calls.evalArgs_plain (thn hA fun us s2 ⟨vs, H2, I2, r2, q2, q3⟩ => mtIdxL pins s2 σ H2 _ vs _ us Q I2 rx r2 ⟨q2, q, ys, rfl, q3⟩))
end
end Fy
end
section
/-! FyEnum -/
namespace Fy
open PySem PySem.Spec PyProof.Rows L2
/-! ### enumerate over a tuple -/
theorem enumNewT (l : Addr) (items : Array Value) (n : Nat) (dct : Option Addr) (sl : Array (Option Value)) :
    Meets (Builtin.«enumerate.__new__» ⟨[.type "enumerate", .ref l], []⟩) (fun _ R s => s.heap.get? l = some { cls := .type "tuple", dict := dct, data := .seq items n, slots := sl } ∧
      R (.ok (.ret (.ref (s.heap.push { cls := .type "tuple_iterator", data := .fields #[.ref l, .int 0 0] }).objs.size)))
        { s with heap := (s.heap.push { cls := .type "tuple_iterator", data := .fields #[.ref l, .int 0 0] }).push { cls := .type "enumerate", data := .fields #[.none, .bool false, .ref s.heap.objs.size, rawInt 0, .none, .none] } }) :=
  .of_wp fun prog w A R s h => by
    obtain ⟨hp, g, d, tk, os⟩ := s; obtain ⟨hl, h⟩ := h
    have hsub := sub_enumerate
    have hT : Heap.IsTuple (Shared.heap ⟨hp, g, d, tk, os⟩) l items := ⟨_, hl, rfl, n, rfl⟩
    wp_walk using AutoSeq1.wpAny_loadPart' hl
    refine wpAny_stack_any fun st => wpAny_pure ?_
    split
    · rename_i c _ _ _ _ _
      cases (c == Value.type "enumerate") <;> (wp_walk using AutoSeq1.wpAny_loadPart' hl, wpAny_pyIter_tuple hT; exact ⟨_, rfl, h⟩)
    · wp_walk using AutoSeq1.wpAny_loadPart' hl, wpAny_pyIter_tuple hT
      exact ⟨_, rfl, h⟩
theorem enumCallT {prog : Program} {w : World} {A : Around} {E : Value → Shared → Prop} {s : Shared} {l : Addr} {items : Array Value} {Q : Value → Shared → Prop} (hL : s.heap.IsTuple l items)
    (h : ∀ h', IsEnum h' (s.heap.objs.size + 1) s.heap.objs.size 0 .none → h'.IsTupleIter s.heap.objs.size l 0 → (∀ b o, s.heap.get? b = some o → h'.get? b = some o) → Q (.ref (s.heap.objs.size + 1)) { s with heap := h' }) :
    wpAny (model prog w) A (call (.type "enumerate") [.ref l]) Q E s := by
  obtain ⟨⟨c, dct, dt, sl⟩, hl, hc, n, hd⟩ := hL
  obtain rfl : c = .type "tuple" := hc
  obtain rfl : dt = .seq items n := hd
  refine callType_new F.called_enumerate (by decide) (F.typeCall_enumerate_1 _) (F.newCall_enumerate_1 _) (fun obj => F.args_object_init_2 obj _) F.entry_enumerate_new (enumNewT l items n dct sl) ⟨hl, ?_⟩
  have hz : (s.heap.push { cls := .type "tuple_iterator", data := .fields #[.ref l, .int 0 0] }).objs.size = s.heap.objs.size + 1 := Heap.size_push ..
  show _ ∧ _
  rw [hz]
  have he : IsEnum ((s.heap.push { cls := .type "tuple_iterator", data := .fields #[.ref l, .int 0 0] }).push { cls := .type "enumerate", data := .fields #[.none, .bool false, .ref s.heap.objs.size, rawInt 0, .none, .none] }) (s.heap.objs.size + 1) s.heap.objs.size 0 .none := by
    have q := Heap.get?_push_size (s.heap.push { cls := .type "tuple_iterator", data := .fields #[.ref l, .int 0 0] }) (o := { cls := .type "enumerate", data := .fields #[.none, .bool false, .ref s.heap.objs.size, rawInt 0, .none, .none] }) rfl
    rw [hz] at q; exact q
  exact ⟨⟨_, he, rfl⟩, h _ he ⟨_, Heap.get?_push_of_some _ (Heap.get?_push_size _ rfl), rfl, rfl⟩ fun b o x => Heap.get?_push_of_some _ (Heap.get?_push_of_some _ x)⟩
/-- the tuple at a, each item in a new pair -/
def IteT (K : PySem.W.Frag) (a : Addr) : L2.It :=
  ⟨fun i H => ∃ (xs : List L2.V) (x : L2.V), SqT K H a xs ∧ xs[i]? = some x, fun i H v H' => ∃ T x, v = .ref T ∧ H T = none ∧ H' = upd H T (.tup [.int (i : Nat), x]) ∧ ∀ xs, SqT K H a xs → xs[i]? = some x, fun i H => ∃ xs : List L2.V, SqT K H a xs ∧ xs.length ≤ i⟩
theorem turnEnT {P : Program} {w : World} {K : PySem.W.Frag} {elts : List Expr} {kk : Nat} {tpos : Pos} (a e it : Addr) :
    Turn P w K (.Tuple elts kk tpos) (IteT K a) [e, it] e (fun i h => (∃ old, IsEnum h e it ((i : Nat) : Int) old) ∧ h.IsTupleIter it a i ∧ e ≠ it ∧ a ≠ it ∧ a ≠ e) where
  mem := List.mem_cons_self ..
  obj := fun i h ⟨⟨old, he⟩, ⟨o, ho, hc, hd⟩, _⟩ b hb => by
    rcases (by simpa using hb : b = e ∨ b = it) with z | z
    · rw [z]; exact ⟨_, he, fun v q => nomatch q⟩
    · rw [z]; exact ⟨o, ho, fun v q => by rw [hd] at q; cases q⟩
  keep := fun i h h' ⟨⟨old, he⟩, hi, hne⟩ k => ⟨⟨old, k e (by simp) _ he⟩, hi.at fun o q => k it (by simp) o q, hne⟩
  item := by
    intro X hP hw hK hc i pins s σ H E I hf ⟨⟨old, he⟩, hit, hne, hai, hae⟩ ⟨xs, x, hq, hx⟩
    subst hP hw hK
    obtain ⟨its, rv, p, hz⟩ := I.tuple hq
    obtain ⟨u, hu, ru⟩ := rv.get hx
    have hel : e < s.heap.objs.size := Heap.lt_size he
    have hil : it < s.heap.objs.size := by obtain ⟨_, q, _⟩ := hit; exact Heap.lt_size q
    have hlt : i < its.toArray.size := by
      have := (List.getElem?_eq_some_iff.mp hu).1
      simpa using this
    refine wpAny_pyNext_enum_itemD (Draws.tuple (A := X.A.in1) (I.ok.hd hc) it a hai its.toArray) he ⟨hit, p⟩ hlt hne (by simp [hne, Ne.symm hae]) fun y h' tk hy ho hst hT hsz hk => ?_
    obtain rfl : y = u := by
      have h1 : its.toArray[i]? = some u := by simpa using hu
      rw [h1] at hy; cases hy; rfl
    refine ⟨_, rfl, wpAny_letOwnedTupleGo_enum (s := { s with heap := h', toks := tk + 1 }) ho fun h'' he' sb => ?_⟩
    have hT2 : h''.get? s.heap.objs.size = some { cls := .type "tuple", data := .seq #[.int i tk, y] } := (sb.2 _ (Nat.ne_of_gt hel)).trans hT
    have new : ObjOk X.prog X.w (upd H s.heap.objs.size (.tup [.int (i : Nat), x])) h'' s.heap.objs.size (.tup [.int (i : Nat), x]) :=
      ⟨by show 2 ≤ sizeLine; decide, [.int i tk, y], .cons ⟨_, rfl⟩ (.cons ru .nil), ⟨_, hT2, rfl, _, rfl⟩⟩
    have I1 : Inv X pins σ (upd H s.heap.objs.size (.tup [.int (i : Nat), x])) { s with heap := h'', toks := tk + 1 } :=
      I.turnedNew (ch := [e, it]) (fun b ob hb q => (sb.2 b (fun z => hb (by simp [z]))).trans (hk b ob (fun z => hb (by simp [z])) (fun z => hb (by simp [z])) q)) hf (Nat.le_refl _) new
    refine ⟨.ref s.heap.objs.size, _, I1, rfl, ⟨_, x, rfl, I.hok.fresh (Nat.le_refl _), rfl, fun ys hy => by rw [I.tuple_inj hy hq]; exact hx⟩, ⟨⟨y, ?_⟩, hst.1.at fun o q => (sb.2 it (Ne.symm hne)).trans q, hne, hai, hae⟩, fun b hb => ?_⟩
    · have e1 : ((i + 1 : Nat) : Int) = (i : Int) + 1 := by omega
      rw [e1]; exact he'
    · have hb' : b < s.heap.objs.size := by
        rcases (by simpa using hb : b = e ∨ b = it) with z | z
        · rw [z]; exact hel
        · rw [z]; exact hil
      rw [upd_ne (Nat.ne_of_lt hb')]
      exact (hf b hb).1
  done := by
    intro X hP hw hK hc i pins s σ H E I hf ⟨⟨old, he⟩, hit, hne, hai, hae⟩ ⟨xs, hq, hx⟩
    subst hP hw hK
    obtain ⟨its, rv, p, hz⟩ := I.tuple hq
    obtain ⟨f0, f1, f2, f3, f4, f5⟩ := hf it (by simp)
    have hl := rv.length
    have hT : s.TypeIs (.ref e) "enumerate" := ⟨_, he, rfl⟩
    unfold pyNext
    refine wpAny_bind (wpAny_attempt (wpAny_callSpecial?_slot (name := Str.ofString "__next__") hT F.slot_enumerate_next (wpAny_call_entry F.slot_enumerate_next hT F.entry_enumerate_next ?_ (F.args_enumerate_next_1 _))))
    show wpAny _ _ (field (.ref e) 2 >>= _) _ _ _
    refine wpAny_bind (wpAny_field he rfl (x := .ref it) rfl ?_)
    refine wpAny_bind (wpAny_nextOf_tuple_end (A := X.A.in1) (I.ok.hd hc) hit p (items := its.toArray) (Array.getElem?_eq_none (by simp; omega)) fun h' x he' hx' => ?_)
    obtain ⟨o, ho, hc'⟩ := hx'
    refine wpAny_bind (wpAny_isInstance (T := "StopIteration") (b := true) ⟨o, ho, hc'⟩ isSubtype_stop ?_)
    exact wpAny_pure ⟨rfl, I.turned (t' := s.toks) (fun b o hb q => he' b o hb q) f0 f1 f3 f4 f5⟩
  self := fun A i s Q E ⟨⟨_, he⟩, _⟩ h => wpAny_pyIter_enum he h
def iEnumA (K : PySem.W.Frag) (ta : TA) : TI := fun σ H R => ta σ H fun vs H1 => ∃ a xs, vs = [.ref a] ∧ ((SqL K H1 a xs ∧ R (Ite K a) H1) ∨ (SqT K H1 a xs ∧ R (IteT K a) H1))
theorem piEnumA {X : Cx} {e : Expr} {ta : TA} {p pos tpos : Pos} {elts : List Expr} {kk : Nat} (hg : Gl X "enumerate") (hm : X.mg "enumerate" = none) (ha : PA X [e] ta) (hs : starEach [e] X.env = [(false, eval e X.env)]) :
    PI X (.Tuple elts kk tpos) (.Call (.Name "enumerate" p) [e] [] pos) (iEnumA X.K ta) := by
  refine ⟨fun pins s σ H R I h => ?_⟩
  refine Call_ (ld_blt I hg hm boot_enumerate (PyProof.Rows.callWith_type1 (thn (ha.run pos pins s σ H _ I h) fun us s1 ⟨vs, H1, I1, r1, a, xs, ex, q⟩ => ?_) hs rfl))
  subst ex
  obtain ⟨u, rfl, r⟩ := vals1 r1
  obtain rfl : u = Value.ref a := r
  have hle : ∀ b, b = s1.heap.objs.size + 1 ∨ b = s1.heap.objs.size → s1.heap.objs.size ≤ b := fun b e' => by rcases e' with z | z <;> rw [z] <;> omega
  rcases q with ⟨hq, q⟩ | ⟨hq, q⟩
  · obtain ⟨its, rv, p', hz⟩ := I1.list hq
    refine call_enumerate_list p'.isList fun h' he hit hsz hk => wpAny_pyIter_enum he ?_
    refine ⟨s1.heap.objs.size + 1, [s1.heap.objs.size + 1, s1.heap.objs.size], _, _, H1, rfl, I1.kept (t' := s1.toks) hk, turn_enum a (s1.heap.objs.size + 1) s1.heap.objs.size, ⟨⟨.none, he⟩, hit, Nat.succ_ne_self _⟩, fun b hb => ?_, q⟩
    have hl := hle b (by simpa using hb)
    exact I1.fpOk hl (I1.hok.fresh hl)
  · obtain ⟨its, rv, p', hz⟩ := I1.tuple hq
    refine enumCallT p' fun h' he hit hk => wpAny_pyIter_enum he ?_
    have hal : a < s1.heap.objs.size := p'.lt
    refine ⟨s1.heap.objs.size + 1, [s1.heap.objs.size + 1, s1.heap.objs.size], _, _, H1, rfl, I1.kept (t' := s1.toks) hk, turnEnT a (s1.heap.objs.size + 1) s1.heap.objs.size, ⟨⟨.none, he⟩, hit, Nat.succ_ne_self _, Nat.ne_of_lt hal, Nat.ne_of_lt (Nat.lt_succ_of_lt hal)⟩, fun b hb => ?_, q⟩
    have hl := hle b (by simpa using hb)
    exact I1.fpOk hl (I1.hok.fresh hl)
end Fy
end
section
/-! FyS9 -/
namespace Fy
open PySem PySem.Spec PyProof.Rows L2
theorem mem_vw {rv : Bool} {OA O : List Addr} {p a : Addr} : a ∈ vw rv OA (p :: O) ↔ a = p ∨ a ∈ vw rv OA O := by
  unfold vw
  cases rv <;> simp [or_left_comm]
section
variable {K : PySem.W.Frag} {S : Sr} {O OA : List Addr} {H H' : Hp} {σ : L2.St} {ρ : Rho}
/-- a new thing p is hidden -/
theorem ext_in {V V' : List Addr} {p : Addr} (hp : H p = none) (e : Ext S H H') (hv : ∀ a, a ∈ V' → a = p ∨ a ∈ V) : Ext S (hide V H) (hide V' H') := fun a o n h => by
  obtain ⟨h1, h2⟩ := hide_some h
  have : a ∉ V' := fun z => by
    rcases hv a z with q | q
    · exact (ne_of_none h2 hp) q
    · exact h1 q
  rw [hide_out this]; exact e a o n h2
theorem EnvR.inn (E : EnvR K S O OA H σ ρ) {p : Addr} (hp : H p = none) (e : Ext S H H') (s : SrcOk S H') (hn : H' p ≠ none) : EnvR K S (p :: O) OA H' σ ρ := by
  have nS : ∀ a ∈ OA ++ O, a ≠ S := fun a ha z => E.out (z ▸ ha)
  have vv : ∀ a, a ∈ OA ++ p :: O → a = p ∨ a ∈ OA ++ O := fun a ha => by
    rcases List.mem_append.mp ha with q | q
    · exact .inr (List.mem_append_left _ q)
    · rcases List.mem_cons.mp q with q | q
      · exact .inl q
      · exact .inr (List.mem_append_right _ q)
  refine ⟨s, fun z => ?_, fun z => ?_, fun a ha => ?_, fun a ha => ?_, fun a ha z => ?_, E.len, fun i d h => ?_, fun i d h => ?_, E.sep⟩
  · rcases vv S.d z with q | q
    · exact E.src.ne hp q.symm
    · exact E.out q
  · rcases vv S.l z with q | q
    · exact E.src.nel hp q.symm
    · exact E.outl q
  · rcases vv a ha with q | q
    · rw [q]; exact hn
    · cases g : H a with
      | none => exact absurd g (E.there a q)
      | some o => rw [e a o (nS a q) g]; intro z; cases z
  · rcases E.chg a ha with ⟨xs, h⟩ | ⟨xs, h⟩
    · exact .inl ⟨xs, e _ _ (nS a (List.mem_append_left _ ha)) h⟩
    · exact .inr ⟨xs, e _ _ (nS a (List.mem_append_left _ ha)) h⟩
  · rcases List.mem_cons.mp z with q | q
    · rw [q] at ha
      exact E.there p (List.mem_append_left _ ha) hp
    · exact E.apart a ha q
  · obtain ⟨v, h1, h2⟩ := E.val i d h
    exact ⟨v, h1, Is.mono (ext_in hp e vv) d v h2⟩
  · obtain ⟨a, h1, h2, h3⟩ := E.own i d h
    refine ⟨a, h1, h2, ?_⟩
    rcases h3 with ⟨ds, xs, e1, e2, e3⟩ | ⟨ks, ds, kvs, e1, e2, e3, e4⟩
    · exact .inl ⟨ds, xs, e1, e _ _ (nS a (List.mem_append_left _ h2)) e2, IsL.mono (ext_in hp e vv) _ _ e3⟩
    · exact .inr ⟨ks, ds, kvs, e1, e _ _ (nS a (List.mem_append_left _ h2)) e2, e3, IsL.mono (ext_in hp e vv) _ _ e4⟩
/-- what was hidden is seen again -/
theorem ext_out {V V' : List Addr} (hv : ∀ a, a ∈ V → a ∈ V') : Ext S (hide V' H) (hide V H) := Ext.less hv
theorem ext_upd {V : List Addr} {p : Addr} {o : HO} (h : p ∈ V) : hide V (upd H p o) = hide V H := by
  funext a
  by_cases q : a ∈ V
  · rw [hide_in q, hide_in q]
  · rw [hide_out q, hide_out q, upd_ne (show a ≠ p from fun z => q (z ▸ h))]
end
section
variable {X : Cx} {Γ : Nat → Spec} {fnm : List Str} {lv : Nat}
/-! ### WORDS_AT[x] -/
def rWords (K : PySem.W.Frag) (d : Addr) : R2 := fun x y H Q => ∃ S V dy z ws, x = .ref d ∧ At S V H ∧ Is K S (hide V H) dy y ∧ dy = .str z ∧ wordsD z = some ws ∧ Wit K S V H Q (.tup (ws.map .str))
theorem ixWords {d : Addr} {es : Array DictEntry} {n : Nat} (D : KDict X.K X.w d es n) (hw : ∀ z ws, wordsD z = some ws → ∃ a, PySem.W.nsIn X.K d z = some (some (.ref a)) ∧ KTup X.K a (ws.map L2.V.str)) : IxR X (rWords X.K d) := by
  intro value slice pins s σ H x y v u Q I rx ry ⟨S, V, dy, z, ws, ex, A, iy, ey, ew, w⟩ hs
  subst ex ey
  obtain rfl := is_str.mp iy
  obtain ⟨a, h1, h2⟩ := hw z ws ew
  obtain rfl : v = Value.ref d := rx
  exact tailOf (kd_type D I) PySem.F.slot_dict_getitem.lookup hs (op_item_kd D pins s σ H (.ref d) _ (.ref d) u Q I rfl ry ⟨z, .ref a, .ref a, rfl, rfl, h1, rfl, w.here A (is_tup.mpr ⟨a, _, rfl, .inr h2, isL_strs ws⟩)⟩)
theorem pd_words (B : Bs Γ fnm lv X) {x : Str} {y : Expr} {p p2 : Pos} {a : E} (ex : ("WORDS_AT" : Str) = x) (hg : Gl X x) (hx : okN x = true) (hs : nSlice y = true) (ha : PE X y (tD X.K Γ a)) : PE X (.Subscript (.Name x p) y p2) (tD X.K Γ (.words a)) := by
  subst ex
  obtain ⟨d, es, n, hm, D, hw⟩ := B.words
  refine ⟨fun pins s σ H Q I ⟨S, O, OA, ρ, rv, E, w⟩ => ?_⟩
  exact (pe_ix (ixWords D hw) (pe_glob hg hm (v := .ref d) rfl (okN_d hx)) ha (plainIx hs)).run pins s σ H Q I (rd1 E w fun y vy H1 ⟨z, ws, e1, e2, q⟩ e s1 E1 iy => ⟨S, vw rv OA O, y, z, ws, rfl, E1.at rv, iy, e1, e2, Wit.ext q e⟩)
/-! ### what is revealed for a moment -/
theorem pd_imm {e : Expr} {a : E} (ha : PE X e (tD X.K Γ a)) : PE X e (tD X.K Γ (.imm a)) :=
  ⟨fun pins s σ H Q I ⟨S, O, OA, ρ, rv, E, w⟩ => ha.run pins s σ H Q I ⟨S, O, OA, ρ, true, E, wpE_mono Γ a true ρ _ _ (fun d ⟨fx, q⟩ v H' e s i => q v H' e s (Is.mono ext_vw d v (Is.fix (E.ext e s).chg d v fx i))) w⟩⟩
/-! ### {k: v} -/
theorem pd_d1 {kx vx : Expr} {p : Pos} {k v : E} (hk : PE X kx (tD X.K Γ k)) (hv : PE X vx (tD X.K Γ v)) : PE X (.Dict [some kx] [vx] p) (tD X.K Γ (.d1 k v)) :=
  ⟨fun pins s σ H Q I ⟨S, O, OA, ρ, rv, E, w⟩ => (pe_disp (pps_cons hk hv pps_nil) rfl rfl (by simp) (by simp)).run pins s σ H Q I fun q hq => by
    have A := E.at rv
    have qs : q ≠ S := A.src.ne hq
    have E0 : EnvR X.K S (q :: O) OA (upd H q (.dK [])) σ ρ := E.inn hq (Ext.new hq) (A.src.new hq) (by rw [upd_same]; intro z; cases z)
    refine rd1 E0 w fun x vx H1 w1 e1 s1 E1 ix => rd1 E1 w1 fun y vy H2 ⟨i, ei, w2⟩ e2 s2 E2 iy => ?_
    subst ei
    obtain rfl := is_int.mp ix
    have hq2 : H2 q = some (.dK []) := e2 _ _ qs (e1 _ _ qs upd_same)
    refine ⟨hq2, [(.inl i, vy)], rfl, by simp, ?_⟩
    have e3 : Ext S H (upd H2 q (.dK (mergeK [] [(.inl i, vy)]))) := fun a o n h => by
      rw [upd_ne (ne_of_none h hq)]
      exact e2 _ _ n (e1 _ _ n (by rw [upd_ne (ne_of_none h hq)]; exact h))
    refine w2 _ _ e3 (s2.upd qs (A.src.nel hq)) (is_dic.mpr ⟨q, [(.inl i, vy)], rfl, qs, ?_, rfl, isL_cons ?_ isL_nil⟩)
    · rw [hide_out (A.nin hq), upd_same]; rfl
    · have m : q ∈ vw rv OA (q :: O) := mem_vw.mpr (.inl rfl)
      have iy' : Is X.K S (hide (vw rv OA (q :: O)) (upd H2 q (.dK (mergeK [] [(.inl i, vy)])))) y vy := by rw [ext_upd m]; exact iy
      exact Is.mono (ext_out fun a ha => mem_vw.mpr (.inr ha)) y vy iy'⟩
end
end Fy
end
section
/-! FyT1 -/
namespace Fy
open PySem PySem.Spec PyProof.Rows L2
section
variable {K : PySem.W.Frag} {S : Sr} {O OA : List Addr} {H H' : Hp} {σ : L2.St} {ρ : Rho}
theorem EnvR.set (E : EnvR K S O OA H σ ρ) {i : Nat} {d : D} {v : L2.V} (h : Is K S (hide (OA ++ O) H) d v) : EnvR K S O OA H (σ.set i (some v)) (ρ.set i (some (false, d))) := by
  have own : ∀ {j : Nat} {e : D}, (ρ.set i (some (false, d)))[j]? = some (some (true, e)) → i ≠ j ∧ ρ[j]? = some (some (true, e)) := fun {j e} h => by
    rw [List.getElem?_set] at h
    split at h
    · split at h <;> cases h
    · exact ⟨‹_›, h⟩
  refine ⟨E.src, E.out, E.outl, E.there, E.chg, E.apart, by simp [E.len], fun j e h' => ?_, fun j e h' => ?_, fun j k e e' a n h1 h2 h3 => ?_⟩
  · rw [List.getElem?_set] at h'
    split at h'
    · rename_i hij
      split at h'
      · cases h'
        subst hij
        exact ⟨v, by rw [List.getElem?_set_self (by rw [E.len]; assumption)], h⟩
      · cases h'
    · obtain ⟨u, h1, h2⟩ := E.val j e h'
      exact ⟨u, by rw [List.getElem?_set_ne ‹_›]; exact h1, h2⟩
  · obtain ⟨n, h'⟩ := own h'
    obtain ⟨a, h1, h2, h3⟩ := E.own j e h'
    exact ⟨a, by rw [List.getElem?_set_ne n]; exact h1, h2, h3⟩
  · obtain ⟨n1, h1⟩ := own h1
    obtain ⟨n2, h2⟩ := own h2
    rw [List.getElem?_set_ne n1] at h3
    rw [List.getElem?_set_ne n2]
    exact E.sep j k e e' a n h1 h2 h3
/-- a slot is forgotten -/
theorem EnvR.del (E : EnvR K S O OA H σ ρ) {i : Nat} : EnvR K S O OA H (σ.set i none) (ρ.set i none) := by
  have own : ∀ {j : Nat} {o : Bool} {e : D}, (ρ.set i none)[j]? = some (some (o, e)) → i ≠ j ∧ ρ[j]? = some (some (o, e)) := fun {j o e} h => by
    rw [List.getElem?_set] at h
    split at h
    · split at h <;> cases h
    · exact ⟨‹_›, h⟩
  refine ⟨E.src, E.out, E.outl, E.there, E.chg, E.apart, by simp [E.len], fun j e h' => ?_, fun j e h' => ?_, fun j k e e' a n h1 h2 h3 => ?_⟩
  · obtain ⟨n, h'⟩ := own h'
    obtain ⟨u, h1, h2⟩ := E.val j e h'
    exact ⟨u, by rw [List.getElem?_set_ne n]; exact h1, h2⟩
  · obtain ⟨n, h'⟩ := own h'
    obtain ⟨a, h1, h2, h3⟩ := E.own j e h'
    exact ⟨a, by rw [List.getElem?_set_ne n]; exact h1, h2, h3⟩
  · obtain ⟨n1, h1⟩ := own h1
    obtain ⟨n2, h2⟩ := own h2
    rw [List.getElem?_set_ne n1] at h3
    rw [List.getElem?_set_ne n2]
    exact E.sep j k e e' a n h1 h2 h3
theorem EnvR.wipe (E : EnvR K S O OA H σ ρ) : ∀ vs : List Nat, EnvR K S O OA H (L2.wipe σ vs) (wipeR ρ vs)
  | [] => E
  | v :: vs => (EnvR.wipe E vs).del
/-- all that is owned is given up -/
theorem EnvR.rv (E : EnvR K S O OA H σ ρ) (rv : Bool) : EnvR K S O (if rv = true then [] else OA) H σ (rvR rv ρ) := by
  cases rv with
  | false => rw [if_neg Bool.false_ne_true]; exact E
  | true =>
    rw [if_pos rfl]
    have e : rvR true ρ = ρ.map shown := rfl
    rw [e]
    have look : ∀ {i : Nat} {o : Bool} {d : D}, (ρ.map shown)[i]? = some (some (o, d)) → o = false ∧ ∃ o', ρ[i]? = some (some (o', d)) := fun {i o d} h => by
      rw [List.getElem?_map] at h
      cases q : ρ[i]? with
      | none => rw [q] at h; cases h
      | some sl =>
        rw [q] at h
        cases sl with
        | none => cases h
        | some p => cases h; exact ⟨rfl, p.1, rfl⟩
    refine ⟨E.src, fun z => E.out (List.mem_append_right _ z), fun z => E.outl (List.mem_append_right _ z), fun a ha => E.there a (List.mem_append_right _ ha), fun a ha => by simp at ha, fun a ha => by simp at ha, by simp [E.len], fun i d h => ?_, fun i d h => ?_, fun i j d e a n h => ?_⟩
    · obtain ⟨_, o', h⟩ := look h
      obtain ⟨v, h1, h2⟩ := E.var (rv := true) h (fun _ => rfl)
      exact ⟨v, h1, h2⟩
    · obtain ⟨z, _⟩ := look h; cases z
    · obtain ⟨z, _⟩ := look h; cases z
theorem vw_rv {rv : Bool} : vw rv OA O = (if rv = true then [] else OA) ++ O := by
  unfold vw
  cases rv <;> rfl
end
/-! ### targets -/
def gD (K : PySem.W.Frag) (tg : Tg) : TG := fun v σ H Q => ∃ S O OA ρ d, EnvR K S O OA H σ ρ ∧ Is K S (hide (OA ++ O) H) d v ∧ bindT tg d ρ fun ρ' => ∀ σ', EnvR K S O OA H σ' ρ' → (∀ i, i ∉ tgI tg → σ'[i]? = σ[i]?) → σ'.length = σ.length → Q σ' H
def gsD (K : PySem.W.Frag) (is : List Nat) : TGs := fun vs σ H Q => ∃ S O OA ρ ds, EnvR K S O OA H σ ρ ∧ IsL K S (hide (OA ++ O) H) ds vs ∧ is.length = ds.length ∧ ∀ σ', EnvR K S O OA H σ' (setAll ρ is ds) → (∀ i, i ∉ is → σ'[i]? = σ[i]?) → σ'.length = σ.length → Q σ' H
section
variable {X : Cx} {blk : Bool}
def LocOk (X : Cx) (blk : Bool) : Prop := ∀ x, locB X.env.scope blk x = true → Loc X.env.scope x ∧ (X.fn x = true ∨ X.env.scope.names.lookup x = some .local)
theorem chkNames_inv {N : List Str} {sc : Scope} : ∀ {is : List Nat} {ts : List Expr}, chkNames N sc blk is ts = true → (is = [] ∧ ts = []) ∨ ∃ i is' x p r, is = i :: is' ∧ ts = .Name x p :: r ∧ N[i]? = some x ∧ okN x = true ∧ locB sc blk x = true ∧ chkNames N sc blk is' r = true
  | [], [], _ => .inl ⟨rfl, rfl⟩
  | [], _ :: _, h => absurd h Bool.false_ne_true
  | _ :: _, [], h => absurd h Bool.false_ne_true
  | i :: is, t :: ts, h => by
    cases t with
    | Name x p =>
      obtain ⟨h1, h2⟩ := b2 h
      obtain ⟨h3, h4⟩ := b2 h1
      exact .inr ⟨i, is, x, p, ts, rfl, rfl, of_decide_eq_true h3, (b2 h4).1, (b2 h4).2, h2⟩
    | _ => exact absurd h Bool.false_ne_true
theorem pgsD (nd : X.N.Nodup) (hL : LocOk X blk) : ∀ {is : List Nat} {ts : List Expr}, chkNames X.N X.env.scope blk is ts = true → PGs X ts (gsD X.K is) ∧ (assignEach ts X.env).length = is.length ∧ (assignEach ts X.env).findIdx? (·.1) = none
  | [], [], _ => ⟨⟨fun pins s σ H vs us Q I r ⟨S, O, OA, ρ, ds, E, l, hl, q⟩ => pgs_nil.run pins s σ H vs us Q I r (by
      have : ds = [] := List.eq_nil_of_length_eq_zero hl.symm
      subst this
      unfold IsL at l
      exact ⟨l, q σ E (fun _ _ => rfl) rfl⟩)⟩, rfl, rfl⟩
  | [], _ :: _, h => absurd h Bool.false_ne_true
  | _ :: _, [], h => absurd h Bool.false_ne_true
  | i :: is, t :: ts, h => by
    obtain ⟨h, _⟩ | ⟨i', is', x, p, r, e1, e2, hi, hx, hl, hr⟩ := chkNames_inv h
    · cases h
    · cases e1
      cases e2
      obtain ⟨ih, n1, n2⟩ := pgsD nd hL hr
      obtain ⟨l1, l2⟩ := hL x hl
      have ec : assignEach (Expr.Name x p :: ts) X.env = (false, assign (.Name x p) X.env) :: assignEach ts X.env := rfl
      refine ⟨⟨fun pins s σ H vs us Q I rv ⟨S, O, OA, ρ, ds, E, l, hl, q⟩ => (pgs_cons (pg_name nd hi l1 l2) ih (by rw [ec]; rfl)).run pins s σ H vs us Q I rv ?_⟩, by rw [ec, List.length_cons, List.length_cons, n1], by rw [ec, List.findIdx?_cons, n2]; rfl⟩
      cases ds with
      | nil => simp at hl
      | cons d ds =>
        unfold IsL at l
        obtain ⟨v, vr, rfl, id, l⟩ := l
        refine ⟨v, vr, rfl, S, O, OA, ρ.set i (some (false, d)), ds, E.set id, l, by simpa using hl, fun σ' E' hs hlen => q σ' E' (fun j hj => ?_) (by rw [hlen]; simp)⟩
        have hj' : j ≠ i ∧ j ∉ is := by simpa using hj
        rw [hs j hj'.2, List.getElem?_set_ne hj'.1.symm]
theorem pgD (hc : X.calm = true) (nd : X.N.Nodup) (hL : LocOk X blk) {tg : Tg} {t : Expr} (h : chkTg X.N X.env.scope blk tg t = true) : PG X t (gD X.K tg) := by
  cases tg with
  | name i =>
    cases t with
    | Name x p =>
      obtain ⟨h1, h2⟩ := b2 h
      obtain ⟨l1, l2⟩ := hL x (b2 h2).2
      exact ⟨fun pins s σ H v u Q I r ⟨S, O, OA, ρ, d, E, id, q⟩ => (pg_name nd (of_decide_eq_true h1) l1 l2).run pins s σ H v u Q I r (q _ (E.set id) (fun j hj => List.getElem?_set_ne (fun z => hj (by rw [z]; exact List.mem_cons_self ..))) (by simp))⟩
    | _ => exact absurd h Bool.false_ne_true
  | tup is =>
    cases t with
    | Tuple ts k p =>
      obtain ⟨g, n1, n2⟩ := pgsD nd hL h
      refine ⟨fun pins s σ H v u Q I r ⟨S, O, OA, ρ, d, E, id, q⟩ => (pg_tup (n := is.length) hc g n1 n2).run pins s σ H v u Q I r ?_⟩
      have go : ∀ {ds : List D} {a : Addr} {xs : List L2.V}, v = .ref a → SqT X.K H a xs → IsL X.K S (hide (OA ++ O) H) ds xs → (is.length = ds.length ∧ ∀ σ', EnvR X.K S O OA H σ' (setAll ρ is ds) → (∀ i, i ∉ is → σ'[i]? = σ[i]?) → σ'.length = σ.length → Q σ' H) → gTup X.K is.length (gsD X.K is) v σ H Q := fun e t l w =>
        ⟨_, _, e, t, by rw [l.len]; exact w.1.symm, S, O, OA, ρ, _, E, l, w.1, w.2⟩
      cases d with
      | tup ds =>
        obtain ⟨a, xs, e, t, l⟩ := is_tup.mp id
        exact go e t.sq l q
      | raw ds =>
        obtain ⟨a, xs, e, n, t, l⟩ := is_raw.mp id
        exact go e (.inl (.inl (hide_some t).2)) l q
      | _ => exact q.elim
    | _ => exact absurd h Bool.false_ne_true
end
end Fy
end
section
/-! FyT2 -/
namespace Fy
open PySem PySem.Spec PyProof.Rows L2
/-! ### what is walked -/
def Feed (K : PySem.W.Frag) (S : Sr) (V : List Addr) (J : L2.It) (H : Hp) (xs : List D) : Prop := ∀ i H', Ext S (hide V H) (hide V H') → At S V H' →
  (i < xs.length → J.go i H') ∧ (xs.length ≤ i → J.stop i H') ∧ ∀ x H'', i < xs.length → J.yld i H' x H'' → ∃ d, xs[i]? = some d ∧ Ext S H' H'' ∧ SrcOk S H'' ∧ Is K S (hide V H'') d x
/-- .. whatever new things are hidden -/
def Feed' (K : PySem.W.Frag) (S : Sr) (V : List Addr) (J : L2.It) (H : Hp) (xs : List D) : Prop := ∀ V', hide V' H = hide V H → Feed K S V' J H xs
def tDI (K : PySem.W.Frag) (Γ : Nat → Spec) (t : Fy.It) : TI := fun σ H R => ∃ S O OA ρ, EnvR K S O OA H σ ρ ∧ wpI Γ t ρ fun xs => ∀ J H1, Ext S H H1 → SrcOk S H1 → Feed' K S (OA ++ O) J H1 xs → xs.length ≤ sizeLine → R J H1
section
variable {K : PySem.W.Frag} {S : Sr} {V : List Addr} {H H' : Hp}
theorem SqL.hid {a : Addr} {ys : List L2.V} (n : a ≠ S) (h : hide V H a = some (.lst ys)) (e : Ext S (hide V H) (hide V H')) : SqL K H' a ys := .inl (.inl (hide_some (e _ _ n h)).2)
theorem feedL {a : Addr} {ys : List L2.V} {xs : List D} (n : a ≠ S) (h : hide V H a = some (.lst ys)) (l : IsL K S (hide V H) xs ys) : Feed K S V (Itl K a) H xs := fun i H' e A => by
  have q : SqL K H' a ys := SqL.hid n h e
  refine ⟨fun hi => ⟨ys, ys[i]'(by rw [l.len]; exact hi), q, List.getElem?_eq_getElem _⟩, fun hi => ⟨ys, q, by rw [l.len]; exact hi⟩, fun x H'' hlt y => ?_⟩
  obtain ⟨rfl, y⟩ := y
  obtain ⟨d, h1, h2⟩ := l.got (y ys q)
  exact ⟨d, h1, Ext.refl, A.src, Is.mono e d x h2⟩
theorem feedT {a : Addr} {ys : List L2.V} {xs : List D} (h : ∀ H', Ext S (hide V H) (hide V H') → SqT K H' a ys) (l : IsL K S (hide V H) xs ys) : Feed K S V (Itt K a) H xs := fun i H' e A => by
  have q := h H' e
  refine ⟨fun hi => ⟨ys, ys[i]'(by rw [l.len]; exact hi), q, List.getElem?_eq_getElem _⟩, fun hi => ⟨ys, q, by rw [l.len]; exact hi⟩, fun x H'' hlt y => ?_⟩
  obtain ⟨rfl, y⟩ := y
  obtain ⟨d, h1, h2⟩ := l.got (y ys q)
  exact ⟨d, h1, Ext.refl, A.src, Is.mono e d x h2⟩
theorem newRaw {H' : Hp} {T : Addr} {ds : List D} {vs : List L2.V} (A : At S V H') (hT : H' T = none) (l : IsL K S (hide V H') ds vs) : Ext S H' (upd H' T (.tup vs)) ∧ SrcOk S (upd H' T (.tup vs)) ∧ Is K S (hide V (upd H' T (.tup vs))) (.raw ds) (.ref T) :=
  ⟨Ext.new hT, A.src.new hT, is_raw.mpr ⟨T, vs, rfl, A.src.ne hT, hide_new (A.nin hT), IsL.mono (Ext.new hT |>.hide V) _ _ l⟩⟩
theorem enumD_get : ∀ {xs : List D} {n i : Nat} {d : D}, xs[i]? = some d → (enumD n xs)[i]? = some (.raw [.int ((n + i : Nat) : Int), d])
  | [], _, _, _, h => by simp at h
  | x :: xs, n, 0, d, h => by simp at h; subst h; rfl
  | x :: xs, n, i + 1, d, h => by
    have := enumD_get (xs := xs) (n := n + 1) (i := i) (by simpa using h)
    have e : n + 1 + i = n + (i + 1) := by omega
    rw [e] at this
    simpa [enumD] using this
theorem enumD_len : ∀ {xs : List D} {n : Nat}, (enumD n xs).length = xs.length
  | [], _ => rfl
  | x :: xs, n => congrArg Nat.succ (enumD_len (xs := xs) (n := n + 1))
theorem zipD_get : ∀ {xs ys : List D} {i : Nat} {d e : D}, xs[i]? = some d → ys[i]? = some e → (zipD xs ys)[i]? = some (.raw [d, e])
  | [], _, _, _, _, h, _ => by simp at h
  | _ :: _, [], _, _, _, _, h => by simp at h
  | x :: xs, y :: ys, 0, d, e, h, g => by simp at h g; subst h g; rfl
  | x :: xs, y :: ys, i + 1, d, e, h, g => by
    have := zipD_get (xs := xs) (ys := ys) (i := i) (by simpa using h) (by simpa using g)
    simpa [zipD] using this
theorem zipD_len : ∀ {xs ys : List D}, (zipD xs ys).length = min xs.length ys.length
  | [], _ => by simp [zipD]
  | _ :: _, [] => by simp [zipD]
  | x :: xs, y :: ys => by show (zipD xs ys).length + 1 = _; rw [zipD_len]; simp
theorem feedE {a : Addr} {ys : List L2.V} {xs : List D} (n : a ≠ S) (h : hide V H a = some (.lst ys)) (l : IsL K S (hide V H) xs ys) : Feed K S V (Ite K a) H (enumD 0 xs) := fun i H' e A => by
  have q : SqL K H' a ys := SqL.hid n h e
  rw [enumD_len]
  refine ⟨fun hi => ⟨ys, ys[i]'(by rw [l.len]; exact hi), q, List.getElem?_eq_getElem _⟩, fun hi => ⟨ys, q, by rw [l.len]; exact hi⟩, fun x H'' hlt y => ?_⟩
  obtain ⟨T, x, rfl, hT, rfl, y⟩ := y
  obtain ⟨d, h1, h2⟩ := l.got (y ys q)
  obtain ⟨r1, r2, r3⟩ := newRaw (ds := [.int ((0 + i : Nat) : Int), d]) A hT (isL_cons (is_int.mpr (by rw [Nat.zero_add])) (isL_cons (Is.mono e d x h2) isL_nil))
  exact ⟨_, enumD_get h1, r1, r2, r3⟩
theorem feedET {a : Addr} {ys : List L2.V} {xs : List D} (h : ∀ H', Ext S (hide V H) (hide V H') → SqT K H' a ys) (l : IsL K S (hide V H) xs ys) : Feed K S V (IteT K a) H (enumD 0 xs) := fun i H' e A => by
  have q := h H' e
  rw [enumD_len]
  refine ⟨fun hi => ⟨ys, ys[i]'(by rw [l.len]; exact hi), q, List.getElem?_eq_getElem _⟩, fun hi => ⟨ys, q, by rw [l.len]; exact hi⟩, fun x H'' hlt y => ?_⟩
  obtain ⟨T, x, rfl, hT, rfl, y⟩ := y
  obtain ⟨d, h1, h2⟩ := l.got (y ys q)
  obtain ⟨r1, r2, r3⟩ := newRaw (ds := [.int ((0 + i : Nat) : Int), d]) A hT (isL_cons (is_int.mpr (by rw [Nat.zero_add])) (isL_cons (Is.mono e d x h2) isL_nil))
  exact ⟨_, enumD_get h1, r1, r2, r3⟩
theorem zip_get? {xs ys : List D} {vx vy : List L2.V} (lx : IsL K S (hide V H) xs vx) (ly : IsL K S (hide V H) ys vy) {i : Nat} (hi : i < (zipD xs ys).length) : ∃ x y, vx[i]? = some x ∧ vy[i]? = some y := by
  rw [zipD_len] at hi
  exact ⟨vx[i]'(by rw [lx.len]; omega), vy[i]'(by rw [ly.len]; omega), List.getElem?_eq_getElem _, List.getElem?_eq_getElem _⟩
theorem zip_end {xs ys : List D} {vx vy : List L2.V} (lx : IsL K S (hide V H) xs vx) (ly : IsL K S (hide V H) ys vy) {i : Nat} (hi : (zipD xs ys).length ≤ i) : vx.length ≤ i ∨ vy.length ≤ i := by
  rw [zipD_len] at hi
  rw [lx.len, ly.len]; omega
theorem feedZ {a b : Addr} {vx vy : List L2.V} {xs ys : List D} (na : a ≠ S) (ha : hide V H a = some (.lst vx)) (nb : b ≠ S) (hb : hide V H b = some (.lst vy)) (lx : IsL K S (hide V H) xs vx) (ly : IsL K S (hide V H) ys vy) : Feed K S V (Itz K a b) H (zipD xs ys) := fun i H' e A => by
  have q : SqL K H' a vx := SqL.hid na ha e
  have r : SqL K H' b vy := SqL.hid nb hb e
  refine ⟨fun hi => ?_, fun hi => ⟨vx, vy, q, r, zip_end lx ly hi⟩, fun x H'' hlt y => ?_⟩
  · obtain ⟨x, y, e1, e2⟩ := zip_get? lx ly hi
    exact ⟨vx, vy, x, y, q, r, e1, e2⟩
  · obtain ⟨T, x, y, rfl, hT, rfl, y1, y2⟩ := y
    obtain ⟨d, h1, h2⟩ := lx.got (y1 vx q)
    obtain ⟨d', h3, h4⟩ := ly.got (y2 vy r)
    obtain ⟨r1, r2, r3⟩ := newRaw (ds := [d, d']) A hT (isL_cons (Is.mono e d x h2) (isL_cons (Is.mono e d' y h4) isL_nil))
    exact ⟨_, zipD_get h1 h3, r1, r2, r3⟩
theorem feedZT {a b : Addr} {vx vy : List L2.V} {xs ys : List D} (ha : ∀ H', Ext S (hide V H) (hide V H') → SqT K H' a vx) (hb : ∀ H', Ext S (hide V H) (hide V H') → SqT K H' b vy) (lx : IsL K S (hide V H) xs vx) (ly : IsL K S (hide V H) ys vy) : Feed K S V (RZ.ItzT K a b) H (zipD xs ys) := fun i H' e A => by
  have q := ha H' e
  have r := hb H' e
  refine ⟨fun hi => ?_, fun hi => ⟨vx, vy, q, r, zip_end lx ly hi⟩, fun x H'' hlt y => ?_⟩
  · obtain ⟨x, y, e1, e2⟩ := zip_get? lx ly hi
    exact ⟨vx, vy, x, y, q, r, e1, e2⟩
  · obtain ⟨T, x, y, rfl, hT, rfl, y1, y2⟩ := y
    obtain ⟨d, h1, h2⟩ := lx.got (y1 vx q)
    obtain ⟨d', h3, h4⟩ := ly.got (y2 vy r)
    obtain ⟨r1, r2, r3⟩ := newRaw (ds := [d, d']) A hT (isL_cons (Is.mono e d x h2) (isL_cons (Is.mono e d' y h4) isL_nil))
    exact ⟨_, zipD_get h1 h3, r1, r2, r3⟩
theorem rngD_len {lo : Int} {n : Nat} : (rngD lo n).length = n := by simp [rngD]
theorem feedR {lo : Int} {n : Nat} : Feed K S V (Itr lo n) H (rngD lo n) := fun i H' e A => by
  rw [rngD_len]
  refine ⟨fun hi => hi, fun hi => hi, fun x H'' hlt y => ?_⟩
  obtain ⟨rfl, rfl⟩ := y
  exact ⟨.int (lo + i), by unfold rngD; rw [List.getElem?_map, List.getElem?_range hlt]; rfl, Ext.refl, A.src, is_int.mpr rfl⟩
theorem feedS {x : Str} : Feed K S V (Its x) H (charsD x) := fun i H' e A => by
  have hl : (charsD x).length = x.cps.size := by simp [charsD]
  rw [hl]
  refine ⟨fun hi => hi, fun hi => hi, fun v H'' hlt y => ?_⟩
  obtain ⟨rfl, c, h1, rfl⟩ := y
  exact ⟨.str ⟨#[c]⟩, by unfold charsD; rw [List.getElem?_map]; simp [h1], Ext.refl, A.src, is_str.mpr rfl⟩
theorem STup.stay {a : Addr} {ys : List L2.V} (t : STup K S (hide V H) a ys) : ∀ H', Ext S (hide V H) (hide V H') → SqT K H' a ys := fun H' e => (t.mono e).sq
end
/-! ### iterables -/
def SZ (K : PySem.W.Frag) (n : Nat) (H : Hp) : Prop := (∃ a ys, (SqT K H a ys ∨ SqL K H a ys) ∧ n ≤ ys.length) ∨ n ≤ sizeLine
section
variable {X : Cx} {Γ : Nat → Spec} {fnm : List Str} {lv : Nat}
theorem piSz {tg iter : Expr} {wi : TI} (h : PI X tg iter wi) : PI X tg iter (fun σ H R => wi σ H fun J H1 => ∃ n, SZ X.K n H1 ∧ (n ≤ sizeLine → R J H1)) :=
  ⟨fun pins s σ H R I hw => thn (h.run pins s σ H _ I hw) fun v s1 q => thn q fun w s2 ⟨it, fp, tn, J, H1, e, I1, T, t0, f, n, sz, r⟩ => ⟨it, fp, tn, J, H1, e, I1, T, t0, f, r (by
    rcases sz with ⟨a, ys, h | h, z⟩ | z
    · obtain ⟨_, _, _, l⟩ := I1.tuple h; exact Nat.le_trans z l
    · obtain ⟨_, _, _, l⟩ := I1.list h; exact Nat.le_trans z l
    · exact z)⟩⟩
def iSeq (K : PySem.W.Frag) (tl : TE) : TI := fun σ H R => tl σ H fun x H1 => ∃ a, x = .ref a ∧ (((∃ xs, SqL K H1 a xs) ∧ R (Itl K a) H1) ∨ ((∃ xs, SqT K H1 a xs) ∧ R (Itt K a) H1))
theorem piSeq {tg l : Expr} {tl : TE} (hl : PE X l tl) : PI X tg l (iSeq X.K tl) := by
  refine ⟨fun pins s σ H R I h => thn (hl.run pins s σ H _ I h) fun v s1 ⟨x, H1, I1, r1, a, e, q⟩ => ?_⟩
  subst e
  obtain rfl : v = Value.ref a := r1
  rcases q with ⟨⟨xs, hq⟩, q⟩ | ⟨⟨xs, hq⟩, q⟩
  · obtain ⟨its, rv, p, hz⟩ := I1.list hq
    exact wpAny_pyIter_list p.isList (pi_one (tk := s1.toks) I1 _ (turn_list a _) ⟨_, Heap.get?_push_size _ rfl, rfl, rfl⟩ q)
  · obtain ⟨its, rv, p, hz⟩ := I1.tuple hq
    exact wpAny_pyIter_tuple (show s1.heap.IsTuple a its.toArray from p) (pi_one (tk := s1.toks) I1 _ (turn_tuple a _) ⟨_, Heap.get?_push_size _ rfl, rfl, rfl⟩ q)
theorem pid_seq {tg l : Expr} {a : Fy.E} (ha : PE X l (tD X.K Γ a)) : PI X tg l (tDI X.K Γ (.seq a)) :=
  ⟨fun pins s σ H R I ⟨S, O, OA, ρ, E, w⟩ => (piSz (piSeq ha)).run pins s σ H R I (rd1 E w fun d x H1 ⟨xs, ex, q⟩ e1 s1 E1 ix => by
    have L : ∀ {c : Addr} {ys : List L2.V}, SqT X.K H1 c ys ∨ SqL X.K H1 c ys → ys.length = xs.length → SZ X.K xs.length H1 := fun h e => .inl ⟨_, _, h, by omega⟩
    cases d with
    | tup ds =>
      cases ex
      obtain ⟨c, ys, rfl, t, l⟩ := is_tup.mp ix
      exact ⟨c, rfl, .inr ⟨⟨ys, t.sq⟩, xs.length, L (.inl t.sq) l.len, q _ _ e1 s1 (fun V' ev => feedT (STup.stay (by rw [ev]; exact t)) (by rw [ev]; exact l))⟩⟩
    | raw ds =>
      cases ex
      obtain ⟨c, ys, rfl, n, t, l⟩ := is_raw.mp ix
      have st : ∀ V' H', Ext S (hide (OA ++ O) H1) (hide V' H') → SqT X.K H' c ys := fun V' H' e => .inl (.inl (hide_some (e _ _ n t)).2)
      exact ⟨c, rfl, .inr ⟨⟨ys, st _ _ Ext.refl⟩, xs.length, L (.inl (st _ _ Ext.refl)) l.len, q _ _ e1 s1 (fun V' ev => feedT (fun H' e => st V' H' (by rw [← ev]; exact e)) (by rw [ev]; exact l))⟩⟩
    | lst ds =>
      cases ex
      obtain ⟨c, ys, rfl, n, t, l⟩ := is_lst.mp ix
      exact ⟨c, rfl, .inl ⟨⟨ys, .inl (.inl (hide_some t).2)⟩, xs.length, L (.inr (.inl (.inl (hide_some t).2))) l.len, q _ _ e1 s1 (fun V' ev => feedL n (by rw [ev]; exact t) (by rw [ev]; exact l))⟩⟩
    | _ => cases ex)⟩
theorem pid_chars {tg l : Expr} {a : Fy.E} (ha : PE X l (tD X.K Γ a)) : PI X tg l (tDI X.K Γ (.chars a)) :=
  ⟨fun pins s σ H R I ⟨S, O, OA, ρ, E, w⟩ => (pi_str ha).run pins s σ H R I (rd1 E w fun d x H1 ⟨z, ed, hz, q⟩ e1 s1 E1 ix => by
    subst ed
    refine ⟨z, is_str.mp ix, q _ _ e1 s1 (fun V' _ => feedS) ?_⟩
    have hl : (charsD z).length = z.cps.size := by simp [charsD]
    rw [hl]; exact hz)⟩
theorem pid_rng (B : Bs Γ fnm lv X) {tg e : Expr} {x : Str} {p pos : Pos} {a : Fy.E} (ex : ("range" : Str) = x) (hg : Gl X x) (hn : nStar e = true) (ha : PE X e (tD X.K Γ a)) : PI X tg (.Call (.Name x p) [e] [] pos) (tDI X.K Γ (.rng a)) := by
  subst ex
  refine ⟨fun pins s σ H R I ⟨S, O, OA, ρ, E, w⟩ => (pi_range1 hg (B.free _ (by decide +kernel)) (args1 hn ha) (star_ne hn)).run pins s σ H R I (rd1 E w fun d x H1 ⟨i, ed, h1, h2, q⟩ e1 s1 E1 ix => ?_)⟩
  subst ed
  obtain rfl := is_int.mp ix
  refine ⟨i, rfl, h1, by rw [sizeLine_eq] at h2; omega, q _ _ e1 s1 (fun V' _ => feedR) ?_⟩
  rw [rngD_len]; omega
theorem pid_rng2 (B : Bs Γ fnm lv X) {tg e f : Expr} {x : Str} {p pos : Pos} {a b : Fy.E} (ex : ("range" : Str) = x) (hg : Gl X x) (hn : nStar e = true) (hn2 : nStar f = true) (ha : PE X e (tD X.K Γ a)) (hb : PE X f (tD X.K Γ b)) : PI X tg (.Call (.Name x p) [e, f] [] pos) (tDI X.K Γ (.rng2 a b)) := by
  subst ex
  refine ⟨fun pins s σ H R I ⟨S, O, OA, ρ, E, w⟩ => (pi_range2 hg (B.free _ (by decide +kernel)) (pa_cons ha (pa_cons hb pa_nil (star_ne hn2)) (star_ne hn)) (by rw [star_ne hn, star_ne hn2]; rfl) (star_ne hn2)).run pins s σ H R I (rd2 E w fun x y vx vy H2 ⟨i, j, ex, ey, h1, h2, h3, h4, q⟩ e2 s2 E2 ix iy => ?_)⟩
  subst ex ey
  obtain rfl := is_int.mp ix
  obtain rfl := is_int.mp iy
  rw [sizeLine_eq] at h2 h4
  refine ⟨i, j, rfl, ⟨by omega, by omega, by omega, by omega⟩, q _ _ e2 s2 (fun V' _ => feedR) ?_⟩
  rw [rngD_len, sizeLine_eq]; omega
theorem pid_enum (B : Bs Γ fnm lv X) {e : Expr} {x : Str} {p pos tpos : Pos} {elts : List Expr} {kk : Nat} {a : Fy.E} (ex : ("enumerate" : Str) = x) (hg : Gl X x) (hn : nStar e = true) (ha : PE X e (tD X.K Γ a)) : PI X (.Tuple elts kk tpos) (.Call (.Name x p) [e] [] pos) (tDI X.K Γ (.enum a)) := by
  subst ex
  refine ⟨fun pins s σ H R I ⟨S, O, OA, ρ, E, w⟩ => (piSz (piEnumA hg (B.free _ (by decide +kernel)) (args1 hn ha) (star_ne hn))).run pins s σ H R I (rd1 E w fun d x H1 ⟨xs, ed, q⟩ e1 s1 E1 ix => ?_)⟩
  have L : ∀ {c : Addr} {ys : List L2.V}, SqT X.K H1 c ys ∨ SqL X.K H1 c ys → ys.length = xs.length → SZ X.K (enumD 0 xs).length H1 := fun h e => .inl ⟨_, _, h, by rw [enumD_len]; omega⟩
  cases d with
  | tup ds =>
    cases ed
    obtain ⟨c, ys, rfl, t, l⟩ := is_tup.mp ix
    exact ⟨c, ys, rfl, .inr ⟨t.sq, _, L (.inl t.sq) l.len, q _ _ e1 s1 (fun V' ev => feedET (STup.stay (by rw [ev]; exact t)) (by rw [ev]; exact l))⟩⟩
  | raw ds =>
    cases ed
    obtain ⟨c, ys, rfl, n, t, l⟩ := is_raw.mp ix
    have st : ∀ V' H', Ext S (hide (OA ++ O) H1) (hide V' H') → SqT X.K H' c ys := fun V' H' e => .inl (.inl (hide_some (e _ _ n t)).2)
    exact ⟨c, ys, rfl, .inr ⟨st _ _ Ext.refl, _, L (.inl (st _ _ Ext.refl)) l.len, q _ _ e1 s1 (fun V' ev => feedET (fun H' e => st V' H' (by rw [← ev]; exact e)) (by rw [ev]; exact l))⟩⟩
  | lst ds =>
    cases ed
    obtain ⟨c, ys, rfl, n, t, l⟩ := is_lst.mp ix
    exact ⟨c, ys, rfl, .inl ⟨.inl (.inl (hide_some t).2), _, L (.inr (.inl (.inl (hide_some t).2))) l.len, q _ _ e1 s1 (fun V' ev => feedE n (by rw [ev]; exact t) (by rw [ev]; exact l))⟩⟩
  | _ => cases ed
theorem pid_zip (B : Bs Γ fnm lv X) {e f : Expr} {x : Str} {p pos tpos : Pos} {elts : List Expr} {kk : Nat} {a b : Fy.E} (ex : ("zip" : Str) = x) (hg : Gl X x) (hn : nStar e = true) (hn2 : nStar f = true) (ha : PE X e (tD X.K Γ a)) (hb : PE X f (tD X.K Γ b)) : PI X (.Tuple elts kk tpos) (.Call (.Name x p) [e, f] [] pos) (tDI X.K Γ (.zip a b)) := by
  subst ex
  refine ⟨fun pins s σ H R I ⟨S, O, OA, ρ, E, w⟩ => (piSz (RZ.pi_zipA hg (B.free _ (by decide +kernel)) (pa_cons ha (pa_cons hb pa_nil (star_ne hn2)) (star_ne hn)) (star_ne hn) (by rw [star_ne hn2]; rfl))).run pins s σ H R I (rd2 E w fun x y vx vy H2 q e2 s2 E2 ix iy => ?_)⟩
  rcases q with ⟨xs, ys, rfl, rfl, q⟩ | ⟨xs, ys, rfl, rfl, q⟩
  · obtain ⟨c, us, rfl, t, l⟩ := is_tup.mp ix
    obtain ⟨c', us', rfl, t', l'⟩ := is_tup.mp iy
    exact ⟨c, c', us, us', rfl, .inr ⟨t.sq, t'.sq, _, .inl ⟨c, us, .inl t.sq, by rw [zipD_len, l.len]; exact Nat.min_le_left _ _⟩, q _ _ e2 s2 (fun V' ev => feedZT (STup.stay (by rw [ev]; exact t)) (STup.stay (by rw [ev]; exact t')) (by rw [ev]; exact l) (by rw [ev]; exact l'))⟩⟩
  · obtain ⟨c, us, rfl, n, t, l⟩ := is_lst.mp ix
    obtain ⟨c', us', rfl, n', t', l'⟩ := is_lst.mp iy
    exact ⟨c, c', us, us', rfl, .inl ⟨.inl (.inl (hide_some t).2), .inl (.inl (hide_some t').2), _, .inl ⟨c, us, .inr (.inl (.inl (hide_some t).2)), by rw [zipD_len, l.len]; exact Nat.min_le_left _ _⟩, q _ _ e2 s2 (fun V' ev => feedZ n (by rw [ev]; exact t) n' (by rw [ev]; exact t') (by rw [ev]; exact l) (by rw [ev]; exact l'))⟩⟩
end
end Fy
end
section
/-! FyT3 -/
namespace Fy
open PySem PySem.Spec PyProof.Rows L2
/-! ### comprehensions -/
def tDC (K : PySem.W.Frag) (Γ : Nat → Spec) (t : EO) : TT := fun σ H Q => ∃ S O OA ρ, EnvR K S O OA H σ ρ ∧ wpC Γ t ρ (WitB S H Q)
theorem wipe_in {σ : L2.St} {j : Nat} : ∀ {vs : List Nat}, j ∈ vs → (L2.wipe σ vs)[j]? = if j < σ.length then some none else none
  | [], h => by simp at h
  | v :: vs, h => by
    unfold L2.wipe
    rw [List.getElem?_set, L2.wipe_length]
    by_cases e : v = j
    · subst e; rw [if_pos rfl]
    · rw [if_neg e]
      exact wipe_in (by rcases List.mem_cons.mp h with q | q; exact absurd q.symm e; exact q)
theorem wipe_eq {σ σ' : L2.St} {vs : List Nat} (hl : σ'.length = σ.length) (h : ∀ j, j ∉ vs → σ'[j]? = σ[j]?) : L2.wipe σ' vs = L2.wipe σ vs := by
  apply List.ext_getElem?
  intro j
  by_cases q : j ∈ vs
  · rw [wipe_in q, wipe_in q, hl]
  · rw [L2.wipe_out q, L2.wipe_out q, h j q]
theorem wipe_wipe {σ : L2.St} {vs : List Nat} : L2.wipe (L2.wipe σ vs) vs = L2.wipe σ vs := wipe_eq (L2.wipe_length σ vs) fun j q => L2.wipe_out q
section
variable {K : PySem.W.Frag} {S : Sr} {O OA : List Addr} {H H' : Hp} {σ : L2.St} {ρ : Rho}
theorem hide_newp {p : Addr} (hp : H p = none) : hide (OA ++ p :: O) H = hide (OA ++ O) H := by
  funext a
  by_cases q : a ∈ OA ++ O
  · have : a ∈ OA ++ p :: O := by
      rcases List.mem_append.mp q with z | z
      · exact List.mem_append_left _ z
      · exact List.mem_append_right _ (List.mem_cons_of_mem _ z)
    rw [hide_in q, hide_in this]
  · by_cases e : a = p
    · subst e
      have : a ∈ OA ++ a :: O := List.mem_append_right _ (List.mem_cons_self ..)
      rw [hide_in this, hide_out q, hp]
    · have : a ∉ OA ++ p :: O := fun z => by
        rcases List.mem_append.mp z with z | z
        · exact q (List.mem_append_left _ z)
        · rcases List.mem_cons.mp z with z | z
          · exact e z
          · exact q (List.mem_append_right _ z)
      rw [hide_out q, hide_out this]
theorem mem_inn {p a : Addr} (h : a ∈ OA ++ O) : a ∈ OA ++ p :: O := by
  rcases List.mem_append.mp h with z | z
  · exact List.mem_append_left _ z
  · exact List.mem_append_right _ (List.mem_cons_of_mem _ z)
theorem mem_self {p : Addr} : p ∈ OA ++ p :: O := List.mem_append_right _ (List.mem_cons_self ..)
theorem Ext.updN {H1 H2 : Hp} {p : Addr} {o : HO} (hp : H1 p = none) (e : Ext S H1 H2) : Ext S H1 (upd H2 p o) := fun a u n h => by
  rw [upd_ne (ne_of_none h hp)]; exact e a u n h
theorem drop_at {α : Type} {l : List α} {i : Nat} {d : α} (h : l[i]? = some d) : l.drop i = d :: l.drop (i + 1) := by
  have hi := (List.getElem?_eq_some_iff.mp h).1
  have e := (List.getElem?_eq_some_iff.mp h).2
  rw [List.drop_eq_getElem_cons hi, e]
theorem lc_at {Γ : Nat → Spec} {it : Fy.It} {tg : Tg} {vs : List Nat} {c : EO} {e : Fy.E} {Q : VK} (htg : ∀ i ∈ tgI tg, i ∈ vs) (E : EnvR K S O OA H σ ρ)
    (w : wpI Γ it ρ fun ds => compW tg vs (wpC Γ c) (fun ρ' Q' => wpE Γ e false ρ' Q') ρ ds [] fun es => Wit K S (OA ++ O) H Q (.lst es)) : tLc (tDI K Γ it) (gD K tg) (tDC K Γ c) (tD K Γ e) vs σ H Q := by
  refine ⟨S, O, OA, ρ, E, wpI_mono Γ it ρ _ _ (fun ds cw J H1 e1 s1 feed hz D hD => ?_) w⟩
  have E1 := E.ext e1 s1
  have Ds : D ≠ S.d := s1.ne hD
  have Dl : D ≠ S.l := s1.nel hD
  have Dv : D ∉ OA ++ O := fun z => E1.there D z hD
  have F := feed (OA ++ D :: O) (hide_newp hD)
  refine ⟨fun i m H2 => m = ds.length - i ∧ i ≤ ds.length ∧ Ext S H1 H2 ∧ SrcOk S H2 ∧ ∃ accV acc, H2 D = some (.lst accV) ∧ IsL K S (hide (OA ++ D :: O) H2) acc accV ∧ acc.length ≤ i ∧ compW tg vs (wpC Γ c) (fun ρ' Q' => wpE Γ e false ρ' Q') ρ (ds.drop i) acc fun es => Wit K S (OA ++ O) H Q (.lst es), ⟨_, rfl, Nat.zero_le _, Ext.new hD, s1.new hD, [], [], upd_same, isL_nil, Nat.le_refl _, cw⟩, ?_⟩
  intro i m H2 ⟨hm, hi, e2, s2, accV, acc, hacc, lacc, hal, cw⟩
  have E2 : EnvR K S (D :: O) OA H2 σ ρ := E1.inn hD e2 s2 (by rw [hacc]; intro z; cases z)
  have A2 : At S (OA ++ D :: O) H2 := E2.at false
  obtain ⟨f1, f2, f3⟩ := F i H2 (e2.hide _) A2
  by_cases hlt : i < ds.length
  · obtain ⟨d, hd⟩ : ∃ d, ds[i]? = some d := ⟨_, List.getElem?_eq_getElem hlt⟩
    rw [drop_at hd] at cw
    refine .inr ⟨f1 hlt, fun H' => Ext S H1 H' ∧ SrcOk S H' ∧ ∃ accV acc, H' D = some (.lst accV) ∧ IsL K S (hide (OA ++ D :: O) H') acc accV ∧ acc.length ≤ i + 1 ∧ compW tg vs (wpC Γ c) (fun ρ' Q' => wpE Γ e false ρ' Q') ρ (ds.drop (i + 1)) acc fun es => Wit K S (OA ++ O) H Q (.lst es),
      fun H' ⟨a1, a2, a3⟩ => ⟨ds.length - (i + 1), by omega, rfl, hlt, a1, a2, a3⟩, fun x H3 y => ?_⟩
    obtain ⟨d', hd', e3, s3, i3⟩ := f3 x H3 hlt y
    rw [hd] at hd'; cases hd'
    have E3 := (E2.ext e3 s3).wipe vs
    refine ⟨S, D :: O, OA, wipeR ρ vs, d, E3, i3, bindT_mono (fun ρ' w' σ' E' hs hl => ?_) cw⟩
    refine ⟨(wipe_eq hl fun j hj => hs j fun z => hj (htg j z)).trans wipe_wipe, S, D :: O, OA, ρ', E', wpC_mono Γ c ρ' _ _ (fun b f H4 e4 s4 => ?_) w'⟩
    cases b with
    | true =>
      rw [if_pos rfl]
      refine ⟨S, D :: O, OA, ρ', false, E'.ext e4 s4, wpE_mono Γ e false ρ' _ _ (fun y f5 v H5 e5 s5 iy => ?_) f⟩
      have e25 : Ext S H2 H5 := (e3.trans e4).trans e5
      refine ⟨accV, e25 _ _ Ds hacc, by rw [lacc.len]; omega, Ext.updN hD (e2.trans e25), s5.upd Ds Dl, accV ++ [v], acc ++ [y], upd_same, ?_, by simp; omega, f5⟩
      rw [ext_upd mem_self]
      exact (IsL.mono (e25.hide _) _ _ lacc).snoc iy
    | false =>
      rw [if_neg Bool.false_ne_true]
      have e24 : Ext S H2 H4 := e3.trans e4
      exact ⟨e2.trans e24, s4, accV, acc, e24 _ _ Ds hacc, IsL.mono (e24.hide _) _ _ lacc, by omega, f⟩
  · have hie : i = ds.length := by omega
    subst hie
    rw [List.drop_length] at cw
    refine .inl ⟨f2 (Nat.le_refl _), cw _ _ (e1.trans e2) s2 (is_lst.mpr ⟨D, accV, rfl, Ds, by rw [hide_out Dv]; exact hacc, IsL.mono (ext_out fun a ha => mem_inn ha) _ _ lacc⟩)⟩
end
end Fy
end
section
/-! FyT4 -/
namespace Fy
open PySem PySem.Spec PyProof.Rows L2
section
variable {K : PySem.W.Frag} {S : Sr} {O OA : List Addr} {H H' : Hp} {σ : L2.St} {ρ : Rho}
/-- what is hidden may change, if it is not owned -/
theorem EnvR.hext (E : EnvR K S O OA H σ ρ) (e : Ext S (hide (OA ++ O) H) (hide (OA ++ O) H')) (own : ∀ a ∈ OA, H' a = H a) (th : ∀ a ∈ O, H' a ≠ none) (s : SrcOk S H') : EnvR K S O OA H' σ ρ := by
  refine ⟨s, E.out, E.outl, fun a ha => ?_, fun a ha => ?_, E.apart, E.len, fun i d h => ?_, fun i d h => ?_, E.sep⟩
  · rcases List.mem_append.mp ha with q | q
    · rw [own a q]; exact E.there a ha
    · exact th a q
  · rw [own a ha]; exact E.chg a ha
  · obtain ⟨v, h1, h2⟩ := E.val i d h
    exact ⟨v, h1, Is.mono e d v h2⟩
  · obtain ⟨a, h1, h2, h3⟩ := E.own i d h
    refine ⟨a, h1, h2, ?_⟩
    rcases h3 with ⟨ds, xs, e1, e2, e3⟩ | ⟨ks, ds, kvs, e1, e2, e3, e4⟩
    · exact .inl ⟨ds, xs, e1, by rw [own a h2]; exact e2, IsL.mono e _ _ e3⟩
    · exact .inr ⟨ks, ds, kvs, e1, by rw [own a h2]; exact e2, e3, IsL.mono e _ _ e4⟩
theorem ext_same {H1 H2 : Hp} {a : Addr} (e : Ext S H1 H2) (n : a ≠ S.d) (h : H1 a ≠ none) : H2 a = H1 a := by
  cases q : H1 a with
  | none => exact absurd q h
  | some o => exact e a o n q
theorem hext_upd {V : List Addr} {H1 H2 : Hp} {p : Addr} {o : HO} (h : p ∈ V) (e : Ext S (hide V H1) (hide V H2)) : Ext S (hide V H1) (hide V (upd H2 p o)) := by
  rw [ext_upd h]; exact e
def tg2 (is : List Nat) : Tg := match is with
  | [j] => .name j
  | _ => .tup is
theorem tgI_tg2 (is : List Nat) : ∀ i ∈ tgI (tg2 is), i ∈ is := by
  intro i h
  unfold tg2 at h
  split at h
  · exact h
  · exact h
theorem lc2_at {Γ : Nat → Spec} {it it2 : Fy.It} {tg : Tg} {vs is : List Nat} {e : Fy.E} {Q : VK} (htg : ∀ i ∈ tgI tg, i ∈ vs) (E : EnvR K S O OA H σ ρ)
    (w : wpI Γ it ρ fun ds => comp2W tg vs is (wpI Γ it2) (fun ρ' Q' => wpE Γ e false ρ' Q') ρ ds [] fun es => Wit K S (OA ++ O) H Q (.lst es)) : tLc2 (tDI K Γ it) (gD K tg) tYes (tDI K Γ it2) (gD K (tg2 is)) tYes (tD K Γ e) vs is σ H Q := by
  refine ⟨S, O, OA, ρ, E, wpI_mono Γ it ρ _ _ (fun ds cw J H1 e1 s1 feed hz D hD => ?_) w⟩
  have E1 := E.ext e1 s1
  have Ds : D ≠ S.d := s1.ne hD
  have Dl : D ≠ S.l := s1.nel hD
  have Dv : D ∉ OA ++ O := fun z => E1.there D z hD
  have F := feed (OA ++ D :: O) (hide_newp hD)
  refine ⟨fun i m H2 => m = ds.length - i ∧ i ≤ ds.length ∧ Ext S H1 H2 ∧ SrcOk S H2 ∧ ∃ accV acc, H2 D = some (.lst accV) ∧ IsL K S (hide (OA ++ D :: O) H2) acc accV ∧ comp2W tg vs is (wpI Γ it2) (fun ρ' Q' => wpE Γ e false ρ' Q') ρ (ds.drop i) acc fun es => Wit K S (OA ++ O) H Q (.lst es), ⟨_, rfl, Nat.zero_le _, Ext.new hD, s1.new hD, [], [], upd_same, isL_nil, cw⟩, ?_⟩
  intro i m H2 ⟨hm, hi, e2, s2, accV, acc, hacc, lacc, cw⟩
  have E2 : EnvR K S (D :: O) OA H2 σ ρ := E1.inn hD e2 s2 (by rw [hacc]; intro z; cases z)
  have A2 : At S (OA ++ D :: O) H2 := E2.at false
  obtain ⟨f1, f2, f3⟩ := F i H2 (e2.hide _) A2
  by_cases hlt : i < ds.length
  · obtain ⟨d, hd⟩ : ∃ d, ds[i]? = some d := ⟨_, List.getElem?_eq_getElem hlt⟩
    rw [drop_at hd] at cw
    refine .inr ⟨f1 hlt, fun H' => Ext S H1 H' ∧ SrcOk S H' ∧ ∃ accV acc, H' D = some (.lst accV) ∧ IsL K S (hide (OA ++ D :: O) H') acc accV ∧ comp2W tg vs is (wpI Γ it2) (fun ρ' Q' => wpE Γ e false ρ' Q') ρ (ds.drop (i + 1)) acc fun es => Wit K S (OA ++ O) H Q (.lst es),
      fun H' ⟨a1, a2, a3⟩ => ⟨ds.length - (i + 1), by omega, rfl, hlt, a1, a2, a3⟩, fun x H3 y => ?_⟩
    obtain ⟨d', hd', e3, s3, i3⟩ := f3 x H3 hlt y
    rw [hd] at hd'; cases hd'
    have E3 := (E2.ext e3 s3).wipe vs
    refine ⟨S, D :: O, OA, wipeR ρ vs, d, E3, i3, bindT_mono (fun ρ' w' σ' E' hs hl => ?_) cw⟩
    refine ⟨(wipe_eq hl fun j hj => hs j fun z => hj (htg j z)).trans wipe_wipe, ?_⟩
    show tDI K Γ it2 σ' H3 _
    refine ⟨S, D :: O, OA, ρ', E', wpI_mono Γ it2 ρ' _ _ (fun its cw2 J1 H4 e4 s4 feed1 hz1 => ?_) w'⟩
    have F1 := feed1 (OA ++ D :: O) rfl
    have E4 := E'.ext e4 s4
    have e24 : Ext S H2 H4 := e3.trans e4
    have e14 : Ext S H1 H4 := e2.trans e24
    refine ⟨fun j k Hx => k = its.length - j ∧ j ≤ its.length ∧ Ext S H1 Hx ∧ Ext S (hide (OA ++ D :: O) H4) (hide (OA ++ D :: O) Hx) ∧ SrcOk S Hx ∧ ∃ accV acc, Hx D = some (.lst accV) ∧ IsL K S (hide (OA ++ D :: O) Hx) acc accV ∧
        compI is (fun ρ' Q' => wpE Γ e false ρ' Q') ρ' (its.drop j) acc (fun acc' => comp2W tg vs is (wpI Γ it2) (fun ρ' Q' => wpE Γ e false ρ' Q') ρ (ds.drop (i + 1)) acc' fun es => Wit K S (OA ++ O) H Q (.lst es)),
      ⟨_, rfl, Nat.zero_le _, e14, Ext.refl, s4, accV, acc, e24 _ _ Ds hacc, IsL.mono (e24.hide _) _ _ lacc, cw2⟩, ?_⟩
    intro j k Hx ⟨hk, hj, ex1, exh, sx, accV2, acc2, hacc2, lacc2, cw3⟩
    have Ex : EnvR K S (D :: O) OA Hx σ' ρ' := E4.hext exh (fun a ha => by
      have n : a ≠ S.d := fun z => E.out (List.mem_append_left _ (z ▸ ha))
      have h := E1.there a (List.mem_append_left _ ha)
      rw [ext_same ex1 n h, ext_same e14 n h]) (fun a ha => by
      rcases List.mem_cons.mp ha with q | q
      · rw [q, hacc2]; intro z; cases z
      · have n : a ≠ S.d := fun z => E.out (List.mem_append_right _ (z ▸ q))
        have h := E1.there a (List.mem_append_right _ q)
        rw [ext_same ex1 n h]; exact h) sx
    obtain ⟨g1, g2, g3⟩ := F1 j Hx exh (Ex.at false)
    by_cases hlt1 : j < its.length
    · obtain ⟨b, hb⟩ : ∃ b, its[j]? = some b := ⟨_, List.getElem?_eq_getElem hlt1⟩
      rw [drop_at hb] at cw3
      refine .inr ⟨g1 hlt1, fun H' => Ext S H1 H' ∧ Ext S (hide (OA ++ D :: O) H4) (hide (OA ++ D :: O) H') ∧ SrcOk S H' ∧ ∃ accV acc, H' D = some (.lst accV) ∧ IsL K S (hide (OA ++ D :: O) H') acc accV ∧
        compI is (fun ρ' Q' => wpE Γ e false ρ' Q') ρ' (its.drop (j + 1)) acc (fun acc' => comp2W tg vs is (wpI Γ it2) (fun ρ' Q' => wpE Γ e false ρ' Q') ρ (ds.drop (i + 1)) acc' fun es => Wit K S (OA ++ O) H Q (.lst es)),
        fun H' ⟨a1, a2, a3, a4⟩ => ⟨its.length - (j + 1), by omega, rfl, hlt1, a1, a2, a3, a4⟩, fun x5 H5 y5 => ?_⟩
      obtain ⟨b', hb', e5, s5, i5⟩ := g3 x5 H5 hlt1 y5
      rw [hb] at hb'; cases hb'
      have E5 := (Ex.ext e5 s5).wipe is
      refine ⟨S, D :: O, OA, wipeR ρ' is, b, E5, i5, bindT_mono (fun ρ6 w6 σ6 E6 hs6 hl6 => ?_) cw3⟩
      refine ⟨(wipe_eq hl6 fun j hj => hs6 j fun z => hj (tgI_tg2 is j z)).trans wipe_wipe, ?_⟩
      show tD K Γ e σ6 H5 _
      refine ⟨S, D :: O, OA, ρ6, false, E6, wpE_mono Γ e false ρ6 _ _ (fun y7 f7 v7 H7 e7 s7 iy => ?_) w6⟩
      have e57 : Ext S Hx H7 := e5.trans e7
      refine ⟨accV2, e57 _ _ Ds hacc2, by rw [lacc2.len]; exact f7.1, Ext.updN hD (ex1.trans e57), hext_upd mem_self (exh.trans (e57.hide _)), s7.upd Ds Dl, accV2 ++ [v7], acc2 ++ [y7], upd_same, ?_, f7.2⟩
      rw [ext_upd mem_self]
      exact (IsL.mono (e57.hide _) _ _ lacc2).snoc iy
    · have hje : j = its.length := by omega
      subst hje
      rw [List.drop_length] at cw3
      exact .inl ⟨g2 (Nat.le_refl _), ex1, sx, accV2, acc2, hacc2, lacc2, cw3⟩
  · have hie : i = ds.length := by omega
    subst hie
    rw [List.drop_length] at cw
    refine .inl ⟨f2 (Nat.le_refl _), cw _ _ (e1.trans e2) s2 (is_lst.mpr ⟨D, accV, rfl, Ds, by rw [hide_out Dv]; exact hacc, IsL.mono (ext_out fun a ha => mem_inn ha) _ _ lacc⟩)⟩
end
end Fy
end
section
/-! FyT5 -/
namespace Fy
open PySem PySem.Spec PyProof.Rows L2
section
variable {K : PySem.W.Frag} {S : Sr} {O OA : List Addr} {H H' : Hp} {σ : L2.St} {ρ : Rho}
def FeedF (K : PySem.W.Frag) (S : Sr) (V : List Addr) (J : L2.It) (H : Hp) (xs : List D) : Prop := ∀ i H', Ext S H H' → At S V H' →
  (i < xs.length → J.go i H') ∧ (xs.length ≤ i → J.stop i H') ∧ ∀ x H'', i < xs.length → J.yld i H' x H'' → ∃ d, xs[i]? = some d ∧ Ext S H' H'' ∧ SrcOk S H'' ∧ Is K S (hide V H'') d x
theorem lc_walk {Γ : Nat → Spec} {tg : Tg} {vs : List Nat} {c : EO} {e : Fy.E} {J : L2.It} {ds : List Fy.D} {D : Addr} {Qe : List Fy.D → Prop} {Q : VK} (htg : ∀ i ∈ tgI tg, i ∈ vs) (E1 : EnvR K S O OA H σ ρ) (hz : ds.length ≤ sizeLine) (hD : H D = none)
    (F : FeedF K S (OA ++ D :: O) J H ds) (cw : compW tg vs (wpC Γ c) (fun ρ' Q' => wpE Γ e false ρ' Q') ρ ds [] Qe) (hQ : ∀ es vs H', Qe es → Ext S H H' → SrcOk S H' → H' D = some (.lst vs) → IsL K S (hide (OA ++ D :: O) H') es vs → Q (.ref D) H') :
    ∃ W : Nat → Nat → Hp → Prop, (∃ m, W 0 m (upd H D (.lst []))) ∧ ∀ i m H, W i m H →
      (J.stop i H ∧ Q (.ref D) H) ∨ (J.go i H ∧ ∃ Nx : Hp → Prop, (∀ H', Nx H' → ∃ m', m' < m ∧ W (i + 1) m' H') ∧ ∀ x H', J.yld i H x H' → gD K tg x (L2.wipe σ vs) H' fun σ2 H2 => L2.wipe σ2 vs = L2.wipe σ vs ∧ tDC K Γ c σ2 H2 fun b H3 =>
        if b = true then tD K Γ e σ2 H3 fun y H4 => ∃ acc, H4 D = some (.lst acc) ∧ acc.length < sizeLine ∧ Nx (upd H4 D (.lst (acc ++ [y]))) else Nx H3) := by
  have s1 := E1.src
  have Ds : D ≠ S.d := s1.ne hD
  have Dl : D ≠ S.l := s1.nel hD
  have Dv : D ∉ OA ++ O := fun z => E1.there D z hD
  refine ⟨fun i m H2 => m = ds.length - i ∧ i ≤ ds.length ∧ Ext S H H2 ∧ SrcOk S H2 ∧ ∃ accV acc, H2 D = some (.lst accV) ∧ IsL K S (hide (OA ++ D :: O) H2) acc accV ∧ acc.length ≤ i ∧ compW tg vs (wpC Γ c) (fun ρ' Q' => wpE Γ e false ρ' Q') ρ (ds.drop i) acc Qe, ⟨_, rfl, Nat.zero_le _, Ext.new hD, s1.new hD, [], [], upd_same, isL_nil, Nat.le_refl _, cw⟩, ?_⟩
  intro i m H2 ⟨hm, hi, e2, s2, accV, acc, hacc, lacc, hal, cw⟩
  have E2 : EnvR K S (D :: O) OA H2 σ ρ := E1.inn hD e2 s2 (by rw [hacc]; intro z; cases z)
  obtain ⟨f1, f2, f3⟩ := F i H2 e2 (E2.at false)
  by_cases hlt : i < ds.length
  · obtain ⟨d, hd⟩ : ∃ d, ds[i]? = some d := ⟨_, List.getElem?_eq_getElem hlt⟩
    rw [drop_at hd] at cw
    refine .inr ⟨f1 hlt, fun H' => Ext S H H' ∧ SrcOk S H' ∧ ∃ accV acc, H' D = some (.lst accV) ∧ IsL K S (hide (OA ++ D :: O) H') acc accV ∧ acc.length ≤ i + 1 ∧ compW tg vs (wpC Γ c) (fun ρ' Q' => wpE Γ e false ρ' Q') ρ (ds.drop (i + 1)) acc Qe,
      fun H' ⟨a1, a2, a3⟩ => ⟨ds.length - (i + 1), by omega, rfl, hlt, a1, a2, a3⟩, fun x H3 y => ?_⟩
    obtain ⟨d', hd', e3, s3, i3⟩ := f3 x H3 hlt y
    rw [hd] at hd'; cases hd'
    have E3 := (E2.ext e3 s3).wipe vs
    refine ⟨S, D :: O, OA, wipeR ρ vs, d, E3, i3, bindT_mono (fun ρ' w' σ' E' hs hl => ?_) cw⟩
    refine ⟨(wipe_eq hl fun j hj => hs j fun z => hj (htg j z)).trans wipe_wipe, S, D :: O, OA, ρ', E', wpC_mono Γ c ρ' _ _ (fun b f H4 e4 s4 => ?_) w'⟩
    cases b with
    | true =>
      rw [if_pos rfl]
      refine ⟨S, D :: O, OA, ρ', false, E'.ext e4 s4, wpE_mono Γ e false ρ' _ _ (fun y f5 v H5 e5 s5 iy => ?_) f⟩
      have e25 : Ext S H2 H5 := (e3.trans e4).trans e5
      refine ⟨accV, e25 _ _ Ds hacc, by rw [lacc.len]; omega, Ext.updN hD (e2.trans e25), s5.upd Ds Dl, accV ++ [v], acc ++ [y], upd_same, ?_, by simp; omega, f5⟩
      rw [ext_upd mem_self]
      exact (IsL.mono (e25.hide _) _ _ lacc).snoc iy
    | false =>
      rw [if_neg Bool.false_ne_true]
      have e24 : Ext S H2 H4 := e3.trans e4
      exact ⟨e2.trans e24, s4, accV, acc, e24 _ _ Ds hacc, IsL.mono (e24.hide _) _ _ lacc, by omega, f⟩
  · have hie : i = ds.length := by omega
    subst hie
    rw [List.drop_length] at cw
    exact .inl ⟨f2 (Nat.le_refl _), hQ _ _ _ cw e2 s2 hacc lacc⟩
/-- .. as any other datum -/
theorem is_seen {D : Addr} {es : List Fy.D} {vs : List L2.V} (E : EnvR K S O OA H σ ρ) (hD : H D = none) (h : H' D = some (.lst vs)) (l : IsL K S (hide (OA ++ D :: O) H') es vs) : Is K S (hide (OA ++ O) H') (.lst es) (.ref D) :=
  is_lst.mpr ⟨D, vs, rfl, E.src.ne hD, by rw [hide_out fun z => E.there D z hD]; exact h, IsL.mono (ext_out fun a ha => mem_inn ha) _ _ l⟩
theorem dc_walk {Γ : Nat → Spec} {tg : Tg} {vs : List Nat} {c : EO} {k e : Fy.E} {J : L2.It} {ds : List Fy.D} {D : Addr} {Qe : List Int → List Fy.D → Prop} {Q : VK} (htg : ∀ i ∈ tgI tg, i ∈ vs) (E1 : EnvR K S O OA H σ ρ) (hz : ds.length ≤ sizeLine) (hD : H D = none)
    (F : FeedF K S (OA ++ D :: O) J H ds) (cw : dcW tg vs (wpC Γ c) (fun ρ' Q' => wpE Γ k false ρ' Q') (fun ρ' Q' => wpE Γ e false ρ' Q') ρ ds [] [] Qe) (hQ : ∀ ks es v H', Qe ks es → Ext S H H' → SrcOk S H' → Is K S (hide (OA ++ O) H') (.dic ks es) v → Q v H') :
    ∃ W : Nat → Nat → Hp → Prop, (∃ m, W 0 m (upd H D (.dK []))) ∧ ∀ i m H, W i m H →
      (J.stop i H ∧ Q (.ref D) H) ∨ (J.go i H ∧ ∃ Nx : Hp → Prop, (∀ H', Nx H' → ∃ m', m' < m ∧ W (i + 1) m' H') ∧ ∀ x H', J.yld i H x H' → gD K tg x (L2.wipe σ vs) H' fun σ2 H2 => L2.wipe σ2 vs = L2.wipe σ vs ∧ tDC K Γ c σ2 H2 fun b H3 =>
        if b = true then tD K Γ k σ2 H3 fun y H4 => tD K Γ e σ2 H4 fun z H5 => ∃ kvs k, y = kV k ∧ H5 D = some (.dK kvs) ∧ kvs.length < sizeLine ∧ Nx (upd H5 D (.dK (putK kvs k z))) else Nx H3) := by
  have s1 := E1.src
  have Ds : D ≠ S.d := s1.ne hD
  have Dl : D ≠ S.l := s1.nel hD
  have Dv : D ∉ OA ++ O := fun z => E1.there D z hD
  refine ⟨fun i m H2 => m = ds.length - i ∧ i ≤ ds.length ∧ Ext S H H2 ∧ SrcOk S H2 ∧ ∃ (kvs : List (Key × L2.V)) (ks : List Int) (es : List Fy.D), H2 D = some (.dK kvs) ∧ kvs.map (·.1) = ks.map Sum.inl ∧ IsL K S (hide (OA ++ D :: O) H2) es (kvs.map (·.2)) ∧ kvs.length ≤ i ∧ dcW tg vs (wpC Γ c) (fun ρ' Q' => wpE Γ k false ρ' Q') (fun ρ' Q' => wpE Γ e false ρ' Q') ρ (ds.drop i) ks es Qe,
    ⟨_, rfl, Nat.zero_le _, Ext.new hD, s1.new hD, [], [], [], upd_same, rfl, isL_nil, Nat.le_refl _, cw⟩, ?_⟩
  intro i m H2 ⟨hm, hi, e2, s2, kvs, ks, es, hacc, hks, lacc, hal, cw⟩
  have E2 : EnvR K S (D :: O) OA H2 σ ρ := E1.inn hD e2 s2 (by rw [hacc]; intro z; cases z)
  obtain ⟨f1, f2, f3⟩ := F i H2 e2 (E2.at false)
  by_cases hlt : i < ds.length
  · obtain ⟨d, hd⟩ : ∃ d, ds[i]? = some d := ⟨_, List.getElem?_eq_getElem hlt⟩
    rw [drop_at hd] at cw
    refine .inr ⟨f1 hlt, fun H' => Ext S H H' ∧ SrcOk S H' ∧ ∃ (kvs : List (Key × L2.V)) (ks : List Int) (es : List Fy.D), H' D = some (.dK kvs) ∧ kvs.map (·.1) = ks.map Sum.inl ∧ IsL K S (hide (OA ++ D :: O) H') es (kvs.map (·.2)) ∧ kvs.length ≤ i + 1 ∧ dcW tg vs (wpC Γ c) (fun ρ' Q' => wpE Γ k false ρ' Q') (fun ρ' Q' => wpE Γ e false ρ' Q') ρ (ds.drop (i + 1)) ks es Qe,
      fun H' ⟨a1, a2, a3⟩ => ⟨ds.length - (i + 1), by omega, rfl, hlt, a1, a2, a3⟩, fun x H3 y => ?_⟩
    obtain ⟨d', hd', e3, s3, i3⟩ := f3 x H3 hlt y
    rw [hd] at hd'; cases hd'
    have E3 := (E2.ext e3 s3).wipe vs
    refine ⟨S, D :: O, OA, wipeR ρ vs, d, E3, i3, bindT_mono (fun ρ' w' σ' E' hs hl => ?_) cw⟩
    refine ⟨(wipe_eq hl fun j hj => hs j fun z => hj (htg j z)).trans wipe_wipe, S, D :: O, OA, ρ', E', wpC_mono Γ c ρ' _ _ (fun b f H4 e4 s4 => ?_) w'⟩
    cases b with
    | true =>
      rw [if_pos rfl]
      have E4 := E'.ext e4 s4
      refine ⟨S, D :: O, OA, ρ', false, E4, wpE_mono Γ k false ρ' _ _ (fun y f5 v H5 e5 s5 iy => ?_) f⟩
      refine ⟨S, D :: O, OA, ρ', false, E4.ext e5 s5, wpE_mono Γ e false ρ' _ _ (fun y6 f6 v6 H6 e6 s6 iy6 => ?_) f5⟩
      obtain ⟨n, ey, f7⟩ := f6
      subst ey
      obtain rfl := is_int.mp iy
      have e26 : Ext S H2 H6 := ((e3.trans e4).trans e5).trans e6
      obtain ⟨p1, p2⟩ := dput_is (i := n) iy6 hks (IsL.mono (e26.hide _) _ _ lacc)
      refine ⟨kvs, .inl n, rfl, e26 _ _ Ds hacc, by omega, Ext.updN hD (e2.trans e26), s6.upd Ds Dl, putK kvs (.inl n) v6, _, _, upd_same, p1, ?_, ?_, f7⟩
      · rw [ext_upd mem_self]; exact p2
      · have := length_putK kvs (.inl n : Key) v6; omega
    | false =>
      rw [if_neg Bool.false_ne_true]
      have e24 : Ext S H2 H4 := e3.trans e4
      exact ⟨e2.trans e24, s4, kvs, ks, es, e24 _ _ Ds hacc, hks, IsL.mono (e24.hide _) _ _ lacc, by omega, f⟩
  · have hie : i = ds.length := by omega
    subst hie
    rw [List.drop_length] at cw
    refine .inl ⟨f2 (Nat.le_refl _), hQ _ _ _ _ cw e2 s2 (is_dic.mpr ⟨D, kvs, rfl, Ds, by rw [hide_out Dv]; exact hacc, hks, IsL.mono (ext_out fun a ha => mem_inn ha) _ _ lacc⟩)⟩
end
end Fy
end
section
/-! FyT6 -/
namespace Fy
open PySem PySem.Spec PyProof.Rows L2
section
variable {K : PySem.W.Frag} {S : Sr} {O OA : List Addr} {H H' : Hp} {σ : L2.St} {ρ : Rho}
theorem hide_as {V V' : List Addr} (h : ∀ a, a ∈ V ↔ a ∈ V') : hide V H = hide V' H := by
  funext a
  by_cases q : a ∈ V
  · rw [hide_in q, hide_in ((h a).mp q)]
  · rw [hide_out q, hide_out fun z => q ((h a).mpr z)]
theorem fixedIn {a : Addr} {od : Obj} {kvs : List (Key × L2.V)} (ha : H a = some (.dK kvs)) {ds : List D} {xs : List L2.V} (hf : fixeds ds = true) (l : IsL K S (hide (OA ++ O) H) ds xs) : IsL K S (hide (OA ++ a :: O) (upd H a (.frz od (.dK kvs)))) ds xs := by
  rw [ext_upd mem_self]
  have h := IsL.fix (OA := [a]) (O := OA ++ O) (H := H) (fun b hb => by rw [List.mem_singleton.mp hb]; exact .inr ⟨kvs, ha⟩) ds xs hf l
  rw [hide_as (V' := [a] ++ (OA ++ O)) fun b => by simp [or_left_comm]]
  exact h
theorem keepR_at {kp : List Nat} {i : Nat} {o : Bool} {d : D} (h : (keepR ρ kp)[i]? = some (some (o, d))) : i ∈ kp ∧ ρ[i]? = some (some (o, d)) := by
  unfold keepR at h
  rw [List.getElem?_map] at h
  by_cases hi : i < ρ.length
  · rw [List.getElem?_range hi] at h
    simp only [Option.map_some, Option.some.injEq] at h
    split at h
    · refine ⟨‹_›, ?_⟩
      cases q : ρ[i]? with
      | none => rw [q] at h; cases h
      | some sl => rw [q] at h; simp only [Option.join] at h; rw [← h]; rfl
    · cases h
  · rw [List.getElem?_eq_none (by simp; omega)] at h
    cases h
theorem EnvR.lock (E : EnvR K S O OA H σ ρ) {a : Addr} {od : Obj} {kvs : List (Key × L2.V)} (ha : hide (OA ++ O) H a = some (.dK kvs)) (n : a ≠ S.d) {kp : List Nat} (hk : fixKs ρ kp) : EnvR K S (a :: O) OA (upd H a (.frz od (.dK kvs))) σ (keepR ρ kp) := by
  obtain ⟨h1, h2⟩ := hide_some ha
  have nl : a ≠ S.l := fun z => by
    obtain ⟨cs, _, _, _, _, _, h⟩ := E.src
    rw [← z, h2] at h; cases h
  have ne : ∀ b, b ∈ OA ++ O → b ≠ a := fun b hb z => h1 (z ▸ hb)
  have own : ∀ {i : Nat} {d : D}, (keepR ρ kp)[i]? ≠ some (some (true, d)) := fun {i d} h => by
    obtain ⟨q, r⟩ := keepR_at h
    obtain ⟨d', e, _⟩ := hk i q
    rw [e] at r; cases r
  refine ⟨E.src.upd n nl, fun z => ?_, fun z => ?_, fun b hb => ?_, fun b hb => ?_, fun b hb z => ?_, by simp [keepR, E.len], fun i d h => ?_, fun i d h => absurd h own, fun i j d e a _ h => absurd h own⟩
  · rcases List.mem_append.mp z with q | q
    · exact E.out (List.mem_append_left _ q)
    · rcases List.mem_cons.mp q with q | q
      · exact n q.symm
      · exact E.out (List.mem_append_right _ q)
  · rcases List.mem_append.mp z with q | q
    · exact E.outl (List.mem_append_left _ q)
    · rcases List.mem_cons.mp q with q | q
      · exact nl q.symm
      · exact E.outl (List.mem_append_right _ q)
  · by_cases q : b = a
    · rw [q, upd_same]; intro z; cases z
    · rw [upd_ne q]
      rcases List.mem_append.mp hb with z | z
      · exact E.there b (List.mem_append_left _ z)
      · rcases List.mem_cons.mp z with z | z
        · exact absurd z q
        · exact E.there b (List.mem_append_right _ z)
  · rw [upd_ne (ne b (List.mem_append_left _ hb))]; exact E.chg b hb
  · rcases List.mem_cons.mp z with q | q
    · exact ne b (List.mem_append_left _ hb) q
    · exact E.apart b hb q
  · obtain ⟨q, r⟩ := keepR_at h
    obtain ⟨d', e, f⟩ := hk i q
    rw [e] at r; cases r
    obtain ⟨v, g1, g2⟩ := E.val i d e
    refine ⟨v, g1, ?_⟩
    have l := fixedIn (ds := [d]) (xs := [v]) (od := od) h2 (by show (d.fixed && true) = true; rw [f]; rfl) (isL_cons g2 isL_nil)
    unfold IsL at l
    obtain ⟨x, r, e, i, _⟩ := l
    cases e
    exact i
theorem itsD_get : ∀ {ks : List Int} {ds : List D} {i : Nat} {k : Int} {d : D}, ks[i]? = some k → ds[i]? = some d → (itsD ks ds)[i]? = some (.raw [.int k, d])
  | [], _, _, _, _, h, _ => by simp at h
  | _ :: _, [], _, _, _, _, h => by simp at h
  | x :: xs, y :: ys, 0, d, e, h, g => by simp at h g; subst h g; rfl
  | x :: xs, y :: ys, i + 1, d, e, h, g => by
    have := itsD_get (ks := xs) (ds := ys) (i := i) (by simpa using h) (by simpa using g)
    simpa [itsD] using this
theorem itsD_len : ∀ {ks : List Int} {ds : List D}, ks.length = ds.length → (itsD ks ds).length = ds.length
  | [], [], _ => rfl
  | [], _ :: _, h => by simp at h
  | _ :: _, [], h => by simp at h
  | x :: xs, y :: ys, h => congrArg Nat.succ (itsD_len (ks := xs) (ds := ys) (by simpa using h))
/-- what walking a locked dict gives -/
theorem feedI {V : List Addr} {a : Addr} {od : Obj} {kvs : List (Key × L2.V)} {ks : List Int} {ds : List D} (n : a ≠ S.d) (ha : H a = some (.frz od (.dK kvs))) (hks : kvs.map (·.1) = ks.map Sum.inl) (l : IsL K S (hide V H) ds (kvs.map (·.2))) : FeedF K S V (Iti a od kvs) H (itsD ks ds) := fun i H' e A => by
  have q : H' a = some (.frz od (.dK kvs)) := e _ _ n ha
  have l1 : kvs.length = ds.length := by have := l.len; simpa using this
  have l2 : ks.length = ds.length := by
    have := congrArg List.length hks
    simp at this; omega
  rw [itsD_len l2]
  refine ⟨fun hi => ⟨q, by omega⟩, fun hi => ⟨q, by omega⟩, fun x H'' hlt y => ?_⟩
  obtain ⟨T, k, v, hkv, rfl, hT, rfl⟩ := y
  have hk2 : (ks[i]?).map Sum.inl = some k := by
    have := congrArg (fun z => z[i]?) hks
    simp only [List.getElem?_map, hkv] at this
    exact this.symm
  cases e3 : ks[i]? with
  | none => rw [e3] at hk2; cases hk2
  | some z =>
    rw [e3] at hk2
    have ek : k = Sum.inl z := by cases hk2; rfl
    subst ek
    obtain ⟨d, h1, h2⟩ := l.got (i := i) (x := v) (by rw [List.getElem?_map, hkv]; rfl)
    obtain ⟨r1, r2, r3⟩ := newRaw (ds := [.int z, d]) A hT (isL_cons (is_int.mpr rfl) (isL_cons (Is.mono (e.hide V) d v h2) isL_nil))
    exact ⟨_, itsD_get e3 h1, r1, r2, r3⟩
/-- the lock is undone -/
theorem unlockW {Q : VK} {a : Addr} {od : Obj} {kvs : List (Key × L2.V)} {d : D} (E : EnvR K S O OA H σ ρ) (ha : hide (OA ++ O) H a = some (.dK kvs)) (n : a ≠ S.d) (w : Wit K S (OA ++ O) H Q d) {v : L2.V} {H' : Hp} (e : Ext S (upd H a (.frz od (.dK kvs))) H') (s : SrcOk S H') (i : Is K S (hide (OA ++ a :: O) H') d v) :
    H' a = some (.frz od (.dK kvs)) ∧ Q v (upd H' a (.dK kvs)) := by
  obtain ⟨h1, h2⟩ := hide_some ha
  have nl : a ≠ S.l := fun z => by
    obtain ⟨cs, _, _, _, _, _, h⟩ := E.src
    rw [← z, h2] at h; cases h
  refine ⟨e _ _ n upd_same, w _ _ (fun b o nb h => ?_) (s.upd n nl) (Is.mono (ext_out fun b hb => mem_inn (p := a) hb) _ _ (by rw [ext_upd mem_self]; exact i))⟩
  by_cases q : b = a
  · rw [q] at h ⊢
    rw [upd_same, ← h2, h]
  · rw [upd_ne q]; exact e b o nb (by rw [upd_ne q]; exact h)
theorem dic_at (E : EnvR K S O OA H σ ρ) {d : Nat} {ks : List Int} {ds : List D} (h : ρ[d]? = some (some (false, .dic ks ds))) : ∃ a kvs, σ[d]? = some (some (.ref a)) ∧ a ≠ S.d ∧ hide (OA ++ O) H a = some (.dK kvs) ∧ kvs.map (·.1) = ks.map Sum.inl ∧ IsL K S (hide (OA ++ O) H) ds (kvs.map (·.2)) := by
  obtain ⟨v, h1, h2⟩ := E.val d _ h
  obtain ⟨a, kvs, rfl, n, h3, h4, h5⟩ := is_dic.mp h2
  exact ⟨a, kvs, h1, n, h3, h4, h5⟩
theorem lci_at {Γ : Nat → Spec} {tg : Tg} {vs kp : List Nat} {d : Nat} {c : EO} {e : Fy.E} {Q : VK} (htg : ∀ i ∈ tgI tg, i ∈ vs) (E : EnvR K S O OA H σ ρ) {ks : List Int} {ds : List D} (hd : ρ[d]? = some (some (false, .dic ks ds))) (hk : fixKs ρ kp) (hf : fixeds ds = true) (hz : ds.length ≤ sizeLine)
    (cw : compW tg vs (wpC Γ c) (fun ρ' Q' => wpE Γ e false ρ' Q') (keepR ρ kp) (itsD ks ds) [] fun es => Wit K S (OA ++ O) H Q (.lst es)) : tLockE (tLc (iItems (tVar d)) (gD K tg) (tDC K Γ c) (tD K Γ e) vs) σ H Q := by
  obtain ⟨a, kvs, h1, n, h2, h3, h4⟩ := dic_at E hd
  obtain ⟨h5, h6⟩ := hide_some h2
  refine ⟨a, .dK kvs, h6, True.intro, fun od => ⟨.ref a, h1, a, od, kvs, rfl, upd_same, fun D hD => ?_⟩⟩
  have EL := E.lock (od := od) h2 n hk
  have l2 : ks.length = ds.length := by
    have e1 := h4.len
    have e2 := congrArg List.length h3
    simp at e1 e2; omega
  refine lc_walk (Q := fun v H' => H' a = some (.frz od (.dK kvs)) ∧ Q v (upd H' a (.dK kvs))) htg EL (by rw [itsD_len l2]; exact hz) hD (feedI n upd_same h3 ?_) cw fun es v H' w e' s' g i => unlockW E h2 n w e' s' (is_seen EL hD g i)
  have hn : hide (OA ++ D :: a :: O) (upd H a (.frz od (.dK kvs))) = hide (OA ++ a :: O) (upd H a (.frz od (.dK kvs))) := hide_newp hD
  rw [hn]
  exact fixedIn h6 hf h4
theorem dci_at {Γ : Nat → Spec} {tg : Tg} {vs kp : List Nat} {d : Nat} {c : EO} {k e : Fy.E} {Q : VK} (htg : ∀ i ∈ tgI tg, i ∈ vs) (E : EnvR K S O OA H σ ρ) {ks : List Int} {ds : List D} (hd : ρ[d]? = some (some (false, .dic ks ds))) (hk : fixKs ρ kp) (hf : fixeds ds = true) (hz : ds.length ≤ sizeLine)
    (cw : dcW tg vs (wpC Γ c) (fun ρ' Q' => wpE Γ k false ρ' Q') (fun ρ' Q' => wpE Γ e false ρ' Q') (keepR ρ kp) (itsD ks ds) [] [] fun ks es => Wit K S (OA ++ O) H Q (.dic ks es)) : tLockE (tDc (iItems (tVar d)) (gD K tg) (tDC K Γ c) (tD K Γ k) (tD K Γ e) vs) σ H Q := by
  obtain ⟨a, kvs, h1, n, h2, h3, h4⟩ := dic_at E hd
  obtain ⟨h5, h6⟩ := hide_some h2
  refine ⟨a, .dK kvs, h6, True.intro, fun od => ⟨.ref a, h1, a, od, kvs, rfl, upd_same, fun D hD => ?_⟩⟩
  have EL := E.lock (od := od) h2 n hk
  have l2 : ks.length = ds.length := by
    have e1 := h4.len
    have e2 := congrArg List.length h3
    simp at e1 e2; omega
  refine dc_walk htg EL (by rw [itsD_len l2]; exact hz) hD (feedI n upd_same h3 ?_) cw fun ks es v H' w e' s' i => unlockW E h2 n w e' s' i
  have hn : hide (OA ++ D :: a :: O) (upd H a (.frz od (.dK kvs))) = hide (OA ++ a :: O) (upd H a (.frz od (.dK kvs))) := hide_newp hD
  rw [hn]
  exact fixedIn h6 hf h4
end
end Fy
end
section
/-! FyM -/
namespace Fy
open PySem PySem.Spec PyProof.Rows L2
section
variable {N fnm : List Str} {sc : Scope}
theorem inv_lc {own : List (Str × Nat)} {tg : Tg} {it : Fy.It} {c : EO} {a : E} {e : Expr} (h : chkE N fnm sc (.lc own tg it c a) e = true) : ∃ x t i ifs scope p, e = .ListComp x [⟨t, i, ifs, 0⟩] scope p ∧ blkC N sc scope own = true ∧ nSet i = true ∧ ((tgI tg).all fun j => decide (j ∈ own.map (·.2))) = true ∧
    chkTg N (relS scope sc) true tg t = true ∧ chkI N fnm sc it i t = true ∧ chkC N fnm (relS scope sc) c ifs = true ∧ chkE N fnm (relS scope sc) a x = true := by
  cases e with
  | ListComp x gs scope p =>
    match gs, h with
    | [⟨t, i, ifs, n⟩], h =>
      obtain ⟨h1, h2⟩ := b2 h
      obtain ⟨h3, h4⟩ := b2 h1
      obtain ⟨h5, h6⟩ := b2 h3
      obtain ⟨h7, h8⟩ := b2 h5
      obtain ⟨g1, g2⟩ := b2 h2
      obtain ⟨g3, g4⟩ := b2 g2
      obtain rfl := of_decide_eq_true h7
      exact ⟨x, t, i, ifs, scope, p, rfl, h8, h6, h4, g1, g3, b2 g4⟩
    | [], h => exact absurd h Bool.false_ne_true
    | _ :: _ :: _, h => simp [chkE] at h
  | _ => exact absurd h Bool.false_ne_true
theorem inv_lc2 {own : List (Str × Nat)} {tg : Tg} {it it2 : Fy.It} {is : List Nat} {a : E} {e : Expr} (h : chkE N fnm sc (.lc2 own tg it is it2 a) e = true) : ∃ x t i t2 i2 scope p, e = .ListComp x [⟨t, i, [], 0⟩, ⟨t2, i2, [], 0⟩] scope p ∧ blkC N sc scope own = true ∧ nSet i = true ∧ nSet i2 = true ∧ ((tgI tg).all fun j => decide (j ∈ own.map (·.2))) = true ∧ (is.all fun j => decide (j ∈ own.map (·.2))) = true ∧
    chkTg N (relS scope sc) true tg t = true ∧ chkI N fnm sc it i t = true ∧ chkTg N (relS scope sc) true (tg2 is) t2 = true ∧ chkI N fnm (relS scope sc) it2 i2 t2 = true ∧ chkE N fnm (relS scope sc) a x = true := by
  cases e with
  | ListComp x gs scope p =>
    match gs, h with
    | [⟨t, i, [], n⟩, ⟨t2, i2, [], n2⟩], h =>
      obtain ⟨h1, h2⟩ := b2 h
      obtain ⟨h3, q1⟩ := b2 h1
      obtain ⟨h4, q2⟩ := b2 h3
      obtain ⟨h5, q3⟩ := b2 h4
      obtain ⟨h6, q4⟩ := b2 h5
      obtain ⟨h7, q5⟩ := b2 h6
      obtain ⟨h8, q6⟩ := b2 h7
      obtain ⟨g1, g2⟩ := b2 h2
      obtain ⟨g3, g4⟩ := b2 g2
      obtain ⟨g5, g6⟩ := b2 g4
      obtain rfl := of_decide_eq_true h8
      obtain rfl := of_decide_eq_true q6
      exact ⟨x, t, i, t2, i2, scope, p, rfl, q5, q4, q3, q2, q1, g1, g3, g5, b2 g6⟩
    | [], h => exact absurd h Bool.false_ne_true
    | [_], h => simp [chkE] at h
    | [⟨_, _, _ :: _, _⟩, _], h => exact absurd h Bool.false_ne_true
    | [⟨_, _, [], _⟩, ⟨_, _, _ :: _, _⟩], h => exact absurd h Bool.false_ne_true
    | _ :: _ :: _ :: _, h => simp [chkE] at h
  | _ => exact absurd h Bool.false_ne_true
theorem inv_lci {own : List (Str × Nat)} {tg : Tg} {d : Nat} {kp : List Nat} {c : EO} {a : E} {e : Expr} (h : chkE N fnm sc (.lci own tg d kp c a) e = true) : ∃ x t y yp m ap cp ifs scope p, e = .ListComp x [⟨t, .Call (.Attribute (.Name y yp) m ap) [] [] cp, ifs, 0⟩] scope p ∧ blkC N sc scope own = true ∧ ((tgI tg).all fun j => decide (j ∈ own.map (·.2))) = true ∧ ("items" : Str) = m ∧ ap.endLine = cp.line ∧
    N[d]? = some y ∧ okN y = true ∧ visB sc y = true ∧ (∃ is, tg = .tup is) ∧ chkTg N (relS scope sc) true tg t = true ∧ chkC N fnm (relS scope sc) c ifs = true ∧ chkE N fnm (relS scope sc) a x = true := by
  cases e with
  | ListComp x gs scope p =>
    match gs, h with
    | [⟨t, .Call (.Attribute (.Name y yp) m ap) [] [] cp, ifs, n⟩], h =>
      obtain ⟨h1, h2⟩ := b2 h
      obtain ⟨h3, q1⟩ := b2 h1
      obtain ⟨h4, q2⟩ := b2 h3
      obtain ⟨h5, q3⟩ := b2 h4
      obtain ⟨h6, q4⟩ := b2 h5
      obtain ⟨h7, q5⟩ := b2 h6
      obtain ⟨h8, q6⟩ := b2 h7
      obtain ⟨g1, g2⟩ := b2 h2
      obtain rfl := of_decide_eq_true h8
      obtain ⟨z1, z2⟩ := b2 q2
      refine ⟨x, t, y, yp, m, ap, cp, ifs, scope, p, rfl, q6, q5, of_decide_eq_true q4, of_decide_eq_true q3, of_decide_eq_true z1, (b2 z2).1, (b2 z2).2, ?_, g1, b2 g2⟩
      cases tg with
      | tup is => exact ⟨is, rfl⟩
      | name _ => exact absurd q1 Bool.false_ne_true
  | _ => exact absurd h Bool.false_ne_true
theorem inv_dci {own : List (Str × Nat)} {tg : Tg} {d : Nat} {kp : List Nat} {c : EO} {k v : E} {e : Expr} (h : chkE N fnm sc (.dci own tg d kp c k v) e = true) : ∃ kx vx t y yp m ap cp ifs scope p, e = .DictComp kx vx [⟨t, .Call (.Attribute (.Name y yp) m ap) [] [] cp, ifs, 0⟩] scope p ∧ blkC N sc scope own = true ∧ ((tgI tg).all fun j => decide (j ∈ own.map (·.2))) = true ∧ ("items" : Str) = m ∧ ap.endLine = cp.line ∧
    N[d]? = some y ∧ okN y = true ∧ visB sc y = true ∧ (∃ is, tg = .tup is) ∧ chkTg N (relS scope sc) true tg t = true ∧ chkC N fnm (relS scope sc) c ifs = true ∧ chkE N fnm (relS scope sc) k kx = true ∧ chkE N fnm (relS scope sc) v vx = true := by
  cases e with
  | DictComp kx vx gs scope p =>
    match gs, h with
    | [⟨t, .Call (.Attribute (.Name y yp) m ap) [] [] cp, ifs, n⟩], h =>
      obtain ⟨h1, h2⟩ := b2 h
      obtain ⟨h3, q1⟩ := b2 h1
      obtain ⟨h4, q2⟩ := b2 h3
      obtain ⟨h5, q3⟩ := b2 h4
      obtain ⟨h6, q4⟩ := b2 h5
      obtain ⟨h7, q5⟩ := b2 h6
      obtain ⟨h8, q6⟩ := b2 h7
      obtain ⟨g1, g2⟩ := b2 h2
      obtain ⟨g3, g4⟩ := b2 g2
      obtain rfl := of_decide_eq_true h8
      obtain ⟨z1, z2⟩ := b2 q2
      refine ⟨kx, vx, t, y, yp, m, ap, cp, ifs, scope, p, rfl, q6, q5, of_decide_eq_true q4, of_decide_eq_true q3, of_decide_eq_true z1, (b2 z2).1, (b2 z2).2, ?_, g1, g3, b2 g4⟩
      cases tg with
      | tup is => exact ⟨is, rfl⟩
      | name _ => exact absurd q1 Bool.false_ne_true
  | _ => exact absurd h Bool.false_ne_true
end
end Fy
end
section
/-! FyN -/
namespace Fy
open PySem PySem.Spec PyProof.Rows L2
section
variable {X : Cx} {Γ : Nat → Spec} {fnm : List Str} {lv : Nat}
theorem locT (X : Cx) : LocOk X true := fun x h => by
  have : X.env.scope.names.lookup x = some .local := by
    unfold locB at h
    split at h
    · assumption
    · cases h
    · cases h
  exact ⟨.inl this, .inr this⟩
theorem nSet_ok {e : Expr} {env : Env} (h : nSet e = true) : ∀ x, foldedSetIterable e env x = pure x := by
  intro x
  cases e <;> first | rfl | cases h
theorem all_mem {l : List Nat} {vs : List Nat} (h : (l.all fun j => decide (j ∈ vs)) = true) : ∀ i ∈ l, i ∈ vs := fun i hi => of_decide_eq_true (List.all_eq_true.mp h i hi)
/-- every context of a block below X -/
abbrev InBlk (X : Cx) (scope : Scope) (P : Cx → Prop) : Prop := ∀ (s : Shared) (H : Hp) (C : Addr) (cl : List (Str × Addr)) (fp : List Addr), P (X.blk s H scope (compEnvC scope cl C X.env) fp)
theorem pd_lc (B : Bs Γ fnm lv X) {own : List (Str × Nat)} {tg : Tg} {it : Fy.It} {c : EO} {a : E} {x t i : Expr} {ifs : List Expr} {scope : Scope} {p : Pos} (hb : blkC X.N X.env.scope scope own = true) (hs : nSet i = true) (ht : ((tgI tg).all fun j => decide (j ∈ own.map (·.2))) = true)
    (hg : InBlk X scope fun Y => PG Y t (gD Y.K tg)) (hi : PI X t i (tDI X.K Γ it)) (hc : InBlk X scope fun Y => PTs Y ifs (tDC Y.K Γ c)) (ha : InBlk X scope fun Y => PE Y x (tD Y.K Γ a)) : PE X (.ListComp x [⟨t, i, ifs, 0⟩] scope p) (tD X.K Γ (.lc own tg it c a)) :=
  ⟨fun pins s σ H Q I ⟨S, O, OA, ρ, rv, E, w⟩ => (pe_lc B.calm B.nd hi (blkOk_by hb) hg hc ha (nSet_ok hs)).run pins s σ H Q I (by
    have w : wpI Γ it (rvR rv ρ) fun ds => compW tg (own.map (·.2)) (wpC Γ c) (fun ρ' Q' => wpE Γ a false ρ' Q') (rvR rv ρ) ds [] fun es => Wit X.K S (vw rv OA O) H Q (.lst es) := w
    rw [vw_rv] at w
    exact lc_at (all_mem ht) (E.rv rv) w)⟩
theorem pd_lc2 (B : Bs Γ fnm lv X) {own : List (Str × Nat)} {tg : Tg} {it it2 : Fy.It} {is : List Nat} {a : E} {x t i t2 i2 : Expr} {scope : Scope} {p : Pos} (hb : blkC X.N X.env.scope scope own = true) (hs : nSet i = true) (hs2 : nSet i2 = true) (ht : ((tgI tg).all fun j => decide (j ∈ own.map (·.2))) = true) (hv : (is.all fun j => decide (j ∈ own.map (·.2))) = true)
    (hg : InBlk X scope fun Y => PG Y t (gD Y.K tg)) (hi : PI X t i (tDI X.K Γ it)) (hg2 : InBlk X scope fun Y => PG Y t2 (gD Y.K (tg2 is))) (hi2 : InBlk X scope fun Y => PI Y t2 i2 (tDI Y.K Γ it2)) (ha : InBlk X scope fun Y => PE Y x (tD Y.K Γ a)) : PE X (.ListComp x [⟨t, i, [], 0⟩, ⟨t2, i2, [], 0⟩] scope p) (tD X.K Γ (.lc2 own tg it is it2 a)) :=
  ⟨fun pins s σ H Q I ⟨S, O, OA, ρ, rv, E, w⟩ => (pe_lc2 B.calm B.nd hi (blkOk_by hb) (all_mem hv) hg (fun _ _ _ _ _ => pts_nil) hi2 hg2 (fun _ _ _ _ _ => pts_nil) ha (nSet_ok hs) (fun env => nSet_ok hs2)).run pins s σ H Q I (by
    have w : wpI Γ it (rvR rv ρ) fun ds => comp2W tg (own.map (·.2)) is (wpI Γ it2) (fun ρ' Q' => wpE Γ a false ρ' Q') (rvR rv ρ) ds [] fun es => Wit X.K S (vw rv OA O) H Q (.lst es) := w
    rw [vw_rv] at w
    exact lc2_at (all_mem ht) (E.rv rv) w)⟩
theorem pd_lci (B : Bs Γ fnm lv X) {own : List (Str × Nat)} {tg : Tg} {d : Nat} {kp : List Nat} {c : EO} {a : E} {x t : Expr} {y m : Str} {yp ap cp : Pos} {ifs : List Expr} {scope : Scope} {p : Pos} (hb : blkC X.N X.env.scope scope own = true) (ht : ((tgI tg).all fun j => decide (j ∈ own.map (·.2))) = true) (hm : ("items" : Str) = m) (hl : ap.endLine = cp.line) (hN : X.N[d]? = some y) (hx : okN y = true) (hv : visB X.env.scope y = true)
    (htt : ∃ ts k q, t = .Tuple ts k q) (hg : InBlk X scope fun Y => PG Y t (gD Y.K tg)) (hc : InBlk X scope fun Y => PTs Y ifs (tDC Y.K Γ c)) (ha : InBlk X scope fun Y => PE Y x (tD Y.K Γ a)) : PE X (.ListComp x [⟨t, .Call (.Attribute (.Name y yp) m ap) [] [] cp, ifs, 0⟩] scope p) (tD X.K Γ (.lci own tg d kp c a)) := by
  subst hm
  obtain ⟨ts, k, q, rfl⟩ := htt
  refine ⟨fun pins s σ H Q I ⟨S, O, OA, ρ, rv, E, ks, ds, hd, hk, hf, w⟩ => ?_⟩
  exact (pe_lock (pe_lc B.calm B.nd (pi_items (pe_var hN (vis_of hv) (okN_d hx) (okN_c hx)) rfl (by rw [hl]; exact beq_self_eq_true _)) (blkOk_by hb) hg hc ha (fun _ => rfl))).run pins s σ H Q I
    (lci_at (all_mem ht) E hd hk hf.1 hf.2 (compW_mono (fun ρ Q Q' h => wpC_mono Γ c ρ Q Q' h) (fun ρ Q Q' h => wpE_mono Γ a false ρ Q Q' h) (fun es q v H' e s i => q v H' e s (Is.mono ext_vw _ _ i)) w))
theorem pd_dci (B : Bs Γ fnm lv X) {own : List (Str × Nat)} {tg : Tg} {d : Nat} {kp : List Nat} {c : EO} {k a : E} {kx x t : Expr} {y m : Str} {yp ap cp : Pos} {ifs : List Expr} {scope : Scope} {p : Pos} (hb : blkC X.N X.env.scope scope own = true) (ht : ((tgI tg).all fun j => decide (j ∈ own.map (·.2))) = true) (hm : ("items" : Str) = m) (hl : ap.endLine = cp.line) (hN : X.N[d]? = some y) (hx : okN y = true) (hv : visB X.env.scope y = true)
    (htt : ∃ ts k q, t = .Tuple ts k q) (hg : InBlk X scope fun Y => PG Y t (gD Y.K tg)) (hc : InBlk X scope fun Y => PTs Y ifs (tDC Y.K Γ c)) (hk' : InBlk X scope fun Y => PE Y kx (tD Y.K Γ k)) (ha : InBlk X scope fun Y => PE Y x (tD Y.K Γ a)) : PE X (.DictComp kx x [⟨t, .Call (.Attribute (.Name y yp) m ap) [] [] cp, ifs, 0⟩] scope p) (tD X.K Γ (.dci own tg d kp c k a)) := by
  subst hm
  obtain ⟨ts, kk, q, rfl⟩ := htt
  refine ⟨fun pins s σ H Q I ⟨S, O, OA, ρ, rv, E, ks, ds, hd, hk, hf, w⟩ => ?_⟩
  exact (pe_lock (pe_dc B.calm B.nd (pi_items (pe_var hN (vis_of hv) (okN_d hx) (okN_c hx)) rfl (by rw [hl]; exact beq_self_eq_true _)) (blkOk_by hb) hg hc hk' ha (fun _ => rfl))).run pins s σ H Q I
    (dci_at (all_mem ht) E hd hk hf.1 hf.2 (dcW_mono (fun ρ Q Q' h => wpC_mono Γ c ρ Q Q' h) (fun ρ Q Q' h => wpE_mono Γ k false ρ Q Q' h) (fun ρ Q Q' h => wpE_mono Γ a false ρ Q Q' h) (fun ks es q v H' e s i => q v H' e s (Is.mono ext_vw _ _ i)) w))
theorem pt_ifeD {c' a' b' : Expr} {p : Pos} {c a b : E} (hc : PT X c' (tDB X.K Γ c)) (ha : PT X a' (tDB X.K Γ a)) (hb : PT X b' (tDB X.K Γ b)) : PT X (.IfExp c' a' b' p) (tDB X.K Γ (.ife c a b)) :=
  ⟨fun pins s σ H Q I ⟨S, O, OA, ρ, rv, E, w⟩ => isTrue_IfExp (thn (hc.run pins s σ H (fun k H1 => if k = true then tDB X.K Γ a σ H1 Q else tDB X.K Γ b σ H1 Q) I (rdB E w fun k H1 q e1 s1 E1 => ite_bl (fun _ q => rdB E1 q fun b H2 q2 e2 s2 E2 => q2 H2 (e1.trans e2) s2) (fun _ q => rdB E1 q fun b H2 q2 e2 s2 E2 => q2 H2 (e1.trans e2) s2) q)) fun k s1 ⟨H1, I1, q1⟩ => by
    cases k with
    | true => exact ha.run pins s1 σ H1 Q I1 q1
    | false => exact hb.run pins s1 σ H1 Q I1 q1)⟩
theorem pt_immD {e : Expr} {a : E} (ha : PT X e (tDB X.K Γ a)) : PT X e (tDB X.K Γ (.imm a)) :=
  ⟨fun pins s σ H Q I ⟨S, O, OA, ρ, rv, E, w⟩ => ha.run pins s σ H Q I ⟨S, O, OA, ρ, true, E, wpE_mono Γ a true ρ _ _ (fun d q => q.2) w⟩⟩
theorem pc_no : PTs X [] (tDC X.K Γ .no) := ⟨fun pins s σ H Q I ⟨S, O, OA, ρ, E, w⟩ => pts_nil.run pins s σ H Q I (show Q true H from w H Ext.refl E.src)⟩
theorem pc_so {e : Expr} {a : E} (ha : PT X e (tDB X.K Γ a)) : PTs X [e] (tDC X.K Γ (.so a)) := ⟨fun pins s σ H Q I ⟨S, O, OA, ρ, E, w⟩ => (pts_one ha).run pins s σ H Q I ⟨S, O, OA, ρ, false, E, w⟩⟩
theorem tup_of {N : List Str} {sc : Scope} {blk : Bool} {is : List Nat} {t : Expr} (h : chkTg N sc blk (.tup is) t = true) : ∃ ts k q, t = .Tuple ts k q := by
  cases t with
  | Tuple ts k q => exact ⟨ts, k, q, rfl⟩
  | _ => exact absurd h Bool.false_ne_true
theorem chkI_enum {N : List Str} {sc : Scope} {a : E} {i t : Expr} (h : chkI N fnm sc (.enum a) i t = true) : ∃ x p y q ts k r, i = .Call (.Name x p) [y] [] q ∧ t = .Tuple ts k r ∧ ("enumerate" : Str) = x ∧ glB sc x = true ∧ nStar y = true ∧ chkE N fnm sc a y = true := by
  cases i with
  | Call fe as ks q =>
    cases fe with
    | Name x p =>
      match as, ks, h with
      | [y], [], h =>
        cases t with
        | Tuple ts k r =>
          obtain ⟨h1, h2⟩ := b2 h
          obtain ⟨h3, h4⟩ := b2 h1
          obtain ⟨h5, h6⟩ := b2 h3
          exact ⟨x, p, y, q, ts, k, r, rfl, rfl, of_decide_eq_true h5, h6, h4, h2⟩
        | _ => exact absurd h Bool.false_ne_true
      | [], _, h => exact absurd h Bool.false_ne_true
      | _ :: _ :: _, _, h => exact absurd h Bool.false_ne_true
      | [_], _ :: _, h => exact absurd h Bool.false_ne_true
    | _ => exact absurd h Bool.false_ne_true
  | _ => exact absurd h Bool.false_ne_true
theorem chkI_zip {N : List Str} {sc : Scope} {a b : E} {i t : Expr} (h : chkI N fnm sc (.zip a b) i t = true) : ∃ x p y z q ts k r, i = .Call (.Name x p) [y, z] [] q ∧ t = .Tuple ts k r ∧ ("zip" : Str) = x ∧ glB sc x = true ∧ nStar y = true ∧ nStar z = true ∧ chkE N fnm sc a y = true ∧ chkE N fnm sc b z = true := by
  cases i with
  | Call fe as ks q =>
    cases fe with
    | Name x p =>
      match as, ks, h with
      | [y, z], [], h =>
        cases t with
        | Tuple ts k r =>
          obtain ⟨h1, h2⟩ := b2 h
          obtain ⟨h3, h4⟩ := b2 h1
          obtain ⟨h5, h6⟩ := b2 h3
          obtain ⟨h7, h8⟩ := b2 h5
          exact ⟨x, p, y, z, q, ts, k, r, rfl, rfl, of_decide_eq_true h7, h8, h6, h4, b2 h2⟩
        | _ => exact absurd h Bool.false_ne_true
      | [], _, h => exact absurd h Bool.false_ne_true
      | [_], _, h => exact absurd h Bool.false_ne_true
      | _ :: _ :: _ :: _, _, h => exact absurd h Bool.false_ne_true
      | [_, _], _ :: _, h => exact absurd h Bool.false_ne_true
    | _ => exact absurd h Bool.false_ne_true
  | _ => exact absurd h Bool.false_ne_true
theorem chkI_rng {N : List Str} {sc : Scope} {a : E} {i t : Expr} (h : chkI N fnm sc (.rng a) i t = true) : ∃ x p y q, i = .Call (.Name x p) [y] [] q ∧ ("range" : Str) = x ∧ glB sc x = true ∧ nStar y = true ∧ chkE N fnm sc a y = true := by
  cases i with
  | Call fe as ks q =>
    cases fe with
    | Name x p =>
      match as, ks, h with
      | [y], [], h =>
        obtain ⟨h1, h2⟩ := b2 h
        obtain ⟨h3, h4⟩ := b2 h1
        obtain ⟨h5, h6⟩ := b2 h3
        exact ⟨x, p, y, q, rfl, of_decide_eq_true h5, h6, h4, h2⟩
      | [], _, h => exact absurd h Bool.false_ne_true
      | _ :: _ :: _, _, h => exact absurd h Bool.false_ne_true
      | [_], _ :: _, h => exact absurd h Bool.false_ne_true
    | _ => exact absurd h Bool.false_ne_true
  | _ => exact absurd h Bool.false_ne_true
theorem chkI_rng2 {N : List Str} {sc : Scope} {a b : E} {i t : Expr} (h : chkI N fnm sc (.rng2 a b) i t = true) : ∃ x p y z q, i = .Call (.Name x p) [y, z] [] q ∧ ("range" : Str) = x ∧ glB sc x = true ∧ nStar y = true ∧ nStar z = true ∧ chkE N fnm sc a y = true ∧ chkE N fnm sc b z = true := by
  cases i with
  | Call fe as ks q =>
    cases fe with
    | Name x p =>
      match as, ks, h with
      | [y, z], [], h =>
        obtain ⟨h1, h2⟩ := b2 h
        obtain ⟨h3, h4⟩ := b2 h1
        obtain ⟨h5, h6⟩ := b2 h3
        obtain ⟨h7, h8⟩ := b2 h5
        exact ⟨x, p, y, z, q, rfl, of_decide_eq_true h7, h8, h6, h4, b2 h2⟩
      | [], _, h => exact absurd h Bool.false_ne_true
      | [_], _, h => exact absurd h Bool.false_ne_true
      | _ :: _ :: _ :: _, _, h => exact absurd h Bool.false_ne_true
      | [_, _], _ :: _, h => exact absurd h Bool.false_ne_true
    | _ => exact absurd h Bool.false_ne_true
  | _ => exact absurd h Bool.false_ne_true
end
end Fy
end
section
/-! FyP -/
namespace Fy
open PySem PySem.Spec PyProof.Rows L2
def SsetOk : Prop := ∀ (X : Cx) (Γ : Nat → Spec) (fnm : List Str) (lv : Nat), Bs Γ fnm lv X → ∀ (x x' : Str) (p p' p2 p2' : Pos) (e : Expr) (a : E), ("sorted" : Str) = x → Gl X x → okN x = true → ("set" : Str) = x' → Gl X x' → okN x' = true → nStar e = true → PE X e (tD X.K Γ a) →
  PE X (.Call (.Name x p) [.Call (.Name x' p') [e] [] p2'] [] p2) (tD X.K Γ (.blt .sset a))
section
variable {Γ : Nat → Spec} {fnm : List Str} {lv : Nat}
theorem lm2 {op op' : CmpOp} {m r : Expr} (h : behindInMarks op' r = false) : lastMarks [op, op'] [m, r] = false := h
mutual
theorem soundE (hS : SsetOk) : ∀ (t : E) {X : Cx} (B : Bs Γ fnm lv X) {e : Expr}, chkE X.N fnm X.env.scope t e = true → PE X e (tD X.K Γ t)
  | .var i, X, B, e, h => by
    obtain ⟨x, p, rfl, h1, h2, h3⟩ := inv_var h
    exact pd_var h1 (vis_of h3) h2
  | .cst c, X, B, e, h => by
    obtain ⟨k, j, p, rfl, h1⟩ := inv_cst h
    exact pd_cst h1
  | .gl n, X, B, e, h => by
    obtain ⟨x, p, q, rfl, h1, h2, h3⟩ := inv_gl h
    obtain ⟨g1, g2⟩ := gl_of rfl h1
    exact pd_gl B g1 g2 h2 h3
  | .neg a, X, B, e, h => by
    obtain ⟨x, p, rfl, h1⟩ := inv_neg h
    exact pd_neg (soundE hS a B h1)
  | .add a b, X, B, e, h => by
    obtain ⟨l, r, p, rfl, h1, h2⟩ := inv_add h
    exact pd_add (soundE hS a B h1) (soundE hS b B h2)
  | .sub a b, X, B, e, h => by
    obtain ⟨l, r, p, rfl, h1, h2⟩ := inv_sub h
    exact pd_sub (soundE hS a B h1) (soundE hS b B h2)
  | .mul a b, X, B, e, h => by
    obtain ⟨l, r, p, rfl, h1, h2⟩ := inv_mul h
    exact pd_mul (soundE hS a B h1) (soundE hS b B h2)
  | .cmp o a b, X, B, e, h => by
    obtain ⟨l, op, r, p, rfl, h1, h2, h3, h4⟩ := inv_cmp h
    exact pd_cmp B h1 h2 (soundE hS a B h3) (soundE hS b B h4)
  | .chn o o' a b c, X, B, e, h => by
    obtain ⟨l, op, op', m, r, p, rfl, h1, h2, h3, h4, h5, h6, h7⟩ := inv_chn h
    exact pd_chn B h1 h2 (lm2 h4) (soundE hS a B h5) (soundE hS b B h6) (soundE hS c B h7)
  | .nt a, X, B, e, h => by
    obtain ⟨x, p, rfl, h1⟩ := inv_nt h
    exact pd_nt (soundE hS a B h1)
  | .and a b, X, B, e, h => by
    obtain ⟨x, y, r, p, rfl, h1, h2⟩ := inv_and h
    rcases h2 with ⟨rfl, h2⟩ | h2
    · exact pd_and (soundE hS a B h1) (pe_one (soundE hS b B h2))
    · exact pd_and (soundE hS a B h1) (soundE hS b B h2)
  | .or a b, X, B, e, h => by
    obtain ⟨x, y, r, p, rfl, h1, h2⟩ := inv_or h
    rcases h2 with ⟨rfl, h2⟩ | h2
    · exact pd_or (soundE hS a B h1) (pe_one (soundE hS b B h2))
    · exact pd_or (soundE hS a B h1) (soundE hS b B h2)
  | .ife c a b, X, B, e, h => by
    obtain ⟨c', a', b', p, rfl, h1, h2, h3⟩ := inv_ife h
    exact pd_ife (soundT hS c B h1) (soundE hS a B h2) (soundE hS b B h3)
  | .tup es, X, B, e, h => by
    obtain ⟨xs, k, p, rfl, h1⟩ := inv_tup h
    exact pd_tup (soundL hS es B h1)
  | .lst es, X, B, e, h => by
    obtain ⟨xs, p, rfl, h1⟩ := inv_lst h
    exact pd_lst (soundL hS es B h1)
  | .ix a b, X, B, e, h => by
    obtain ⟨x, y, p, rfl, h1, h2, h3⟩ := inv_ix h
    exact pd_ix B h1 (soundE hS a B h2) (soundE hS b B h3)
  | .sl a lo hi, X, B, e, h => by
    obtain ⟨x, l, u, p2, p, rfl, h1, h2, h3⟩ := inv_sl h
    exact pd_sl (soundE hS a B h1) (soundO hS lo B h2) (soundO hS hi B h3)
  | .call f es, X, B, e, h => by
    obtain ⟨x, p, y, r, p2, rfl, h1, h2, h3, h4⟩ := inv_call h
    obtain ⟨g1, g2⟩ := gl_of rfl h2
    exact pd_callP B h1 g1 g2 h3 (soundL hS es B h4)
  | .blt b a, X, B, e, h => by
    obtain ⟨x, p, y, p2, rfl, h1, h2, h3, h4⟩ := inv_blt h
    obtain ⟨g1, g2⟩ := gl_of rfl h2
    rcases h4 with ⟨nb, h4⟩ | ⟨rfl, x', p', y', p2', rfl, e5, h5, h6, h7⟩
    · exact pd_blt B h1 nb g1 g2 h3 (soundE hS a B h4)
    · obtain ⟨g3, g4⟩ := gl_of rfl h5
      exact hS X Γ fnm lv B x x' p p' p2 p2' y' a h1 g1 g2 e5 g3 g4 h6 (soundE hS a B h7)
  | .isi a t, X, B, e, h => by
    obtain ⟨x, p, y, z, p3, p2, rfl, h1, h2, h3, h4, h5, h6⟩ := inv_isi h
    obtain ⟨g1, g2⟩ := gl_of rfl h2
    obtain ⟨g3, g4⟩ := gl_of rfl h3
    exact pd_isi B h1 g1 g2 g3 g4 h4 h5 (soundE hS a B h6)
  | .idx a b, X, B, e, h => by
    obtain ⟨o, m, ap, y, p, rfl, h1, h2, h3, h4, h5, h6⟩ := inv_idx h
    exact pd_idx h1 h2 h3 h4 (soundE hS a B h5) (soundE hS b B h6)
  | .words a, X, B, e, h => by
    obtain ⟨x, p, y, p2, rfl, h1, h2, h3, h4⟩ := inv_words h
    obtain ⟨g1, g2⟩ := gl_of rfl h2
    exact pd_words B h1 g1 g2 h3 (soundE hS a B h4)
  | .lc own tg it c a, X, B, e, h => by
    obtain ⟨x, t, i, ifs, scope, p, rfl, h1, h2, h3, h4, h5, h6, h7⟩ := inv_lc h
    exact pd_lc B h1 h2 h3 (fun s H C cl fp => pgD (X := X.blk s H scope (compEnvC scope cl C X.env) fp) B.calm B.nd (locT _) h4) (soundI hS it B h5) (fun s H C cl fp => soundC hS c (B.blk s H scope _ fp) h6) (fun s H C cl fp => soundE hS a (B.blk s H scope _ fp) h7)
  | .lc2 own tg it is it2 a, X, B, e, h => by
    obtain ⟨x, t, i, t2, i2, scope, p, rfl, h1, h2, h3, h4, h5, h6, h7, h8, h9, h10⟩ := inv_lc2 h
    exact pd_lc2 B h1 h2 h3 h4 h5 (fun s H C cl fp => pgD (X := X.blk s H scope (compEnvC scope cl C X.env) fp) B.calm B.nd (locT _) h6) (soundI hS it B h7) (fun s H C cl fp => pgD (X := X.blk s H scope (compEnvC scope cl C X.env) fp) B.calm B.nd (locT _) h8)
      (fun s H C cl fp => soundI hS it2 (B.blk s H scope _ fp) h9) (fun s H C cl fp => soundE hS a (B.blk s H scope _ fp) h10)
  | .lci own tg d kp c a, X, B, e, h => by
    obtain ⟨x, t, y, yp, m, ap, cp, ifs, scope, p, rfl, h1, h2, h3, h4, h5, h6, h7, ⟨is, rfl⟩, h9, h10, h11⟩ := inv_lci h
    exact pd_lci B h1 h2 h3 h4 h5 h6 h7 (tup_of h9) (fun s H C cl fp => pgD (X := X.blk s H scope (compEnvC scope cl C X.env) fp) B.calm B.nd (locT _) h9) (fun s H C cl fp => soundC hS c (B.blk s H scope _ fp) h10) (fun s H C cl fp => soundE hS a (B.blk s H scope _ fp) h11)
  | .dci own tg d kp c k v, X, B, e, h => by
    obtain ⟨kx, x, t, y, yp, m, ap, cp, ifs, scope, p, rfl, h1, h2, h3, h4, h5, h6, h7, ⟨is, rfl⟩, h9, h10, h11, h12⟩ := inv_dci h
    exact pd_dci B h1 h2 h3 h4 h5 h6 h7 (tup_of h9) (fun s H C cl fp => pgD (X := X.blk s H scope (compEnvC scope cl C X.env) fp) B.calm B.nd (locT _) h9) (fun s H C cl fp => soundC hS c (B.blk s H scope _ fp) h10) (fun s H C cl fp => soundE hS k (B.blk s H scope _ fp) h11) (fun s H C cl fp => soundE hS v (B.blk s H scope _ fp) h12)
  | .d1 k v, X, B, e, h => by
    obtain ⟨kx, vx, p, rfl, h1, h2⟩ := inv_d1 h
    exact pd_d1 (soundE hS k B h1) (soundE hS v B h2)
  | .imm a, X, B, e, h => by
    have h : chkE X.N fnm X.env.scope a e = true := by
      cases e <;> exact h
    exact pd_imm (soundE hS a B h)
theorem soundT (hS : SsetOk) : ∀ (t : E) {X : Cx} (B : Bs Γ fnm lv X) {e : Expr}, chkE X.N fnm X.env.scope t e = true → PT X e (tDB X.K Γ t)
  | .var i, X, B, e, h => by
    have h1 := soundE hS (.var i) B h
    obtain ⟨x, p, rfl, _⟩ := inv_var h
    exact pt_plain h1 fun _ => rfl
  | .cst c, X, B, e, h => by
    have h1 := soundE hS (.cst c) B h
    obtain ⟨k, j, p, rfl, _⟩ := inv_cst h
    exact pt_plain h1 fun _ => rfl
  | .gl n, X, B, e, h => by
    have h1 := soundE hS (.gl n) B h
    obtain ⟨x, p, q, rfl, _⟩ := inv_gl h
    exact pt_plain h1 fun _ => rfl
  | .neg a, X, B, e, h => by
    obtain ⟨x, p, rfl, h1⟩ := inv_neg h
    exact pt_plain (pd_neg (soundE hS a B h1)) fun _ => rfl
  | .add a b, X, B, e, h => by
    obtain ⟨l, r, p, rfl, h1, h2⟩ := inv_add h
    exact pt_plain (pd_add (soundE hS a B h1) (soundE hS b B h2)) fun _ => rfl
  | .sub a b, X, B, e, h => by
    obtain ⟨l, r, p, rfl, h1, h2⟩ := inv_sub h
    exact pt_plain (pd_sub (soundE hS a B h1) (soundE hS b B h2)) fun _ => rfl
  | .mul a b, X, B, e, h => by
    obtain ⟨l, r, p, rfl, h1, h2⟩ := inv_mul h
    exact pt_plain (pd_mul (soundE hS a B h1) (soundE hS b B h2)) fun _ => rfl
  | .cmp o a b, X, B, e, h => by
    obtain ⟨l, op, r, p, rfl, h1, h2, h3, h4⟩ := inv_cmp h
    exact pt_cmpD B h1 h2 (soundE hS a B h3) (soundE hS b B h4)
  | .chn o o' a b c, X, B, e, h => by
    obtain ⟨l, op, op', m, r, p, rfl, h1, h2, h3, h4, h5, h6, h7⟩ := inv_chn h
    exact pt_chnD B h1 h2 (lm2 h4) (soundE hS a B h5) (soundE hS b B h6) (soundE hS c B h7)
  | .nt a, X, B, e, h => by
    obtain ⟨x, p, rfl, h1⟩ := inv_nt h
    exact pt_ntD (soundT hS a B h1)
  | .and a b, X, B, e, h => by
    obtain ⟨x, y, r, p, rfl, h1, h2⟩ := inv_and h
    rcases h2 with ⟨rfl, h2⟩ | h2
    · exact (pw_andD (soundT hS a B h1) (pw_and1 (soundT hS b B h2))).pt
    · exact (pw_andD (soundT hS a B h1) ⟨fun wh => (soundT hS b B h2).run⟩).pt
  | .or a b, X, B, e, h => by
    obtain ⟨x, y, r, p, rfl, h1, h2⟩ := inv_or h
    rcases h2 with ⟨rfl, h2⟩ | h2
    · exact (pw_orD (soundT hS a B h1) (pw_or1 (soundT hS b B h2))).pt
    · exact (pw_orD (soundT hS a B h1) ⟨fun wh => (soundT hS b B h2).run⟩).pt
  | .ife c a b, X, B, e, h => by
    obtain ⟨c', a', b', p, rfl, h1, h2, h3⟩ := inv_ife h
    exact pt_ifeD (soundT hS c B h1) (soundT hS a B h2) (soundT hS b B h3)
  | .tup es, X, B, e, h => by
    obtain ⟨xs, k, p, rfl, h1⟩ := inv_tup h
    exact pt_plain (pd_tup (soundL hS es B h1)) fun _ => rfl
  | .lst es, X, B, e, h => by
    obtain ⟨xs, p, rfl, h1⟩ := inv_lst h
    exact pt_plain (pd_lst (soundL hS es B h1)) fun _ => rfl
  | .ix a b, X, B, e, h => by
    obtain ⟨x, y, p, rfl, h1, h2, h3⟩ := inv_ix h
    exact pt_plain (pd_ix B h1 (soundE hS a B h2) (soundE hS b B h3)) fun _ => rfl
  | .sl a lo hi, X, B, e, h => by
    obtain ⟨x, l, u, p2, p, rfl, h1, h2, h3⟩ := inv_sl h
    exact pt_plain (pd_sl (soundE hS a B h1) (soundO hS lo B h2) (soundO hS hi B h3)) fun _ => rfl
  | .call f es, X, B, e, h => by
    obtain ⟨x, p, y, r, p2, rfl, h1, h2, h3, h4⟩ := inv_call h
    obtain ⟨g1, g2⟩ := gl_of rfl h2
    exact pt_plain (pd_callP B h1 g1 g2 h3 (soundL hS es B h4)) fun _ => rfl
  | .blt b a, X, B, e, h => by
    obtain ⟨x, p, y, p2, rfl, h1, h2, h3, h4⟩ := inv_blt h
    obtain ⟨g1, g2⟩ := gl_of rfl h2
    rcases h4 with ⟨nb, h4⟩ | ⟨rfl, x', p', y', p2', rfl, e5, h5, h6, h7⟩
    · exact pt_plain (pd_blt B h1 nb g1 g2 h3 (soundE hS a B h4)) fun _ => rfl
    · obtain ⟨g3, g4⟩ := gl_of rfl h5
      exact pt_plain (hS X Γ fnm lv B x x' p p' p2 p2' y' a h1 g1 g2 e5 g3 g4 h6 (soundE hS a B h7)) fun _ => rfl
  | .isi a t, X, B, e, h => by
    obtain ⟨x, p, y, z, p3, p2, rfl, h1, h2, h3, h4, h5, h6⟩ := inv_isi h
    obtain ⟨g1, g2⟩ := gl_of rfl h2
    obtain ⟨g3, g4⟩ := gl_of rfl h3
    exact pt_plain (pd_isi B h1 g1 g2 g3 g4 h4 h5 (soundE hS a B h6)) fun _ => rfl
  | .idx a b, X, B, e, h => by
    obtain ⟨o, m, ap, y, p, rfl, h1, h2, h3, h4, h5, h6⟩ := inv_idx h
    exact pt_plain (pd_idx h1 h2 h3 h4 (soundE hS a B h5) (soundE hS b B h6)) fun _ => rfl
  | .words a, X, B, e, h => by
    obtain ⟨x, p, y, p2, rfl, h1, h2, h3, h4⟩ := inv_words h
    obtain ⟨g1, g2⟩ := gl_of rfl h2
    exact pt_plain (pd_words B h1 g1 g2 h3 (soundE hS a B h4)) fun _ => rfl
  | .lc own tg it c a, X, B, e, h => by
    obtain ⟨x, t, i, ifs, scope, p, rfl, h1, h2, h3, h4, h5, h6, h7⟩ := inv_lc h
    refine pt_plain (pd_lc B h1 h2 h3 (fun s H C cl fp => pgD (X := X.blk s H scope (compEnvC scope cl C X.env) fp) B.calm B.nd (locT _) h4) (soundI hS it B h5) (fun s H C cl fp => soundC hS c (B.blk s H scope _ fp) h6) (fun s H C cl fp => soundE hS a (B.blk s H scope _ fp) h7)) fun _ => rfl
  | .lc2 own tg it is it2 a, X, B, e, h => by
    obtain ⟨x, t, i, t2, i2, scope, p, rfl, h1, h2, h3, h4, h5, h6, h7, h8, h9, h10⟩ := inv_lc2 h
    refine pt_plain (pd_lc2 B h1 h2 h3 h4 h5 (fun s H C cl fp => pgD (X := X.blk s H scope (compEnvC scope cl C X.env) fp) B.calm B.nd (locT _) h6) (soundI hS it B h7) (fun s H C cl fp => pgD (X := X.blk s H scope (compEnvC scope cl C X.env) fp) B.calm B.nd (locT _) h8)
      (fun s H C cl fp => soundI hS it2 (B.blk s H scope _ fp) h9) (fun s H C cl fp => soundE hS a (B.blk s H scope _ fp) h10)) fun _ => rfl
  | .lci own tg d kp c a, X, B, e, h => by
    obtain ⟨x, t, y, yp, m, ap, cp, ifs, scope, p, rfl, h1, h2, h3, h4, h5, h6, h7, ⟨is, rfl⟩, h9, h10, h11⟩ := inv_lci h
    refine pt_plain (pd_lci B h1 h2 h3 h4 h5 h6 h7 (tup_of h9) (fun s H C cl fp => pgD (X := X.blk s H scope (compEnvC scope cl C X.env) fp) B.calm B.nd (locT _) h9) (fun s H C cl fp => soundC hS c (B.blk s H scope _ fp) h10) (fun s H C cl fp => soundE hS a (B.blk s H scope _ fp) h11)) fun _ => rfl
  | .dci own tg d kp c k v, X, B, e, h => by
    obtain ⟨kx, x, t, y, yp, m, ap, cp, ifs, scope, p, rfl, h1, h2, h3, h4, h5, h6, h7, ⟨is, rfl⟩, h9, h10, h11, h12⟩ := inv_dci h
    refine pt_plain (pd_dci B h1 h2 h3 h4 h5 h6 h7 (tup_of h9) (fun s H C cl fp => pgD (X := X.blk s H scope (compEnvC scope cl C X.env) fp) B.calm B.nd (locT _) h9) (fun s H C cl fp => soundC hS c (B.blk s H scope _ fp) h10) (fun s H C cl fp => soundE hS k (B.blk s H scope _ fp) h11) (fun s H C cl fp => soundE hS v (B.blk s H scope _ fp) h12)) fun _ => rfl
  | .d1 k v, X, B, e, h => by
    obtain ⟨kx, vx, p, rfl, h1, h2⟩ := inv_d1 h
    exact pt_plain (pd_d1 (soundE hS k B h1) (soundE hS v B h2)) fun _ => rfl
  | .imm a, X, B, e, h => by
    have h : chkE X.N fnm X.env.scope a e = true := by
      cases e <;> exact h
    exact pt_immD (soundT hS a B h)
theorem soundL (hS : SsetOk) : ∀ (t : EL) {X : Cx} (B : Bs Γ fnm lv X) {e : List Expr}, chkL X.N fnm X.env.scope t e = true → PA X e (tDL X.K Γ t)
  | .nil, X, B, e, h => by
    obtain rfl := invL_nil h
    exact pl_nil
  | .cons a r, X, B, e, h => by
    obtain ⟨x, ys, rfl, h1, h2, h3⟩ := invL_cons h
    exact pl_cons h1 (soundE hS a B h2) (soundL hS r B h3)
  | .star a r, X, B, e, h => by
    obtain ⟨x, p, ys, rfl, h2, h3⟩ := invL_star h
    exact pl_star (soundE hS a B h2) (soundL hS r B h3)
theorem soundO (hS : SsetOk) : ∀ (t : EO) {X : Cx} (B : Bs Γ fnm lv X) {e : Option Expr}, chkO X.N fnm X.env.scope t e = true → PO X e (tDO X.K Γ t)
  | .no, X, B, e, h => by
    obtain rfl := invO_no h
    exact po_no
  | .so a, X, B, e, h => by
    obtain ⟨x, rfl, h1⟩ := invO_so h
    exact po_so (soundE hS a B h1)
theorem soundC (hS : SsetOk) : ∀ (t : EO) {X : Cx} (B : Bs Γ fnm lv X) {e : List Expr}, chkC X.N fnm X.env.scope t e = true → PTs X e (tDC X.K Γ t)
  | .no, X, B, e, h => by
    obtain rfl := invC_no h
    exact pc_no
  | .so a, X, B, e, h => by
    obtain ⟨x, rfl, h1⟩ := invC_so h
    exact pc_so (soundT hS a B h1)
theorem soundI (hS : SsetOk) : ∀ (t : Fy.It) {X : Cx} (B : Bs Γ fnm lv X) {i tg : Expr}, chkI X.N fnm X.env.scope t i tg = true → PI X tg i (tDI X.K Γ t)
  | .seq a, X, B, i, tg, h => pid_seq (soundE hS a B h)
  | .chars a, X, B, i, tg, h => pid_chars (soundE hS a B h)
  | .enum a, X, B, i, tg, h => by
    obtain ⟨x, p, y, q, ts, k, r, rfl, rfl, h1, h2, h3, h4⟩ := chkI_enum h
    obtain ⟨g1, g2⟩ := gl_of rfl h2
    exact pid_enum B h1 g1 h3 (soundE hS a B h4)
  | .zip a b, X, B, i, tg, h => by
    obtain ⟨x, p, y, z, q, ts, k, r, rfl, rfl, h1, h2, h3, h4, h5, h6⟩ := chkI_zip h
    obtain ⟨g1, g2⟩ := gl_of rfl h2
    exact pid_zip B h1 g1 h3 h4 (soundE hS a B h5) (soundE hS b B h6)
  | .rng a, X, B, i, tg, h => by
    obtain ⟨x, p, y, q, rfl, h1, h2, h3, h4⟩ := chkI_rng h
    obtain ⟨g1, g2⟩ := gl_of rfl h2
    exact pid_rng B h1 g1 h3 (soundE hS a B h4)
  | .rng2 a b, X, B, i, tg, h => by
    obtain ⟨x, p, y, z, q, rfl, h1, h2, h3, h4, h5, h6⟩ := chkI_rng2 h
    obtain ⟨g1, g2⟩ := gl_of rfl h2
    exact pid_rng2 B h1 g1 h3 h4 (soundE hS a B h5) (soundE hS b B h6)
end
end
end Fy
end
section
/-! FySet1 -/
namespace Fy
open PySem PySem.Spec PyProof.Rows L2
/-! ### set(xs) told by what an item does to the set -/
/-- the object of a new set -/
abbrev newSet (w : World) : Obj := { cls := .type "set", dict := none, data := .set #[] 0 (.fresh 0 0 (!w.params.followText "set-order")) }
/-- Iv h a i: the set at a holds the first i of the items; h0: the heap that they stand in -/
structure SetIv (P : Program) (w : World) (A : Around) (h0 : Heap) (items : Array Value) (Iv : Heap → Addr → Nat → Prop) : Prop where
  fresh : ∀ h a, h.get? a = some (newSet w) → Iv h a 0
  keep : ∀ h h' a i, Iv h a i → (∀ o, h.get? a = some o → h'.get? a = some o) → (∀ b o, h0.get? b = some o → h'.get? b = some o) → Iv h' a i
  add : ∀ (s : Shared) (a : Addr) (i : Nat) (v : Value) (E : Value → Shared → Prop) (Q : Bool → Shared → Prop), items[i]? = some v → Iv s.heap a i → (∀ b o, h0.get? b = some o → s.heap.get? b = some o) → h0.get? a = none →
    (∀ b h' tk, Heap.SameBut a s.heap h' → s.toks ≤ tk → Iv h' a (i + 1) → Q b { s with heap := h', toks := tk }) → wpAny (model P w) A.in1 (setAdd a v) Q E s
section
variable {P : Program} {w : World} {A : Around} {E : Value → Shared → Prop}
theorem setLoop {A0 : Around} {h0 : Heap} {items : Array Value} {Iv : Heap → Addr → Nat → Prop} (V : SetIv P w A0 h0 items Iv) {I : Addr} {fp wr : List Addr} {G : Array GenState → Array GenState → Prop} {n : Nat} {Pv : Nat → Value → Prop} {St : Nat → Shared → Prop} {R : Result → Shared → Prop}
    (W : WalksS P w A0.in1 I fp wr G n Pv St) (S : Addr) (hSf : S ∉ fp) (hval : ∀ i v, Pv i v → items[i]? = some v) (hS0 : h0.get? S = none) (hw0 : ∀ b ∈ wr, h0.get? b = none) :
    ∀ (k i : Nat) (s : Shared), n - i = k → i ≤ n → St i s → (∀ b o, h0.get? b = some o → s.heap.get? b = some o) → Iv s.heap S i →
      (∀ s', Moved (S :: wr) G s s' → Iv s'.heap S n → (∀ b o, h0.get? b = some o → s'.heap.get? b = some o) → R (.ok (.ret .none)) s') → codeAny (model P w) A0 (.builtin "set.update.loop" ⟨[.ref S, .ref I], []⟩) R s := by
  have hSw : S ∉ wr := fun h => hSf (W.sub _ h)
  have hsub : ∀ b ∈ wr, b ∈ S :: wr := fun b hb => List.mem_cons_of_mem _ hb
  have kM : ∀ {s s' : Shared}, Moved wr G s s' → (∀ b o, h0.get? b = some o → s.heap.get? b = some o) → ∀ b o, h0.get? b = some o → s'.heap.get? b = some o := fun hm hkp b o e => hm.heap b o (fun hb => by rw [hw0 b hb] at e; cases e) (hkp b o e)
  intro k
  induction k with
  | zero =>
    intro i s hk hi hst hkp hV hR
    obtain rfl : i = n := by omega
    refine codeAny_builtin F.entry_set_update_loop ?_
    rw [Around.under_plainId F.plain_set_update_loop _]
    show wpAny _ A0.in1 (pyNext (.ref I) >>= _) _ _ s
    refine wpAny_bind (W.done s _ _ hst fun s' hm => ?_)
    show wpAny _ A0.in1 (ret Value.none) _ _ s'
    exact wpAny_pure (hR s' (hm.mono hsub) (V.keep _ _ _ _ hV (fun o e => hm.heap S o hSw e) (kM hm hkp)) (kM hm hkp))
  | succ k ih =>
    intro i s hk hi hst hkp hV hR
    have hlt : i < n := by omega
    refine codeAny_builtin F.entry_set_update_loop ?_
    rw [Around.under_plainId F.plain_set_update_loop _]
    show wpAny _ A0.in1 (pyNext (.ref I) >>= _) _ _ s
    refine wpAny_bind (W.item i s _ _ hlt hst fun v s' hP hst' hm => ?_)
    have hkp' := kM hm hkp
    show wpAny _ A0.in1 (holding [v] (setAdd S v) >>= _) _ _ s'
    refine wpAny_bind (wpAny_holding (V.add s' S i v _ _ (hval i v hP) (V.keep _ _ _ _ hV (fun o e => hm.heap S o hSw e) hkp') hkp' hS0 fun b h' tk hsb htk hV2 => ?_))
    have hkp2 : ∀ b o, h0.get? b = some o → h'.get? b = some o := fun b o e => (hsb.2 b (fun z => by rw [z, hS0] at e; cases e)).trans (hkp' b o e)
    refine wpAny_pure ⟨plainId_quiet F.plain_set_update_loop _, ih (i + 1) _ (by omega) hlt (W.frame _ s' _ _ hst' htk fun b hb o e => ?_) hkp2 hV2 fun s'' hm'' hV3 hkp3 => ?_⟩
    · rw [hsb.2 b (fun h : b = S => hSf (by rw [← h]; exact hb))]; exact e
    · refine hR s'' (Moved.trans W.gtrans ((hm.mono hsub).then_heap htk fun b o hb e => ?_) hm'') hV3 hkp3
      rw [hsb.2 b (fun h : b = S => hb (by rw [h]; exact List.mem_cons_self))]; exact e
theorem setCall {s : Shared} {l : Addr} {items : Array Value} {Iv : Heap → Addr → Nat → Prop} {Q : Value → Shared → Prop} (V : SetIv P w A.in1.in1 s.heap items Iv) (hh : A.handled = none) (hl : s.heap.IsList l items)
    (h : ∀ (h' : Heap) (tk : Nat), Iv h' s.heap.objs.size items.size → (∀ b o, s.heap.get? b = some o → h'.get? b = some o) → Q (.ref s.heap.objs.size) { s with heap := h', toks := tk }) : wpAny (model P w) A (call (.type "set") [.ref l]) Q E s := by
  obtain ⟨c, tl, hmro⟩ := F.called_set.mro
  have hmade := F.called_set.made
  have hsub := F.called_set.sub
  refine wpAny_call (codeAny_of_tree ?_)
  show wpAny _ _ (callAny (.type "set") _) _ _ _
  refine wpAny_pure ⟨Code.quiet_builtin _ (by decide +kernel), codeAny_builtin F.entry_type_call ?_⟩
  rw [Around.under_plain (weight_type_call_type "set" [.ref l] []) rfl]
  have h1 := F.called_set.notType
  have h2 := F.called_set.canCreate
  have hct := F.typeCall_set_1 (.ref l)
  repeat (any_goals (first | assumption | wp_step))
  refine codeAny_mono (code_set_led1 (.ref l) (E := E) (Q₁ := fun obj s₁ => obj = .ref s.heap.objs.size ∧ s₁ = { s with heap := s.heap.push (newSet w) }) ⟨rfl, rfl⟩) fun r s₁ hr => ?_
  cases r with
  | error e => exact hr
  | ok fl =>
    cases fl with
    | ret obj =>
      obtain ⟨rfl, rfl⟩ := hr
      have hS : (s.heap.push (newSet w)).get? s.heap.objs.size = some (newSet w) := Heap.get?_push_size _ rfl
      have hT : Shared.TypeIs { s with heap := s.heap.push (newSet w) } (.ref s.heap.objs.size) "set" := ⟨_, hS, rfl⟩
      have hli := F.called_set.init.lookup
      have hbi := F.called_set.init.bind (.ref s.heap.objs.size)
      repeat (any_goals (first | assumption | wp_step))
      refine codeAny_mono (codeAny_call_builtin (R := wants (fun r s₂ => r = .none ∧ ∃ h' tk, s₂ = { s with heap := h', toks := tk } ∧ Iv h' s.heap.objs.size items.size ∧ (∀ b o, s.heap.get? b = some o → h'.get? b = some o)) E) F.called_set.init.plain F.entry_set_init (check_set_init_1 hT ?_)) fun r₂ s₂ hr₂ => ?_
      · obtain ⟨ol, hol, hcl, nl, hdl⟩ := hl
        obtain ⟨ocls, odict, odata, oslots⟩ := ol
        simp only at hcl hdl
        subst hcl; subst hdl
        have hol' : (s.heap.push (newSet w)).get? l = some { cls := .type "list", dict := odict, data := .seq items nl, slots := oslots } := Heap.get?_push_of_some _ hol
        have hsls := F.sub_list_set
        have hslf := F.sub_list_frozenset
        have hne : (Value.type "list" == Value.type "dict") = false := by decide
        have hl1 : (s.heap.push (newSet w)).IsList l items := ⟨_, hol', rfl, nl, rfl⟩
        unfold Builtin.«set.__init__» noKeywords Builtin.Frozenset.updateFrom
        generalize hPI : pyIter = PI
        wp_walk
        subst hPI
        refine wpAny_pyIter_list hl1 ?_
        refine wpAny_bind (wpAny_runValue ?_)
        have hlS : l < s.heap.objs.size := Heap.lt_size hol
        have hh3 : A.in1.in1.in1.handled = none := by simp [hh]
        have hneI : l ≠ (s.heap.push (newSet w)).objs.size := by rw [Heap.size_push]; exact Nat.ne_of_lt (Nat.lt_succ_of_lt hlS)
        have hSf : s.heap.objs.size ∉ [(s.heap.push (newSet w)).objs.size, l] := by
          rw [Heap.size_push]
          simp only [List.mem_cons, List.mem_singleton, List.not_mem_nil, or_false, not_or]
          exact ⟨Nat.ne_of_lt (Nat.lt_succ_self _), Nat.ne_of_gt hlS⟩
        have none_of : ∀ b, s.heap.objs.size ≤ b → s.heap.get? b = none := fun b hb => by
          cases q : s.heap.get? b with
          | none => rfl
          | some o => exact absurd (Nat.lt_of_lt_of_le (Heap.lt_size q) hb) (Nat.lt_irrefl _)
        refine setLoop V ((Walks.list hh3 _ l hneI items).toS) s.heap.objs.size hSf (fun i v hv => hv) (none_of _ (Nat.le_refl _)) (fun b hb => none_of b (by
            rw [List.mem_singleton.mp hb, Heap.size_push]
            exact Nat.le_succ _)) (items.size - 0) 0 _ (by omega) (Nat.zero_le _) ⟨⟨_, Heap.get?_push_size _ rfl, rfl, rfl⟩, (hl1.push _)⟩ (fun b o e => Heap.get?_push_of_some _ (Heap.get?_push_of_some _ e)) ?hS0 ?hR
        case hS0 => exact V.fresh _ _ (Heap.get?_push_of_some _ hS)
        case hR =>
          intro s' hm hS' hkp
          obtain ⟨h', g2, d', tk', os'⟩ := s'
          have eg : g2 = s.gens := hm.gens
          have ed : d' = s.drawn := hm.drawn
          have eo : os' = s.os := hm.os
          subst eg; subst ed; subst eo
          show wpAny _ _ _ _ _ _
          refine wpAny_pure ?_
          show wpAny _ _ (ret Value.none) _ _ _
          exact wpAny_pure ⟨rfl, h', tk', rfl, hS', hkp⟩
      · cases r₂ with
        | error e => exact hr₂
        | ok fl₂ =>
          cases fl₂ with
          | ret r =>
            obtain ⟨rfl, h', tk, rfl, hS', hk'⟩ := hr₂
            repeat (any_goals (first | assumption | wp_step))
            exact h _ _ hS' hk'
          | _ => exact hr₂.elim
    | _ => exact hr.elim
end
end Fy
end
section
/-! FySet2 -/
namespace Fy
open PySem PySem.Spec PyProof.Rows L2
/-! ### sets of ints and texts -/
def kOf : Value → Key
  | .int i _ => .inl i
  | .str x _ => .inr x
  | _ => .inl 0
theorem kOf_is {P : Program} {w : World} {k : Key} {v : Value} (h : (mixKind P w).is k v = true) : kOf v = k := by
  rcases keyIs_shape h with ⟨i, t, rfl, rfl⟩ | ⟨x, t, rfl, rfl⟩ <;> rfl
abbrev kvs (es : Array (Int × Value)) : List Key := es.toList.map fun e => kOf e.2
/-- its members: the first i of ks, each once -/
structure ScanObj (P : Program) (w : World) (ks : List Key) (i : Nat) (o : Obj) (es : Array (Int × Value)) (ep : Nat) (t : SetTable) : Prop where
  ex : o.ExactSet
  data : o.data = .set es ep t
  els : ElemsOf (mixKind P w) es.toList
  nd : (kvs es).Nodup
  mem : ∀ k, k ∈ kvs es ↔ k ∈ ks.take i
  few : es.size ≤ i
  fits : t.fits es.size = true
  ris : Ris t.place.toList
  led : w.params.followText "set-order" = true ∨ t.led = true
def ScanIv (P : Program) (w : World) (ks : List Key) (h : Heap) (a : Addr) (i : Nat) : Prop := ∃ o es ep t, h.get? a = some o ∧ ScanObj P w ks i o es ep t
section
variable {P : Program} {w : World} {A : Around} {E : Value → Shared → Prop} {s : Shared} {a : Addr} {ks : List Key} {i : Nat}
/-- behind the search: the new rows are stored, the table may be laid anew -/
theorem scanTail {g : Bool → Sem Unit} (hg : ∀ (b : Bool) (s₁ : Shared) (Q' : Unit → Shared → Prop), Q' () s₁ → wpAny (model P w) A (g b) Q' E s₁) {o : Obj} {es es1 : Array (Int × Value)} {ep : Nat} {t t2 : SetTable} (ho : s.heap.get? a = some o) (hex : o.ExactSet) (hd : o.data = .set es ep t)
    (hb : es1.size < scanBound) (hf : t2.fits es1.size = true) (hr : Ris t2.place.toList) (hl : w.params.followText "set-order" = true ∨ t2.led = true) {wd : Bool} {R : Option Bool → Shared → Prop}
    (hR : ∀ o' es' ep' t' h', Heap.SameBut a s.heap h' → h'.get? a = some o' → o'.ExactSet → o'.data = .set es' ep' t' → es'.toList.Perm es1.toList → t'.fits es'.size = true → Ris t'.place.toList → (w.params.followText "set-order" = true ∨ t'.led = true) → R (some true) { s with heap := h' }) :
    wpAny (model P w) A (do
        storeSet a es1 t2
        if (!wd && t2.tooFull) = true then do
            g (relayAll t2 es1 (SetTable.grown es1.size)).2.2
            storeSet a (relayAll t2 es1 (SetTable.grown es1.size)).1 (relayAll t2 es1 (SetTable.grown es1.size)).2.1
            pure (some true)
          else pure (some true)) R E s := by
  have ho1 := L2.store_at (es' := es1) (t' := t2) ho hd
  have sb1 := Heap.SameBut.update s.heap a (Obj.putSet es1 t2)
  refine wpAny_bind (wpAny_storeSet_of ho hd ?_ (fits_of_scanBound hb))
  split
  · have pm := relayAll_perm t2 es1 (SetTable.grown es1.size)
    have f3 := relayAll_fits t2 es1 (SetTable.grown es1.size)
    have r3 := relayAll_ris t2 es1 (SetTable.grown es1.size)
    have l3 := relayAll_led t2 es1 (SetTable.grown es1.size)
    generalize relayAll t2 es1 (SetTable.grown es1.size) = Z at pm f3 r3 l3 ⊢
    obtain ⟨es2, t3, gave⟩ := Z
    dsimp only at pm f3 r3 l3 ⊢
    have sz : es2.size = es1.size := by rw [← Array.length_toList, pm.length_eq, Array.length_toList]
    refine wpAny_bind (hg _ _ _ (wpAny_bind (wpAny_storeSet_of ho1 rfl ?_ (fits_of_scanBound (by rw [sz]; exact hb)))))
    exact wpAny_pure (hR _ es2 _ t3 _ (sb1.trans (Heap.SameBut.update _ a _)) (L2.store_at (es' := es2) (t' := t3) ho1 rfl) hex rfl pm f3 r3 (hl.imp id fun z => by rw [l3]; exact z))
  · exact wpAny_pure (hR _ es1 _ t2 _ sb1 ho1 hex rfl (List.Perm.refl _) hf hr hl)
theorem scanAdd {k : Key} {v : Value} {Q : Bool → Shared → Prop} (hk : (mixKind P w).is k v = true) (hs : v.scannable = true) (hki : ks[i]? = some k) (hb : i + 1 < scanBound) (V : ScanIv P w ks s.heap a i)
    (hQ : ∀ b h', Heap.SameBut a s.heap h' → ScanIv P w ks h' a (i + 1) → Q b { s with heap := h' }) : wpAny (model P w) A (setAddHashed a v ((mixKind P w).hash k)) Q E s := by
  obtain ⟨o, es, ep, t, ho, V⟩ := V
  have tk : ks.take (i + 1) = ks.take i ++ [k] := L2.take_next hki
  have hb0 : es.size < scanBound := by have := V.few; omega
  unfold setAddHashed setAddHashedIn
  refine wpAny_holding (wpAny_bind (wpAny_setState_of ho V.data V.fits ?_))
  dsimp only
  rw [byScan_of hs hb0 V.els]
  simp only [↓reduceIte]
  unfold setAddByScan
  refine wpAny_bind (wpAny_bind (wpAny_rule (wpAny_bind (wpAny_setScan_of hk ho V.data V.fits V.els ?_))))
  cases hf : List.findIdx? (fun e => (mixKind P w).is k e.2) es.toList with
  | some j =>
    dsimp only
    obtain ⟨hj, pj, _⟩ := List.findIdx?_eq_some_iff_getElem.mp hf
    have hm : k ∈ kvs es := List.mem_map.mpr ⟨_, List.getElem_mem hj, kOf_is pj⟩
    refine wpAny_pure (wpAny_pure (hQ false s.heap (Heap.SameBut.refl a s.heap) ⟨o, es, ep, t, ho, V.ex, V.data, V.els, V.nd, fun q => ?_, Nat.le_succ_of_le V.few, V.fits, V.ris, V.led⟩))
    rw [tk, V.mem q, List.mem_append, List.mem_singleton]
    exact ⟨.inl, fun z => z.elim id fun e => by rw [e]; exact (V.mem k).mp hm⟩
  | none =>
    dsimp only
    have hn : k ∉ kvs es := fun z => by
      obtain ⟨e, he, q⟩ := List.mem_map.mp z
      have c := List.findIdx?_eq_none_iff.mp hf e he
      obtain ⟨⟨k', h1, _⟩, _⟩ := V.els e he
      rw [kOf_is h1] at q
      rw [← q, h1] at c
      cases c
    have pm := layNew_perm t es ((mixKind P w).hash k) v
    have f1 := layNew_fits t es ((mixKind P w).hash k) v
    have r1 := layNew_ris t es ((mixKind P w).hash k) v V.ris
    have l1 := layNew_led t es ((mixKind P w).hash k) v
    generalize layNew t es ((mixKind P w).hash k) v = Z at pm f1 r1 l1 ⊢
    obtain ⟨es1, t1, wasDummy, gave⟩ := Z
    dsimp only at pm f1 r1 l1 ⊢
    rw [Array.toList_push] at pm
    have pc : es1.toList.Perm (((mixKind P w).hash k, v) :: es.toList) := pm.trans (List.perm_append_singleton _ _)
    have pk : (kvs es1).Perm (k :: kvs es) := by
      have := pc.map fun e => kOf e.2
      rwa [List.map_cons, kOf_is hk] at this
    have sz : es1.size = es.size + 1 := by rw [← Array.length_toList, pc.length_eq, List.length_cons, Array.length_toList]
    have b1 : es1.size < scanBound := by rw [sz]; have := V.few; omega
    have ld : w.params.followText "set-order" = true ∨ t1.led = true := V.led.imp id fun z => by rw [l1]; exact z
    have el1 : ElemsOf (mixKind P w) es1.toList := fun e he => by
      rcases List.mem_cons.mp (pc.mem_iff.mp he) with z | z
      · rw [z]; exact ⟨⟨k, hk, rfl⟩, hs⟩
      · exact V.els e z
    have fin : ∀ {o' : Obj} {es' : Array (Int × Value)} {ep' : Nat} {t' : SetTable} {h' : Heap}, Heap.SameBut a s.heap h' → h'.get? a = some o' → o'.ExactSet → o'.data = .set es' ep' t' → es'.toList.Perm es1.toList → t'.fits es'.size = true → Ris t'.place.toList → (w.params.followText "set-order" = true ∨ t'.led = true) → Q true { s with heap := h' } :=
      fun {o' es' ep' t' h'} sb g e1 e2 pp ff rr ll => hQ true h' sb ⟨o', es', ep', t', g, e1, e2, ElemsOf.perm el1 pp, by
        have : (kvs es').Perm (k :: kvs es) := (pp.map fun e => kOf e.2).trans pk
        exact this.nodup_iff.mpr (List.nodup_cons.mpr ⟨hn, V.nd⟩), fun q => by
        have : (kvs es').Perm (k :: kvs es) := (pp.map fun e => kOf e.2).trans pk
        rw [this.mem_iff, List.mem_cons, V.mem q, tk, List.mem_append, List.mem_singleton]
        exact Or.comm, by rw [← Array.length_toList, pp.length_eq, Array.length_toList, sz]; have := V.few; omega, ff, rr, ll⟩
    have hgw : ∀ (b : Bool) {s₁ : Shared} {Q' : Unit → Shared → Prop}, Q' () s₁ → wpAny (model P w) A (match b with | true => rule "set.scan.the-table-gave-way" | false => pure ()) Q' E s₁ := fun b s₁ Q' q => by
      cases b <;> first | exact wpAny_pure q | exact wpAny_rule q
    refine wpAny_bind (hgw _ ?_)
    split
    · refine wpAny_bind ?_
      rw [hashByValue_scannable 8 hs]
      refine wpAny_pure (scanTail ?_ ho V.ex V.data b1 ?_ ?_ ?_ ?_)
      · intro b s₁ Q' q; cases b <;> first | exact wpAny_pure q | exact wpAny_rule q
      · first | (split <;> first | exact f1 | exact SetTable.fits_plain_off f1) | exact f1
      · first | (split <;> exact r1) | exact r1
      · first | (split <;> exact ld) | exact ld
      · intro o' es' ep' t' h' x1 x2 x3 x4 x5 x6 x7 x8; dsimp only; exact wpAny_pure (fin x1 x2 x3 x4 x5 x6 x7 x8)
    · refine wpAny_bind (wpAny_pure ?_)
      simp only [↓reduceIte]
      refine scanTail ?_ ho V.ex V.data b1 f1 r1 ld ?_
      · intro b s₁ Q' q; cases b <;> first | exact wpAny_pure q | exact wpAny_rule q
      · intro o' es' ep' t' h' x1 x2 x3 x4 x5 x6 x7 x8; dsimp only; exact wpAny_pure (fin x1 x2 x3 x4 x5 x6 x7 x8)
theorem scan_new {h : Heap} (ho : h.get? a = some (newSet w)) : ScanIv P w ks h a 0 :=
  ⟨_, #[], 0, _, ho, ⟨rfl, rfl, rfl⟩, rfl, fun e he => by simp at he, List.nodup_nil, fun k => by simp, Nat.zero_le _, rfl, List.Pairwise.nil, by
    show _ ∨ (!w.params.followText "set-order") = true
    cases w.params.followText "set-order"
    · exact .inr rfl
    · exact .inl rfl⟩
/-- set(xs) of ints and texts -/
theorem scanIv {h0 : Heap} {items : Array Value} (hi : ∀ (j : Nat) (v : Value), items[j]? = some v → ∃ k : Key, ks[j]? = some k ∧ (mixKind P w).is k v = true ∧ v.scannable = true) (hb : items.size + 1 < scanBound) : SetIv P w A h0 items (ScanIv P w ks) where
  fresh := fun h a e => scan_new e
  keep := fun h h' a i ⟨o, es, ep, t, ho, V⟩ ka _ => ⟨o, es, ep, t, ka o ho, V⟩
  add := fun s a i v E Q hv V _ _ hQ => by
    obtain ⟨k, h1, h2, h3⟩ := hi i v hv
    have hlt : i < items.size := (Array.getElem?_eq_some_iff.mp hv).1
    unfold setAdd
    refine wpAny_holding (wpAny_bind ((mixKind P w).pyHash h2 ?_))
    exact scanAdd (s := { s with toks := s.toks + 1 }) h2 h3 h1 (by omega) V fun b h' sb V' => hQ b h' (s.toks + 1) sb (Nat.le_succ _) V'
end
end Fy
end
section
/-! FySet3 -/
namespace Fy
open PySem PySem.Spec PyProof.Rows L2
/-! ### sets of tuples of ints and texts, all different -/
abbrev IsM (P : Program) (w : World) (h : Heap) (k : List Key) (b : Addr) : Prop := IsTupleKey (mixKind P w) h k b
abbrev mh (P : Program) (w : World) (k : List Key) : Int := tupleKeyHash (mixKind P w) k
section
variable {P : Program} {w : World} {A : Around} {E : Value → Shared → Prop} {s : Shared}
theorem mix_items {k : List Key} {vs : List Value} (h : ItemsAre (mixKind P w) k vs) : ∀ v ∈ vs, (∃ i t, v = Value.int i t) ∨ ∃ x t, v = Value.str x t := by
  induction h with
  | nil => intro v hv; cases hv
  | @cons k0 v0 ks vs h1 _ ih =>
    intro v hv
    rcases List.mem_cons.mp hv with e | hv
    · rcases keyIs_shape h1 with ⟨i, t, _, e2⟩ | ⟨i, t, _, e2⟩
      · exact .inl ⟨i, t, e.trans e2⟩
      · exact .inr ⟨i, t, e.trans e2⟩
    · exact ih v hv
theorem noClass {k : List Key} {b : Addr} {Q : Bool → Shared → Prop} (hk : IsM P w s.heap k b) (h : Q false s) : wpAny (model P w) A (ofAClassStatement 8 (.ref b)) Q E s := by
  have hT := hk.typeIs
  obtain ⟨o, items, n, ho, _, hd, hi⟩ := hk
  unfold ofAClassStatement
  refine wpAny_bind (wpAny_typeOf hT ?_)
  dsimp only
  have e : (("tuple" : String) == "tuple") = true := by decide
  simp only [e, if_true, Bool.not_true, Bool.false_eq_true, if_false]
  try refine wpAny_bind (wpAny_pure ?_)
  try simp only [Bool.not_true, Bool.false_eq_true, if_false]
  show wpAny _ _ (seqItems? (.ref b) >>= _) _ _ s
  refine wpAny_bind (wpAny_seqItems ho hd ?_)
  dsimp only
  refine wpAny_bind ?_
  show wpAny _ _ (forIn items _ _) _ _ s
  rw [← Array.forIn_toList]
  refine wpAny_forIn_list _ (fun rest r s' => r.1 = none ∧ s' = s ∧ ∀ v ∈ rest, (∃ i t, v = Value.int i t) ∨ ∃ x t, v = Value.str x t) _ ?_ ?_ _ _ ⟨rfl, rfl, mix_items hi⟩
  · rintro v rest r s' ⟨hr, rfl, hall⟩
    have hz : ofAClassStatement 7 v = pure false := by
      rcases hall v List.mem_cons_self with ⟨i, t, rfl⟩ | ⟨i, t, rfl⟩ <;> rfl
    rw [hz]
    refine wpAny_bind (wpAny_pure ?_)
    simp only [Bool.false_eq_true, if_false]
    exact wpAny_pure ⟨rfl, rfl, fun u hu' => hall u (List.mem_cons_of_mem _ hu')⟩
  · rintro ⟨r1, r2⟩ s' ⟨hr, rfl, _⟩
    obtain rfl : r1 = none := hr
    exact wpAny_pure h
theorem byVal {k : List Key} {b : Addr} {Q : Bool → Shared → Prop} (hk : IsM P w s.heap k b) (h : ∀ c, Q c s) : wpAny (model P w) A (hashByValue 8 (.ref b)) Q E s := by
  have hT := hk.typeIs
  obtain ⟨o, items, n, ho, _, hd, hi⟩ := hk
  unfold hashByValue
  refine wpAny_bind (wpAny_specialOf hT F.slot_tuple_hash.lookup ?_)
  show wpAny _ _ (seqItems? (.ref b) >>= _) _ _ s
  refine wpAny_bind (wpAny_seqItems ho hd ?_)
  refine wpAny_bind ?_
  show wpAny _ _ (forIn items _ _) _ _ s
  rw [← Array.forIn_toList]
  refine wpAny_forIn_list _ (fun rest r s' => s' = s ∧ ∀ v ∈ rest, (∃ i t, v = Value.int i t) ∨ ∃ x t, v = Value.str x t) _ ?_ ?_ _ _ ⟨rfl, mix_items hi⟩
  · rintro v rest r s' ⟨rfl, hall⟩
    rcases hall v List.mem_cons_self with ⟨i, t, rfl⟩ | ⟨i, t, rfl⟩
    · have hz : hashByValue 7 (Value.int i t) = pure true := rfl
      rw [hz]
      refine wpAny_bind (wpAny_pure ?_)
      simp only [Bool.not_true, Bool.false_eq_true, if_false]
      exact wpAny_pure ⟨rfl, fun u hu' => hall u (List.mem_cons_of_mem _ hu')⟩
    · have hz : hashByValue 7 (Value.str i t) = pure false := rfl
      rw [hz]
      refine wpAny_bind (wpAny_pure ?_)
      simp only [Bool.not_false, if_true]
      exact wpAny_pure (wpAny_pure (h false))
  · rintro ⟨r1, r2⟩ s' ⟨rfl, _⟩
    cases r1 with
    | none => exact wpAny_pure (h true)
    | some c => exact wpAny_pure (h c)
theorem notSeen {k : List Key} {b : Addr} {Q : Bool → Shared → Prop} (hk : IsM P w s.heap k b) {ys : List Value} (hy : ∀ y ∈ ys, ∃ k' c, y = Value.ref c ∧ IsM P w s.heap k' c) (h : Q false s) : wpAny (model P w) A (searchCouldBeSeen (.ref b) ys) Q E s := by
  unfold searchCouldBeSeen
  refine wpAny_bind ?_
  refine wpAny_forIn_list _ (fun rest r s' => r.1 = none ∧ s' = s ∧ ∀ y ∈ rest, ∃ k' c, y = Value.ref c ∧ IsM P w s.heap k' c) _ ?_ ?_ _ _ ⟨rfl, rfl, hy⟩
  · rintro v rest r s' ⟨hr, rfl, hall⟩
    obtain ⟨k', c, rfl, hc⟩ := hall v List.mem_cons_self
    have more : ∀ y ∈ rest, ∃ k' c, y = Value.ref c ∧ IsM P w s'.heap k' c := fun u hu' => hall u (List.mem_cons_of_mem _ hu')
    dsimp only
    by_cases hv : (b == c || (carriedByValue (.ref b) && carriedByValue (.ref c))) = true
    · exact wp_if_pos hv (wpAny_pure ⟨rfl, rfl, more⟩)
    · refine wp_if_neg hv (wpAny_bind (wpAny_eqIsQuiet_tuple hk ?_))
      simp only [Bool.not_true, Bool.false_eq_true, if_false]
      refine wpAny_bind (wpAny_eqIsQuiet_tuple hc ?_)
      simp only [Bool.not_true, Bool.false_eq_true, if_false]
      refine wpAny_bind (noClass hk ?_)
      simp only [Bool.false_eq_true, if_false]
      refine wpAny_bind (noClass hc ?_)
      simp only [Bool.false_eq_true, if_false]
      exact wpAny_pure ⟨rfl, rfl, more⟩
  · rintro ⟨r1, r2⟩ s' ⟨hr, rfl, _⟩
    obtain rfl : r1 = none := hr
    exact wpAny_pure h
end
end Fy
end
section
/-! FySet4 -/
namespace Fy
open PySem PySem.Spec PyProof.Rows L2
abbrev rowM (P : Program) (w : World) (p : List Key × Addr) : Int × Value := (mh P w p.1, Value.ref p.2)
/-- the set's object: its members L in the order of its rows -/
structure TupObj (P : Program) (w : World) (h : Heap) (L : List (List Key × Addr)) (o : Obj) (es : Array (Int × Value)) (ep : Nat) (t : SetTable) : Prop where
  ex : o.ExactSet
  data : o.data = .set es ep t
  rows : es.toList = L.map (rowM P w)
  tab : TabOk t (L.map fun p => mh P w p.1)
  tup : ∀ p ∈ L, IsM P w h p.1 p.2
  led : w.params.followText "set-order" = true ∨ t.led = true
  room : L.length * 5 < t.mask * 3
section
variable {P : Program} {w : World} {A : Around} {E : Value → Shared → Prop} {s : Shared} {a : Addr} {L : List (List Key × Addr)} {o : Obj} {es : Array (Int × Value)} {ep : Nat} {t : SetTable}
theorem TupObj.size {h : Heap} (R : TupObj P w h L o es ep t) : es.size = L.length := by
  have h := congrArg List.length R.rows
  rwa [Array.length_toList, List.length_map] at h
theorem TupObj.fits {h : Heap} (R : TupObj P w h L o es ep t) : t.fits es.size = true := by
  have h1 := R.tab.sz
  have h2 := R.size
  have h3 := R.room
  rw [List.length_map] at h1
  unfold SetTable.fits SetTable.fill
  rw [R.tab.dm, Bool.and_eq_true, beq_iff_eq, decide_eq_true_eq]
  show t.place.size = es.size ∧ t.place.size + 0 ≤ t.mask
  omega
theorem TupObj.entry {h : Heap} (R : TupObj P w h L o es ep t) {i : Nat} {p : List Key × Addr} (e : L[i]? = some p) : es[i]? = some (rowM P w p) := by
  rw [← Array.getElem?_toList, R.rows, List.getElem?_map, e]; rfl
abbrev prb (m : Nat) (h : Int) (c : Nat) : SetTable.Probe := nth m (runAt m (SetTable.bits h % (m + 1)) (SetTable.bits h)) c
theorem prb_dm (m : Nat) (h : Int) (c : Nat) : (prb m h c).dummy = none := by
  have key : ∀ (n : Nat) (p : SetTable.Probe), p.dummy = none → (nth m p n).dummy = none := by
    intro n
    induction n with
    | zero => intro p h; exact h
    | succ n ih =>
      intro p h
      refine ih (adv m p) ?_
      unfold adv
      split <;> exact h
  exact key c _ rfl
/-- looking for a new one: all the way to the first empty slot -/
theorem seek (ho : s.heap.get? a = some o) (R : TupObj P w s.heap L o es ep t) {x : Addr} {k : List Key} (hx : IsM P w s.heap k x) (hu : A.units < cLine) (hn : k ∉ L.map (·.1)) {K : Nat} (hKf : K < 10 * SetTable.turns t.mask) (hK : way t.mask (mh P w k) K ∉ t.place.toList) (hKb : ∀ c, c < K → way t.mask (mh P w k) c ∈ t.place.toList) {Q : SetFound → Shared → Prop}
    (hQ : Q (.free (way t.mask (mh P w k) K) false) s) : ∀ (f c : Nat) (stand : Option SetTable.Probe), stand.getD (t.probeStart (mh P w k)) = prb t.mask (mh P w k) c → c ≤ K → K - c < f → wpAny (model P w) A (setSearchFrom a (.ref x) (mh P w k) true f stand) Q E s
  | 0, c, stand, _, _, hf => absurd hf (Nat.not_lt_zero _)
  | f + 1, c, stand, hst, hc, hf => by
    rw [setSearchFrom_succ]
    refine wpAny_bind (wpAny_setState_of ho R.data R.fits ?_)
    dsimp only
    have gw : ¬ t.gaveWay = true := by
      unfold SetTable.gaveWay
      rw [mask_odd R.tab.mok]
      decide
    refine wp_if_neg gw ?_
    try refine wpAny_bind (wpAny_pure ?_)
    have sh : ∀ q, nth t.mask (prb t.mask (mh P w k) c) q = prb t.mask (mh P w k) (c + q) := fun q => (nth_add t.mask c _ q).symm
    have e1 : ∀ q, (nth t.mask (prb t.mask (mh P w k) c) q).j = way t.mask (mh P w k) (c + q) := fun q => congrArg SetTable.Probe.j (sh q)
    have spec := go_spec t R.tab.ris R.tab.dm (fun i => (es[i]?.map (·.1)).getD 0) (mh P w k) (10 * SetTable.turns t.mask) (K - c) _ (prb_dm _ _ c) (by omega) (fun q hq => by rw [e1]; exact hKb (c + q) (by omega)) (by rw [e1, show c + (K - c) = K by omega]; exact hK)
    rcases spec with ⟨q, i, hq, hi, hh, hno, hpr⟩ | ⟨hno, hpr⟩
    · have hpr' : t.probe (fun i => (es[i]?.map (·.1)).getD 0) (mh P w k) (stand.getD (t.probeStart (mh P w k))) = some (.candidate (way t.mask (mh P w k) (c + q)) i (prb t.mask (mh P w k) (c + (q + 1)))) := by
        rw [hst, ← e1, ← sh]
        exact hpr
      rw [hpr']
      dsimp only
      rw [e1] at hi
      have hil : i < L.length := by
        have h1 : i < t.place.toList.length := (List.getElem?_eq_some_iff.mp hi).1
        have h2 := R.tab.sz
        rw [List.length_map] at h2
        rw [Array.length_toList] at h1
        omega
      obtain ⟨p, hp⟩ : ∃ p, L[i]? = some p := ⟨_, List.getElem?_eq_getElem hil⟩
      have hmem : p ∈ L := List.mem_of_getElem? hp
      have hkk : ¬ p.1 = k := fun z => hn (z ▸ List.mem_map_of_mem (f := (·.1)) hmem)
      have rest : wpAny (model P w) A (searchRest a (.ref x) (mh P w k) true f es t (way t.mask (mh P w k) (c + q)) i (prb t.mask (mh P w k) (c + (q + 1)))) Q E s := by
        unfold searchRest
        rw [R.entry hp]
        dsimp only
        refine wpAny_bind (wpAny_holding (wpAny_eqBool_tuple hu (R.tup p hmem) hx ?_))
        refine wpAny_bind (wpAny_setState_of ho R.data R.fits ?_)
        dsimp only
        refine wp_if_neg (by simp [hkk]) ?_
        try refine wpAny_bind (wpAny_pure ?_)
        rw [sameMem]
        dsimp only
        have hsl : t.slot (way t.mask (mh P w k) (c + q)) = .live i := slot_live R.tab.ris hi
        simp only [if_true, hsl, R.entry hp]
        refine wpAny_bind (wpAny_isSame_ref_self (wpAny_bind (wpAny_pure ?_)))
        simp only [if_true]
        refine wp_if_neg (by simp [hkk]) ?_
        exact seek ho R hx hu hn hKf hK hKb hQ f (c + (q + 1)) _ rfl (by omega) (by omega)
      by_cases hl : t.led = true
      · refine wp_if_neg (by simp [hl]) ?_
        try refine wpAny_bind (wpAny_pure ?_)
        exact rest
      · refine wp_if_pos (by simp [hl]) ?_
        refine wpAny_bind (notSeen hx (fun y hy => ?_) ?_)
        · obtain ⟨e, he, ee⟩ := List.mem_map.mp hy
          have he2 : e ∈ es.toList := by
            have he1 : e ∈ es ∧ e.1 = mh P w k := by simpa using he
            simpa using he1.1
          rw [R.rows] at he2
          obtain ⟨p2, hp2, e2⟩ := List.mem_map.mp he2
          exact ⟨p2.1, p2.2, by rw [← ee, ← e2], R.tup p2 hp2⟩
        · refine wp_if_neg (by decide) ?_
          try refine wpAny_bind (wpAny_pure ?_)
          exact rest
    · have hpr' : t.probe (fun i => (es[i]?.map (·.1)).getD 0) (mh P w k) (stand.getD (t.probeStart (mh P w k))) = some (.empty (way t.mask (mh P w k) K) none) := by
        have e2 : way t.mask (mh P w k) K = (nth t.mask (prb t.mask (mh P w k) c) (K - c)).j := by rw [e1, show c + (K - c) = K by omega]
        rw [hst, e2]
        exact hpr
      rw [hpr']
      exact wpAny_pure hQ
end
end Fy
end
section
/-! FySet5 -/
namespace Fy
open PySem PySem.Spec PyProof.Rows L2
theorem pre_perm {α β : Type} {f : α → β} : ∀ {xs ys : List β}, xs.Perm ys → ∀ {l : List α}, ys = l.map f → ∃ l' : List α, xs = l'.map f ∧ l'.Perm l := by
  intro xs ys h
  induction h with
  | nil => intro l e; exact ⟨l, e, .refl l⟩
  | cons x _ ih =>
    intro l e
    cases l with
    | nil => cases e
    | cons b l =>
      rw [List.map_cons] at e
      injection e with e1 e2
      obtain ⟨l', e3, p⟩ := ih e2
      exact ⟨b :: l', by rw [List.map_cons, ← e3, e1], p.cons b⟩
  | swap x y _ =>
    intro l e
    match l, e with
    | b :: c :: l, e =>
      simp only [List.map_cons, List.cons.injEq] at e
      exact ⟨c :: b :: l, by simp only [List.map_cons]; rw [← e.1, ← e.2.1, ← e.2.2], .swap b c l⟩
  | trans _ _ ih1 ih2 =>
    intro l e
    obtain ⟨l2, e2, p2⟩ := ih2 e
    obtain ⟨l1, e1, p1⟩ := ih1 e2
    exact ⟨l1, e1, p1.trans p2⟩
theorem pick_all {β : Type} {xs : List β} {d : β} : ∀ {l : List Nat}, (∀ i ∈ l, i < xs.length) → l.filterMap (fun i => xs[i]?) = l.map fun i => xs.getD i d
  | [], _ => rfl
  | i :: l, h => by
    have hi := h i (List.mem_cons_self ..)
    rw [List.filterMap_cons_some (List.getElem?_eq_getElem hi), pick_all (fun j hj => h j (List.mem_cons_of_mem _ hj)), List.map_cons]
    congr 1
    rw [List.getD_eq_getElem?_getD, List.getElem?_eq_getElem hi]; rfl
theorem pick_range {β : Type} {xs : List β} : (List.range xs.length).filterMap (fun i => xs[i]?) = xs := by
  apply List.ext_getElem?
  intro i
  have : ∀ n, n ≤ xs.length → (List.range n).filterMap (fun i => xs[i]?) = xs.take n := by
    intro n
    induction n with
    | zero => intro _; simp
    | succ n ih =>
      intro hn
      rw [List.range_succ, List.filterMap_append, ih (Nat.le_of_lt hn), List.take_succ, List.getElem?_eq_getElem hn]
      simp [List.getElem?_eq_getElem hn]
  rw [this xs.length (Nat.le_refl _), List.take_length]
section
variable {P : Program} {w : World} {A : Around} {E : Value → Shared → Prop} {s : Shared} {a : Addr} {L : List (List Key × Addr)} {o : Obj} {es : Array (Int × Value)} {ep : Nat} {t : SetTable}
/-- the rows in the table's new order -/
theorem orderRows {order : Array Nat} (hr : es.toList = L.map (rowM P w)) (hp : order.toList.Perm (List.range L.length)) :
    ∃ L2 : List (List Key × Addr), (order.filterMap (es[·]?)).toList = L2.map (rowM P w) ∧ L2.Perm L ∧ (L2.map fun p => mh P w p.1) = order.toList.map fun i => (es.map (·.1)).getD i 0 := by
  have hl : es.toList.length = L.length := by rw [hr, List.length_map]
  have e0 : (order.filterMap (es[·]?)).toList = order.toList.filterMap fun i => es.toList[i]? := by
    first | (rw [Array.toList_filterMap]; simp) | simp
  have p1 : (order.toList.filterMap fun i => es.toList[i]?).Perm es.toList := by
    have := hp.filterMap (fun i => es.toList[i]?)
    rw [← hl, pick_range] at this
    exact this
  obtain ⟨L2, e2, p2⟩ := pre_perm p1 hr
  refine ⟨L2, by rw [e0, e2], p2, ?_⟩
  have hlt : ∀ i ∈ order.toList, i < es.toList.length := fun i hi => by rw [hl]; exact List.mem_range.mp (hp.mem_iff.mp hi)
  have e3 : (L2.map (rowM P w)).map (·.1) = L2.map fun p => mh P w p.1 := by rw [List.map_map]; rfl
  rw [← e3, ← e2, pick_all (d := ((0 : Int), Value.none)) hlt, List.map_map]
  refine List.map_congr_left fun i hi => ?_
  have hi2 := hlt i hi
  show (es.toList.getD i ((0 : Int), Value.none)).1 = (es.map (·.1)).getD i 0
  have h1 : i < es.size := by simpa using hi2
  simp [List.getD_eq_getElem?_getD, Array.getD_eq_getD_getElem?, h1]
theorem isM_same {h h' : Heap} {k : List Key} {b : Addr} (hb : IsM P w h k b) (ho : h.get? a = some o) (hd : o.data = .set es ep t) (hs : Heap.SameBut a h h') : IsM P w h' k b := by
  obtain ⟨o', items, n, ho', hc, hd', hi⟩ := hb
  have hne : b ≠ a := by
    rintro rfl
    rw [ho] at ho'; cases ho'
    rw [hd] at hd'; cases hd'
  exact ⟨o', items, n, (hs.2 b hne).trans ho', hc, hd', hi⟩
/-- the table is laid anew, larger -/
theorem relayT (ho : s.heap.get? a = some o) (hex : o.ExactSet) (hd : o.data = .set es ep t) (hr : es.toList = L.map (rowM P w)) (hsz : t.place.size = es.size) (hdm : t.dummies = #[]) (hfl : es.size ≤ t.mask) (tup : ∀ p ∈ L, IsM P w s.heap p.1 p.2) (ld : w.params.followText "set-order" = true ∨ t.led = true)
    (few : L.length < 64) {wanted M : Nat} (hw : SetTable.sizeAbove wanted - 1 = M) (hM : MaskOk M) (hw2 : SetTable.sizeAbove wanted ≤ 128) (hn : L.length * 5 < M * 3) {Q : Unit → Shared → Prop}
    (hQ : ∀ h' L' o' es' ep' t', Heap.SameBut a s.heap h' → h'.get? a = some o' → TupObj P w h' L' o' es' ep' t' → L'.Perm L → Q () { s with heap := h' }) : wpAny (model P w) A (setRelay a wanted) Q E s := by
  have hsl : es.size = L.length := by
    have h := congrArg List.length hr
    rwa [Array.length_toList, List.length_map] at h
  have hfits : t.fits es.size = true := by
    unfold SetTable.fits SetTable.fill
    rw [hdm, Bool.and_eq_true, beq_iff_eq, decide_eq_true_eq]
    show t.place.size = es.size ∧ t.place.size + 0 ≤ t.mask
    omega
  obtain ⟨t', order, e, hp, T, em, el, _, ed⟩ := relaid_ok t (hs := es.map (·.1)) (wanted := wanted) hw hM (by rw [Array.size_map, hsl]; omega)
  rw [Array.size_map, hsl] at hp
  obtain ⟨Lz, r1, r2, r3⟩ := orderRows (P := P) (w := w) hr hp
  rw [← r3] at T
  have hs2 : (order.filterMap (es[·]?)).size = es.size := by
    have h := congrArg List.length r1
    rw [Array.length_toList, List.length_map, r2.length_eq] at h
    rw [h, hsl]
  rw [setRelay_eq]
  refine wpAny_bind (wpAny_setState_of ho hd hfits ?_)
  dsimp only
  refine wp_if_neg (by rw [sizeLine_eq]; omega) ?_
  try refine wpAny_bind (wpAny_pure ?_)
  rw [e]
  dsimp only
  refine wpAny_bind ?_
  refine wp_if_neg (by rw [hs2]; simp) ?_
  try refine wpAny_bind (wpAny_pure ?_)
  refine wpAny_pure ?_
  dsimp only
  refine wpAny_storeSet_of ho hd ?_ (by rw [hs2, hsl, sizeLine_eq]; omega)
  have sb : Heap.SameBut a s.heap (s.heap.update a (Obj.putSet (order.filterMap (es[·]?)) t')) := Heap.SameBut.update ..
  exact hQ _ Lz _ _ (ep + 1) t' sb (store_at ho hd) ⟨hex, rfl, r1, T, fun p hpm => isM_same (tup p (r2.mem_iff.mp hpm)) ho hd sb, by rw [el]; exact ld, by rw [r2.length_eq, em]; exact hn⟩ r2
end
end Fy
end
section
/-! FySet6 -/
namespace Fy
open PySem PySem.Spec PyProof.Rows L2
/-- the first i of the tuples qs, in some order -/
def TupIv (P : Program) (w : World) (qs : List (List Key × Addr)) (h : Heap) (a : Addr) (i : Nat) : Prop := ∃ L o es ep t, h.get? a = some o ∧ TupObj P w h L o es ep t ∧ L.Perm (qs.take i)
section
variable {P : Program} {w : World} {A : Around} {E : Value → Shared → Prop} {s : Shared} {a : Addr} {L : List (List Key × Addr)} {o : Obj} {es : Array (Int × Value)} {ep : Nat} {t : SetTable}
theorem tupAdd (ho : s.heap.get? a = some o) (R : TupObj P w s.heap L o es ep t) {x : Addr} {k : List Key} (hx : IsM P w s.heap k x) (hu : A.units < cLine) (hn : k ∉ L.map (·.1)) (few : L.length + 1 < 64) {Q : Bool → Shared → Prop}
    (hQ : ∀ h' L' o' es' ep' t', Heap.SameBut a s.heap h' → h'.get? a = some o' → TupObj P w h' L' o' es' ep' t' → L'.Perm ((k, x) :: L) → Q true { s with heap := h' }) : wpAny (model P w) A (setAddHashed a (.ref x) (mh P w k)) Q E s := by
  have hsl := R.size
  have hroom := R.room
  have hll : (L.map fun p => mh P w p.1).length = L.length := List.length_map ..
  obtain ⟨K, hKf, hK, hKb⟩ := R.tab.first (by rw [hll]; omega) (mh P w k)
  have hbig : K < 100000 := by
    have : 10 * SetTable.turns t.mask ≤ 1420 := by
      unfold SetTable.turns
      rcases R.tab.mok with e | e | e <;> omega
    omega
  unfold setAddHashed
  refine wpAny_holding ?_
  rw [show (100000 : Nat) = 99999 + 1 from rfl, setAddHashedIn_succ]
  refine wpAny_bind (wpAny_setState_of ho R.data R.fits ?_)
  dsimp only
  refine wp_if_neg (by simp [byScan, Value.scannable]) ?_
  try refine wpAny_bind (wpAny_pure ?_)
  unfold setSearch
  refine wpAny_bind (seek ho R hx hu hn hKf hK hKb ?_ 100000 0 none rfl (Nat.zero_le _) (by omega))
  dsimp only
  refine wpAny_bind (wpAny_setState_of ho R.data R.fits ?_)
  dsimp only
  obtain ⟨q1, q2, q3, q4, q5, q6, q7, q8, q9⟩ := R.tab.put hK hKb
  generalize hpt : t.put (way t.mask (mh P w k) K) = pt at q1 q3 q4 q5 q6 q7 q8 q9 ⊢
  obtain ⟨t1, p⟩ := pt
  dsimp only at q1 q3 q4 q5 q6 q7 q8 q9 ⊢
  subst q1
  generalize hpp : SetTable.below t.place (way t.mask (mh P w k) K) = p at q2 q3 ⊢
  have hin : (SetTable.insertAt es p (mh P w k, Value.ref x)).toList = (L.take p ++ (k, x) :: L.drop p).map (rowM P w) := by
    rw [SetTable.toList_insertAt, R.rows, List.map_append, List.map_cons, List.map_take, List.map_drop]
  have pm : (L.take p ++ (k, x) :: L.drop p).Perm ((k, x) :: L) := by
    have h : (L.take p ++ (k, x) :: L.drop p).Perm ((k, x) :: (L.take p ++ L.drop p)) := List.perm_middle
    rwa [List.take_append_drop] at h
  have hlen : (L.take p ++ (k, x) :: L.drop p).length = L.length + 1 := pm.length_eq
  have hhs : (L.take p ++ (k, x) :: L.drop p).map (fun p => mh P w p.1) = (L.map fun p => mh P w p.1).take p ++ mh P w k :: (L.map fun p => mh P w p.1).drop p := by
    rw [List.map_append, List.map_cons, List.map_take, List.map_drop]
  rw [← hhs] at q3
  have hes : (SetTable.insertAt es p (mh P w k, Value.ref x)).size = L.length + 1 := by
    have h := congrArg List.length hin
    rwa [Array.length_toList, List.length_map, hlen] at h
  generalize SetTable.insertAt es p (mh P w k, Value.ref x) = es1 at hin hes ⊢
  generalize L.take p ++ (k, x) :: L.drop p = L1 at pm hlen q3 hin
  -- whatever the table says of its plainness
  have tail : ∀ t2 : SetTable, TabOk t2 (L1.map fun p => mh P w p.1) → t2.mask = t.mask → t2.led = t.led → t2.fill = (L.map fun p => mh P w p.1).length + 1 →
      wpAny (model P w) A (do
        storeSet a es1 t2
        if (!false && t2.tooFull) = true then setRelay a (SetTable.grown (es.size + 1))
        return true) Q E s := fun t2 T2 m2 l2 f2 => by
    refine wpAny_bind (wpAny_storeSet_of ho R.data ?_ (by rw [hes, sizeLine_eq]; omega))
    have sb : Heap.SameBut a s.heap (s.heap.update a (Obj.putSet es1 t2)) := Heap.SameBut.update ..
    have ho1 := store_at (es' := es1) (t' := t2) ho R.data
    generalize s.heap.update a (Obj.putSet es1 t2) = h1 at sb ho1 ⊢
    have tup1 : ∀ p ∈ L1, IsM P w h1 p.1 p.2 := fun p hp => by
      rcases List.mem_cons.mp (pm.mem_iff.mp hp) with e | hp
      · rw [e]; exact isM_same hx ho R.data sb
      · exact isM_same (R.tup p hp) ho R.data sb
    have ld1 : w.params.followText "set-order" = true ∨ t2.led = true := by rw [l2]; exact R.led
    by_cases hf : t2.tooFull = true
    · have hfull : (L.length + 1) * 5 ≥ t2.mask * 3 := by
        have h := hf
        unfold SetTable.tooFull at h
        rwa [decide_eq_true_eq, f2, hll] at h
      have hsz1 : t2.place.size = es1.size := by
        have h := T2.sz
        rw [List.length_map, hlen] at h
        rw [h, hes]
      have cases2 : (t.mask = 7 ∧ L.length = 4) ∨ (t.mask = 31 ∧ L.length = 18) := by
        rw [m2] at hfull
        rcases R.tab.mok with e | e | e
        · left; rw [e] at hfull hroom; exact ⟨e, by omega⟩
        · right; rw [e] at hfull hroom; exact ⟨e, by omega⟩
        · exfalso; rw [e] at hfull; omega
      have go : ∀ M, SetTable.sizeAbove (SetTable.grown (L.length + 1)) - 1 = M → MaskOk M → SetTable.sizeAbove (SetTable.grown (L.length + 1)) ≤ 128 → (L.length + 1) * 5 < M * 3 → wpAny (model P w) A (setRelay a (SetTable.grown (L.length + 1))) (fun _ s' => wpAny (model P w) A (pure true) Q E s') E { s with heap := h1 } := fun M a1 a2 a3 a4 =>
        relayT (s := { s with heap := h1 }) ho1 R.ex rfl hin hsz1 T2.dm (by rw [hes, m2]; rcases cases2 with ⟨e, e2⟩ | ⟨e, e2⟩ <;> omega) tup1 ld1 (by rw [hlen]; exact few) a1 a2 a3 (by rw [hlen]; exact a4) fun h2 L2 o2 es2 ep2 t2 sb2 g2 R2 pm2 => wpAny_pure (hQ h2 L2 o2 es2 ep2 t2 (sb.trans sb2) g2 R2 (pm2.trans pm))
      have go2 : wpAny (model P w) A (setRelay a (SetTable.grown (es.size + 1))) (fun _ s' => wpAny (model P w) A (pure true) Q E s') E { s with heap := h1 } := by
        rw [hsl]
        rcases cases2 with ⟨_, e2⟩ | ⟨_, e2⟩
        · exact go 31 (by rw [e2, size_20]) (.inr (.inl rfl)) (by rw [e2, size_20]; decide) (by omega)
        · exact go 127 (by rw [e2, size_76]) (.inr (.inr rfl)) (by rw [e2, size_76]; decide) (by omega)
      first
        | (refine wpAny_bind ?_; refine wp_if_pos (by simp [hf]) ?_; exact go2)
        | (refine wp_if_pos (by simp [hf]) ?_; exact wpAny_bind go2)
    · have fin : Q true { s with heap := h1 } := hQ h1 L1 _ es1 (ep + 1) t2 sb ho1 ⟨R.ex, rfl, hin, T2, tup1, ld1, by
        have h := hf
        unfold SetTable.tooFull at h
        rw [decide_eq_true_eq, f2, hll] at h
        rw [hlen]
        omega⟩ pm
      first
        | (refine wp_if_neg (by simp [hf]) ?_; exact wpAny_pure fin)
        | (refine wpAny_bind ?_; refine wp_if_neg (by simp [hf]) ?_; exact wpAny_pure (wpAny_pure fin))
  have T3 : TabOk { t1 with plain := false } (L1.map fun p => mh P w p.1) := ⟨q3.ris, q3.dm, q3.sz, q3.mok, q3.bd, q3.reach⟩
  have fin : ∀ c : Bool, wpAny (model P w) A (do
        let t := if c = true then t1 else { t1 with plain := false }
        storeSet a es1 t
        if (!false && t.tooFull) = true then setRelay a (SetTable.grown (es.size + 1))
        return true) Q E s := fun c => by
    cases c with
    | true => exact tail t1 q3 q4 q5 q9
    | false => exact tail { t1 with plain := false } T3 q4 q5 q9
  by_cases hp1 : t1.plain = true
  · first
      | (refine wpAny_bind ?_; refine wp_if_pos hp1 ?_; exact byVal hx fun c => fin c)
      | exact wp_if_pos hp1 (wpAny_bind (byVal hx fun c => fin c))
  · first
      | (refine wpAny_bind ?_; refine wp_if_neg hp1 ?_; exact wpAny_pure (fin true))
      | exact wp_if_neg hp1 (wpAny_bind (wpAny_pure (fin true)))
theorem isM_keep {h h' : Heap} {k : List Key} {b : Addr} (x : IsM P w h k b) (hk : ∀ c o, h.get? c = some o → h'.get? c = some o) : IsM P w h' k b := by
  obtain ⟨o, items, n, ho, r⟩ := x
  exact ⟨o, items, n, hk b o ho, r⟩
theorem tup_new {h : Heap} (ho : h.get? a = some (newSet w)) : TupObj P w h [] (newSet w) #[] 0 (.fresh 0 0 (!w.params.followText "set-order")) where
  ex := ⟨rfl, rfl, rfl⟩
  data := rfl
  rows := rfl
  tab := ⟨List.Pairwise.nil, rfl, rfl, .inl rfl, fun x hx => (by cases hx), fun i h j hi => (by simp at hi)⟩
  tup := fun p hp => (by cases hp)
  led := by
    show _ ∨ (!w.params.followText "set-order") = true
    cases w.params.followText "set-order"
    · exact .inr rfl
    · exact .inl rfl
  room := by
    show 0 * 5 < 7 * 3
    decide
/-- set(xs) of tuples, all different -/
theorem tupIv {h0 : Heap} {items : Array Value} {qs : List (List Key × Addr)} (hi : ∀ (j : Nat) (v : Value), items[j]? = some v → ∃ q, qs[j]? = some q ∧ v = .ref q.2) (hq : ∀ q ∈ qs, IsM P w h0 q.1 q.2) (nd : (qs.map (·.1)).Nodup) (few : qs.length < 64) (hu : A.in1.units < cLine) : SetIv P w A h0 items (TupIv P w qs) where
  fresh := fun h a e => ⟨[], _, _, _, _, e, tup_new e, by simp⟩
  keep := fun h h' a i ⟨L, o, es, ep, t, ho, V, pm⟩ ka kh => ⟨L, o, es, ep, t, ka o ho, ⟨V.ex, V.data, V.rows, V.tab, fun p hp => isM_keep (hq p (List.mem_of_mem_take (pm.mem_iff.mp hp))) kh, V.led, V.room⟩, pm⟩
  add := fun s a i v E Q hv V kh _ hQ => by
    obtain ⟨L, o, es, ep, t, ho, V, pm⟩ := V
    obtain ⟨⟨k, b⟩, h1, rfl⟩ := hi i v hv
    have hi2 := (List.getElem?_eq_some_iff.mp h1).1
    have tk : qs.take (i + 1) = qs.take i ++ [(k, b)] := L2.take_next h1
    have hx : IsM P w s.heap k b := isM_keep (hq _ (List.mem_of_getElem? h1)) kh
    have hn : k ∉ L.map (·.1) := fun z => by
      have z2 : k ∈ (qs.take i).map (·.1) := (pm.map (·.1)).mem_iff.mp z
      have hd : qs = qs.take i ++ (k, b) :: qs.drop (i + 1) := by
        rw [← drop_at h1, List.take_append_drop]
      rw [hd, List.map_append, List.map_cons] at nd
      exact (List.nodup_append.mp nd).2.2 k z2 k (List.mem_cons_self ..) rfl
    have hl : L.length ≤ i := by rw [pm.length_eq, List.length_take]; omega
    unfold setAdd
    refine wpAny_holding (wpAny_bind (wpAny_pyHash_tuple hu hx ?_))
    exact tupAdd (s := { s with toks := s.toks + (k.length + 1) }) ho V hx hu hn (by omega) fun h' L' o' es' ep' t' sb g V' pm' => hQ true h' _ sb (Nat.le_add_right _ _) ⟨L', o', es', ep', t', g, V', by
      rw [tk]
      exact pm'.trans ((List.Perm.cons _ pm).trans (List.perm_append_singleton _ _).symm)⟩
end
end Fy
end
section
/-! FySet7 -/
namespace Fy
open PySem PySem.Spec PyProof.Rows L2
/-! ### sorted(s), s a set -/
mutual
theorem reads_lt {h : Heap} : ∀ {v : Value} {d : PyData} {as : List Addr}, Reads h v d as → ∀ a ∈ as, a < h.objs.size
  | _, _, _, .none, a, ha => by simp at ha
  | _, _, _, .bool b, a, ha => by simp at ha
  | _, _, _, .int i t, a, ha => by simp at ha
  | _, _, _, .str x t, a, ha => by simp at ha
  | _, _, _, .list h1 h2 h3 h4, a, ha => by
    rcases List.mem_cons.mp ha with q | q
    · rw [q]; exact Heap.lt_size h1
    · exact readsAll_lt h4 a q
  | _, _, _, .tuple h1 h2 h3 h4, a, ha => readsAll_lt h4 a ha
  | _, _, _, .dict h1 h2 h3 h4 h5, a, ha => by
    rcases List.mem_append.mp ha with q | q
    · rcases List.mem_cons.mp q with q | q
      · rw [q]; exact Heap.lt_size h1
      · exact readsAll_lt h4 a q
    · exact readsAll_lt h5 a q
theorem readsAll_lt {h : Heap} : ∀ {vs : List Value} {ds : List PyData} {as : List Addr}, ReadsAll h vs ds as → ∀ a ∈ as, a < h.objs.size
  | _, _, _, .nil, a, ha => by simp at ha
  | _, _, _, .cons h1 h2, a, ha => by
    rcases List.mem_append.mp ha with q | q
    · exact reads_lt h1 a q
    · exact readsAll_lt h2 a q
end
theorem each_perm {α β : Type} {R : α → β → Prop} : ∀ {xs ys : List α}, xs.Perm ys → ∀ {bs : List β}, PySem.W.EachIs R ys bs → ∃ cs : List β, PySem.W.EachIs R xs cs ∧ cs.Perm bs := by
  intro xs ys h
  induction h with
  | nil => intro bs e; exact ⟨bs, e, .refl bs⟩
  | cons x _ ih =>
    intro bs e
    cases e with
    | cons r t =>
      obtain ⟨cs, e1, p⟩ := ih t
      exact ⟨_, .cons r e1, p.cons _⟩
  | swap x y l =>
    intro bs e
    cases e with
    | cons r t =>
      cases t with
      | cons r2 t2 => exact ⟨_, .cons r2 (.cons r t2), .swap _ _ _⟩
  | trans _ _ ih1 ih2 =>
    intro bs e
    obtain ⟨cs, e2, p2⟩ := ih2 e
    obtain ⟨ds, e1, p1⟩ := ih1 e2
    exact ⟨ds, e1, p1.trans p2⟩
theorem each_and {α β : Type} {R S : α → β → Prop} : ∀ {xs : List α} {bs : List β}, PySem.W.EachIs R xs bs → PySem.W.EachIs S xs bs → PySem.W.EachIs (fun a b => R a b ∧ S a b) xs bs
  | _, _, .nil, _ => .nil
  | _, _, .cons r t, .cons r2 t2 => .cons ⟨r, r2⟩ (each_and t t2)
theorem sortSet {P : Program} {w : World} {A : Around} {E : Value → Shared → Prop} {s : Shared} {a : Addr} {es : Array (Int × Value)} {ep : Nat} {t : SetTable} {β : Type} {R : Value → β → Prop} {enc : β → PyData} {bs : List β} {Q : Value → Shared → Prop}
    (hh : A.handled = none) (ha : SetAt s.heap a es ep t) (hf : t.fits es.size = true) (hsz : es.size < scanBound) (r : Ris t.place.toList) (hl : w.params.followText "set-order" = true ∨ t.led = true)
    (e : PySem.W.EachIs R (es.toList.map (·.2)) bs) (er : PySem.W.EachIs (fun v b => ∃ as, Reads s.heap v (enc b) as) (es.toList.map (·.2)) bs) (hal : PySem.W.AllAlike (bs.map enc)) (hk : ∀ cs : List β, cs.Perm bs → PySem.W.Sortable (cs.map enc)) (hu : ∀ b ∈ bs, A.units + 3 + (enc b).depth < cLine)
    (hQ : ∀ (s' : Shared) (p : Addr) (out : List Value) (c : Nat) (cs : List β), (∀ b o, s.heap.get? b = some o → s'.heap.get? b = some o) → s'.gens = s.gens → s'.os = s.os → s.heap.objs.size ≤ p → s'.heap.get? p = some (seqObj "list" out.toArray c) → cs.Perm bs →
      PySem.W.EachIs R out (cs.mergeSort (PySem.W.dataLe false enc)) → Q (.ref p) s') : wpAny (model P w) A (call (.builtin "sorted") [.ref a]) Q E s := by
  refine Calls.call_function_entry kind_sorted plain_sorted entry_sorted (args_sorted1 _) ?_
  unfold Builtin.«sorted»
  refine wpAny_bind (m := checkCount "sorted" 1 1 _) (wpAny_pure ?_)
  refine wpAny_bind (collect_set (A := A.in1) hh ha hf hsz r hl fun s1 vs k1 hz g1 o1 pm => ?_)
  obtain ⟨cs, ec, pc⟩ := each_perm pm (each_and e er)
  have hvl : vs.length = es.size := by rw [pm.length_eq, List.length_map, Array.length_toList]
  have hb : scanBound = 4096 := rfl
  refine wpAny_bind (wpAny_newList ?_ (by rw [hvl, sizeLine_eq]; omega))
  have hoL : (s1.heap.push (seqObj "list" vs.toArray 0)).get? s1.heap.objs.size = some (seqObj "list" vs.toArray 0) := Heap.get?_push_size _ rfl
  have er2 : PySem.W.EachIs (fun v b => ∃ as, Reads (s1.heap.push (seqObj "list" vs.toArray 0)) v (enc b) as ∧ s1.heap.objs.size ∉ as) vs cs := ec.mono fun v b ⟨_, as, rd⟩ => by
    have rd1 : Reads s1.heap v (enc b) as := PyProof.Rows.Reads.keeps k1 rd
    exact ⟨as, PyProof.Rows.Reads.keeps (fun _ _ => Heap.get?_push_of_some _) rd1, fun z => Nat.lt_irrefl _ (reads_lt rd1 _ z)⟩
  have hal2 : PySem.W.AllAlike (cs.map enc) := fun x hx y hy => hal x ((pc.map enc).mem_iff.mp hx) y ((pc.map enc).mem_iff.mp hy)
  have len : cs.length = vs.length := by
    have := ec.length
    omega
  refine wpAny_bind (wpAny_holding (PySem.W.list_sort_data (R := R) (enc := enc) (vs := vs) (bs := cs) hoL (ec.mono fun _ _ z => z.1) er2 hal2 (hk cs pc) (by rw [len, hvl, sizeLine_eq]; omega) (fun b hb => ?_) fun out ho eo => ?_))
  · have := hu b (pc.mem_iff.mp hb)
    show A.units + 1 + 1 + _ < _
    omega
  · obtain ⟨c, hc⟩ := sortedHeap_at (vs := vs) (out := List.toArray out) hoL
    refine wpAny_pure ⟨_, rfl, hQ _ s1.heap.objs.size out c cs (fun b u q => ?_) g1 o1 hz hc pc eo⟩
    have q1 := k1 b u q
    have hlt := Heap.lt_size q1
    show (sortedHeap (s1.heap.push (seqObj "list" vs.toArray 0)) s1.heap.objs.size vs (List.toArray out)).get? b = some u
    rw [sortedHeap_old (Nat.ne_of_lt hlt) (by rw [size_push']; exact Nat.lt_succ_of_lt hlt)]
    exact Heap.get?_push_of_some _ q1
end Fy
end
section
/-! FySet8 -/
namespace Fy
open PySem PySem.Spec PyProof.Rows L2
theorem able_mem {ds es : List D} (h : sortsD ds) (m : ∀ d ∈ es, d ∈ ds) : PySem.W.Sortable (es.map D.toP) := by
  rcases h with ⟨ns, rfl⟩ | ⟨ns, rfl⟩ | ⟨ns, rfl⟩
  · refine .inr fun d hd => ?_
    obtain ⟨x, hx, rfl⟩ := List.mem_map.mp hd
    obtain ⟨a, _, rfl⟩ := List.mem_map.mp (m x hx)
    exact ⟨(fun e => nomatch e), fun xs e => nomatch e⟩
  · refine .inr fun d hd => ?_
    obtain ⟨x, hx, rfl⟩ := List.mem_map.mp hd
    obtain ⟨a, _, rfl⟩ := List.mem_map.mp (m x hx)
    exact ⟨(fun e => nomatch e), fun xs e => nomatch e⟩
  · refine .inl fun d hd => ?_
    obtain ⟨x, hx, rfl⟩ := List.mem_map.mp hd
    obtain ⟨a, _, rfl⟩ := List.mem_map.mp (m x hx)
    exact ⟨_, _, rfl⟩
section
variable {X : Cx} {pins : List (Addr × Obj)} {σ : L2.St} {H : Hp} {s : Shared}
/-- the set stands: its sorted members are told by the pairs bs of data and values -/
theorem ssetFin (hc : X.calm = true) (hu : X.A.units + 65 < cLine) (I : Inv X pins σ H s) {S : Sr} {V : List Addr} (A : At S V H) {Q : VK} {a : Addr} {es : Array (Int × Value)} {ep : Nat} {t : SetTable} (ha : SetAt s.heap a es ep t) (hf : t.fits es.size = true) (hsz : es.size < scanBound) (r : Ris t.place.toList) (hl : X.w.params.followText "set-order" = true ∨ t.led = true)
    {bs : List (D × L2.V)} (e : PySem.W.EachIs (fun v (b : D × L2.V) => RelV b.2 v) (es.toList.map (·.2)) bs) (hi : ∀ b ∈ bs, Is X.K S (hide V H) b.1 b.2) {ds : List D} (so : sortsD ds) (m : ∀ b ∈ bs, b.1 ∈ ds)
    (h : ∀ es : List D, es.Perm (bs.map (·.1)) → es.Pairwise (fun a b => a.le b = true) → Wit X.K S V H Q (.lst es)) : wpAny (model X.prog X.w) X.A (call (.builtin "sorted") [.ref a]) (EP X pins σ Q) X.xe s := by
  have hb : scanBound = 4096 := rfl
  have er : PySem.W.EachIs (fun v (b : D × L2.V) => ∃ as, Reads s.heap v b.1.toP as) (es.toList.map (·.2)) bs := by
    have key : ∀ {us : List Value} {cs : List (D × L2.V)}, PySem.W.EachIs (fun v (b : D × L2.V) => RelV b.2 v) us cs → (∀ b ∈ cs, b ∈ bs) → PySem.W.EachIs (fun v (b : D × L2.V) => ∃ as, Reads s.heap v b.1.toP as) us cs := by
      intro us cs q
      induction q with
      | nil => intro _; exact .nil
      | cons r1 _ ih => exact fun mm => .cons (Dp.reads I _ _ _ (Is.dp _ _ (sorts_plain so _ (m _ (mm _ (List.mem_cons_self ..)))) (hi _ (mm _ (List.mem_cons_self ..)))) r1) (ih fun b hb => mm b (List.mem_cons_of_mem _ hb))
    exact key e fun b hb => hb
  refine sortSet (enc := fun b : D × L2.V => b.1.toP) (I.ok.hd hc) ha hf hsz r hl e er (fun x hx y hy => ?_) (fun cs pc => ?_) (fun b hb => ?_) fun s' p out c cs k g o hp hg pc eo => ?_
  · obtain ⟨b, hb, rfl⟩ := List.mem_map.mp hx
    obtain ⟨b', hb', rfl⟩ := List.mem_map.mp hy
    exact sorts_alike so b.1 (m b hb) b'.1 (m b' hb')
  · have := able_mem (es := cs.map (·.1)) so fun d hd => by
      obtain ⟨b, hb, rfl⟩ := List.mem_map.mp hd
      exact m b (pc.mem_iff.mp hb)
    rw [List.map_map] at this
    exact this
  · have := sorts_depth so b.1 (m b hb); omega
  · rw [le_eq cs] at eo
    have tot : PySem.W.TotalLe (fun a b : D × L2.V => a.1.le b.1) := by
      rw [← le_eq cs]; unfold PySem.W.dataLe; exact PySem.W.sortLe_total _ _ _
    have pw := PySem.W.sort_pairwise tot cs
    have pm : (cs.mergeSort fun a b => a.1.le b.1).Perm bs := (List.mergeSort_perm _ _).trans pc
    generalize cs.mergeSort (fun a b => a.1.le b.1) = ps at eo pw pm
    have rel := vals_each eo
    have hn : H p = none := I.hok.fresh hp
    have hlen : (ps.map (·.2)).length ≤ sizeLine := by
      rw [List.length_map, pm.length_eq, ← e.length, List.length_map, Array.length_toList, sizeLine_eq]; omega
    have J : Inv X pins σ (upd H p (.lst (ps.map (·.2)))) { s with heap := s'.heap, gens := s'.gens, drawn := s'.drawn, toks := s'.toks } :=
      I.call (ch := []) (Un.laid k hp hn) (I.hok.laid k hp ⟨hlen, out, c, rel, hg⟩) (by rw [g]; exact I.bare) (fun _ z => nomatch z)
    have es' : s' = { s with heap := s'.heap, gens := s'.gens, drawn := s'.drawn, toks := s'.toks } := by
      cases s'
      cases s
      cases o
      rfl
    rw [es']
    exact ⟨.ref p, _, J, rfl, Wit.newL (h (ps.map (·.1)) (pm.map _) (by rw [List.pairwise_map]; exact pw)) A hn (isL_of_mem fun q hq => hi q (pm.mem_iff.mp hq))⟩
end
end Fy
end
section
/-! FySet9 -/
namespace Fy
open PySem PySem.Spec PyProof.Rows L2
/-! ### sorted(set(xs)) by data -/
def kD : Key → D
  | .inl i => .int i
  | .inr x => .str x
theorem kD_is {K : PySem.W.Frag} {S : Sr} {G : Hp} (k : Key) : Is K S G (kD k) (kV k) := by
  cases k with
  | inl i => exact is_int.mpr rfl
  | inr x => exact is_str.mpr rfl
theorem kD_inj {k k' : Key} (h : kD k = kD k') : k = k' := by
  cases k <;> cases k' <;> simp [kD] at h <;> rw [h]
theorem is_kD {K : PySem.W.Frag} {S : Sr} {G : Hp} : ∀ {ks : List Key} {xs : List L2.V}, IsL K S G (ks.map kD) xs → xs = ks.map kV
  | [], xs, h => by unfold IsL at h; exact h
  | k :: ks, xs, h => by
    have h : IsL K S G (kD k :: ks.map kD) xs := h
    unfold IsL at h
    obtain ⟨x, r, rfl, h1, h2⟩ := h
    rw [is_kD h2]
    cases k with
    | inl i => rw [is_int.mp h1]; rfl
    | inr i => rw [is_str.mp h1]; rfl
theorem kV_key {P : Program} {w : World} {k : Key} {v : Value} (r : RelV (kV k) v) : (mixKind P w).is k v = true ∧ v.scannable = true := by
  cases k with
  | inl i => obtain ⟨t, rfl⟩ := (show ∃ t, v = Value.int i t from r); exact ⟨keyIs_int i t, rfl⟩
  | inr i => obtain ⟨t, rfl⟩ := (show ∃ t, v = Value.str i t from r); exact ⟨keyIs_str i t, rfl⟩
theorem key_kV {P : Program} {w : World} {k : Key} {v : Value} (h : (mixKind P w).is k v = true) : RelV (kV k) v := by
  rcases keyIs_shape h with ⟨i, t, rfl, rfl⟩ | ⟨x, t, rfl, rfl⟩
  · exact ⟨t, rfl⟩
  · exact ⟨t, rfl⟩
theorem items_kV {P : Program} {w : World} : ∀ {ks : List Key} {us : List Value}, Vals (ks.map kV) us → ItemsAre (mixKind P w) ks us
  | [], _, h => by cases h; exact .nil
  | k :: ks, us, h => by
    have h : Vals (kV k :: ks.map kV) us := h
    cases h with
    | cons r t => exact .cons (kV_key r).1 (items_kV t)
theorem nodup_map {α β : Type} {f : α → β} {l : List α} (inj : ∀ a b, f a = f b → a = b) (h : l.Nodup) : (l.map f).Nodup := List.pairwise_map.mpr (h.imp fun n e => n (inj _ _ e))
theorem nodup_of_map {α β : Type} {f : α → β} {l : List α} (h : (l.map f).Nodup) : l.Nodup := (List.pairwise_map.mp h).imp fun n e => n (congrArg f e)
section
variable {X : Cx} {pins : List (Addr × Obj)} {σ : L2.St} {H : Hp} {s : Shared}
theorem ssetScan (hc : X.calm = true) (hu : X.A.units + 65 < cLine) (I : Inv X pins σ H s) {S : Sr} {V : List Addr} (A : At S V H) {Q : VK} {p : Addr} {ks : List Key} (hq : SqL X.K H p (ks.map kV)) (so : sortsD (ks.map kD)) (few : ks.length < 60)
    (h : ∀ es : List D, es.Nodup → (∀ d, d ∈ es ↔ d ∈ ks.map kD) → es.Pairwise (fun a b => a.le b = true) → Wit X.K S V H Q (.lst es)) {T : Value → Shared → Prop} (hT : ∀ v s', wpAny (model X.prog X.w) X.A (call (.builtin "sorted") [v]) (EP X pins σ Q) X.xe s' → T v s') :
    wpAny (model X.prog X.w) X.A (call (.type "set") [.ref p]) T X.xe s := by
  obtain ⟨its, rv, pl, hz⟩ := I.list hq
  have hl : its.length = ks.length := by have := rv.length; rw [List.length_map] at this; omega
  have hb : scanBound = 4096 := rfl
  refine setCall (V := scanIv (ks := ks) (fun j v hv => ?_) (by rw [List.size_toArray]; omega)) (I.ok.hd hc) pl.isList fun h' tk V' kp => hT _ _ ?_
  · have hv : its[j]? = some v := by simpa using hv
    have hj := (List.getElem?_eq_some_iff.mp hv).1
    have hk : ks[j]? = some ks[j] := List.getElem?_eq_getElem (by omega)
    obtain ⟨u, h1, h2⟩ := rv.get (i := j) (x := kV ks[j]) (by rw [List.getElem?_map, hk]; rfl)
    rw [hv] at h1; cases h1
    exact ⟨_, hk, (kV_key (P := X.prog) (w := X.w) h2).1, (kV_key (P := X.prog) (w := X.w) h2).2⟩
  · obtain ⟨o, es, ep, t, ho, V'⟩ := V'
    have I2 : Inv X pins σ H { s with heap := h', toks := tk } := I.kept kp
    have e : PySem.W.EachIs (fun v (b : D × L2.V) => RelV b.2 v) (es.toList.map (·.2)) ((kvs es).map fun k => (kD k, kV k)) := by
      have key : ∀ l : List (Int × Value), (∀ e ∈ l, e ∈ es.toList) → PySem.W.EachIs (fun v (b : D × L2.V) => RelV b.2 v) (l.map (·.2)) ((l.map fun e => kOf e.2).map fun k => (kD k, kV k)) := by
        intro l
        induction l with
        | nil => intro _; exact .nil
        | cons a l ih =>
          intro m
          obtain ⟨⟨k, h1, _⟩, _⟩ := V'.els a (m a (List.mem_cons_self ..))
          refine .cons ?_ (ih fun e he => m e (List.mem_cons_of_mem _ he))
          show RelV (kV (kOf a.2)) a.2
          rw [kOf_is h1]; exact key_kV h1
      exact key es.toList fun _ he => he
    have mem : ∀ k, k ∈ kvs es ↔ k ∈ ks := fun k => by
      rw [V'.mem k, List.size_toArray, hl, List.take_length]
    have fst : ((kvs es).map fun k => (kD k, kV k)).map (·.1) = (kvs es).map kD := by rw [List.map_map]; rfl
    refine ssetFin hc hu I2 A ⟨o, ho, V'.ex.1, V'.data⟩ V'.fits (by have z := V'.few; simp only [List.size_toArray] at z; omega) V'.ris V'.led e (fun b hb => ?_) so (fun b hb => ?_) fun es' pm pw => h es' ?_ (fun d => ?_) pw
    · obtain ⟨k, _, rfl⟩ := List.mem_map.mp hb
      exact kD_is k
    · obtain ⟨k, hk, rfl⟩ := List.mem_map.mp hb
      exact List.mem_map_of_mem (f := kD) ((mem k).mp hk)
    · rw [fst] at pm
      exact pm.nodup_iff.mpr (nodup_map (fun a b => kD_inj) V'.nd)
    · rw [fst] at pm
      rw [pm.mem_iff, List.mem_map, List.mem_map]
      exact ⟨fun ⟨k, a, b⟩ => ⟨k, (mem k).mp a, b⟩, fun ⟨k, a, b⟩ => ⟨k, (mem k).mpr a, b⟩⟩
/-- tuples, all different -/
theorem ssetTup (hc : X.calm = true) (hu : X.A.units + 65 < cLine) (I : Inv X pins σ H s) {S : Sr} {V : List Addr} (A : At S V H) {Q : VK} {p : Addr} {ts : List (Int × Str × Int)} {xs : List L2.V} (hq : SqL X.K H p xs) (l : IsL X.K S (hide V H) (ts.map fun t => D.tup [.int t.1, .str t.2.1, .int t.2.2]) xs) (few : ts.length < 60) (nd : ts.Nodup)
    (h : ∀ es : List D, es.Nodup → (∀ d, d ∈ es ↔ d ∈ ts.map fun t => D.tup [.int t.1, .str t.2.1, .int t.2.2]) → es.Pairwise (fun a b => a.le b = true) → Wit X.K S V H Q (.lst es)) {T : Value → Shared → Prop} (hT : ∀ v s', wpAny (model X.prog X.w) X.A (call (.builtin "sorted") [v]) (EP X pins σ Q) X.xe s' → T v s') :
    wpAny (model X.prog X.w) X.A (call (.type "set") [.ref p]) T X.xe s := by
  obtain ⟨its, rv, pl, hz⟩ := I.list hq
  let kT : Int × Str × Int → List Key := fun t => [.inl t.1, .inr t.2.1, .inl t.2.2]
  let dT : List Key → D := fun k => .tup (k.map kD)
  have dk : ∀ t : Int × Str × Int, dT (kT t) = D.tup [.int t.1, .str t.2.1, .int t.2.2] := fun t => rfl
  obtain ⟨qs, q1, q2, q3, q4⟩ : ∃ qs : List (List Key × Addr), qs.map (·.1) = ts.map kT ∧ xs = qs.map (fun q => L2.V.ref q.2) ∧ (∀ q ∈ qs, IsM X.prog X.w s.heap q.1 q.2) ∧ ∀ q ∈ qs, Is X.K S (hide V H) (dT q.1) (.ref q.2) := by
    clear few nd h rv hq hz
    induction ts generalizing xs with
    | nil => unfold IsL at l; exact ⟨[], rfl, l, fun q hq => by simp at hq, fun q hq => by simp at hq⟩
    | cons t ts ih =>
      have l' : IsL X.K S (hide V H) (dT (kT t) :: ts.map fun t => D.tup [.int t.1, .str t.2.1, .int t.2.2]) xs := l
      unfold IsL at l'
      obtain ⟨x, r, rfl, i1, l1⟩ := l'
      obtain ⟨qs, a1, a2, a3, a4⟩ := ih l1
      obtain ⟨b, ys, rfl, tb, lb⟩ := is_tup.mp i1
      obtain ⟨us, ru, tu, _⟩ := I.tuple tb.sq
      have ey := is_kD (ks := kT t) lb
      subst ey
      have im : IsM X.prog X.w s.heap (kT t) b := by
        obtain ⟨o, g1, g2, n, g3⟩ := tu
        exact ⟨o, us.toArray, n, g1, g2, g3, by simpa using items_kV ru⟩
      refine ⟨(kT t, b) :: qs, by rw [List.map_cons, a1]; rfl, by rw [a2]; rfl, fun q hq => ?_, fun q hq => ?_⟩
      · rcases List.mem_cons.mp hq with z | z
        · rw [z]; exact im
        · exact a3 q z
      · rcases List.mem_cons.mp hq with z | z
        · rw [z]; exact i1
        · exact a4 q z
  have ql : qs.length = ts.length := by have := congrArg List.length q1; simpa using this
  have kinj : ∀ a b : Int × Str × Int, kT a = kT b → a = b := fun a b e => by
    obtain ⟨a1, a2, a3⟩ := a
    obtain ⟨b1, b2, b3⟩ := b
    simp only [kT, List.cons.injEq, Sum.inl.injEq, Sum.inr.injEq, and_true] at e
    obtain ⟨e1, e2, e3⟩ := e
    rw [e1, e2, e3]
  have nd2 : (qs.map (·.1)).Nodup := by rw [q1]; exact nodup_map kinj nd
  have hl : its.length = ts.length := by have := rv.length; rw [q2, List.length_map] at this; omega
  have hb : scanBound = 4096 := rfl
  refine setCall (V := tupIv (qs := qs) (fun j v hv => ?_) q3 nd2 (by omega) (by show X.A.units + 1 + 1 + 1 < cLine; omega)) (I.ok.hd hc) pl.isList fun h' tk V' kp => hT _ _ ?_
  · have hv : its[j]? = some v := by simpa using hv
    have hj := (List.getElem?_eq_some_iff.mp hv).1
    have hk : qs[j]? = some qs[j] := List.getElem?_eq_getElem (by omega)
    obtain ⟨u, h1, h2⟩ := rv.get (i := j) (x := L2.V.ref qs[j].2) (by rw [q2, List.getElem?_map, hk]; rfl)
    rw [hv] at h1; cases h1
    exact ⟨_, hk, h2⟩
  · obtain ⟨L, o, es, ep, t, ho, V', pm⟩ := V'
    rw [List.size_toArray, hl, ← ql, List.take_length] at pm
    have I2 : Inv X pins σ H { s with heap := h', toks := tk } := I.kept kp
    have e : PySem.W.EachIs (fun v (b : D × L2.V) => RelV b.2 v) (es.toList.map (·.2)) (L.map fun q => (dT q.1, L2.V.ref q.2)) := by
      rw [V'.rows, List.map_map]
      have key : ∀ l : List (List Key × Addr), PySem.W.EachIs (fun v (b : D × L2.V) => RelV b.2 v) (l.map ((·.2) ∘ rowM X.prog X.w)) (l.map fun q => (dT q.1, L2.V.ref q.2)) := by
        intro l
        induction l with
        | nil => exact .nil
        | cons a l ih => exact .cons rfl ih
      exact key L
    have fst : (L.map fun q => (dT q.1, L2.V.ref q.2)).map (·.1) = (L.map (·.1)).map dT := by rw [List.map_map, List.map_map]; rfl
    have p2 : ((L.map (·.1)).map dT).Perm (ts.map fun t => D.tup [.int t.1, .str t.2.1, .int t.2.2]) := by
      have := (pm.map (·.1)).map dT
      have e2 : (ts.map kT).map dT = ts.map fun t => D.tup [.int t.1, .str t.2.1, .int t.2.2] := by rw [List.map_map]; rfl
      rw [q1, e2] at this
      exact this
    have ndt : (ts.map fun t => D.tup [.int t.1, .str t.2.1, .int t.2.2]).Nodup := nodup_map (fun a b z => by
      obtain ⟨a1, a2, a3⟩ := a
      obtain ⟨b1, b2, b3⟩ := b
      simp only [D.tup.injEq, List.cons.injEq, D.int.injEq, D.str.injEq, and_true] at z
      obtain ⟨e1, e2, e3⟩ := z
      rw [e1, e2, e3]) nd
    have sz : es.size < scanBound := by rw [V'.size, pm.length_eq]; omega
    refine ssetFin hc hu I2 A ⟨o, ho, V'.ex.1, V'.data⟩ V'.fits sz V'.tab.ris V'.led e (fun b hb => ?_) (ds := ts.map fun t => D.tup [.int t.1, .str t.2.1, .int t.2.2]) (.inr (.inr ⟨ts, rfl⟩)) (fun b hb => ?_) fun es' pm' pw => h es' ?_ (fun d => ?_) pw
    · obtain ⟨q, hq, rfl⟩ := List.mem_map.mp hb
      exact q4 q (pm.mem_iff.mp hq)
    · obtain ⟨q, hq, rfl⟩ := List.mem_map.mp hb
      exact p2.mem_iff.mp (List.mem_map_of_mem (f := dT) (List.mem_map_of_mem (f := (·.1)) hq))
    · rw [fst] at pm'
      exact (pm'.trans p2).nodup_iff.mpr ndt
    · rw [fst] at pm'
      exact (pm'.trans p2).mem_iff
end
/-- sorted(set(xs)) -/
theorem ssetOk : SsetOk := by
  intro X Γ fnm lv B x x' p p' p2 p2' e a ex hg hx ex' hg' hx' hn ha
  subst ex ex'
  have na : starEach [e] X.env = (false, eval e X.env) :: starEach [] X.env := star_ne hn
  refine ⟨fun pins s σ H Q I ⟨S, O, OA, ρ, rv, E, w⟩ => ?_⟩
  refine Call_ (ld_blt I hg (B.free _ (by decide +kernel)) boot_sorted ?_ (okN_n hx) (okN_d hx))
  refine PyProof.Rows.callWith_builtin1 (PyProof.Rows.args_cons ?_ rfl) rfl rfl
  refine Call_ (ld_blt I hg' (B.free _ (by decide +kernel)) PyProof.Rows.boot_set ?_ (okN_n hx') (okN_d hx'))
  refine PyProof.Rows.callWith_type1 (PyProof.Rows.args_cons (thn (ha.run pins s σ H (fun vx H1 => ∃ ds, Is X.K S (hide (vw rv OA O) H1) (.lst ds) vx ∧ Ext S H H1 ∧ EnvR X.K S O OA H1 σ ρ ∧ bltW .sset (.lst ds) (Wit X.K S (vw rv OA O) H Q)) I (rd1 E w fun d vx H1 q e1 s1 E1 ix => ?_)) fun v s1 ⟨vx, H1, I1, r1, ds, ix, e1, E1, q⟩ => PyProof.Rows.args_nil ?_) na) na rfl
  · cases d with
    | lst ds => exact ⟨ds, ix, e1, E1, q⟩
    | _ => exact q.elim
  · obtain ⟨l, xs, rfl, nl, tl, ll⟩ := is_lst.mp ix
    obtain rfl : v = Value.ref l := r1
    obtain ⟨so, few, dis, q⟩ := q
    have hq : SqL X.K H1 l xs := .inl (.inl (hide_some tl).2)
    have fin : ∀ es : List D, es.Nodup → (∀ d, d ∈ es ↔ d ∈ ds) → es.Pairwise (fun a b => a.le b = true) → Wit X.K S (vw rv OA O) H1 Q (.lst es) := fun es a1 a2 a3 => Wit.ext (q es a1 a2 a3) e1
    rcases so with ⟨ns, rfl⟩ | ⟨ns, rfl⟩ | ⟨ts, rfl⟩
    · have em : ns.map D.int = (ns.map (Sum.inl : Int → Key)).map kD := by rw [List.map_map]; rfl
      rw [em] at ll fin few
      have := is_kD ll
      subst this
      exact ssetScan B.calm B.hu I1 (E1.at rv) hq (by rw [← em]; exact .inl ⟨ns, rfl⟩) (by simpa using few) fin fun v s' z => PyProof.Rows.args_nil z
    · have em : ns.map D.str = (ns.map (Sum.inr : Str → Key)).map kD := by rw [List.map_map]; rfl
      rw [em] at ll fin few
      have := is_kD ll
      subst this
      exact ssetScan B.calm B.hu I1 (E1.at rv) hq (by rw [← em]; exact .inr (.inl ⟨ns, rfl⟩)) (by simpa using few) fin fun v s' z => PyProof.Rows.args_nil z
    · have nd : ts.Nodup := by
        rcases dis with z | z
        · exact nodup_of_map z
        · cases ts with
          | nil => exact List.nodup_nil
          | cons t ts => exact absurd (z _ (List.mem_cons_self ..)) Bool.false_ne_true
      exact ssetTup B.calm B.hu I1 (E1.at rv) hq ll (by simpa using few) nd fin fun v s' z => PyProof.Rows.args_nil z
end Fy
end
section
/-! FyQ1 -/
namespace Fy
open PySem PySem.Spec PyProof.Rows L2
/-! ### lists and dicts just made: nobody else knows them -/
def WitN (K : PySem.W.Frag) (S : Sr) (O OA : List Addr) (H : Hp) (Q : VK) (d : D) : Prop := ∀ p H', H p = none → Ext S H H' → SrcOk S H' → IsO K S (hide (OA ++ p :: O) H') H' d p → Q (.ref p) H'
def tF (K : PySem.W.Frag) (Γ : Nat → Spec) (t : E) : TE := fun σ H Q => ∃ S O OA ρ, EnvR K S O OA H σ ρ ∧ wpE Γ t false ρ fun d => isLD d = true → WitN K S O OA H Q d
theorem ext_none {S : Sr} {H H1 : Hp} {p : Addr} (e : Ext S H H1) (s : SrcOk S H) (h : H1 p = none) (s1 : SrcOk S H1) : H p = none := by
  cases q : H p with
  | none => rfl
  | some o =>
    have := e p o (s1.ne h) q
    rw [h] at this; cases this
theorem lcF_at {K : PySem.W.Frag} {S : Sr} {O OA : List Addr} {H : Hp} {σ : L2.St} {ρ : Rho} {Γ : Nat → Spec} {it : Fy.It} {tg : Tg} {vs : List Nat} {c : EO} {e : Fy.E} {Q : VK} (htg : ∀ i ∈ tgI tg, i ∈ vs) (E : EnvR K S O OA H σ ρ)
    (w : wpI Γ it ρ fun ds => compW tg vs (wpC Γ c) (fun ρ' Q' => wpE Γ e false ρ' Q') ρ ds [] fun es => WitN K S O OA H Q (.lst es)) : tLc (tDI K Γ it) (gD K tg) (tDC K Γ c) (tD K Γ e) vs σ H Q := by
  refine ⟨S, O, OA, ρ, E, wpI_mono Γ it ρ _ _ (fun ds cw J H1 e1 s1 feed hz D hD => ?_) w⟩
  have F := feed (OA ++ D :: O) (hide_newp hD)
  exact lc_walk htg (E.ext e1 s1) hz hD (fun i H' e A => F i H' (e.hide _) A) cw fun es vs' H' w e' s' g i => w D H' (ext_none e1 E.src hD s1) (e1.trans e') s' (.inl ⟨es, vs', rfl, g, i⟩)
section
variable {X : Cx} {Γ : Nat → Spec} {fnm : List Str} {lv : Nat}
theorem pf_lst {es : List Expr} {p : Pos} {a : EL} (ha : PA X es (tDL X.K Γ a)) : PE X (.List es p) (tF X.K Γ (.lst a)) :=
  ⟨fun pins s σ H Q I ⟨S, O, OA, ρ, E, w⟩ => (pe_lst ha).run pins s σ H Q I (rdL E w fun ds vs H1 q e1 s1 E1 l => ⟨by rw [l.len]; exact q.1, fun p hp => q.2 rfl p _ (ext_none e1 E.src hp s1) (e1.trans (Ext.new hp)) (s1.new hp) (.inl ⟨ds, vs, rfl, upd_same, by
    rw [ext_upd mem_self, hide_newp hp]; exact l⟩)⟩)⟩
theorem pf_lc (B : Bs Γ fnm lv X) {own : List (Str × Nat)} {tg : Tg} {it : Fy.It} {c : EO} {a : E} {x t i : Expr} {ifs : List Expr} {scope : Scope} {p : Pos} (hb : blkC X.N X.env.scope scope own = true) (hs : nSet i = true) (ht : ((tgI tg).all fun j => decide (j ∈ own.map (·.2))) = true)
    (hg : InBlk X scope fun Y => PG Y t (gD Y.K tg)) (hi : PI X t i (tDI X.K Γ it)) (hc : InBlk X scope fun Y => PTs Y ifs (tDC Y.K Γ c)) (ha : InBlk X scope fun Y => PE Y x (tD Y.K Γ a)) : PE X (.ListComp x [⟨t, i, ifs, 0⟩] scope p) (tF X.K Γ (.lc own tg it c a)) :=
  ⟨fun pins s σ H Q I ⟨S, O, OA, ρ, E, w⟩ => (pe_lc B.calm B.nd hi (blkOk_by hb) hg hc ha (nSet_ok hs)).run pins s σ H Q I (by
    have w : wpI Γ it (rvR false ρ) fun ds => compW tg (own.map (·.2)) (wpC Γ c) (fun ρ' Q' => wpE Γ a false ρ' Q') (rvR false ρ) ds [] fun es => isLD (.lst es) = true → WitN X.K S O OA H Q (.lst es) := w
    have e0 : rvR false ρ = ρ := rfl
    rw [e0] at w
    exact lcF_at (all_mem ht) E (wpI_mono Γ it ρ _ _ (fun ds => compW_mono (fun ρ Q Q' h => wpC_mono Γ c ρ Q Q' h) (fun ρ Q Q' h => wpE_mono Γ a false ρ Q Q' h) fun es q => q rfl) w))⟩
theorem crDictN (hc : X.calm = true) : CallR X (.type "dict") (fun xs H Q => ∃ S O OA ds x, xs = [x] ∧ At S (OA ++ O) H ∧ Is X.K S (hide (OA ++ O) H) (.lst ds) x ∧ ∃ ks es, pairsD ds = some (ks, es) ∧ WitN X.K S O OA H Q (.dic (dputs [] [] ks es).1 (dputs [] [] ks es).2)) := by
  intro pins s σ H xs us Q I r ⟨S, O, OA, ds, x, e, A, ix, ks, es, ep, h⟩
  subst e
  obtain ⟨p, xs, rfl, np, tp, lp⟩ := is_lst.mp ix
  obtain ⟨ps, kvs, rfl, pr, e1, l1⟩ := pairs_is lp ep
  refine call_dictP hc pins s σ H _ us Q I r ⟨p, ps, kvs, rfl, .inl (.inl (hide_some tp).2), pr, fun q hq => ?_⟩
  obtain ⟨a, b⟩ := dputs_is (ks := []) (ds := []) (kvs := []) e1 l1 rfl isL_nil
  exact h q _ hq (Ext.new hq) (A.src.new hq) (.inr ⟨_, _, _, rfl, upd_same, a, by rw [ext_upd mem_self, hide_newp hq]; exact b⟩)
theorem pf_dict (B : Bs Γ fnm lv X) {x : Str} {p pos : Pos} {e : Expr} {a : E} (hb : bltN .dict = x) (hg : Gl X x) (hx : okN x = true) (hn : nStar e = true) (ha : PE X e (tD X.K Γ a)) : PE X (.Call (.Name x p) [e] [] pos) (tF X.K Γ (.blt .dict a)) := by
  subst hb
  refine ⟨fun pins s σ H Q I ⟨S, O, OA, ρ, E, w⟩ => (pe_callTy (crDictN B.calm) hg (B.free _ (by decide +kernel)) boot_dict (args1 hn ha) (okN_n hx) (okN_d hx) (star_ne hn) rfl).run pins s σ H Q I (rd1 E w fun d vx H1 q e1 s1 E1 ix => ?_)⟩
  cases d with
  | lst ds =>
    obtain ⟨ks, es, ep, q⟩ := q
    exact ⟨S, O, OA, ds, vx, rfl, E1.at false, ix, ks, es, ep, fun p H' hp e s i => q rfl p H' (ext_none e1 E.src hp s1) (e1.trans e) s i⟩
  | _ => exact q.elim
def frE : E → Bool
  | .lst _ => true | .lc .. => true | .blt .dict _ => true | _ => false
theorem soundF (hS : SsetOk) (B : Bs Γ fnm lv X) {t : E} (hf : frE t = true) {e : Expr} (h : chkE X.N fnm X.env.scope t e = true) : PE X e (tF X.K Γ t) := by
  cases t with
  | lst es =>
    obtain ⟨xs, p, rfl, h1⟩ := inv_lst h
    exact pf_lst (soundL hS es B h1)
  | lc own tg it c a =>
    obtain ⟨x, t, i, ifs, scope, p, rfl, h1, h2, h3, h4, h5, h6, h7⟩ := inv_lc h
    exact pf_lc B h1 h2 h3 (fun s H C cl fp => pgD (X := X.blk s H scope (compEnvC scope cl C X.env) fp) B.calm B.nd (locT _) h4) (soundI hS it B h5) (fun s H C cl fp => soundC hS c (B.blk s H scope _ fp) h6) (fun s H C cl fp => soundE hS a (B.blk s H scope _ fp) h7)
  | blt b a =>
    cases b with
    | dict =>
      obtain ⟨x, p, y, p2, rfl, h1, h2, h3, h4⟩ := inv_blt h
      obtain ⟨g1, g2⟩ := gl_of rfl h2
      rcases h4 with ⟨nb, h4⟩ | ⟨z, _⟩
      · exact pf_dict B h1 g1 g2 h3 (soundE hS a B h4)
      · cases z
    | _ => cases hf
  | _ => cases hf
end
end Fy
end
section
/-! FyQ2 -/
namespace Fy
open PySem PySem.Spec PyProof.Rows L2
/-! ### name = value -/
structure Fx (X : Cx) : Prop where
  kind : X.env.scope.kind = .function
  po : PassesOwn (model X.prog X.w) X.A X.env X.xe
  fn : ∀ x, X.fn x = true
def swc (sc s : Scope) (y : Str) (py p : Pos) : Bool := (sc.names.lookup y == some .local) && (py.line == p.line) && !(s.names.any fun (n, k) => n == y && (k == .local || k == .cell))
theorem blkFn {env : Env} (hk : env.scope.kind = .function) : env.blockKind = .function := by unfold Env.blockKind; rw [hk]; rfl
theorem swLc {elt : Expr} {gs : List Comprehension} {s : Scope} {p py : Pos} {y : Str} {l : Nat} {env : Env} (hk : env.scope.kind = .function) : swapsWith (.ListComp elt gs s p) (some (.Name y py)) l env = pure (swc env.scope s y py p) := by
  unfold swapsWith
  simp only [blkFn hk, Expr.pos]
  rfl
theorem swDc {kx vx : Expr} {gs : List Comprehension} {s : Scope} {p py : Pos} {y : Str} {l : Nat} {env : Env} (hk : env.scope.kind = .function) : swapsWith (.DictComp kx vx gs s p) (some (.Name y py)) l env = pure (swc env.scope s y py p) := by
  unfold swapsWith
  simp only [blkFn hk, Expr.pos]
  rfl
theorem swc_loc {sc s : Scope} {y : Str} {py p : Pos} (h : swc sc s y py p = true) : sc.names.lookup y = some .local := by
  have h1 := (b2 (b2 h).1).1
  cases q : sc.names.lookup y with
  | none => rw [q] at h1; cases h1
  | some k =>
    rw [q] at h1
    cases k <;> first | rfl | cases h1
theorem sw_no {e : Expr} {y : Str} {py : Pos} {l : Nat} {env : Env} (h : nComp e = true) : swapsWith e (some (.Name y py)) l env = pure false := by
  cases e <;> first | rfl | cases h
section
variable {X : Cx}
theorem impS {st : Stmt} {t u : TS} (h : PS X st t) (i : ∀ D σ H, u D σ H → t D σ H) : PS X st u := ⟨fun pins s σ H D I w => h.run pins s σ H D I (i D σ H w)⟩
theorem setDc {i : Nat} {y : Str} {py : Pos} {kx vx tg iter : Expr} {ifs : List Expr} {scope : Scope} {own : List (Str × Nat)} {pos spos : Pos} {wi : TI} {g : TG} {tt : TT} {tk tv : TE} (hc : X.calm = true) (hN : X.N.Nodup) (hy : X.N[i]? = some y) (hyl : X.env.scope.names.lookup y = some .local)
    (hsw : swapsWith (.DictComp kx vx [⟨tg, iter, ifs, 0⟩] scope pos) (some (.Name y py)) spos.line X.env = pure true) (hi : PI X tg iter wi) (ok : BlkOk X.N X.env.scope scope own)
    (hg : InBlk X scope fun Y => PG Y tg g) (ht : InBlk X scope fun Y => PTs Y ifs tt) (hk : InBlk X scope fun Y => PE Y kx tk) (he : InBlk X scope fun Y => PE Y vx tv) (hs : ∀ x, foldedSetIterable iter X.env x = pure x) :
    PS X (.Assign [.Name y py] (.DictComp kx vx [⟨tg, iter, ifs, 0⟩] scope pos) spos) (tAsg (tDc wi g tt tk tv (own.map (·.2))) (gName i)) := by
  refine ⟨fun pins s σ H D I h => ?_⟩
  rw [exec_Assign_Name_used _ _ _ _ hsw]
  refine wpAny_bind (wpAny_standAt (wpAny_bind ?_))
  show wpAny _ X.A (do let _ ← comprehension (.DictComp kx vx [⟨tg, iter, ifs, 0⟩] scope pos) scope X.env (firstIterPos [⟨tg, iter, ifs, 0⟩] pos) newDict false (eval iter X.env) (some (assign (.Name y py) X.env))) _ _ s
  have h : tDc wi g tt tk tv (own.map (·.2)) σ H (fun x H1 => gName i x σ H1 D.nx) := h
  refine wpAny_bind (thn (dc_core (Qf := fun _ s' => SP X pins D .next s') hc hN I hi ok hg ht hk he hs h fun L C s' m H' I' q hn f => ?_) fun _ s' hq => wpAny_pure (wpAny_pure hq))
  show wpAny _ _ (assign (.Name y py) X.env (.ref L)) _ _ _
  refine wpAny_assign_Name (store_ok2 (v := L2.V.ref L) I' hN hy (.inl hyl) rfl (fun s2 I2 ⟨a, sb, ha⟩ => ?_) (.inr hyl))
  obtain ⟨f0, f1, f2, f3, f4, f5⟩ := f
  have haC : C ≠ a := by
    rcases ha with z | z
    · rw [z]; exact f1
    · exact fun e => f4 y a z e.symm
  exact ⟨m, hn.sameBut sb haC, fun h3 sb3 => ⟨_, H', I2.turned (t' := s2.toks) (fun b o hb e => (sb3.2 b hb).trans e) f0 f1 f3 f4 f5, q⟩⟩
end
section
variable {X : Cx} {Γ : Nat → Spec} {fnm : List Str} {lv : Nat}
theorem inE (hS : SsetOk) (B : Bs Γ fnm lv X) {a : E} {x : Expr} {scope : Scope} (h : chkE X.N fnm (relS scope X.env.scope) a x = true) : InBlk X scope fun Y => PE Y x (tD X.K Γ a) := fun s H C cl fp => soundE hS a (B.blk s H scope (compEnvC scope cl C X.env) fp) h
theorem inC (hS : SsetOk) (B : Bs Γ fnm lv X) {a : EO} {x : List Expr} {scope : Scope} (h : chkC X.N fnm (relS scope X.env.scope) a x = true) : InBlk X scope fun Y => PTs Y x (tDC X.K Γ a) := fun s H C cl fp => soundC hS a (B.blk s H scope (compEnvC scope cl C X.env) fp) h
theorem inI (hS : SsetOk) (B : Bs Γ fnm lv X) {a : Fy.It} {t x : Expr} {scope : Scope} (h : chkI X.N fnm (relS scope X.env.scope) a x t = true) : InBlk X scope fun Y => PI Y t x (tDI X.K Γ a) := fun s H C cl fp => soundI hS a (B.blk s H scope (compEnvC scope cl C X.env) fp) h
theorem inG (B : Bs Γ fnm lv X) {tg : Tg} {t : Expr} {scope : Scope} (h : chkTg X.N (relS scope X.env.scope) true tg t = true) : InBlk X scope fun Y => PG Y t (gD X.K tg) := fun s H C cl fp => pgD (X := X.blk s H scope (compEnvC scope cl C X.env) fp) B.calm B.nd (locT _) h
def isComp : E → Bool
  | .lc .. => true | .lc2 .. => true | .lci .. => true | .dci .. => true | _ => false
theorem setS (hS : SsetOk) (B : Bs Γ fnm lv X) (F : Fx X) {t : E} {x : Str} {px pos : Pos} {i : Nat} {e : Expr} (hi : X.N[i]? = some x) (hl : Loc X.env.scope x) (hc : (nComp e || isComp t) = true) (h : chkE X.N fnm X.env.scope t e = true) : PS X (.Assign [.Name x px] e pos) (tAsg (tD X.K Γ t) (gName i)) := by
  have he := soundE hS t B h
  cases hn : nComp e with
  | true => exact ps_set B.nd hi hl he (sw_no hn) (.inl (F.fn x))
  | false =>
    rw [hn, Bool.false_or] at hc
    cases t with
    | lc own tg it c a =>
      obtain ⟨x', t, i', ifs, scope, p, rfl, h1, h2, h3, h4, h5, h6, h7⟩ := inv_lc h
      cases hw : swc X.env.scope scope x px p with
      | false => exact ps_set B.nd hi hl he (by rw [swLc F.kind, hw]) (.inl (F.fn x))
      | true =>
        refine impS (ps_setLc B.calm B.nd hi (swc_loc hw) (by rw [swLc F.kind, hw]) (soundI hS it B h5) (blkOk_by h1) (inG B h4) (inC hS B h6) (inE hS B h7) (nSet_ok h2)) fun D σ H ⟨S, O, OA, ρ, rv, E, w⟩ => ?_
        have w : wpI Γ it (rvR rv ρ) fun ds => compW tg (own.map (·.2)) (wpC Γ c) (fun ρ' Q' => wpE Γ a false ρ' Q') (rvR rv ρ) ds [] fun es => Wit X.K S (vw rv OA O) H (fun x H1 => gName i x σ H1 D.nx) (.lst es) := w
        rw [vw_rv] at w
        exact lc_at (all_mem h3) (E.rv rv) w
    | lc2 own tg it is it2 a =>
      obtain ⟨x', t, i', t2, i2, scope, p, rfl, h1, h2, h3, h4, h5, h6, h7, h8, h9, h10⟩ := inv_lc2 h
      cases hw : swc X.env.scope scope x px p with
      | false => exact ps_set B.nd hi hl he (by rw [swLc F.kind, hw]) (.inl (F.fn x))
      | true =>
        refine impS (ps_setLc2 B.calm B.nd hi (swc_loc hw) (by rw [swLc F.kind, hw]) (soundI hS it B h7) (blkOk_by h1) (all_mem h5) (inG B h6) (fun _ _ _ _ _ => pts_nil) (inI hS B h9) (inG B h8) (fun _ _ _ _ _ => pts_nil) (inE hS B h10) (nSet_ok h2) (fun env => nSet_ok h3)) fun D σ H ⟨S, O, OA, ρ, rv, E, w⟩ => ?_
        have w : wpI Γ it (rvR rv ρ) fun ds => comp2W tg (own.map (·.2)) is (wpI Γ it2) (fun ρ' Q' => wpE Γ a false ρ' Q') (rvR rv ρ) ds [] fun es => Wit X.K S (vw rv OA O) H (fun x H1 => gName i x σ H1 D.nx) (.lst es) := w
        rw [vw_rv] at w
        exact lc2_at (all_mem h4) (E.rv rv) w
    | lci own tg d kp c a =>
      obtain ⟨x', t, y, yp, m, ap, cp, ifs, scope, p, rfl, h1, h2, rfl, h4, h5, h6, h7, ⟨is, rfl⟩, h9, h10, h11⟩ := inv_lci h
      cases hw : swc X.env.scope scope x px p with
      | false => exact ps_set B.nd hi hl he (by rw [swLc F.kind, hw]) (.inl (F.fn x))
      | true =>
        obtain ⟨ts, k, q, rfl⟩ := tup_of h9
        refine impS (ps_lock (ps_setLc B.calm B.nd hi (swc_loc hw) (by rw [swLc F.kind, hw]) (pi_items (pe_var h5 (vis_of h7) (okN_d h6) (okN_c h6)) rfl (by rw [h4]; exact beq_self_eq_true _)) (blkOk_by h1) (inG B h9) (inC hS B h10) (inE hS B h11) (fun _ => rfl))) fun D σ H ⟨S, O, OA, ρ, rv, E, ks, ds, hd, hk, hf, w⟩ => ?_
        exact lci_at (Q := fun x H1 => gName i x σ H1 D.nx) (all_mem h2) E hd hk hf.1 hf.2 (compW_mono (fun ρ Q Q' h => wpC_mono Γ c ρ Q Q' h) (fun ρ Q Q' h => wpE_mono Γ a false ρ Q Q' h) (fun es q v H' e s i => q v H' e s (Is.mono ext_vw _ _ i)) w)
    | dci own tg d kp c k v =>
      obtain ⟨kx, x', t, y, yp, m, ap, cp, ifs, scope, p, rfl, h1, h2, rfl, h4, h5, h6, h7, ⟨is, rfl⟩, h9, h10, h11, h12⟩ := inv_dci h
      cases hw : swc X.env.scope scope x px p with
      | false => exact ps_set B.nd hi hl he (by rw [swDc F.kind, hw]) (.inl (F.fn x))
      | true =>
        obtain ⟨ts, kk, q, rfl⟩ := tup_of h9
        refine impS (ps_lock (setDc B.calm B.nd hi (swc_loc hw) (by rw [swDc F.kind, hw]) (pi_items (pe_var h5 (vis_of h7) (okN_d h6) (okN_c h6)) rfl (by rw [h4]; exact beq_self_eq_true _)) (blkOk_by h1) (inG B h9) (inC hS B h10) (inE hS B h11) (inE hS B h12) (fun _ => rfl))) fun D σ H ⟨S, O, OA, ρ, rv, E, ks, ds, hd, hk, hf, w⟩ => ?_
        exact dci_at (Q := fun x H1 => gName i x σ H1 D.nx) (all_mem h2) E hd hk hf.1 hf.2 (dcW_mono (fun ρ Q Q' h => wpC_mono Γ c ρ Q Q' h) (fun ρ Q Q' h => wpE_mono Γ k false ρ Q Q' h) (fun ρ Q Q' h => wpE_mono Γ v false ρ Q Q' h) (fun ks es q v H' e s i => q v H' e s (Is.mono ext_vw _ _ i)) w)
    | _ => cases hc
theorem setF (hS : SsetOk) (B : Bs Γ fnm lv X) (F : Fx X) {t : E} {x : Str} {px pos : Pos} {i : Nat} {e : Expr} (hi : X.N[i]? = some x) (hl : Loc X.env.scope x) (hf : frE t = true) (h : chkE X.N fnm X.env.scope t e = true) : PS X (.Assign [.Name x px] e pos) (tAsg (tF X.K Γ t) (gName i)) := by
  have he := soundF hS B hf h
  cases t with
  | lst es =>
    obtain ⟨xs, p, rfl, h1⟩ := inv_lst h
    exact ps_set B.nd hi hl he rfl (.inl (F.fn x))
  | lc own tg it c a =>
    obtain ⟨x', t, i', ifs, scope, p, rfl, h1, h2, h3, h4, h5, h6, h7⟩ := inv_lc h
    cases hw : swc X.env.scope scope x px p with
    | false => exact ps_set B.nd hi hl he (by rw [swLc F.kind, hw]) (.inl (F.fn x))
    | true =>
      refine impS (ps_setLc B.calm B.nd hi (swc_loc hw) (by rw [swLc F.kind, hw]) (soundI hS it B h5) (blkOk_by h1) (inG B h4) (inC hS B h6) (inE hS B h7) (nSet_ok h2)) fun D σ H ⟨S, O, OA, ρ, E, w⟩ => ?_
      have w : wpI Γ it (rvR false ρ) fun ds => compW tg (own.map (·.2)) (wpC Γ c) (fun ρ' Q' => wpE Γ a false ρ' Q') (rvR false ρ) ds [] fun es => isLD (.lst es) = true → WitN X.K S O OA H (fun x H1 => gName i x σ H1 D.nx) (.lst es) := w
      have e0 : rvR false ρ = ρ := rfl
      rw [e0] at w
      exact lcF_at (all_mem h3) E (wpI_mono Γ it ρ _ _ (fun ds => compW_mono (fun ρ Q Q' h => wpC_mono Γ c ρ Q Q' h) (fun ρ Q Q' h => wpE_mono Γ a false ρ Q Q' h) fun es q => q rfl) w)
  | blt b a =>
    cases b with
    | dict =>
      obtain ⟨x', p, y, p2, rfl, _⟩ := inv_blt h
      exact ps_set B.nd hi hl he rfl (.inl (F.fn x))
    | _ => cases hf
  | _ => cases hf
end
end Fy
end
section
/-! FyQ3 -/
namespace Fy
open PySem PySem.Spec PyProof.Rows L2
/-! ### where a statement stands -/
structure Now (K : PySem.W.Frag) (S : Sr) (O : List Addr) (Hb : Hp) (Vb OA : List Addr) (H : Hp) (σ : L2.St) (ρ : Rho) : Prop where
  env : EnvR K S O OA H σ ρ
  ext : Ext S (hide Vb Hb) (hide Vb H)
  new : ∀ a ∈ OA, a ∈ Vb ∨ Hb a = none
  sub : ∀ a ∈ Vb, a ∈ OA
structure Lk (K : PySem.W.Frag) (S : Sr) (O : List Addr) (Hb : Hp) (Vb : List Addr) (dn : Dn) (Ds : Ends) : Prop where
  nx : ∀ OA H σ ρ, Now K S O Hb Vb OA H σ ρ → dn.nx ρ → Ds.nx σ H
  bk : ∀ OA H σ ρ, Now K S O Hb Vb OA H σ ρ → dn.bk ρ → Ds.bk σ H
  rt : ∀ d v H, dn.rt d → Ext S (hide Vb Hb) (hide Vb H) → SrcOk S H → Is K S (hide O H) d v → Ds.rt v H
def tS (K : PySem.W.Frag) (Γ : Nat → Spec) (t : S) : TS := fun Ds σ H => ∃ S O Hb Vb OA ρ dn, Now K S O Hb Vb OA H σ ρ ∧ wpS Γ t dn ρ ∧ Lk K S O Hb Vb dn Ds
def tSL (K : PySem.W.Frag) (Γ : Nat → Spec) (t : SL) : TS := fun Ds σ H => ∃ S O Hb Vb OA ρ dn, Now K S O Hb Vb OA H σ ρ ∧ wpSL Γ t dn ρ ∧ Lk K S O Hb Vb dn Ds
section
variable {K : PySem.W.Frag} {S : Sr} {O OA OA' Vb : List Addr} {H H' Hb : Hp} {σ : L2.St} {ρ : Rho}
theorem hide_hide {V W : List Addr} : hide W (hide V H) = hide (V ++ W) H := by
  funext a
  by_cases q : a ∈ W
  · rw [hide_in q, hide_in (List.mem_append_right _ q)]
  · rw [hide_out q]
    by_cases r : a ∈ V
    · rw [hide_in r, hide_in (List.mem_append_left _ r)]
    · rw [hide_out r, hide_out fun z => by rcases List.mem_append.mp z with z | z; exact r z; exact q z]
theorem extMore {V : List Addr} (W : List Addr) (e : Ext S (hide V H) (hide V H')) : Ext S (hide (V ++ W) H) (hide (V ++ W) H') := by
  have := e.hide W
  rwa [hide_hide, hide_hide] at this
theorem extComp {H1 H2 : Hp} {V1 : List Addr} (n : ∀ a ∈ V1, a ∈ Vb ∨ Hb a = none) (e1 : Ext S (hide Vb Hb) (hide Vb H1)) (e2 : Ext S (hide V1 H1) (hide V1 H2)) : Ext S (hide Vb Hb) (hide Vb H2) := fun a o na h => by
  obtain ⟨h1, h2⟩ := hide_some h
  have h3 : a ∉ V1 := fun z => by
    rcases n a z with q | q
    · exact h1 q
    · rw [q] at h2; cases h2
  have h4 := e1 a o na h
  rw [hide_out h1] at h4 ⊢
  have h5 := e2 a o na (by rw [hide_out h3]; exact h4)
  rwa [hide_out h3] at h5
theorem Now.ev (N : Now K S O Hb Vb OA H σ ρ) (e : Ext S H H') (s : SrcOk S H') : Now K S O Hb Vb OA H' σ ρ := ⟨N.env.ext e s, N.ext.trans (e.hide Vb), N.new, N.sub⟩
theorem Now.comp {V1 : List Addr} {H1 : Hp} {σ1 : L2.St} {ρ1 : Rho} (A : Now K S O Hb Vb V1 H1 σ1 ρ1) (B : Now K S O H1 V1 OA H σ ρ) : Now K S O Hb Vb OA H σ ρ :=
  ⟨B.env, extComp A.new A.ext B.ext, fun a ha => by
    rcases B.new a ha with q | q
    · exact A.new a q
    · by_cases r : a ∈ Vb
      · exact .inl r
      · refine .inr ?_
        cases g : Hb a with
        | none => rfl
        | some o =>
          have nS : a ≠ S.d := fun z => B.env.out (List.mem_append_left _ (z ▸ ha))
          have := A.ext a o nS (by rw [hide_out r]; exact g)
          rw [hide_out r, q] at this
          exact absurd this (by simp), fun a ha => B.sub a (A.sub a ha)⟩
theorem Now.re (N : Now K S O Hb Vb OA H σ ρ) {σ' : L2.St} {ρ' : Rho} (E : EnvR K S O OA H σ' ρ') : Now K S O Hb Vb OA H σ' ρ' := ⟨E, N.ext, N.new, N.sub⟩
theorem IsO.mono {G G' : Hp} {d : D} {a : Addr} (e : Ext S G G') (h : H' a = H a) (i : IsO K S G H d a) : IsO K S G' H' d a := by
  rcases i with ⟨ds, xs, e1, e2, e3⟩ | ⟨ks, ds, kvs, e1, e2, e3, e4⟩
  · exact .inl ⟨ds, xs, e1, by rw [h]; exact e2, IsL.mono e _ _ e3⟩
  · exact .inr ⟨ks, ds, kvs, e1, by rw [h]; exact e2, e3, IsL.mono e _ _ e4⟩
theorem IsO.some {G : Hp} {d : D} {a : Addr} (i : IsO K S G H d a) : (∃ xs, H a = some (.lst xs)) ∨ ∃ kvs, H a = some (.dK kvs) := by
  rcases i with ⟨ds, xs, e1, e2, e3⟩ | ⟨ks, ds, kvs, e1, e2, e3, e4⟩
  · exact .inl ⟨xs, e2⟩
  · exact .inr ⟨kvs, e2⟩
def NoRef (σ : L2.St) (ρ : Rho) (p : Addr) : Prop := ∀ (j : Nat) d, ρ[j]? = some (some (true, d)) → σ[j]? ≠ some (some (.ref p))
theorem EnvR.noref (E : EnvR K S O OA H σ ρ) {p : Addr} (hp : H p = none) : NoRef σ ρ p := fun j d h z => by
  obtain ⟨a, h1, h2, _⟩ := E.own j d h
  rw [h1] at z; cases z
  exact E.there _ (List.mem_append_left _ h2) hp
/-- a new thing is owned, not yet named -/
theorem EnvR.grow (E : EnvR K S O OA H σ ρ) {p : Addr} {d : D} (hp : H p = none) (e : Ext S H H') (s : SrcOk S H') (i : IsO K S (hide (OA ++ p :: O) H') H' d p) : EnvR K S O (p :: OA) H' σ ρ ∧ IsO K S (hide ((p :: OA) ++ O) H') H' d p := by
  have hv : hide (OA ++ p :: O) H' = hide ((p :: OA) ++ O) H' := hide_as fun b => by simp [or_left_comm]
  have pn : H' p ≠ none := by rcases i.some with ⟨_, h⟩ | ⟨_, h⟩ <;> rw [h] <;> intro z <;> cases z
  have E1 := E.inn hp e s pn
  have mem : ∀ b, b ∈ (p :: OA) ++ O → b ∈ OA ++ p :: O := fun b hb => by simpa [or_left_comm] using hb
  refine ⟨⟨s, fun z => E1.out (mem _ z), fun z => E1.outl (mem _ z), fun a ha => E1.there a (mem _ ha), fun a ha => ?_, fun a ha => ?_, E1.len, fun j d h => ?_, fun j d h => ?_, E1.sep⟩, by rw [← hv]; exact i⟩
  · rcases List.mem_cons.mp ha with q | q
    · rw [q]; exact i.some
    · exact E1.chg a q
  · rcases List.mem_cons.mp ha with q | q
    · rw [q]; exact fun z => E.there p (List.mem_append_right _ z) hp
    · exact E.apart a q
  · obtain ⟨v, h1, h2⟩ := E1.val j d h
    exact ⟨v, h1, by rw [← hv]; exact h2⟩
  · obtain ⟨a, h1, h2, h3⟩ := E1.own j d h
    exact ⟨a, h1, List.mem_cons_of_mem _ h2, by rw [← hv]; exact h3⟩
/-- .. and named -/
theorem EnvR.name (E : EnvR K S O OA H σ ρ) {p : Addr} {d : D} {i : Nat} (hp : p ∈ OA) (io : IsO K S (hide (OA ++ O) H) H d p) (nr : NoRef σ ρ p) : EnvR K S O OA H (σ.set i (some (.ref p))) (ρ.set i (some (true, d))) := by
  have old : ∀ {j : Nat} {o : Bool} {e : D}, i ≠ j → (ρ.set i (some (true, d)))[j]? = some (some (o, e)) → ρ[j]? = some (some (o, e)) := fun {j o e} n h => by rwa [List.getElem?_set_ne n] at h
  refine ⟨E.src, E.out, E.outl, E.there, E.chg, E.apart, by simp [E.len], fun j e h => ?_, fun j e h => ?_, fun j k e e' a n h1 h2 h3 => ?_⟩
  · by_cases q : i = j
    · subst q
      rw [List.getElem?_set] at h
      simp only [if_true] at h
      split at h <;> cases h
    · obtain ⟨v, h1, h2⟩ := E.val j e (old q h)
      exact ⟨v, by rw [List.getElem?_set_ne q]; exact h1, h2⟩
  · by_cases q : i = j
    · subst q
      rw [List.getElem?_set] at h
      simp only [if_true] at h
      split at h
      · cases h
        exact ⟨p, by rw [List.getElem?_set_self (by rw [E.len]; assumption)], hp, io⟩
      · cases h
    · obtain ⟨a, h1, h2, h3⟩ := E.own j e (old q h)
      exact ⟨a, by rw [List.getElem?_set_ne q]; exact h1, h2, h3⟩
  · have self : ∀ {l : Nat}, i = l → ∀ {b : Addr}, (σ.set i (some (.ref p)))[l]? = some (some (.ref b)) → b = p := fun {l} hl {b} z => by
      subst hl
      rw [List.getElem?_set] at z
      simp only [if_true] at z
      split at z <;> cases z
      rfl
    by_cases q : i = j
    · intro z
      have ea := self q h3
      subst ea
      have q2 : i ≠ k := fun w => n (q ▸ w)
      rw [List.getElem?_set_ne q2] at z
      exact nr k e' (old q2 h2) z
    · rw [List.getElem?_set_ne q] at h3
      by_cases q2 : i = k
      · intro z
        have ea := self q2 z
        subst ea
        exact nr j e (old q h1) h3
      · rw [List.getElem?_set_ne q2]
        exact E.sep j k e e' a n (old q h1) (old q2 h2) h3
/-- what is owned is changed -/
theorem EnvR.chng (E : EnvR K S O OA H σ ρ) {a : Addr} {d d' : D} {i : Nat} {o : HO} (h : ρ[i]? = some (some (true, d))) (hs : σ[i]? = some (some (.ref a))) (ha : a ∈ OA) (io : IsO K S (hide (OA ++ O) H) (upd H a o) d' a) : EnvR K S O OA (upd H a o) σ (ρ.set i (some (true, d'))) := by
  have av : a ∈ OA ++ O := List.mem_append_left _ ha
  have ad : a ≠ S.d := fun z => E.out (z ▸ av)
  have al : a ≠ S.l := fun z => E.outl (z ▸ av)
  have old : ∀ {j : Nat} {o : Bool} {e : D}, i ≠ j → (ρ.set i (some (true, d')))[j]? = some (some (o, e)) → ρ[j]? = some (some (o, e)) := fun {j o e} n h => by rwa [List.getElem?_set_ne n] at h
  have own : ∀ {j : Nat} {e : D}, (ρ.set i (some (true, d')))[j]? = some (some (true, e)) → ∃ e', ρ[j]? = some (some (true, e')) := fun {j e} g => by
    by_cases q : i = j
    · subst q; exact ⟨d, h⟩
    · exact ⟨e, old q g⟩
  refine ⟨E.src.upd ad al, E.out, E.outl, fun b hb => ?_, fun b hb => ?_, E.apart, by simp [E.len], fun j e g => ?_, fun j e g => ?_, fun j k e e' b n h1 h2 h3 => ?_⟩
  · by_cases q : b = a
    · rw [q, upd_same]; intro z; cases z
    · rw [upd_ne q]; exact E.there b hb
  · by_cases q : b = a
    · rw [q]; exact io.some
    · rw [upd_ne q]; exact E.chg b hb
  · by_cases q : i = j
    · subst q
      rw [List.getElem?_set] at g
      simp only [if_true] at g
      split at g <;> cases g
    · obtain ⟨v, h1, h2⟩ := E.val j e (old q g)
      exact ⟨v, h1, by rw [ext_upd av]; exact h2⟩
  · by_cases q : i = j
    · subst q
      rw [List.getElem?_set] at g
      simp only [if_true] at g
      split at g
      · cases g
        exact ⟨a, hs, ha, by rw [ext_upd av]; exact io⟩
      · cases g
    · obtain ⟨b, h1, h2, h3⟩ := E.own j e (old q g)
      have nb : b ≠ a := fun z => E.sep i j d e a q h (old q g) hs (z ▸ h1)
      exact ⟨b, h1, h2, IsO.mono (by rw [ext_upd av]; exact Ext.refl) (upd_ne nb) h3⟩
  · obtain ⟨f, h1⟩ := own h1
    obtain ⟨f', h2⟩ := own h2
    exact E.sep j k f f' b n h1 h2 h3
theorem Now.chng (N : Now K S O Hb Vb OA H σ ρ) {a : Addr} {d d' : D} {i : Nat} {o : HO} (h : ρ[i]? = some (some (true, d))) (hs : σ[i]? = some (some (.ref a))) (ha : a ∈ OA) (io : IsO K S (hide (OA ++ O) H) (upd H a o) d' a) : Now K S O Hb Vb OA (upd H a o) σ (ρ.set i (some (true, d'))) := by
  refine ⟨N.env.chng h hs ha io, fun b u n g => ?_, N.new, N.sub⟩
  obtain ⟨g1, g2⟩ := hide_some g
  have nb : b ≠ a := fun z => by
    rcases N.new a ha with q | q
    · exact g1 (z ▸ q)
    · rw [z, q] at g2; cases g2
  have := N.ext b u n g
  rw [hide_out g1] at this ⊢
  rw [upd_ne nb]; exact this
theorem Now.grow (N : Now K S O Hb Vb OA H σ ρ) {p : Addr} {d : D} (hp : H p = none) (e : Ext S H H') (s : SrcOk S H') (i : IsO K S (hide (OA ++ p :: O) H') H' d p) : Now K S O Hb Vb (p :: OA) H' σ ρ ∧ IsO K S (hide ((p :: OA) ++ O) H') H' d p := by
  obtain ⟨E, io⟩ := N.env.grow hp e s i
  have ps : p ≠ S.d := N.env.src.ne hp
  refine ⟨⟨E, N.ext.trans (e.hide Vb), fun a ha => ?_, fun a ha => List.mem_cons_of_mem _ (N.sub a ha)⟩, io⟩
  rcases List.mem_cons.mp ha with q | q
  · rw [q]
    by_cases r : p ∈ Vb
    · exact .inl r
    · refine .inr ?_
      cases g : Hb p with
      | none => rfl
      | some o =>
        have := N.ext p o ps (by rw [hide_out r]; exact g)
        rw [hide_out r, hp] at this; cases this
  · exact N.new a q
end
end Fy
end
section
/-! FyQ4 -/
namespace Fy
open PySem PySem.Spec PyProof.Rows L2
/-! ### the statements -/
def nTup : Expr → Bool
  | .Tuple .. => false | _ => true
def swp (sc : Scope) (x y : Str) (px py : Pos) : Bool := (sc.names.lookup x == some .local) && (sc.names.lookup y == some .local) && (py.line == px.line)
def one (f : Expr → Bool) : List Expr → Bool
  | [t] => f t
  | _ => false
def two (f : Expr → Expr → Bool) : List Expr → Bool
  | [t, u] => f t u
  | _ => false
def onNm (f : Str → Pos → Bool) : Expr → Bool
  | .Name x p => f x p
  | _ => false
def onTp (f : List Expr → Bool) : Expr → Bool
  | .Tuple es _ _ => f es
  | _ => false
def onSb (f : Expr → Expr → Bool) : Expr → Bool
  | .Subscript a b _ => f a b
  | _ => false
theorem one_ok {f : Expr → Bool} {ts : List Expr} (h : one f ts = true) : ∃ t, ts = [t] ∧ f t = true := by
  match ts, h with
  | [t], h => exact ⟨t, rfl, h⟩
  | [], h => exact absurd h Bool.false_ne_true
  | _ :: _ :: _, h => exact absurd h Bool.false_ne_true
theorem two_ok {f : Expr → Expr → Bool} {ts : List Expr} (h : two f ts = true) : ∃ t u, ts = [t, u] ∧ f t u = true := by
  match ts, h with
  | [t, u], h => exact ⟨t, u, rfl, h⟩
  | [], h => exact absurd h Bool.false_ne_true
  | [_], h => exact absurd h Bool.false_ne_true
  | _ :: _ :: _ :: _, h => exact absurd h Bool.false_ne_true
theorem onNm_ok {f : Str → Pos → Bool} {e : Expr} (h : onNm f e = true) : ∃ x p, e = .Name x p ∧ f x p = true := by
  cases e with
  | Name x p => exact ⟨x, p, rfl, h⟩
  | _ => exact absurd h Bool.false_ne_true
theorem onTp_ok {f : List Expr → Bool} {e : Expr} (h : onTp f e = true) : ∃ es k p, e = .Tuple es k p ∧ f es = true := by
  cases e with
  | Tuple es k p => exact ⟨es, k, p, rfl, h⟩
  | _ => exact absurd h Bool.false_ne_true
theorem onSb_ok {f : Expr → Expr → Bool} {e : Expr} (h : onSb f e = true) : ∃ a b p, e = .Subscript a b p ∧ f a b = true := by
  cases e with
  | Subscript a b p => exact ⟨a, b, p, rfl, h⟩
  | _ => exact absurd h Bool.false_ne_true
section
variable (N fnm : List Str) (sc : Scope)
def nmB (i : Nat) (x : Str) : Bool := decide (N[i]? = some x) && (okN x && locB sc false x)
def chkPs : List Str → List Pattern → Bool
  | [], [] => true
  | x :: xs, .MatchValue (.Constant (.str y) _ _) _ :: ps => decide (x = y) && chkPs xs ps
  | _, _ => false
def chkP : Pat → Pattern → Bool
  | .lit x, .MatchValue (.Constant (.str y) _ _) _ => decide (x = y)
  | .alt xs, .MatchOr ps _ => chkPs xs ps
  | .cap i, .MatchAs none (some x) _ => nmB N sc i x
  | .wild, .MatchAs none none _ => true
  | _, _ => false
mutual
def chkS : S → Stmt → Bool
  | .asg i t, .Assign ts e _ => one (onNm fun x _ => nmB N sc i x && ((nComp e || isComp t) && chkE N fnm sc t e)) ts
  | .own i t, .Assign ts e _ => one (onNm fun x _ => nmB N sc i x && (frE t && chkE N fnm sc t e)) ts
  | .unp is t, .Assign ts e _ => one (onTp fun us => nComp e && (nTup e && (chkNames N sc false is us && chkE N fnm sc t e))) ts
  | .par i j oi oj a b, .Assign ts e _ => one (onTp (two fun t1 t2 => onNm (fun x px => onNm (fun y py => onTp (two fun u v => nmB N sc i x && (nmB N sc j y && (decide (i ≠ j) && ((nStar u && nStar v) && ((!oi || frE a) && (!oj || frE b) && ((if swp sc x y px py = true then !(foldedForSure 8 u && foldedForSure 8 v) && !(constantsAlone 8 u && constantsAlone 8 v) else !oi && !oj) && (chkE N fnm sc a u && chkE N fnm sc b v))))))) e) t2) t1)) ts
  | .ret t, .Return (some e) _ => chkE N fnm sc t e
  | .ite c a b, .If e xs ys _ => chkE N fnm sc c e && (chkSL a xs && chkSL b ys)
  | .for tg it b, .For t i body [] _ => nSet i && (chkTg N sc false tg t && (chkI N fnm sc it i t && chkSL b body))
  | .brk, .Break _ => true
  | .app i t, .Expr (.Call (.Attribute (.Name x _) m ap) [e] [] p) _ => decide (("append" : Str) = m) && (decide (ap.endLine = p.line) && (decide (N[i]? = some x) && (okN x && visB sc x) && (nStar e && chkE N fnm sc t e)))
  | .drp t, .Expr v _ => nComp v && chkE N fnm sc t v
  | .put i k v, .Assign ts e _ => one (onSb fun o kx => onNm (fun x _ => decide (N[i]? = some x) && (okN x && visB sc x) && (nComp e && (nSlice kx && (chkE N fnm sc k kx && chkE N fnm sc v e)))) o) ts
  | .mtch t cs, .Match e cases _ => chkE N fnm sc t e && chkM cs cases
  | .nev, _ => true
  | _, _ => false
def chkSL : SL → List Stmt → Bool
  | .nil, [] => true
  | .cons s r, st :: sts => chkS s st && chkSL r sts
  | _, _ => false
def chkM : ML → List MatchCase → Bool
  | .nil, [] => true
  | .cons p b r, ⟨pat, none, body⟩ :: cs => chkP N sc p pat && (chkSL b body && chkM r cs)
  | _, _ => false
end
end
section
variable {X : Cx} {Γ : Nat → Spec} {fnm : List Str} {lv : Nat}
theorem nmB_ok {i : Nat} {x : Str} (h : nmB X.N X.env.scope i x = true) : X.N[i]? = some x ∧ Loc X.env.scope x := by
  obtain ⟨h1, h2⟩ := b2 h
  refine ⟨of_decide_eq_true h1, ?_⟩
  have h3 := (b2 h2).2
  unfold locB at h3
  split at h3
  · exact .inl ‹_›
  · exact .inr ‹_›
  · cases h3
theorem locF (F : Fx X) : LocOk X false := fun x h => by
  refine ⟨?_, .inl (F.fn x)⟩
  unfold locB at h
  split at h
  · exact .inl ‹_›
  · exact .inr ‹_›
  · cases h
theorem s_asg (hS : SsetOk) (B : Bs Γ fnm lv X) (F : Fx X) {t : E} {x : Str} {px pos : Pos} {i : Nat} {e : Expr} (hn : nmB X.N X.env.scope i x = true) (hc : (nComp e || isComp t) = true) (h : chkE X.N fnm X.env.scope t e = true) : PS X (.Assign [.Name x px] e pos) (tS X.K Γ (.asg i t)) := by
  obtain ⟨h1, h2⟩ := nmB_ok hn
  exact impS (setS hS B F h1 h2 hc h) fun Ds σ H ⟨S, O, Hb, Vb, OA, ρ, dn, N, w, l⟩ => ⟨S, O, OA, ρ, false, N.env, wpE_mono Γ t false ρ _ _ (fun d q v H1 e1 s1 ix => l.nx _ _ _ _ ((N.ev e1 s1).re ((N.env.ext e1 s1).set ix)) q) w⟩
theorem s_own (hS : SsetOk) (B : Bs Γ fnm lv X) (F : Fx X) {t : E} {x : Str} {px pos : Pos} {i : Nat} {e : Expr} (hn : nmB X.N X.env.scope i x = true) (hf : frE t = true) (h : chkE X.N fnm X.env.scope t e = true) : PS X (.Assign [.Name x px] e pos) (tS X.K Γ (.own i t)) := by
  obtain ⟨h1, h2⟩ := nmB_ok hn
  exact impS (setF hS B F h1 h2 hf h) fun Ds σ H ⟨S, O, Hb, Vb, OA, ρ, dn, N, w, l⟩ => ⟨S, O, OA, ρ, N.env, wpE_mono Γ t false ρ _ _ (fun d q _ p H1 hp e1 s1 io => by
    obtain ⟨N1, io1⟩ := N.grow hp e1 s1 io
    exact l.nx _ _ _ _ (N1.re (N1.env.name (List.mem_cons_self ..) io1 (N.env.noref hp))) q.2) w⟩
theorem s_unp (hS : SsetOk) (B : Bs Γ fnm lv X) (F : Fx X) {t : E} {is : List Nat} {ts : List Expr} {k : Nat} {q pos : Pos} {e : Expr} (hc : nComp e = true) (ht : nTup e = true) (hn : chkNames X.N X.env.scope false is ts = true) (h : chkE X.N fnm X.env.scope t e = true) : PS X (.Assign [.Tuple ts k q] e pos) (tS X.K Γ (.unp is t)) := by
  refine impS (ps_asg (soundE hS t B h) (pgD (tg := .tup is) B.calm B.nd (locF F) hn) (by cases e <;> first | rfl | cases hc) (by cases e <;> first | rfl | cases ht)) fun Ds σ H ⟨S, O, Hb, Vb, OA, ρ, dn, N, w, l⟩ => ⟨S, O, OA, ρ, false, N.env, wpE_mono Γ t false ρ _ _ (fun d ⟨ds, ed, hl, q⟩ v H1 e1 s1 ix => ?_) w⟩
  subst ed
  exact ⟨S, O, OA, ρ, .tup ds, N.env.ext e1 s1, ix, hl, fun σ' E' _ _ => l.nx _ _ _ _ ((N.ev e1 s1).re E') q⟩
theorem s_ret (hS : SsetOk) (B : Bs Γ fnm lv X) {t : E} {pos : Pos} {e : Expr} (h : chkE X.N fnm X.env.scope t e = true) : PS X (.Return (some e) pos) (tS X.K Γ (.ret t)) :=
  impS (ps_ret (soundE hS t B h)) fun Ds σ H ⟨S, O, Hb, Vb, OA, ρ, dn, N, w, l⟩ => ⟨S, O, OA, ρ, true, N.env, wpE_mono Γ t true ρ _ _ (fun d q v H1 e1 s1 ix => l.rt d v H1 q (N.ext.trans (e1.hide Vb)) s1 ix) w⟩
theorem s_ite (hS : SsetOk) (B : Bs Γ fnm lv X) {c : E} {a b : SL} {pos : Pos} {e : Expr} {xs ys : List Stmt} (h : chkE X.N fnm X.env.scope c e = true) (ha : PSs X xs (tSL X.K Γ a)) (hb : PSs X ys (tSL X.K Γ b)) : PS X (.If e xs ys pos) (tS X.K Γ (.ite c a b)) :=
  impS (ps_if (soundT hS c B h) ha hb) fun Ds σ H ⟨S, O, Hb, Vb, OA, ρ, dn, N, w, l⟩ => ⟨S, O, OA, ρ, false, N.env, wpE_mono Γ c false ρ _ _ (fun d => boolW_mono fun k q H1 e1 s1 => by
    cases k with
    | true => rw [if_pos rfl] at q ⊢; exact ⟨S, O, Hb, Vb, OA, ρ, dn, N.ev e1 s1, q, l⟩
    | false => rw [if_neg Bool.false_ne_true] at q ⊢; exact ⟨S, O, Hb, Vb, OA, ρ, dn, N.ev e1 s1, q, l⟩) w⟩
theorem s_for (hS : SsetOk) (B : Bs Γ fnm lv X) (F : Fx X) {tg : Tg} {it : Fy.It} {b : SL} {pos : Pos} {t i : Expr} {body : List Stmt} (hs : nSet i = true) (ht : chkTg X.N X.env.scope false tg t = true) (hi : chkI X.N fnm X.env.scope it i t = true) (hb : PSs X body (tSL X.K Γ b)) : PS X (.For t i body [] pos) (tS X.K Γ (.for tg it b)) := by
  refine impS (ps_for F.po B.calm (soundI hS it B hi) (pgD B.calm B.nd (locF F) ht) hb (nSet_ok hs)) fun Ds σ H ⟨S, O, Hb, Vb, OA, ρ, dn, N, w, l⟩ => ⟨S, O, OA, ρ, N.env, wpI_mono Γ it ρ _ _ (fun ds fw J H1 e1 s1 feed hz => ?_) w⟩
  have N1 := N.ev e1 s1
  refine ⟨fun i m σ2 H2 => m = ds.length - i ∧ i ≤ ds.length ∧ ∃ OA2 ρ2, Now X.K S O H1 OA OA2 H2 σ2 ρ2 ∧ forW tg (wpSL Γ b) dn (ds.drop i) ρ2, ⟨_, rfl, Nat.zero_le _, OA, ρ, ⟨N1.env, Ext.refl, fun a ha => .inl ha, fun a ha => ha⟩, fw⟩, ?_⟩
  intro i m σ2 H2 ⟨hm, hi, OA2, ρ2, N2, fw⟩
  have hv : hide (OA2 ++ O) H1 = hide (OA ++ O) H1 := by
    funext a
    by_cases q : a ∈ OA ++ O
    · have : a ∈ OA2 ++ O := by
        rcases List.mem_append.mp q with z | z
        · exact List.mem_append_left _ (N2.sub a z)
        · exact List.mem_append_right _ z
      rw [hide_in q, hide_in this]
    · by_cases r : a ∈ OA2 ++ O
      · rw [hide_in r, hide_out q]
        rcases List.mem_append.mp r with z | z
        · rcases N2.new a z with w | w
          · exact absurd (List.mem_append_left _ w) q
          · exact w.symm
        · exact absurd (List.mem_append_right _ z) q
      · rw [hide_out r, hide_out q]
  have e2 : Ext S (hide (OA2 ++ O) H1) (hide (OA2 ++ O) H2) := by
    intro a o n h
    rw [hv] at h
    obtain ⟨h1, h2⟩ := hide_some h
    have h3 : a ∉ OA2 ++ O := fun z => by
      rcases List.mem_append.mp z with z | z
      · rcases N2.new a z with w | w
        · exact h1 (List.mem_append_left _ w)
        · rw [w] at h2; cases h2
      · exact h1 (List.mem_append_right _ z)
    have h4 := N2.ext a o n (by rw [hide_out fun z => h1 (List.mem_append_left _ z)]; exact h2)
    rw [hide_out fun z => h1 (List.mem_append_left _ z)] at h4
    rw [hide_out h3]; exact h4
  obtain ⟨f1, f2, f3⟩ := feed (OA2 ++ O) hv i H2 e2 (N2.env.at false)
  by_cases hlt : i < ds.length
  · obtain ⟨d, hd⟩ : ∃ d, ds[i]? = some d := ⟨_, List.getElem?_eq_getElem hlt⟩
    rw [drop_at hd] at fw
    refine .inr ⟨f1 hlt, fun σ' H' => ∃ OA2 ρ2, Now X.K S O H1 OA OA2 H' σ' ρ2 ∧ forW tg (wpSL Γ b) dn (ds.drop (i + 1)) ρ2, fun σ' H' h => ⟨ds.length - (i + 1), by omega, rfl, hlt, h⟩, fun x H3 y => ?_⟩
    obtain ⟨d', hd', e3, s3, i3⟩ := f3 x H3 hlt y
    rw [hd] at hd'; cases hd'
    have N3 := N2.ev e3 s3
    refine ⟨S, O, OA2, ρ2, d, N3.env, i3, bindT_mono (fun ρ' w' σ' E' _ _ => ?_) fw⟩
    refine ⟨S, O, H1, OA, OA2, ρ', _, N3.re E', w', fun OA4 H4 σ4 ρ4 N4 q => ⟨OA4, ρ4, N4, q⟩, fun OA4 H4 σ4 ρ4 N4 q => l.nx _ _ _ _ (N1.comp N4) q, fun d v H4 q e4 s4 ix => l.rt d v H4 q (extComp N1.new N1.ext e4) s4 ix⟩
  · have hie : i = ds.length := by omega
    subst hie
    rw [List.drop_length] at fw
    exact .inl ⟨f2 (Nat.le_refl _), l.nx _ _ _ _ (N1.comp N2) fw⟩
end
end Fy
end
section
/-! FyQ5 -/
namespace Fy
open PySem PySem.Spec PyProof.Rows L2
def rSetA : TSet := fun o i v H Q => rSetL o i v H Q ∨ rSetD o i v H Q
section
variable {X : Cx} {Γ : Nat → Spec} {fnm : List Str} {lv : Nat}
theorem setAny (hu : X.A.units + 1 < cLine) : PSet X rSetA := fun pins s σ H o i v ov iv u Q I ro ri rv h => by
  rcases h with h | h
  · exact set_list pins s σ H o i v ov iv u Q I ro ri rv h
  · exact set_dict hu pins s σ H o i v ov iv u Q I ro ri rv h
theorem own_lst {K : PySem.W.Frag} {S : Sr} {O OA : List Addr} {H : Hp} {σ : L2.St} {ρ : Rho} (E : EnvR K S O OA H σ ρ) {i : Nat} {ds : List D} (h : ρ[i]? = some (some (true, .lst ds))) : ∃ a xs, σ[i]? = some (some (.ref a)) ∧ a ∈ OA ∧ H a = some (.lst xs) ∧ IsL K S (hide (OA ++ O) H) ds xs := by
  obtain ⟨a, h1, h2, h3⟩ := E.own i _ h
  rcases h3 with ⟨ds', xs, e1, e2, e3⟩ | ⟨ks, ds', kvs, e1, _⟩
  · cases e1; exact ⟨a, xs, h1, h2, e2, e3⟩
  · cases e1
theorem own_dic {K : PySem.W.Frag} {S : Sr} {O OA : List Addr} {H : Hp} {σ : L2.St} {ρ : Rho} (E : EnvR K S O OA H σ ρ) {i : Nat} {ks : List Int} {ds : List D} (h : ρ[i]? = some (some (true, .dic ks ds))) : ∃ a kvs, σ[i]? = some (some (.ref a)) ∧ a ∈ OA ∧ H a = some (.dK kvs) ∧ kvs.map (·.1) = ks.map Sum.inl ∧ IsL K S (hide (OA ++ O) H) ds (kvs.map (·.2)) := by
  obtain ⟨a, h1, h2, h3⟩ := E.own i _ h
  rcases h3 with ⟨ds', xs, e1, _⟩ | ⟨ks', ds', kvs, e1, e2, e3, e4⟩
  · cases e1
  · cases e1; exact ⟨a, kvs, h1, h2, e2, e3, e4⟩
theorem s_put (hS : SsetOk) (B : Bs Γ fnm lv X) {i : Nat} {k v : E} {x : Str} {xp q pos : Pos} {kx e : Expr} (hN : X.N[i]? = some x) (hx : okN x = true) (hv : visB X.env.scope x = true) (hc : nComp e = true) (hs : nSlice kx = true) (hk : chkE X.N fnm X.env.scope k kx = true) (he : chkE X.N fnm X.env.scope v e = true) :
    PS X (.Assign [.Subscript (.Name x xp) kx q] e pos) (tS X.K Γ (.put i k v)) := by
  refine impS (ps_asg (soundE hS v B he) (pg_sub (pe_var hN (vis_of hv) (okN_d hx) (okN_c hx)) (soundE hS k B hk) (setAny (by have := B.hu; omega)) (by intro z; cases kx <;> first | rfl | cases hs)) (by cases e <;> first | rfl | cases hc) (by cases e <;> rfl)) fun Ds σ H ⟨S, O, Hb, Vb, OA, ρ, dn, N, w, l⟩ => ⟨S, O, OA, ρ, false, N.env, wpE_mono Γ v false ρ _ _ (fun y w2 vy H1 e1 s1 iy => ?_) w⟩
  have N1 := N.ev e1 s1
  rcases w2 with ⟨ks, ds, hr, hz, w2⟩ | ⟨ds, hr, w2⟩
  · obtain ⟨a, kvs, g1, g2, g3, g4, g5⟩ := own_dic N1.env hr
    refine ⟨.ref a, g1, S, O, OA, ρ, false, N1.env, wpE_mono Γ k false ρ _ _ (fun z ⟨n, ez, q⟩ vz H2 e2 s2 iz => ?_) w2⟩
    subst ez
    obtain rfl := is_int.mp iz
    have N2 := N1.ev e2 s2
    have nS : a ≠ S.d := fun z => N.env.out (List.mem_append_left _ (z ▸ g2))
    have g3' := e2 _ _ nS g3
    have hl : kvs.length = ks.length := by simpa using congrArg List.length g4
    obtain ⟨p1, p2⟩ := dput_is (i := n) (Is.mono (e2.hide (vw false OA O)) _ _ iy) g4 (IsL.mono (e2.hide (OA ++ O)) _ _ g5)
    exact .inr ⟨a, _, rfl, .inl ⟨kvs, .inl n, g3', rfl, by omega, rfl⟩, l.nx _ _ _ _ (N2.chng hr g1 g2 (.inr ⟨_, _, _, rfl, upd_same, p1, p2⟩)) q⟩
  · obtain ⟨a, xs, g1, g2, g3, g4⟩ := own_lst N1.env hr
    refine ⟨.ref a, g1, S, O, OA, ρ, false, N1.env, wpE_mono Γ k false ρ _ _ (fun z ⟨n, j, ez, ej, q⟩ vz H2 e2 s2 iz => ?_) w2⟩
    subst ez
    obtain rfl := is_int.mp iz
    have N2 := N1.ev e2 s2
    have nS : a ≠ S.d := fun z => N.env.out (List.mem_append_left _ (z ▸ g2))
    have g3' := e2 _ _ nS g3
    exact .inl ⟨a, xs, n, j, rfl, rfl, g3', by rw [g4.len]; exact ej, l.nx _ _ _ _ (N2.chng hr g1 g2 (.inl ⟨_, _, rfl, upd_same, (IsL.mono (e2.hide (OA ++ O)) _ _ g4).set j (Is.mono (e2.hide (vw false OA O)) _ _ iy)⟩)) q⟩
theorem s_app (hS : SsetOk) (B : Bs Γ fnm lv X) {i : Nat} {t : E} {x m : Str} {xp ap p q : Pos} {e : Expr} (hm : ("append" : Str) = m) (hl : ap.endLine = p.line) (hN : X.N[i]? = some x) (hx : okN x = true) (hv : visB X.env.scope x = true) (hn : nStar e = true) (he : chkE X.N fnm X.env.scope t e = true) :
    PS X (.Expr (.Call (.Attribute (.Name x xp) m ap) [e] [] p) q) (tS X.K Γ (.app i t)) := by
  subst hm
  have hst : starEach [e] X.env = [(false, eval e X.env)] := star_ne hn
  refine impS (ps_expr (pe_bm PySem.F.plainAttrs_list PySem.F.slot_list_append PySem.F.type_list_append mt_append (pe_var hN (vis_of hv) (okN_d hx) (okN_c hx)) (args1 hn (soundE hS t B he)) rfl (by rw [hst]; rfl) (by rw [hl]; exact beq_self_eq_true _) (star_ne hn) rfl) rfl) fun Ds σ H ⟨S, O, Hb, Vb, OA, ρ, dn, N, ⟨ds, hr, hz, w⟩, l⟩ => ?_
  obtain ⟨a, xs, g1, g2, g3, g4⟩ := own_lst N.env hr
  refine ⟨.ref a, g1, .inl ⟨rfl, xs, .inl (.inl g3)⟩, S, O, OA, ρ, false, N.env, wpE_mono Γ t false ρ _ _ (fun y q vy H1 e1 s1 iy => ?_) w⟩
  have N1 := N.ev e1 s1
  have nS : a ≠ S.d := fun z => N.env.out (List.mem_append_left _ (z ▸ g2))
  exact ⟨a, xs, vy, rfl, rfl, e1 _ _ nS g3, by rw [g4.len]; exact hz, l.nx _ _ _ _ (N1.chng hr g1 g2 (.inl ⟨_, _, rfl, upd_same, (IsL.mono (e1.hide (OA ++ O)) _ _ g4).snoc iy⟩)) q⟩
/-! ### a, b = x, y -/
def tV (K : PySem.W.Frag) (Γ : Nat → Spec) (o : Bool) (t : E) : TE := if o = true then tF K Γ t else tD K Γ t
theorem soundV (hS : SsetOk) (B : Bs Γ fnm lv X) {o : Bool} {t : E} {e : Expr} (hf : (!o || frE t) = true) (h : chkE X.N fnm X.env.scope t e = true) : PE X e (tV X.K Γ o t) := by
  unfold tV
  cases o with
  | true => rw [if_pos rfl]; exact soundF hS B hf h
  | false => rw [if_neg Bool.false_ne_true]; exact soundE hS t B h
/-- what such a value is -/
def Val (K : PySem.W.Frag) (S : Sr) (O OA : List Addr) (H : Hp) (σ : L2.St) (ρ : Rho) (o : Bool) (d : D) (v : L2.V) : Prop :=
  (o = false ∧ Is K S (hide (OA ++ O) H) d v) ∨ (o = true ∧ ∃ p, v = .ref p ∧ p ∈ OA ∧ IsO K S (hide (OA ++ O) H) H d p ∧ NoRef σ ρ p)
theorem rdV {S : Sr} {O OA Vb : List Addr} {Hb H : Hp} {σ : L2.St} {ρ : Rho} (N : Now X.K S O Hb Vb OA H σ ρ) {o : Bool} {t : E} {F : D → Prop} {R : L2.V → Hp → Prop} (w : wpE Γ t false ρ F) (h : ∀ d v H1 OA1, F d → (o = true → isLD d = true) → Now X.K S O Hb Vb OA1 H1 σ ρ → (∀ a ∈ OA, a ∈ OA1) → (∀ a ∈ OA1, a ∈ OA ∨ H a = none) → Ext S H H1 → Val X.K S O OA1 H1 σ ρ o d v → (o = true → ∃ p, v = .ref p ∧ H p = none) → R v H1) : tV X.K Γ o t σ H R := by
  unfold tV
  cases o with
  | true =>
    rw [if_pos rfl]
    exact ⟨S, O, OA, ρ, N.env, wpE_mono Γ t false ρ _ _ (fun d f ld p H1 hp e1 s1 io => by
      obtain ⟨N1, io1⟩ := N.grow hp e1 s1 io
      exact h d _ H1 _ f (fun _ => ld) N1 (fun a ha => List.mem_cons_of_mem _ ha) (fun a ha => by
        rcases List.mem_cons.mp ha with q | q
        · rw [q]; exact .inr hp
        · exact .inl q) e1 (.inr ⟨rfl, p, rfl, List.mem_cons_self .., io1, N.env.noref hp⟩) fun _ => ⟨p, rfl, hp⟩) w⟩
  | false =>
    rw [if_neg Bool.false_ne_true]
    exact ⟨S, O, OA, ρ, false, N.env, wpE_mono Γ t false ρ _ _ (fun d f v H1 e1 s1 i => h d v H1 OA f (fun z => nomatch z) (N.ev e1 s1) (fun a ha => ha) (fun a ha => .inl ha) e1 (.inl ⟨rfl, i⟩) fun z => nomatch z) w⟩
theorem Val.set {K : PySem.W.Frag} {S : Sr} {O OA : List Addr} {H : Hp} {σ : L2.St} {ρ : Rho} {o : Bool} {d : D} {v : L2.V} {i : Nat} (E : EnvR K S O OA H σ ρ) (h : Val K S O OA H σ ρ o d v) : EnvR K S O OA H (σ.set i (some v)) (ρ.set i (some (o, d))) := by
  rcases h with ⟨rfl, h⟩ | ⟨rfl, p, rfl, h1, h2, h3⟩
  · exact E.set h
  · exact E.name h1 h2 h3
end
end Fy
end
section
/-! FyQ6 -/
namespace Fy
open PySem PySem.Spec PyProof.Rows L2
theorem swYes {env : Env} (hk : env.scope.kind = .function) {x y : Str} {px py q q2 : Pos} {k k2 : Nat} {u v : Expr} (hx : env.scope.names.lookup x = some .local) (hy : env.scope.names.lookup y = some .local) (hl : (py.line == px.line) = true) (ne : x ≠ y) (hu : nStar u = true) (hv : nStar v = true)
    (h1 : (foldedForSure 8 u && foldedForSure 8 v) = false) (h2 : (constantsAlone 8 u && constantsAlone 8 v) = false) : swappedStores [.Tuple [.Name x px, .Name y py] k q] (.Tuple [u, v] k2 q2) env = pure (some [x, y]) := by
  have kx : env.kindOf x = some .local := hx
  have ky : env.kindOf y = some .local := hy
  have bf := blkFn hk
  have g1 : [u, v].all (foldedForSure 8) = false := by simpa [List.all] using h1
  have g2 : [u, v].all (constantsAlone 8) = false := by simpa [List.all] using h2
  have ed : [x, y].eraseDups = [x, y] := by
    have hb : (y == x) = false := beq_eq_false_iff_ne.mpr (Ne.symm ne)
    simp [List.eraseDups_cons, hb]
  have kxb : (env.kindOf x == some NameKind.local) = true := by rw [kx]; rfl
  have kyb : (env.kindOf y == some NameKind.local) = true := by rw [ky]; rfl
  have pxb : (px.line == px.line) = true := beq_self_eq_true _
  unfold swappedStores
  simp only [bf, kxb, kyb, hl, pxb, List.filterMap, List.head?, Option.map, Option.getD, Expr.pos, Bool.and_true, if_true]
  refine (if_neg (by exact Bool.false_ne_true)).trans ?_
  refine (if_neg fun z => ?_).trans ?_
  · simp only [List.any_cons, List.any_nil, Bool.or_false, Bool.or_eq_true] at z
    rcases z with z | z
    · cases u <;> first | exact absurd z Bool.false_ne_true | exact absurd hu Bool.false_ne_true
    · cases v <;> first | exact absurd z Bool.false_ne_true | exact absurd hv Bool.false_ne_true
  · rw [ed]
    refine (if_neg ?_).trans ?_
    · show ¬ ((([x, y].length != 2) || ([x, y].length != [x, y].length)) = true)
      exact Bool.false_ne_true
    · rw [g1, g2]
      rfl
theorem swNo {env : Env} (hk : env.scope.kind = .function) {x y : Str} {px py q q2 : Pos} {k k2 : Nat} {u v : Expr} (h : swp env.scope x y px py = false) : swappedStores [.Tuple [.Name x px, .Name y py] k q] (.Tuple [u, v] k2 q2) env = pure none := by
  unfold swappedStores
  have h : ((env.kindOf x == some .local) && (env.kindOf y == some .local) && (py.line == px.line)) = false := h
  have pxb : (px.line == px.line) = true := beq_self_eq_true _
  simp only [blkFn hk, List.filterMap, List.head?, Option.map, Option.getD, Expr.pos, pxb, Bool.and_true]
  refine (if_neg (by exact Bool.false_ne_true)).trans ?_
  split
  · rfl
  · refine if_pos ?_
    rcases Bool.eq_false_or_eq_true (env.kindOf x == some NameKind.local) with h1 | h1 <;> rcases Bool.eq_false_or_eq_true (env.kindOf y == some NameKind.local) with h2 | h2 <;> rcases Bool.eq_false_or_eq_true (py.line == px.line) with h3 | h3 <;> rw [h1, h2, h3] at h <;> first | exact absurd h (by decide) | (simp only [h1, h2, h3]; rfl)

section
variable {K : PySem.W.Frag} {S : Sr} {O OA OA1 : List Addr} {H H1 : Hp} {σ : L2.St} {ρ : Rho}
theorem ext_grow {V V1 : List Addr} (e : Ext S H H1) (h : ∀ a ∈ V1, a ∈ V ∨ H a = none) : Ext S (hide V H) (hide V1 H1) := fun a o n g => by
  obtain ⟨g1, g2⟩ := hide_some g
  have : a ∉ V1 := fun z => by
    rcases h a z with q | q
    · exact g1 q
    · rw [q] at g2; cases g2
  rw [hide_out this]; exact e a o n g2
theorem Val.mono {o : Bool} {d : D} {v : L2.V} (E : EnvR K S O OA H σ ρ) (h : Val K S O OA H σ ρ o d v) (e : Ext S H H1) (s1 : ∀ a ∈ OA, a ∈ OA1) (s2 : ∀ a ∈ OA1, a ∈ OA ∨ H a = none) : Val K S O OA1 H1 σ ρ o d v := by
  have g : Ext S (hide (OA ++ O) H) (hide (OA1 ++ O) H1) := ext_grow e fun a ha => by
    rcases List.mem_append.mp ha with q | q
    · rcases s2 a q with r | r
      · exact .inl (List.mem_append_left _ r)
      · exact .inr r
    · exact .inl (List.mem_append_right _ q)
  rcases h with ⟨rfl, h⟩ | ⟨rfl, p, rfl, h1, h2, h3⟩
  · exact .inl ⟨rfl, Is.mono g _ _ h⟩
  · have nS : p ≠ S.d := fun z => E.out (List.mem_append_left _ (z ▸ h1))
    exact .inr ⟨rfl, p, rfl, s1 p h1, IsO.mono g (ext_same e nS (E.there p (List.mem_append_left _ h1))) h2, h3⟩
/-- the second, once the first has its name -/
theorem Val.later {o o2 : Bool} {d d2 : D} {v w : L2.V} {i : Nat} (h : Val K S O OA H σ ρ o2 d2 w) (g : Val K S O OA H σ ρ o d v) (ne : ∀ p, o2 = true → w = .ref p → o = true → v ≠ .ref p) : Val K S O OA H (σ.set i (some v)) (ρ.set i (some (o, d))) o2 d2 w := by
  rcases h with ⟨e, h⟩ | ⟨e, p, rfl, h1, h2, h3⟩
  · exact .inl ⟨e, h⟩
  · refine .inr ⟨e, p, rfl, h1, h2, fun j dd hj z => ?_⟩
    by_cases q : i = j
    · subst q
      rw [List.getElem?_set] at hj z
      simp only [if_true] at hj z
      split at hj
      · cases hj
        split at z
        · cases z
          exact ne p e rfl rfl rfl
        · cases z
      · cases hj
    · rw [List.getElem?_set_ne q] at hj z
      exact h3 j dd hj z
end
section
variable {X : Cx} {Γ : Nat → Spec} {fnm : List Str} {lv : Nat}
theorem s_par (hS : SsetOk) (B : Bs Γ fnm lv X) (F : Fx X) {i j : Nat} {oi oj : Bool} {a b : E} {x y : Str} {px py q q2 pos : Pos} {k k2 : Nat} {u v : Expr} (hx : nmB X.N X.env.scope i x = true) (hy : nmB X.N X.env.scope j y = true) (ij : i ≠ j) (hu : nStar u = true) (hv : nStar v = true) (fa : (!oi || frE a) = true) (fb : (!oj || frE b) = true)
    (hw : (if swp X.env.scope x y px py = true then !(foldedForSure 8 u && foldedForSure 8 v) && !(constantsAlone 8 u && constantsAlone 8 v) else !oi && !oj) = true) (ha : chkE X.N fnm X.env.scope a u = true) (hb : chkE X.N fnm X.env.scope b v = true) :
    PS X (.Assign [.Tuple [.Name x px, .Name y py] k q] (.Tuple [u, v] k2 q2) pos) (tS X.K Γ (.par i j oi oj a b)) := by
  obtain ⟨nx, lx⟩ := nmB_ok hx
  obtain ⟨ny, ly⟩ := nmB_ok hy
  cases hsw : swp X.env.scope x y px py with
  | true =>
    rw [hsw, if_pos rfl] at hw
    obtain ⟨w1, w2⟩ := b2 hw
    obtain ⟨z1, z2⟩ := b2 hsw
    obtain ⟨z3, z4⟩ := b2 z1
    have loc : ∀ {z : Str}, (X.env.scope.names.lookup z == some NameKind.local) = true → X.env.scope.names.lookup z = some .local := fun {z} h1 => by
      cases g : X.env.scope.names.lookup z with
      | none => rw [g] at h1; cases h1
      | some kk => rw [g] at h1; cases kk <;> first | rfl | cases h1
    have ne : x ≠ y := fun e => by
      subst e
      obtain ⟨g1, g2⟩ := List.getElem?_eq_some_iff.mp nx
      obtain ⟨g3, g4⟩ := List.getElem?_eq_some_iff.mp ny
      exact ij ((List.getElem_inj B.nd).mp (g2.trans g4.symm))
    refine impS (ps_par B.calm B.nd nx ny ij (loc z3) (loc z4) (pa_cons (soundV hS B fa ha) (pa_cons (soundV hS B fb hb) pa_nil (star_ne hv)) (star_ne hu)) (swYes F.kind (loc z3) (loc z4) z2 ne hu hv (bn w1) (bn w2)) rfl) fun Ds σ H ⟨S, O, Hb, Vb, OA, ρ, dn, N, w, l⟩ => ?_
    refine rdV N w fun d1 v1 H1 OA1 f1 l1 N1 s1 t1 e1 g1 r1 => rdV N1 f1 fun d2 v2 H2 OA2 f2 l2 N2 s2 t2 e2 g2 r2 => ⟨v1, v2, rfl, ?_⟩
    have h1 := Val.mono N1.env g1 e2 s2 t2
    have E3 := h1.set (i := i) N2.env
    have h2 := Val.later (i := i) g2 h1 fun p eo ep eo1 z => by
      obtain ⟨p2, ep2, hp2⟩ := r2 eo
      rw [ep] at ep2; cases ep2
      rcases g1 with ⟨z1, _⟩ | ⟨_, p1, ep1, m1, _⟩
      · rw [z1] at eo1; cases eo1
      · rw [z] at ep1; cases ep1
        exact N1.env.there _ (List.mem_append_left _ m1) hp2
    exact l.nx _ _ _ _ (N2.re (h2.set (i := j) E3)) (f2.2.2)
  | false =>
    rw [hsw, if_neg Bool.false_ne_true] at hw
    obtain ⟨w1, w2⟩ := b2 hw
    have e1 : oi = false := by simpa using w1
    have e2 : oj = false := by simpa using w2
    subst e1 e2
    have hn : chkTg X.N X.env.scope false (.tup [i, j]) (.Tuple [.Name x px, .Name y py] k q) = true := by
      show (nmB X.N X.env.scope i x && (nmB X.N X.env.scope j y && true)) = true
      rw [hx, hy]; rfl
    refine impS (ps_asg (pd_tup (pl_cons hu (soundE hS a B ha) (pl_cons hv (soundE hS b B hb) pl_nil))) (pgD B.calm B.nd (locF F) hn) rfl (swNo F.kind hsw)) fun Ds σ H ⟨S, O, Hb, Vb, OA, ρ, dn, N, w, l⟩ => ⟨S, O, OA, ρ, false, N.env, ?_⟩
    show wpE Γ a false ρ fun d => wpE Γ b false ρ fun d2 => _
    refine wpE_mono Γ a false ρ _ _ (fun d1 f1 => wpE_mono Γ b false ρ _ _ (fun d2 f2 => ⟨by show 2 ≤ sizeLine; decide, fun vv H1 e1 s1 iv => ?_⟩) f1) w
    exact ⟨S, O, OA, ρ, _, N.env.ext e1 s1, iv, rfl, fun σ' E' _ _ => l.nx _ _ _ _ ((N.ev e1 s1).re E') f2.2.2⟩
/-! ### match -/
def Cases (X : Cx) (Γ : Nat → Spec) (cs : ML) (ms : List MatchCase) : Prop := ∀ (first : Bool) (pins : List (Addr × Obj)) (s : Shared) (σ : L2.St) (H : Hp) (z : Str) (u : Value) (Ds : Ends) (S : Sr) (O : List Addr) (Hb : Hp) (Vb OA : List Addr) (ρ : Rho) (dn : Dn), Inv X pins σ H s → RelV (.str z) u → Now X.K S O Hb Vb OA H σ ρ → wpM Γ cs z dn ρ → Lk X.K S O Hb Vb dn Ds →
  wpAny (model X.prog X.w) X.A (matchCases ms X.env u first) (SP X pins Ds) X.xe s
theorem m_nil : Cases X Γ .nil [] := fun first pins s σ H z u Ds S O Hb Vb OA ρ dn I r N w l => wpAny_matchCases_nil ⟨σ, H, I, l.nx _ _ _ _ N w⟩
/-- a written text fits or not -/
theorem m_lit (B : Bs Γ fnm lv X) {x : Str} {j : Nat} {p p2 : Pos} {pins : List (Addr × Obj)} {s : Shared} {σ : L2.St} {H : Hp} {z : Str} {u : Value} {S : Sr} {O OA : List Addr} {ρ : Rho} (I : Inv X pins σ H s) (r : RelV (.str z) u) (E : EnvR X.K S O OA H σ ρ) {Q : Option (List (Str × Value)) → Shared → Prop}
    (h : ∀ s' H', Inv X pins σ H' s' → Ext S H H' → SrcOk S H' → if z = x then Q (some []) s' else Q none s') : wpAny (model X.prog X.w) X.A (matchPattern (.MatchValue (.Constant (.str x) j p) p2) X.env u) Q X.xe s := by
  refine wpAny_matchPattern_Value (thn (pe_str.run pins s σ H (fun v H1 => v = .str x ∧ H1 = H) I ⟨rfl, rfl⟩) fun w s1 ⟨v, H1, I1, rv, ev, eH⟩ => ?_)
  subst ev eH
  have w : cmpW .eq (.str z) (.str x) fun c => Wit X.K S (OA ++ O) H1 (fun v H2 => ∃ c, v = .bl c ∧ (c = decide (z = x)) ∧ Ext S H1 H2 ∧ SrcOk S H2) (.bl c) := ⟨.inl rfl, fun v H2 e s i => ⟨_, is_bl.mp i, by
    show (z == x) = decide (z = x)
    by_cases q : z = x
    · rw [decide_eq_true q, q]; exact beq_self_eq_true x
    · rw [decide_eq_false q]; exact beq_eq_false_iff_ne.mpr q, e, s⟩⟩
  refine thn (orCmp B.hu (o := .eq) (op := .Eq) rfl pins s1 σ H1 (.str z) (.str x) u _ _ I1 r rv ⟨S, OA ++ O, .str z, .str x, E.at false, is_str.mpr rfl, is_str.mpr rfl, w⟩) fun c s2 ⟨v, H2, I2, rc, b, ev, eb, e, sk⟩ => ?_
  subst ev
  obtain rfl : c = Value.bool b := rc
  refine wpAny_truthy_bool ?_
  have := h s2 H2 I2 e sk
  by_cases q : z = x
  · rw [if_pos q] at this
    rw [eb, decide_eq_true q]; exact this
  · rw [if_neg q] at this
    rw [eb, decide_eq_false q]; exact this
theorem m_alt (B : Bs Γ fnm lv X) : ∀ {xs : List Str} {ps : List Pattern}, chkPs xs ps = true → ∀ {pins : List (Addr × Obj)} {s : Shared} {σ : L2.St} {H : Hp} {z : Str} {u : Value} {S : Sr} {O OA : List Addr} {ρ : Rho} (I : Inv X pins σ H s) (r : RelV (.str z) u) (E : EnvR X.K S O OA H σ ρ) {Q : Option (List (Str × Value)) → Shared → Prop}
    (h : ∀ s' H', Inv X pins σ H' s' → Ext S H H' → SrcOk S H' → if z ∈ xs then Q (some []) s' else Q none s'), wpAny (model X.prog X.w) X.A (matchFirst ps X.env u) Q X.xe s
  | [], [], _, pins, s, σ, H, z, u, S, O, OA, ρ, I, r, E, Q, h => wpAny_matchFirst_nil (by have := h s H I Ext.refl E.src; simpa using this)
  | [], _ :: _, c, _, _, _, _, _, _, _, _, _, _, _, _, _, _, _ => absurd c Bool.false_ne_true
  | _ :: _, [], c, _, _, _, _, _, _, _, _, _, _, _, _, _, _, _ => absurd c Bool.false_ne_true
  | x :: xs, p :: ps, c, pins, s, σ, H, z, u, S, O, OA, ρ, I, r, E, Q, h => by
    match p, c with
    | .MatchValue (.Constant (.str y) j p0) p2, c =>
      obtain ⟨c1, c2⟩ := b2 c
      obtain rfl := of_decide_eq_true c1
      refine wpAny_matchFirst_cons (m_lit B I r E fun s' H' I' e s0 => ?_)
      by_cases q : z = x
      · rw [if_pos q]
        have := h s' H' I' e s0
        rwa [if_pos (by rw [q]; exact List.mem_cons_self ..)] at this
      · rw [if_neg q]
        refine m_alt B c2 I' r (E.ext e s0) fun s2 H2 I2 e2 s3 => ?_
        have := h s2 H2 I2 (e.trans e2) s3
        by_cases q2 : z ∈ xs
        · rw [if_pos q2]; rwa [if_pos (List.mem_cons_of_mem _ q2)] at this
        · rw [if_neg q2]; rwa [if_neg (fun w => by rcases List.mem_cons.mp w with w | w; exact q w; exact q2 w)] at this
theorem ps_names : ∀ {xs : List Str} {ps : List Pattern}, chkPs xs ps = true → namesOfAll (ps.take 1) = []
  | [], [], _ => rfl
  | [], _ :: _, c => absurd c Bool.false_ne_true
  | _ :: _, [], c => absurd c Bool.false_ne_true
  | x :: xs, p :: ps, c => by
    match p, c with
    | .MatchValue (.Constant (.str y) j p0) p2, c => rfl
/-- a pattern -/
theorem m_pat (B : Bs Γ fnm lv X) (F : Fx X) {pt : Pat} {p : Pattern} (c : chkP X.N X.env.scope pt p = true) {pins : List (Addr × Obj)} {s : Shared} {σ : L2.St} {H : Hp} {z : Str} {u : Value} {S : Sr} {O Vb OA : List Addr} {Hb : Hp} {ρ : Rho} (I : Inv X pins σ H s) (r : RelV (.str z) u) (N : Now X.K S O Hb Vb OA H σ ρ) {Q : Option (List (Str × Value)) → Shared → Prop}
    (hn : patW pt z ρ = none → ∀ s' H', Inv X pins σ H' s' → Now X.K S O Hb Vb OA H' σ ρ → Q none s')
    (hs : ∀ ρ', patW pt z ρ = some ρ' → ∀ s' H' bs, Inv X pins σ H' s' → Now X.K S O Hb Vb OA H' σ ρ → (∀ Q', (∀ s2 σ2, Inv X pins σ2 H' s2 → Now X.K S O Hb Vb OA H' σ2 ρ' → Q' () s2) → wpAny (model X.prog X.w) X.A (assignInOrder (bs.map fun (n, _) => bindName X.env n) (bs.map (·.2))) Q' X.xe s') → Q (some bs) s') :
    wpAny (model X.prog X.w) X.A (matchPattern p X.env u) Q X.xe s := by
  cases pt with
  | lit x =>
    match p, c with
    | .MatchValue (.Constant (.str y) j p0) p2, c =>
      obtain rfl := of_decide_eq_true c
      refine m_lit B I r N.env fun s' H' I' e s0 => ?_
      have N' := N.ev e s0
      by_cases q : z = x
      · rw [if_pos q]
        exact hs ρ (if_pos q) s' H' [] I' N' fun Q' h => wpAny_assignInOrder_none (h s' σ I' N')
      · rw [if_neg q]
        exact hn (if_neg q) s' H' I' N'
  | alt xs =>
    match p, c with
    | .MatchOr ps p2, c =>
      refine wpAny_matchPattern_Or (m_alt B c I r N.env fun s' H' I' e s0 => ?_)
      have N' := N.ev e s0
      by_cases q : z ∈ xs
      · rw [if_pos q]
        show Q (some ((namesOfAll (ps.take 1)).filterMap _)) s'
        rw [ps_names c]
        exact hs ρ (if_pos q) s' H' [] I' N' fun Q' h => wpAny_assignInOrder_none (h s' σ I' N')
      · rw [if_neg q]
        exact hn (if_neg q) s' H' I' N'
  | cap i =>
    match p, c with
    | .MatchAs none (some x) p2, c =>
      obtain ⟨nx, lx⟩ := nmB_ok c
      exact wpAny_matchPattern_Capture (hs _ rfl s H [(x, u)] I N fun Q' h => wpAny_assignInOrder_more (wpAny_bindName (store_ok I B.nd nx lx r (fun s' I' => wpAny_assignInOrder_none (h s' _ I' (N.re (N.env.set (is_str.mpr rfl))))) (.inl (F.fn x)))))
  | wild =>
    match p, c with
    | .MatchAs none none p2, c =>
      exact wpAny_matchPattern_Capture (hs ρ rfl s H [] I N fun Q' h => wpAny_assignInOrder_none (h s σ I N))
theorem m_cons (B : Bs Γ fnm lv X) (F : Fx X) {pt : Pat} {p : Pattern} {b : SL} {r : ML} {body : List Stmt} {ms : List MatchCase} (c : chkP X.N X.env.scope pt p = true) (hb : PSs X body (tSL X.K Γ b)) (hr : Cases X Γ r ms) : Cases X Γ (.cons pt b r) (⟨p, none, body⟩ :: ms) := fun first pins s σ H z u Ds S O Hb Vb OA ρ dn I rr N w l => by
  refine wpAny_matchCases_cons (m_pat B F c I rr N (fun e s' H' I' N' => ?_) fun ρ' e s' H' bs I' N' h => ?_)
  · have w : (match patW pt z ρ with | some ρ' => wpSL Γ b dn ρ' | none => wpM Γ r z dn ρ) := w
    rw [e] at w
    exact hr false pins s' σ H' z u Ds S O Hb Vb OA ρ dn I' rr N' w l
  · have w : (match patW pt z ρ with | some ρ' => wpSL Γ b dn ρ' | none => wpM Γ r z dn ρ) := w
    rw [e] at w
    exact h _ fun s2 σ2 I2 N2 => hb.run pins s2 σ2 H' Ds I2 ⟨S, O, Hb, Vb, OA, ρ', dn, N2, w, l⟩
theorem s_mtch (hS : SsetOk) (B : Bs Γ fnm lv X) {t : E} {cs : ML} {e : Expr} {ms : List MatchCase} {pos : Pos} (h : chkE X.N fnm X.env.scope t e = true) (hc : Cases X Γ cs ms) : PS X (.Match e ms pos) (tS X.K Γ (.mtch t cs)) :=
  ⟨fun pins s σ H Ds I ⟨S, O, Hb, Vb, OA, ρ, dn, N, w, l⟩ => wpAny_Match (thn ((soundE hS t B h).run pins s σ H (fun v H1 => ∃ z, v = .str z ∧ Ext S H H1 ∧ SrcOk S H1 ∧ wpM Γ cs z dn ρ) I ⟨S, O, OA, ρ, false, N.env, wpE_mono Γ t false ρ _ _ (fun d ⟨z, ed, q⟩ v H1 e1 s1 i => by
    subst ed
    exact ⟨z, is_str.mp i, e1, s1, q⟩) w⟩) fun u s1 ⟨v, H1, I1, rv, z, ev, e1, sk, q⟩ => by
    subst ev
    exact hc true pins s1 σ H1 z u Ds S O Hb Vb OA ρ dn I1 rv (N.ev e1 sk) q l)⟩
end
end Fy
end
section
/-! FyQ7 -/
namespace Fy
open PySem PySem.Spec PyProof.Rows L2
section
variable {N fnm : List Str} {sc : Scope} {st : Stmt}
theorem iv_asg {i : Nat} {t : E} (h : chkS N fnm sc (.asg i t) st = true) : ∃ x px e p, st = .Assign [.Name x px] e p ∧ (nmB N sc i x && ((nComp e || isComp t) && chkE N fnm sc t e)) = true := by
  cases st with
  | Assign ts e p =>
    obtain ⟨t, rfl, h⟩ := one_ok h
    obtain ⟨x, px, rfl, h⟩ := onNm_ok h
    exact ⟨x, px, e, p, rfl, h⟩
  | _ => exact absurd h Bool.false_ne_true
theorem iv_own {i : Nat} {t : E} (h : chkS N fnm sc (.own i t) st = true) : ∃ x px e p, st = .Assign [.Name x px] e p ∧ (nmB N sc i x && (frE t && chkE N fnm sc t e)) = true := by
  cases st with
  | Assign ts e p =>
    obtain ⟨t, rfl, h⟩ := one_ok h
    obtain ⟨x, px, rfl, h⟩ := onNm_ok h
    exact ⟨x, px, e, p, rfl, h⟩
  | _ => exact absurd h Bool.false_ne_true
theorem iv_unp {is : List Nat} {t : E} (h : chkS N fnm sc (.unp is t) st = true) : ∃ ts k q e p, st = .Assign [.Tuple ts k q] e p ∧ (nComp e && (nTup e && (chkNames N sc false is ts && chkE N fnm sc t e))) = true := by
  cases st with
  | Assign ts e p =>
    obtain ⟨t, rfl, h⟩ := one_ok h
    obtain ⟨us, k, q, rfl, h⟩ := onTp_ok h
    exact ⟨us, k, q, e, p, rfl, h⟩
  | _ => exact absurd h Bool.false_ne_true
theorem iv_put {i : Nat} {k v : E} (h : chkS N fnm sc (.put i k v) st = true) : ∃ x xp kx q e p, st = .Assign [.Subscript (.Name x xp) kx q] e p ∧ (decide (N[i]? = some x) && (okN x && visB sc x) && (nComp e && (nSlice kx && (chkE N fnm sc k kx && chkE N fnm sc v e)))) = true := by
  cases st with
  | Assign ts e p =>
    obtain ⟨t, rfl, h⟩ := one_ok h
    obtain ⟨o, kx, q, rfl, h⟩ := onSb_ok h
    obtain ⟨x, xp, rfl, h⟩ := onNm_ok h
    exact ⟨x, xp, kx, q, e, p, rfl, h⟩
  | _ => exact absurd h Bool.false_ne_true
theorem iv_par {i j : Nat} {oi oj : Bool} {a b : E} (h : chkS N fnm sc (.par i j oi oj a b) st = true) : ∃ x px y py k q u v k2 q2 p, st = .Assign [.Tuple [.Name x px, .Name y py] k q] (.Tuple [u, v] k2 q2) p ∧ (nmB N sc i x && (nmB N sc j y && (decide (i ≠ j) && ((nStar u && nStar v) && ((!oi || frE a) && (!oj || frE b) && ((if swp sc x y px py = true then !(foldedForSure 8 u && foldedForSure 8 v) && !(constantsAlone 8 u && constantsAlone 8 v) else !oi && !oj) && (chkE N fnm sc a u && chkE N fnm sc b v))))))) = true := by
  cases st with
  | Assign ts e p =>
    obtain ⟨t, rfl, h⟩ := one_ok h
    obtain ⟨us, k, q, rfl, h⟩ := onTp_ok h
    obtain ⟨t1, t2, rfl, h⟩ := two_ok h
    obtain ⟨x, px, rfl, h⟩ := onNm_ok h
    obtain ⟨y, py, rfl, h⟩ := onNm_ok h
    obtain ⟨vs, k2, q2, rfl, h⟩ := onTp_ok h
    obtain ⟨u, v, rfl, h⟩ := two_ok h
    exact ⟨x, px, y, py, k, q, u, v, k2, q2, p, rfl, h⟩
  | _ => exact absurd h Bool.false_ne_true
theorem iv_ret {t : E} (h : chkS N fnm sc (.ret t) st = true) : ∃ e p, st = .Return (some e) p ∧ chkE N fnm sc t e = true := by
  cases st with
  | Return o p =>
    cases o with
    | some e => exact ⟨e, p, rfl, h⟩
    | none => exact absurd h Bool.false_ne_true
  | _ => exact absurd h Bool.false_ne_true
theorem iv_ite {c : E} {a b : SL} (h : chkS N fnm sc (.ite c a b) st = true) : ∃ e xs ys p, st = .If e xs ys p ∧ (chkE N fnm sc c e && (chkSL N fnm sc a xs && chkSL N fnm sc b ys)) = true := by
  cases st with
  | If e xs ys p => exact ⟨e, xs, ys, p, rfl, h⟩
  | _ => exact absurd h Bool.false_ne_true
theorem iv_for {tg : Tg} {it : Fy.It} {b : SL} (h : chkS N fnm sc (.for tg it b) st = true) : ∃ t i body p, st = .For t i body [] p ∧ (nSet i && (chkTg N sc false tg t && (chkI N fnm sc it i t && chkSL N fnm sc b body))) = true := by
  cases st with
  | For t i body o p =>
    cases o with
    | nil => exact ⟨t, i, body, p, rfl, h⟩
    | cons _ _ => exact absurd h Bool.false_ne_true
  | _ => exact absurd h Bool.false_ne_true
theorem iv_drp {t : E} (h : chkS N fnm sc (.drp t) st = true) : ∃ v q, st = .Expr v q ∧ (nComp v && chkE N fnm sc t v) = true := by
  cases st with
  | Expr v q => exact ⟨v, q, rfl, h⟩
  | _ => exact absurd h Bool.false_ne_true
theorem iv_brk (h : chkS N fnm sc .brk st = true) : ∃ p, st = .Break p := by
  cases st with
  | Break p => exact ⟨p, rfl⟩
  | _ => exact absurd h Bool.false_ne_true
theorem iv_mtch {t : E} {cs : ML} (h : chkS N fnm sc (.mtch t cs) st = true) : ∃ e ms p, st = .Match e ms p ∧ (chkE N fnm sc t e && chkM N fnm sc cs ms) = true := by
  cases st with
  | Match e ms p => exact ⟨e, ms, p, rfl, h⟩
  | _ => exact absurd h Bool.false_ne_true
theorem iv_app {i : Nat} {t : E} (h : chkS N fnm sc (.app i t) st = true) : ∃ x xp m ap e p q, st = .Expr (.Call (.Attribute (.Name x xp) m ap) [e] [] p) q ∧ (decide (("append" : Str) = m) && (decide (ap.endLine = p.line) && (decide (N[i]? = some x) && (okN x && visB sc x) && (nStar e && chkE N fnm sc t e)))) = true := by
  cases st with
  | Expr v q =>
    cases v with
    | Call fe as ks p =>
      cases fe with
      | Attribute o m ap =>
        cases o with
        | Name x xp =>
          cases as with
          | nil => exact absurd h Bool.false_ne_true
          | cons e as =>
            cases as with
            | cons _ _ => exact absurd h Bool.false_ne_true
            | nil =>
              cases ks with
              | cons _ _ => exact absurd h Bool.false_ne_true
              | nil => exact ⟨x, xp, m, ap, e, p, q, rfl, h⟩
        | _ => exact absurd h Bool.false_ne_true
      | _ => exact absurd h Bool.false_ne_true
    | _ => exact absurd h Bool.false_ne_true
  | _ => exact absurd h Bool.false_ne_true
end
section
variable {X : Cx} {Γ : Nat → Spec} {fnm : List Str} {lv : Nat}
theorem sl_nil : PSs X [] (tSL X.K Γ .nil) := ⟨fun pins s σ H Ds I ⟨S, O, Hb, Vb, OA, ρ, dn, N, w, l⟩ => pss_nil.run pins s σ H Ds I (show Ds.nx σ H from l.nx _ _ _ _ N w)⟩
theorem sl_cons {st : Stmt} {sts : List Stmt} {a : S} {r : SL} (h1 : PS X st (tS X.K Γ a)) (h2 : PSs X sts (tSL X.K Γ r)) : PSs X (st :: sts) (tSL X.K Γ (.cons a r)) :=
  ⟨fun pins s σ H Ds I ⟨S, O, Hb, Vb, OA, ρ, dn, N, w, l⟩ => (pss_cons h1 h2).run pins s σ H Ds I ⟨S, O, Hb, Vb, OA, ρ, _, N, w, fun OA1 H1 σ1 ρ1 N1 q => ⟨S, O, Hb, Vb, OA1, ρ1, dn, N1, q, l⟩, l.bk, l.rt⟩⟩
theorem s_drp (hS : SsetOk) (B : Bs Γ fnm lv X) {t : E} {v : Expr} {q : Pos} (hc : nComp v = true) (h : chkE X.N fnm X.env.scope t v = true) : PS X (.Expr v q) (tS X.K Γ (.drp t)) :=
  impS (ps_expr (soundE hS t B h) (by cases v <;> first | rfl | cases hc)) fun Ds σ H ⟨S, O, Hb, Vb, OA, ρ, dn, N, w, l⟩ => ⟨S, O, OA, ρ, false, N.env, wpE_mono Γ t false ρ _ _ (fun d q v H1 e1 s1 ix => l.nx _ _ _ _ (N.ev e1 s1) q) w⟩
theorem s_brk {p : Pos} : PS X (.Break p) (tS X.K Γ .brk) := impS ps_break fun Ds σ H ⟨S, O, Hb, Vb, OA, ρ, dn, N, w, l⟩ => l.bk _ _ _ _ N w
theorem s_nev {st : Stmt} : PS X st (tS X.K Γ .nev) := impS ps_never fun Ds σ H ⟨S, O, Hb, Vb, OA, ρ, dn, N, w, l⟩ => w
mutual
theorem soundS (hS : SsetOk) (B : Bs Γ fnm lv X) (F : Fx X) : ∀ (t : S) {st : Stmt}, chkS X.N fnm X.env.scope t st = true → PS X st (tS X.K Γ t)
  | .asg i t, st, h => by
    obtain ⟨x, px, e, p, rfl, h⟩ := iv_asg h
    exact s_asg hS B F (b2 h).1 (b2 (b2 h).2).1 (b2 (b2 h).2).2
  | .own i t, st, h => by
    obtain ⟨x, px, e, p, rfl, h⟩ := iv_own h
    exact s_own hS B F (b2 h).1 (b2 (b2 h).2).1 (b2 (b2 h).2).2
  | .unp is t, st, h => by
    obtain ⟨ts, k, q, e, p, rfl, h⟩ := iv_unp h
    obtain ⟨h1, h⟩ := b2 h
    obtain ⟨h2, h⟩ := b2 h
    exact s_unp hS B F h1 h2 (b2 h).1 (b2 h).2
  | .par i j oi oj a b, st, h => by
    obtain ⟨x, px, y, py, k, q, u, v, k2, q2, p, rfl, h⟩ := iv_par h
    obtain ⟨h1, h⟩ := b2 h
    obtain ⟨h2, h⟩ := b2 h
    obtain ⟨h3, h⟩ := b2 h
    obtain ⟨h4, h⟩ := b2 h
    obtain ⟨h5, h⟩ := b2 h
    obtain ⟨h6, h⟩ := b2 h
    exact s_par hS B F h1 h2 (of_decide_eq_true h3) (b2 h4).1 (b2 h4).2 (b2 h5).1 (b2 h5).2 h6 (b2 h).1 (b2 h).2
  | .ret t, st, h => by
    obtain ⟨e, p, rfl, h⟩ := iv_ret h
    exact s_ret hS B h
  | .ite c a b, st, h => by
    obtain ⟨e, xs, ys, p, rfl, h⟩ := iv_ite h
    exact s_ite hS B (b2 h).1 (soundSL hS B F a (b2 (b2 h).2).1) (soundSL hS B F b (b2 (b2 h).2).2)
  | .for tg it b, st, h => by
    obtain ⟨t, i, body, p, rfl, h⟩ := iv_for h
    obtain ⟨h1, h⟩ := b2 h
    obtain ⟨h2, h⟩ := b2 h
    exact s_for hS B F h1 h2 (b2 h).1 (soundSL hS B F b (b2 h).2)
  | .brk, st, h => by
    obtain ⟨p, rfl⟩ := iv_brk h
    exact s_brk
  | .app i t, st, h => by
    obtain ⟨x, xp, m, ap, e, p, q, rfl, h⟩ := iv_app h
    obtain ⟨h1, h⟩ := b2 h
    obtain ⟨h2, h⟩ := b2 h
    obtain ⟨h3, h⟩ := b2 h
    obtain ⟨h4, h5⟩ := b2 h3
    exact s_app hS B (of_decide_eq_true h1) (of_decide_eq_true h2) (of_decide_eq_true h4) (b2 h5).1 (b2 h5).2 (b2 h).1 (b2 h).2
  | .drp t, st, h => by
    obtain ⟨v, q, rfl, h⟩ := iv_drp h
    exact s_drp hS B (b2 h).1 (b2 h).2
  | .put i k v, st, h => by
    obtain ⟨x, xp, kx, q, e, p, rfl, h⟩ := iv_put h
    obtain ⟨h3, h⟩ := b2 h
    obtain ⟨h7, h⟩ := b2 h
    obtain ⟨h8, h⟩ := b2 h
    obtain ⟨h4, h5⟩ := b2 h3
    exact s_put hS B (of_decide_eq_true h4) (b2 h5).1 (b2 h5).2 h7 h8 (b2 h).1 (b2 h).2
  | .mtch t cs, st, h => by
    obtain ⟨e, ms, p, rfl, h⟩ := iv_mtch h
    exact s_mtch hS B (b2 h).1 (soundM hS B F cs (b2 h).2)
  | .nev, st, h => s_nev
theorem soundSL (hS : SsetOk) (B : Bs Γ fnm lv X) (F : Fx X) : ∀ (t : SL) {st : List Stmt}, chkSL X.N fnm X.env.scope t st = true → PSs X st (tSL X.K Γ t)
  | .nil, [], h => sl_nil
  | .nil, _ :: _, h => absurd h Bool.false_ne_true
  | .cons _ _, [], h => absurd h Bool.false_ne_true
  | .cons a r, st :: sts, h => sl_cons (soundS hS B F a (b2 h).1) (soundSL hS B F r (b2 h).2)
theorem soundM (hS : SsetOk) (B : Bs Γ fnm lv X) (F : Fx X) : ∀ (t : ML) {ms : List MatchCase}, chkM X.N fnm X.env.scope t ms = true → Cases X Γ t ms
  | .nil, [], h => m_nil
  | .nil, _ :: _, h => absurd h Bool.false_ne_true
  | .cons _ _ _, [], h => absurd h Bool.false_ne_true
  | .cons p b r, ⟨pat, some _, body⟩ :: ms, h => absurd h Bool.false_ne_true
  | .cons p b r, ⟨pat, none, body⟩ :: ms, h => m_cons B F (b2 h).1 (soundSL hS B F b (b2 (b2 h).2).1) (soundM hS B F r (b2 (b2 h).2).2)
end
end
/-! ### a def -/
/-- the slots at the entry -/
def ρ0 (N : List Str) (ds : List D) : Rho := ds.map (fun d => some (false, d)) ++ List.replicate (N.length - ds.length) none
theorem env0 {K : PySem.W.Frag} {S : Sr} {V : List Addr} {H : Hp} {N : List Str} {ds : List D} {vs : List L2.V} (A : At S V H) (l : IsL K S (hide V H) ds vs) : EnvR K S V [] H (L2.start N vs) (ρ0 N ds) := by
  have look : ∀ {i : Nat} {o : Bool} {d : D}, (ρ0 N ds)[i]? = some (some (o, d)) → o = false ∧ ds[i]? = some d := fun {i o d} h => by
    unfold ρ0 at h
    by_cases q : i < ds.length
    · rw [List.getElem?_append_left (by simpa using q), List.getElem?_map, List.getElem?_eq_getElem q] at h
      cases h
      exact ⟨rfl, List.getElem?_eq_getElem q⟩
    · rw [List.getElem?_append_right (by simpa using Nat.le_of_not_lt q)] at h
      rw [List.getElem?_replicate] at h
      split at h <;> cases h
  refine ⟨A.src, A.out, A.outl, A.there, fun a ha => by simp at ha, fun a ha => by simp at ha, by simp [L2.start, ρ0, l.len], fun i d h => ?_, fun i d h => ?_, fun i j d e a n h => ?_⟩
  · obtain ⟨_, h⟩ := look h
    obtain ⟨v, h1, h2⟩ := l.get h
    refine ⟨v, ?_, h2⟩
    unfold L2.start
    have hi := (List.getElem?_eq_some_iff.mp h1).1
    rw [List.getElem?_append_left (by simpa using hi), List.getElem?_map, h1]
    rfl
  · obtain ⟨z, _⟩ := look h; cases z
  · obtain ⟨z, _⟩ := look h; cases z
/-- what a def must keep, by data: from the arguments to what it gives -/
def Keeps (Γ : Nat → Spec) (N : List Str) (b : SL) (n : Nat) (G : Spec) : Prop := ∀ ds R, G ds R → ds.length = n ∧ wpSL Γ b { nx := fun _ => R .non, rt := R } (ρ0 N ds)
theorem body_run {X : Cx} {Γ : Nat → Spec} {fnm : List Str} {lv : Nat} (hS : SsetOk) (B : Bs Γ fnm lv X) (F : Fx X) {b : SL} {sts : List Stmt} (h : chkSL X.N fnm X.env.scope b sts = true) {n : Nat} {G : Spec} (k : Keeps Γ X.N b n G) {vs : List L2.V} {H : Hp} {Q : VK} {E : XK} (sp : spOf X.K G vs H Q E) :
    ∃ t, PSs X sts t ∧ t { nx := fun _ H' => Q .non H', rt := Q } (L2.start X.N vs) H := by
  obtain ⟨S, V, ds, R, A, l, g, q⟩ := sp
  refine ⟨_, soundSL hS B F b h, S, V, H, [], [], ρ0 X.N ds, _, ⟨env0 A l, Ext.refl, fun a ha => by simp at ha, fun a ha => by simp at ha⟩, (k ds R g).2, fun OA H1 σ ρ N1 r => ?_, fun _ _ _ _ _ z => z.elim, fun d v H1 r e s i => ?_⟩
  · have e : Ext S H H1 := by have := N1.ext; rwa [hide_nil, hide_nil] at this
    exact q .non r .non H1 e N1.env.src (is_non.mpr rfl)
  · have e : Ext S H H1 := by rwa [hide_nil, hide_nil] at e
    exact q d r v H1 e s i
theorem sp_len {Γ : Nat → Spec} {K : PySem.W.Frag} {N : List Str} {b : SL} {n : Nat} {G : Spec} (k : Keeps Γ N b n G) {vs : List L2.V} {H : Hp} {Q : VK} {E : XK} (sp : spOf K G vs H Q E) : vs.length = n := by
  obtain ⟨S, V, ds, R, A, l, g, q⟩ := sp
  rw [l.len]; exact (k ds R g).1
end Fy
end
section
/-! FyF -/
namespace Fy
open PySem PySem.Spec PyProof.Rows L2
/-! ### the defs, as the script gen_fns.py prints them -/
def fnms : List Str := (["is_integer", "is_number", "is_name", "is_rising", "is_name_set", "are_numbers", "is_tuple_of", "is_place_or_none", "is_row", "are_rows", "is_wait", "is_fork", "is_instruction", "has_kind_shape", "is_step", "targets_of", "slots_named", "instructions_fault", "system_fault", "is_system", "named_kind", "new_row", "first_tree", "instruction_of", "slot_index", "children_in", "has_ended", "replaced", "at_place", "with_slot"] : List Str) ++ (["pooled", "released", "ended", "watched_children", "wait_moves", "moves_of", "steps_in", "step_fault", "forked", "taken", "killed", "after_step", "walked", "need_system", "tree_behind", "need_process", "rows_of", "tree_after", "next_steps", "born_of", "family_of", "_law_source", "_law_pick", "_law_any", "_law_scene", "_law_wait", "_law_fork", "_law_instruction", "_law_kind", "_law_system"] : List Str) ++ (["_law_newborn", "_law_first", "_law_put", "_law_pooled", "_law_slotted", "_law_ended", "_law_at", "_law_in_rows", "_law_steps", "_law_next", "_law_forked", "_law_taken", "_law_done", "_law_led", "_law_behind_right", "law"] : List Str)
/-- 0: is_integer -/
def N0 : List Str := ["thing"]
def B0 : SL := (.cons (.ret (.and (.isi (.var 0) "int") (.nt (.isi (.var 0) "bool"))))
  .nil)
/-- 1: is_number -/
def N1 : List Str := ["thing"]
def B1 : SL := (.cons (.ret (.and (.call 0 (.cons (.var 0) .nil)) (.cmp .ge (.var 0) (.cst (.int 0)))))
  .nil)
/-- 2: is_name -/
def N2 : List Str := ["thing", "sign"]
def B2 : SL := (.cons (.ite (.or (.nt (.isi (.var 0) "str")) (.nt (.chn .le .le (.cst (.int 1)) (.blt .len (.var 0)) (.gl 1)))) (.cons (.ret (.cst (.bl false)))
  .nil) .nil)
  (.cons (.ret (.blt .all (.lc [("sign", 1)] (.name 1) (.chars (.var 0)) .no (.cmp .isin (.var 1) (.gl 0)))))
  .nil))
/-- 3: is_rising -/
def N3 : List Str := ["some", "one", "other"]
def B3 : SL := (.cons (.ret (.blt .all (.lc [("one", 1), ("other", 2)] (.tup [1, 2]) (.zip (.var 0) (.sl (.var 0) (.so (.cst (.int 1))) .no)) .no (.cmp .lt (.var 1) (.var 2)))))
  .nil)
/-- 4: is_name_set -/
def N4 : List Str := ["thing", "one"]
def B4 : SL := (.cons (.ret (.and (.isi (.var 0) "tuple") (.and (.blt .all (.lc [("one", 1)] (.name 1) (.seq (.var 0)) .no (.call 2 (.cons (.var 1) .nil)))) (.call 3 (.cons (.var 0) .nil)))))
  .nil)
/-- 5: are_numbers -/
def N5 : List Str := ["thing", "one"]
def B5 : SL := (.cons (.ret (.and (.isi (.var 0) "tuple") (.blt .all (.lc [("one", 1)] (.name 1) (.seq (.var 0)) .no (.call 1 (.cons (.var 1) .nil))))))
  .nil)
/-- 6: is_tuple_of -/
def N6 : List Str := ["thing", "many"]
def B6 : SL := (.cons (.ret (.and (.isi (.var 0) "tuple") (.cmp .eq (.blt .len (.var 0)) (.var 1))))
  .nil)
/-- 7: is_place_or_none -/
def N7 : List Str := ["thing"]
def B7 : SL := (.cons (.ret (.and (.call 0 (.cons (.var 0) .nil)) (.cmp .ge (.var 0) (.gl 3))))
  .nil)
/-- 8: is_row -/
def N8 : List Str := ["thing"]
def B8 : SL := (.cons (.ret (.and (.call 6 (.cons (.var 0) (.cons (.cst (.int 4)) .nil))) (.and (.call 2 (.cons (.ix (.var 0) (.cst (.int 0))) .nil)) (.call 5 (.cons (.sl (.var 0) (.so (.cst (.int 1))) .no) .nil)))))
  .nil)
/-- 9: are_rows -/
def N9 : List Str := ["thing", "row", "one"]
def B9 : SL := (.cons (.ite (.or (.nt (.isi (.var 0) "tuple")) (.nt (.blt .all (.lc [("one", 2)] (.name 2) (.seq (.var 0)) .no (.call 8 (.cons (.var 2) .nil)))))) (.cons (.ret (.cst (.bl false)))
  .nil) .nil)
  (.cons (.ret (.call 3 (.cons (.lc [("row", 1)] (.name 1) (.seq (.var 0)) .no (.ix (.var 1) (.cst (.int 0)))) .nil)))
  .nil))
/-- 10: is_wait -/
def N10 : List Str := ["thing", "many"]
def B10 : SL := (.cons (.ite (.or (.cmp .ne (.blt .len (.var 0)) (.add (.var 1) (.cst (.int 4)))) (.or (.nt (.call 9 (.cons (.ix (.var 0) (.cst (.int 1))) .nil))) (.nt (.call 7 (.cons (.ix (.var 0) (.cst (.int 2))) .nil))))) (.cons (.ret (.cst (.bl false)))
  .nil) .nil)
  (.cons (.ite (.and (.cmp .eq (.blt .len (.ix (.var 0) (.cst (.int 1)))) (.cst (.int 0))) (.cmp .eq (.ix (.var 0) (.cst (.int 2))) (.gl 3))) (.cons (.ret (.cst (.bl false)))
  .nil) .nil)
  (.cons (.ret (.and (.call 5 (.cons (.sl (.var 0) (.so (.cst (.int 3))) (.so (.neg (.cst (.int 1))))) .nil)) (.call 4 (.cons (.ix (.var 0) (.neg (.cst (.int 1)))) .nil))))
  .nil)))
/-- 11: is_fork -/
def N11 : List Str := ["thing"]
def B11 : SL := (.cons (.ite (.or (.cmp .ne (.blt .len (.var 0)) (.cst (.int 5))) (.or (.nt (.call 2 (.cons (.ix (.var 0) (.cst (.int 1))) .nil))) (.or (.nt (.call 2 (.cons (.ix (.var 0) (.cst (.int 2))) .nil))) (.nt (.call 1 (.cons (.ix (.var 0) (.cst (.int 4))) .nil)))))) (.cons (.ret (.cst (.bl false)))
  .nil) .nil)
  (.cons (.ret (.or (.call 2 (.cons (.ix (.var 0) (.cst (.int 3))) .nil)) (.and (.isi (.ix (.var 0) (.cst (.int 3))) "str") (.cmp .eq (.ix (.var 0) (.cst (.int 3))) (.gl 2)))))
  .nil))
/-- 12: is_instruction -/
def N12 : List Str := ["thing", "word"]
def B12 : SL := (.cons (.ite (.or (.nt (.isi (.var 0) "tuple")) (.or (.cmp .eq (.blt .len (.var 0)) (.cst (.int 0))) (.nt (.isi (.ix (.var 0) (.cst (.int 0))) "str")))) (.cons (.ret (.cst (.bl false)))
  .nil) .nil)
  (.cons (.asg 1 (.ix (.var 0) (.cst (.int 0))))
  (.cons (.ite (.cmp .eq (.var 1) (.cst (.str "go"))) (.cons (.ret (.and (.cmp .eq (.blt .len (.var 0)) (.cst (.int 2))) (.and (.call 5 (.cons (.ix (.var 0) (.cst (.int 1))) .nil)) (.and (.cmp .gt (.blt .len (.ix (.var 0) (.cst (.int 1)))) (.cst (.int 0))) (.call 3 (.cons (.ix (.var 0) (.cst (.int 1))) .nil))))))
  .nil) .nil)
  (.cons (.ite (.cmp .eq (.var 1) (.cst (.str "fork"))) (.cons (.ret (.call 11 (.cons (.var 0) .nil)))
  .nil) .nil)
  (.cons (.ite (.cmp .isin (.var 1) (.gl 7)) (.cons (.ret (.call 10 (.cons (.var 0) (.cons (.add (.cst (.int 1)) (.idx (.gl 7) (.var 1))) .nil))))
  .nil) .nil)
  (.cons (.ite (.cmp .isin (.var 1) (.gl 8)) (.cons (.ret (.and (.cmp .eq (.blt .len (.var 0)) (.cst (.int 3))) (.and (.call 2 (.cons (.ix (.var 0) (.cst (.int 1))) .nil)) (.call 1 (.cons (.ix (.var 0) (.cst (.int 2))) .nil)))))
  .nil) .nil)
  (.cons (.ret (.and (.cmp .eq (.var 1) (.cst (.str "exit"))) (.and (.cmp .eq (.blt .len (.var 0)) (.cst (.int 2))) (.and (.call 1 (.cons (.ix (.var 0) (.cst (.int 1))) .nil)) (.cmp .le (.ix (.var 0) (.cst (.int 1))) (.cst (.int 1)))))))
  .nil)))))))
/-- 13: has_kind_shape -/
def N13 : List Str := ["thing"]
def B13 : SL := (.cons (.ite (.or (.nt (.call 6 (.cons (.var 0) (.cons (.cst (.int 3)) .nil)))) (.or (.nt (.call 2 (.cons (.ix (.var 0) (.cst (.int 0))) .nil))) (.nt (.call 4 (.cons (.ix (.var 0) (.cst (.int 1))) .nil))))) (.cons (.ret (.cst (.bl false)))
  .nil) .nil)
  (.cons (.ret (.and (.isi (.ix (.var 0) (.cst (.int 2))) "tuple") (.cmp .gt (.blt .len (.ix (.var 0) (.cst (.int 2)))) (.cst (.int 0)))))
  .nil))
/-- 14: is_step -/
def N14 : List Str := ["thing"]
def B14 : SL := (.cons (.ite (.or (.nt (.call 6 (.cons (.var 0) (.cons (.cst (.int 3)) .nil)))) (.nt (.call 1 (.cons (.ix (.var 0) (.cst (.int 0))) .nil)))) (.cons (.ret (.cst (.bl false)))
  .nil) .nil)
  (.cons (.ite (.or (.nt (.isi (.ix (.var 0) (.cst (.int 1))) "str")) (.cmp .notin (.ix (.var 0) (.cst (.int 1))) (.gl 5))) (.cons (.ret (.cst (.bl false)))
  .nil) .nil)
  (.cons (.ite (.cmp .isin (.ix (.var 0) (.cst (.int 1))) (.gl 6)) (.cons (.ret (.call 1 (.cons (.ix (.var 0) (.cst (.int 2))) .nil)))
  .nil) .nil)
  (.cons (.ret (.and (.call 0 (.cons (.ix (.var 0) (.cst (.int 2))) .nil)) (.cmp .eq (.ix (.var 0) (.cst (.int 2))) (.neg (.cst (.int 1))))))
  .nil))))
/-- 15: targets_of -/
def N15 : List Str := ["instruction", "word", "pools", "row", "target"]
def B15 : SL := (.cons (.asg 1 (.ix (.var 0) (.cst (.int 0))))
  (.cons (.ite (.cmp .eq (.var 1) (.cst (.str "go"))) (.cons (.ret (.blt .list (.ix (.var 0) (.cst (.int 1)))))
  .nil) .nil)
  (.cons (.ite (.cmp .isin (.var 1) (.gl 7)) (.cons (.asg 2 (.ife (.cmp .eq (.ix (.var 0) (.cst (.int 2))) (.gl 3)) (.lst .nil) (.lst (.cons (.ix (.var 0) (.cst (.int 2))) .nil))))
  (.cons (.ret (.lst (.star (.lc2 [("row", 3), ("target", 4)] (.name 3) (.seq (.ix (.var 0) (.cst (.int 1)))) [4] (.seq (.sl (.var 3) (.so (.cst (.int 1))) .no)) (.var 4)) (.star (.var 2) (.star (.sl (.var 0) (.so (.cst (.int 3))) (.so (.neg (.cst (.int 1))))) .nil)))))
  .nil)) .nil)
  (.cons (.ret (.ife (.cmp .eq (.var 1) (.cst (.str "exit"))) (.lst .nil) (.lst (.cons (.ix (.var 0) (.neg (.cst (.int 1)))) .nil))))
  .nil))))
/-- 16: slots_named -/
def N16 : List Str := ["instruction", "word", "row"]
def B16 : SL := (.cons (.asg 1 (.ix (.var 0) (.cst (.int 0))))
  (.cons (.ite (.cmp .isin (.var 1) (.gl 7)) (.cons (.ret (.lc [("row", 2)] (.name 2) (.seq (.ix (.var 0) (.cst (.int 1)))) .no (.ix (.var 2) (.cst (.int 0)))))
  .nil) .nil)
  (.cons (.ite (.cmp .isin (.var 1) (.gl 8)) (.cons (.ret (.lst (.cons (.ix (.var 0) (.cst (.int 1))) .nil)))
  .nil) .nil)
  (.cons (.ret (.ife (.and (.cmp .eq (.var 1) (.cst (.str "fork"))) (.cmp .ne (.ix (.var 0) (.cst (.int 3))) (.gl 2))) (.lst (.cons (.ix (.var 0) (.cst (.int 3))) .nil)) (.lst .nil)))
  .nil))))
/-- 17: instructions_fault -/
def N17 : List Str := ["system", "names", "spots", "i", "p", "one", "kind", "target", "slot"]
def B17 : SL := (.cons (.asg 1 (.lc [("kind", 6)] (.name 6) (.seq (.var 0)) .no (.ix (.var 6) (.cst (.int 0)))))
  (.cons (.asg 2 (.lc2 [("i", 3), ("kind", 6), ("p", 4), ("one", 5)] (.tup [3, 6]) (.enum (.var 0)) [4, 5] (.enum (.ix (.var 6) (.cst (.int 2)))) (.tup (.cons (.var 3) (.cons (.var 4) (.cons (.var 5) .nil))))))
  (.cons (.for (.tup [3, 4, 5]) (.seq (.var 2)) (.cons (.ite (.nt (.call 12 (.cons (.var 5) .nil))) (.cons (.ret (.tup (.cons (.cst (.str "instruction")) (.cons (.tup (.cons (.var 3) (.cons (.var 4) .nil))) .nil))))
  .nil) .nil)
  .nil))
  (.cons (.for (.tup [3, 4, 5]) (.seq (.var 2)) (.cons (.ite (.nt (.blt .all (.lc [("target", 7)] (.name 7) (.seq (.call 15 (.cons (.var 5) .nil))) .no (.cmp .lt (.var 7) (.blt .len (.ix (.ix (.var 0) (.var 3)) (.cst (.int 2)))))))) (.cons (.ret (.tup (.cons (.cst (.str "target")) (.cons (.tup (.cons (.var 3) (.cons (.var 4) .nil))) .nil))))
  .nil) .nil)
  .nil))
  (.cons (.for (.tup [3, 4, 5]) (.seq (.var 2)) (.cons (.ite (.nt (.blt .all (.lc [("slot", 8)] (.name 8) (.seq (.call 16 (.cons (.var 5) .nil))) .no (.cmp .isin (.var 8) (.ix (.ix (.var 0) (.var 3)) (.cst (.int 1))))))) (.cons (.ret (.tup (.cons (.cst (.str "slot")) (.cons (.tup (.cons (.var 3) (.cons (.var 4) .nil))) .nil))))
  .nil) .nil)
  .nil))
  (.cons (.for (.tup [3, 4, 5]) (.seq (.var 2)) (.cons (.ite (.and (.cmp .eq (.ix (.var 5) (.cst (.int 0))) (.cst (.str "fork"))) (.cmp .notin (.ix (.var 5) (.cst (.int 1))) (.sl (.var 1) (.so (.add (.var 3) (.cst (.int 1)))) .no))) (.cons (.ret (.tup (.cons (.cst (.str "layer")) (.cons (.tup (.cons (.var 3) (.cons (.var 4) .nil))) .nil))))
  .nil) .nil)
  .nil))
  (.cons (.ret (.cst .non))
  .nil)))))))
/-- 18: system_fault -/
def N18 : List Str := ["thing", "names", "i", "name", "kind", "one"]
def B18 : SL := (.cons (.ite (.or (.nt (.isi (.var 0) "tuple")) (.or (.cmp .eq (.blt .len (.var 0)) (.cst (.int 0))) (.nt (.blt .all (.lc [("one", 5)] (.name 5) (.seq (.var 0)) .no (.call 13 (.cons (.var 5) .nil))))))) (.cons (.ret (.tup (.cons (.cst (.str "shape")) (.cons (.neg (.cst (.int 1))) .nil))))
  .nil) .nil)
  (.cons (.asg 1 (.lc [("kind", 4)] (.name 4) (.seq (.var 0)) .no (.ix (.var 4) (.cst (.int 0)))))
  (.cons (.for (.tup [2, 3]) (.enum (.var 1)) (.cons (.ite (.cmp .isin (.var 3) (.sl (.var 1) .no (.so (.var 2)))) (.cons (.ret (.tup (.cons (.cst (.str "twice")) (.cons (.var 2) .nil))))
  .nil) .nil)
  .nil))
  (.cons (.ret (.call 17 (.cons (.var 0) .nil)))
  .nil))))
/-- 19: is_system -/
def N19 : List Str := ["thing"]
def B19 : SL := (.cons (.ret (.cmp .is (.call 18 (.cons (.var 0) .nil)) (.cst .non)))
  .nil)
/-- 20: named_kind -/
def N20 : List Str := ["system", "name", "kind"]
def B20 : SL := (.cons (.ret (.ix (.lc [("kind", 2)] (.name 2) (.seq (.var 0)) (.so (.cmp .eq (.ix (.var 2) (.cst (.int 0))) (.var 1))) (.var 2)) (.cst (.int 0))))
  .nil)
/-- 21: new_row -/
def N21 : List Str := ["system", "process", "name", "tag", "parent", "kind"]
def B21 : SL := (.cons (.asg 5 (.call 20 (.cons (.var 0) (.cons (.var 2) .nil))))
  (.cons (.ret (.tup (.cons (.var 1) (.cons (.var 2) (.cons (.var 3) (.cons (.var 4) (.cons (.gl 4) (.cons (.cst (.int 0)) (.cons (.mul (.tup (.cons (.gl 9) .nil)) (.blt .len (.ix (.var 5) (.cst (.int 1))))) (.cons (.tup .nil) .nil))))))))))
  .nil))
/-- 22: first_tree -/
def N22 : List Str := ["system", "name"]
def B22 : SL := (.cons (.asg 1 (.ix (.ix (.var 0) (.cst (.int 0))) (.cst (.int 0))))
  (.cons (.ret (.tup (.cons (.d1 (.cst (.int 0)) (.call 21 (.cons (.var 0) (.cons (.cst (.int 0)) (.cons (.var 1) (.cons (.cst (.str "")) (.cons (.gl 9) .nil))))))) (.cons (.tup (.cons (.tup (.cons (.var 1) (.cons (.cst (.str "")) (.cons (.gl 9) (.cons (.gl 3) .nil))))) .nil)) .nil))))
  .nil))
/-- 23: instruction_of -/
def N23 : List Str := ["system", "row"]
def B23 : SL := (.cons (.ret (.ix (.ix (.call 20 (.cons (.var 0) (.cons (.ix (.var 1) (.cst (.int 1))) .nil))) (.cst (.int 2))) (.ix (.var 1) (.cst (.int 5)))))
  .nil)
/-- 24: slot_index -/
def N24 : List Str := ["system", "row", "slot"]
def B24 : SL := (.cons (.ret (.idx (.ix (.call 20 (.cons (.var 0) (.cons (.ix (.var 1) (.cst (.int 1))) .nil))) (.cst (.int 1))) (.var 2)))
  .nil)
/-- 25: children_in -/
def N25 : List Str := ["row", "child"]
def B25 : SL := (.cons (.ret (.lst (.star (.lc [("child", 1)] (.name 1) (.seq (.ix (.var 0) (.cst (.int 6)))) (.so (.cmp .ne (.var 1) (.gl 9))) (.var 1)) (.star (.ix (.var 0) (.cst (.int 7))) .nil))))
  .nil)
/-- 26: has_ended -/
def N26 : List Str := ["there", "process"]
def B26 : SL := (.cons (.ret (.cmp .ne (.ix (.ix (.var 0) (.var 1)) (.cst (.int 4))) (.gl 4)))
  .nil)
/-- 27: replaced -/
def N27 : List Str := ["there", "rows", "found", "row", "process"]
def B27 : SL := (.cons (.own 2 (.blt .dict (.lci [("process", 4), ("row", 3)] (.tup [4, 3]) 0 [] .no (.tup (.cons (.var 4) (.cons (.var 3) .nil))))))
  (.cons (.for (.name 3) (.seq (.var 1)) (.cons (.put 2 (.ix (.var 3) (.cst (.int 0))) (.var 3))
  .nil))
  (.cons (.ret (.var 2))
  .nil)))
/-- 28: at_place -/
def N28 : List Str := ["row", "place"]
def B28 : SL := (.cons (.ret (.tup (.star (.sl (.var 0) .no (.so (.cst (.int 5)))) (.cons (.var 1) (.star (.sl (.var 0) (.so (.cst (.int 6))) .no) .nil)))))
  .nil)
/-- 29: with_slot -/
def N29 : List Str := ["row", "at", "child"]
def B29 : SL := (.cons (.ret (.tup (.star (.sl (.var 0) .no (.so (.cst (.int 6)))) (.cons (.tup (.star (.sl (.ix (.var 0) (.cst (.int 6))) .no (.so (.var 1))) (.cons (.var 2) (.star (.sl (.ix (.var 0) (.cst (.int 6))) (.so (.add (.var 1) (.cst (.int 1)))) .no) .nil)))) (.cons (.ix (.var 0) (.cst (.int 7))) .nil)))))
  .nil)
/-- 30: pooled -/
def N30 : List Str := ["row", "children"]
def B30 : SL := (.cons (.ret (.tup (.star (.sl (.var 0) .no (.so (.cst (.int 7)))) (.cons (.blt .tuple (.blt .sorted (.lst (.star (.ix (.var 0) (.cst (.int 7))) (.star (.var 1) .nil))))) .nil))))
  .nil)
/-- 31: released -/
def N31 : List Str := ["row", "at", "child"]
def B31 : SL := (.cons (.asg 2 (.ix (.ix (.var 0) (.cst (.int 6))) (.var 1)))
  (.cons (.ret (.ife (.cmp .eq (.var 2) (.gl 9)) (.var 0) (.call 30 (.cons (.call 29 (.cons (.var 0) (.cons (.var 1) (.cons (.gl 9) .nil)))) (.cons (.lst (.cons (.var 2) .nil)) .nil)))))
  .nil))
/-- 32: ended -/
def N32 : List Str := ["there", "process", "code", "row", "handed", "gone", "elders", "rows", "parent", "children", "child"]
def B32 : SL := (.cons (.asg 3 (.ix (.var 0) (.var 1)))
  (.cons (.par 8 9 false false (.ix (.var 3) (.cst (.int 3))) (.call 25 (.cons (.var 3) .nil)))
  (.cons (.asg 4 (.lc [("child", 10)] (.name 10) (.seq (.var 9)) .no (.tup (.star (.sl (.ix (.var 0) (.var 10)) .no (.so (.cst (.int 3)))) (.cons (.var 8) (.star (.sl (.ix (.var 0) (.var 10)) (.so (.cst (.int 4))) .no) .nil))))))
  (.cons (.asg 5 (.tup (.star (.sl (.var 3) .no (.so (.cst (.int 4)))) (.cons (.var 2) (.cons (.ix (.var 3) (.cst (.int 5))) (.cons (.mul (.tup (.cons (.gl 9) .nil)) (.blt .len (.ix (.var 3) (.cst (.int 6))))) (.cons (.tup .nil) .nil)))))))
  (.cons (.asg 6 (.ife (.cmp .eq (.var 8) (.gl 9)) (.lst .nil) (.lst (.cons (.call 30 (.cons (.ix (.var 0) (.var 8)) (.cons (.var 9) .nil))) .nil))))
  (.cons (.asg 7 (.lst (.cons (.var 5) (.star (.var 4) (.star (.var 6) .nil)))))
  (.cons (.ret (.call 27 (.cons (.var 0) (.star (.var 7) .nil))))
  .nil)))))))
/-- 33: watched_children -/
def N33 : List Str := ["system", "row", "instruction", "children", "one", "child"]
def B33 : SL := (.cons (.asg 3 (.lc [("one", 4)] (.name 4) (.seq (.ix (.var 2) (.cst (.int 1)))) .no (.ix (.ix (.var 1) (.cst (.int 6))) (.call 24 (.cons (.var 0) (.cons (.var 1) (.cons (.ix (.var 4) (.cst (.int 0))) .nil)))))))
  (.cons (.ret (.lc [("child", 5)] (.name 5) (.seq (.var 3)) (.so (.cmp .ne (.var 5) (.gl 9))) (.var 5)))
  .nil))
/-- 34: wait_moves -/
def N34 : List Str := ["system", "there", "row", "instruction", "watched", "has_pool", "in_range", "found", "child"]
def B34 : SL := (.cons (.asg 4 (.call 33 (.cons (.var 0) (.cons (.var 2) (.cons (.var 3) .nil)))))
  (.cons (.asg 5 (.cmp .ne (.ix (.var 3) (.cst (.int 2))) (.gl 3)))
  (.cons (.asg 6 (.ife (.var 5) (.lst (.star (.var 4) (.star (.ix (.var 2) (.cst (.int 7))) .nil))) (.var 4)))
  (.cons (.own 7 (.lc [("child", 8)] (.name 8) (.seq (.var 6)) (.so (.call 26 (.cons (.var 1) (.cons (.var 8) .nil)))) (.tup (.cons (.cst (.str "take")) (.cons (.var 8) .nil)))))
  (.cons (.ite (.cmp .eq (.blt .len (.ife (.var 5) (.call 25 (.cons (.var 2) .nil)) (.var 4))) (.cst (.int 0))) (.cons (.app 7 (.tup (.cons (.cst (.str "none")) (.cons (.neg (.cst (.int 1))) .nil))))
  .nil) (.cons (.ite (.cmp .eq (.ix (.var 3) (.cst (.int 0))) (.cst (.str "poll"))) (.cons (.app 7 (.tup (.cons (.cst (.str "later")) (.cons (.neg (.cst (.int 1))) .nil))))
  .nil) .nil)
  .nil))
  (.cons (.ret (.var 7))
  .nil))))))
/-- 35: moves_of -/
def N35 : List Str := ["system", "there", "row", "instruction", "word", "target"]
def B35 : SL := (.cons (.asg 3 (.call 23 (.cons (.var 0) (.cons (.var 2) .nil))))
  (.cons (.mtch (.ix (.var 3) (.cst (.int 0))) (.cons (.lit "go") (.cons (.ret (.lc [("target", 5)] (.name 5) (.seq (.ix (.var 3) (.cst (.int 1)))) .no (.tup (.cons (.cst (.str "go")) (.cons (.var 5) .nil)))))
  .nil) (.cons (.alt ["wait", "poll"]) (.cons (.ret (.call 34 (.cons (.var 0) (.cons (.var 1) (.cons (.var 2) (.cons (.var 3) .nil))))))
  .nil) (.cons (.cap 4) (.cons (.ret (.lst (.cons (.tup (.cons (.var 4) (.cons (.neg (.cst (.int 1))) .nil))) .nil)))
  .nil) .nil))))
  .nil))
/-- 36: steps_in -/
def N36 : List Str := ["system", "tree", "living", "there", "born", "process", "row", "move"]
def B36 : SL := (.cons (.unp [3, 4] (.var 1))
  (.cons (.asg 2 (.lci [("process", 5), ("row", 6)] (.tup [5, 6]) 3 [] (.so (.cmp .eq (.ix (.var 6) (.cst (.int 4))) (.gl 4))) (.var 6)))
  (.cons (.ret (.blt .tuple (.blt .sorted (.lc2 [("row", 6), ("move", 7)] (.name 6) (.seq (.var 2)) [7] (.seq (.call 35 (.cons (.var 0) (.cons (.var 3) (.cons (.var 6) .nil))))) (.tup (.cons (.ix (.var 6) (.cst (.int 0))) (.star (.var 7) .nil)))))))
  .nil)))
/-- 37: step_fault -/
def N37 : List Str := ["system", "tree", "thing", "row", "there", "born", "process", "word", "number"]
def B37 : SL := (.cons (.unp [4, 5] (.var 1))
  (.cons (.ite (.nt (.call 14 (.cons (.var 2) .nil))) (.cons (.ret (.cst (.str "step")))
  .nil) .nil)
  (.cons (.unp [6, 7, 8] (.var 2))
  (.cons (.ite (.or (.cmp .notin (.var 6) (.var 4)) (.call 26 (.cons (.var 4) (.cons (.var 6) .nil)))) (.cons (.ret (.cst (.str "process")))
  .nil) .nil)
  (.cons (.asg 3 (.ix (.var 4) (.var 6)))
  (.cons (.ite (.cmp .notin (.var 7) (.words (.ix (.call 23 (.cons (.var 0) (.cons (.var 3) .nil))) (.cst (.int 0))))) (.cons (.ret (.cst (.str "word")))
  .nil) .nil)
  (.cons (.ret (.ife (.cmp .isin (.tup (.cons (.var 7) (.cons (.var 8) .nil))) (.call 35 (.cons (.var 0) (.cons (.var 4) (.cons (.var 3) .nil))))) (.cst (.str "")) (.cst (.str "number"))))
  .nil)))))))
/-- 38: forked -/
def N38 : List Str := ["system", "tree", "row", "instruction", "child", "rows", "there", "born", "word", "name", "tag", "slot", "target", "late", "at"]
def B38 : SL := (.cons (.unp [6, 7] (.var 1))
  (.cons (.unp [8, 9, 10, 11, 12] (.var 3))
  (.cons (.asg 4 (.blt .len (.var 7)))
  (.cons (.ite (.cmp .eq (.var 11) (.gl 2)) (.cons (.asg 13 (.call 30 (.cons (.var 2) (.cons (.lst (.cons (.var 4) .nil)) .nil))))
  .nil) (.cons (.asg 14 (.call 24 (.cons (.var 0) (.cons (.var 2) (.cons (.var 11) .nil)))))
  (.cons (.asg 13 (.call 29 (.cons (.call 31 (.cons (.var 2) (.cons (.var 14) .nil))) (.cons (.var 14) (.cons (.var 4) .nil)))))
  .nil)))
  (.cons (.asg 5 (.lst (.cons (.call 28 (.cons (.var 13) (.cons (.var 12) .nil))) (.cons (.call 21 (.cons (.var 0) (.cons (.var 4) (.cons (.var 9) (.cons (.var 10) (.cons (.ix (.var 2) (.cst (.int 0))) .nil)))))) .nil))))
  (.cons (.ret (.tup (.cons (.call 27 (.cons (.var 6) (.star (.var 5) .nil))) (.cons (.tup (.star (.var 7) (.cons (.tup (.cons (.var 9) (.cons (.var 10) (.cons (.ix (.var 2) (.cst (.int 0))) (.cons (.ix (.var 2) (.cst (.int 5))) .nil))))) .nil))) .nil))))
  .nil))))))
/-- 39: taken -/
def N39 : List Str := ["system", "there", "row", "instruction", "child", "left", "at", "slot", "targets", "pool", "process", "one"]
def B39 : SL := (.cons (.asg 5 (.dci [("process", 10), ("one", 11)] (.tup [10, 11]) 1 [4] (.so (.cmp .ne (.var 10) (.var 4))) (.var 10) (.var 11)))
  (.cons (.ite (.cmp .isin (.var 4) (.ix (.var 2) (.cst (.int 7)))) (.cons (.asg 9 (.blt .tuple (.lc [("one", 11)] (.name 11) (.seq (.ix (.var 2) (.cst (.int 7)))) (.so (.cmp .ne (.var 11) (.var 4))) (.var 11))))
  (.cons (.ret (.call 27 (.cons (.var 5) (.cons (.call 28 (.cons (.tup (.star (.sl (.var 2) .no (.so (.cst (.int 7)))) (.cons (.var 9) .nil))) (.cons (.ix (.var 3) (.cst (.int 2))) .nil))) .nil))))
  .nil)) .nil)
  (.cons (.asg 6 (.idx (.ix (.var 2) (.cst (.int 6))) (.var 4)))
  (.cons (.asg 7 (.ix (.ix (.call 20 (.cons (.var 0) (.cons (.ix (.var 2) (.cst (.int 1))) .nil))) (.cst (.int 1))) (.var 6)))
  (.cons (.asg 8 (.ix (.lc [("one", 11)] (.name 11) (.seq (.ix (.var 3) (.cst (.int 1)))) (.so (.cmp .eq (.ix (.var 11) (.cst (.int 0))) (.var 7))) (.sl (.var 11) (.so (.cst (.int 1))) .no)) (.cst (.int 0))))
  (.cons (.ret (.call 27 (.cons (.var 5) (.cons (.call 28 (.cons (.call 29 (.cons (.var 2) (.cons (.var 6) (.cons (.gl 9) .nil)))) (.cons (.ix (.var 8) (.ix (.ix (.var 1) (.var 4)) (.cst (.int 4)))) .nil))) .nil))))
  .nil))))))
/-- 40: killed -/
def N40 : List Str := ["system", "there", "row", "instruction", "child", "late"]
def B40 : SL := (.cons (.asg 4 (.ix (.ix (.var 2) (.cst (.int 6))) (.call 24 (.cons (.var 0) (.cons (.var 2) (.cons (.ix (.var 3) (.cst (.int 1))) .nil))))))
  (.cons (.asg 5 (.ife (.or (.cmp .eq (.var 4) (.gl 9)) (.call 26 (.cons (.var 1) (.cons (.var 4) .nil)))) (.var 1) (.call 32 (.cons (.var 1) (.cons (.var 4) (.cons (.gl 10) .nil))))))
  (.cons (.ret (.call 27 (.cons (.var 5) (.cons (.call 28 (.cons (.ix (.var 5) (.ix (.var 2) (.cst (.int 0)))) (.cons (.ix (.var 3) (.cst (.int 2))) .nil))) .nil))))
  .nil)))
/-- 41: after_step -/
def N41 : List Str := ["system", "tree", "step", "row", "instruction", "there", "born", "process", "word", "number", "late"]
def B41 : SL := (.cons (.unp [5, 6] (.var 1))
  (.cons (.unp [7, 8, 9] (.var 2))
  (.cons (.asg 3 (.ix (.var 5) (.var 7)))
  (.cons (.asg 4 (.call 23 (.cons (.var 0) (.cons (.var 3) .nil))))
  (.cons (.mtch (.var 8) (.cons (.lit "go") (.cons (.ret (.tup (.cons (.call 27 (.cons (.var 5) (.cons (.call 28 (.cons (.var 3) (.cons (.var 9) .nil))) .nil))) (.cons (.var 6) .nil))))
  .nil) (.cons (.lit "fork") (.cons (.ret (.call 38 (.cons (.var 0) (.cons (.var 1) (.cons (.var 3) (.cons (.var 4) .nil))))))
  .nil) (.cons (.lit "take") (.cons (.ret (.tup (.cons (.call 39 (.cons (.var 0) (.cons (.var 5) (.cons (.var 3) (.cons (.var 4) (.cons (.var 9) .nil)))))) (.cons (.var 6) .nil))))
  .nil) (.cons (.lit "none") (.cons (.ret (.tup (.cons (.call 27 (.cons (.var 5) (.cons (.call 28 (.cons (.var 3) (.cons (.ix (.var 4) (.cst (.int 3))) .nil))) .nil))) (.cons (.var 6) .nil))))
  .nil) (.cons (.lit "later") (.cons (.ret (.tup (.cons (.call 27 (.cons (.var 5) (.cons (.call 28 (.cons (.var 3) (.cons (.ix (.var 4) (.cst (.int 4))) .nil))) .nil))) (.cons (.var 6) .nil))))
  .nil) (.cons (.lit "kill") (.cons (.ret (.tup (.cons (.call 40 (.cons (.var 0) (.cons (.var 5) (.cons (.var 3) (.cons (.var 4) .nil))))) (.cons (.var 6) .nil))))
  .nil) (.cons (.lit "release") (.cons (.asg 10 (.call 31 (.cons (.var 3) (.cons (.call 24 (.cons (.var 0) (.cons (.var 3) (.cons (.ix (.var 4) (.cst (.int 1))) .nil)))) .nil))))
  (.cons (.ret (.tup (.cons (.call 27 (.cons (.var 5) (.cons (.call 28 (.cons (.var 10) (.cons (.ix (.var 4) (.cst (.int 2))) .nil))) .nil))) (.cons (.var 6) .nil))))
  .nil)) (.cons .wild (.cons (.ret (.tup (.cons (.call 32 (.cons (.var 5) (.cons (.var 7) (.cons (.ix (.var 4) (.cst (.int 1))) .nil)))) (.cons (.var 6) .nil))))
  .nil) .nil)))))))))
  .nil)))))
/-- 42: walked -/
def N42 : List Str := ["system", "steps", "tree", "k", "step", "word"]
def B42 : SL := (.cons (.asg 2 (.call 22 (.cons (.var 0) .nil)))
  (.cons (.for (.tup [3, 4]) (.enum (.var 1)) (.cons (.asg 5 (.call 37 (.cons (.var 0) (.cons (.var 2) (.cons (.var 4) .nil)))))
  (.cons (.ite (.cmp .ne (.var 5) (.cst (.str ""))) (.cons (.ret (.tup (.cons (.var 2) (.cons (.tup (.cons (.var 5) (.cons (.var 3) .nil))) .nil))))
  .nil) .nil)
  (.cons (.asg 2 (.call 41 (.cons (.var 0) (.cons (.var 2) (.cons (.var 4) .nil)))))
  .nil))))
  (.cons (.ret (.tup (.cons (.var 2) (.cons (.cst .non) .nil))))
  .nil)))
/-- 43: need_system -/
def N43 : List Str := ["system"]
def B43 : SL := (.cons (.ite (.nt (.call 19 (.cons (.var 0) .nil))) (.cons .nev
  .nil) .nil)
  .nil)
/-- 44: tree_behind -/
def N44 : List Str := ["system", "run", "tree", "fault"]
def B44 : SL := (.cons (.drp (.call 43 (.cons (.var 0) .nil)))
  (.cons (.ite (.nt (.isi (.var 1) "tuple")) (.cons .nev
  .nil) .nil)
  (.cons (.unp [2, 3] (.call 42 (.cons (.var 0) (.cons (.var 1) .nil))))
  (.cons (.ite (.cmp .isnot (.var 3) (.cst .non)) (.cons .nev
  .nil) .nil)
  (.cons (.ret (.var 2))
  .nil)))))
/-- 45: need_process -/
def N45 : List Str := ["fine"]
def B45 : SL := (.cons (.ite (.nt (.var 0)) (.cons .nev
  .nil) .nil)
  .nil)
/-- 46: rows_of -/
def N46 : List Str := ["tree", "there", "born", "process"]
def B46 : SL := (.cons (.unp [1, 2] (.var 0))
  (.cons (.ret (.blt .tuple (.lc [("process", 3)] (.name 3) (.seq (.blt .sorted (.blt .list (.var 1)))) .no (.ix (.var 1) (.var 3)))))
  .nil))
/-- 47: tree_after -/
def N47 : List Str := ["system", "run"]
def B47 : SL := (.cons (.ret (.call 46 (.cons (.call 44 (.cons (.var 0) (.cons (.var 1) .nil))) .nil)))
  .nil)
/-- 48: next_steps -/
def N48 : List Str := ["system", "run"]
def B48 : SL := (.cons (.ret (.call 36 (.cons (.var 0) (.cons (.call 44 (.cons (.var 0) (.cons (.var 1) .nil))) .nil))))
  .nil)
/-- 49: born_of -/
def N49 : List Str := ["system", "run", "process", "there", "born"]
def B49 : SL := (.cons (.unp [3, 4] (.call 44 (.cons (.var 0) (.cons (.var 1) .nil))))
  (.cons (.drp (.call 45 (.cons (.and (.call 1 (.cons (.var 2) .nil)) (.cmp .lt (.var 2) (.blt .len (.var 4)))) .nil)))
  (.cons (.ret (.var 4))
  .nil)))
/-- 50: family_of -/
def N50 : List Str := ["system", "run", "process", "born", "found", "number"]
def B50 : SL := (.cons (.asg 3 (.call 49 (.cons (.var 0) (.cons (.var 1) (.cons (.var 2) .nil)))))
  (.cons (.own 4 (.lst (.cons (.var 2) .nil)))
  (.cons (.for (.name 5) (.rng2 (.add (.var 2) (.cst (.int 1))) (.blt .len (.var 3))) (.cons (.ite (.imm (.cmp .isin (.ix (.ix (.var 3) (.var 5)) (.cst (.int 2))) (.var 4))) (.cons (.app 4 (.var 5))
  .nil) .nil)
  .nil))
  (.cons (.ret (.blt .tuple (.var 4)))
  .nil))))
/-- 53: _law_any -/
def N53 : List Str := ["_law_source_here", "_law_some"]
def B53 : SL := (.cons (.ret (.ix (.var 1) (.call 52 (.cons (.var 0) (.cons (.blt .len (.var 1)) .nil)))))
  .nil)
/-- 54: _law_scene -/
def N54 : List Str := ["_law_source_here", "_law_top", "_law_low", "_law_deep", "_law_leaf", "_law_kind_here", "_law_main", "_law_work"]
def B54 : SL := (.cons (.par 4 5 false false (.tup (.cons (.cst (.str "w")) (.cons (.tup .nil) (.cons (.tup (.cons (.tup (.cons (.cst (.str "exit")) (.cons (.cst (.int 0)) .nil))) .nil)) .nil)))) (.call 52 (.cons (.var 0) (.cons (.cst (.int 6)) .nil))))
  (.cons (.ite (.cmp .eq (.var 5) (.cst (.int 0))) (.cons (.asg 6 (.tup (.cons (.tup (.cons (.cst (.str "fork")) (.cons (.cst (.str "lib")) (.cons (.cst (.str "l")) (.cons (.cst (.str "h")) (.cons (.cst (.int 1)) .nil)))))) (.cons (.tup (.cons (.cst (.str "fork")) (.cons (.cst (.str "work")) (.cons (.cst (.str "m")) (.cons (.cst (.str "")) (.cons (.cst (.int 2)) .nil)))))) (.cons (.tup (.cons (.cst (.str "wait")) (.cons (.tup (.cons (.tup (.cons (.cst (.str "h")) (.cons (.cst (.int 3)) (.cons (.cst (.int 3)) (.cons (.cst (.int 3)) .nil))))) .nil)) (.cons (.cst (.int 4)) (.cons (.cst (.int 5)) (.cons (.tup (.cons (.cst (.str "m")) .nil)) .nil)))))) .nil)))))
  (.cons (.asg 6 (.add (.var 6) (.tup (.cons (.tup (.cons (.cst (.str "wait")) (.cons (.tup .nil) (.cons (.cst (.int 6)) (.cons (.cst (.int 5)) (.cons (.tup (.cons (.cst (.str "m")) .nil)) .nil)))))) (.cons (.tup (.cons (.cst (.str "wait")) (.cons (.tup (.cons (.tup (.cons (.cst (.str "h")) (.cons (.cst (.int 6)) (.cons (.cst (.int 6)) (.cons (.cst (.int 6)) .nil))))) .nil)) (.cons (.neg (.cst (.int 1))) (.cons (.cst (.int 5)) (.cons (.tup (.cons (.cst (.str "l")) .nil)) .nil)))))) (.cons (.tup (.cons (.cst (.str "exit")) (.cons (.cst (.int 1)) .nil))) (.cons (.tup (.cons (.cst (.str "exit")) (.cons (.cst (.int 0)) .nil))) .nil)))))))
  (.cons (.asg 7 (.tup (.cons (.cst (.str "work")) (.cons (.tup .nil) (.cons (.tup (.cons (.tup (.cons (.cst (.str "fork")) (.cons (.cst (.str "lib")) (.cons (.cst (.str "x")) (.cons (.cst (.str "")) (.cons (.cst (.int 1)) .nil)))))) (.cons (.tup (.cons (.cst (.str "exit")) (.cons (.cst (.int 0)) .nil))) .nil))) .nil)))))
  (.cons (.ret (.tup (.cons (.tup (.cons (.cst (.str "main")) (.cons (.tup (.cons (.cst (.str "h")) .nil)) (.cons (.var 6) .nil)))) (.cons (.var 7) (.cons (.tup (.cons (.cst (.str "lib")) (.cons (.tup .nil) (.cons (.tup (.cons (.tup (.cons (.cst (.str "exit")) (.cons (.cst (.int 0)) .nil))) .nil)) .nil)))) .nil)))))
  .nil)))) .nil)
  (.cons (.ite (.cmp .eq (.var 5) (.cst (.int 1))) (.cons (.asg 1 (.tup (.cons (.tup (.cons (.cst (.str "fork")) (.cons (.cst (.str "c")) (.cons (.cst (.str "t")) (.cons (.cst (.str "a")) (.cons (.cst (.int 1)) .nil)))))) (.cons (.tup (.cons (.cst (.str "kill")) (.cons (.cst (.str "a")) (.cons (.cst (.int 2)) .nil)))) (.cons (.tup (.cons (.cst (.str "wait")) (.cons (.tup (.cons (.tup (.cons (.cst (.str "a")) (.cons (.cst (.int 3)) (.cons (.cst (.int 3)) (.cons (.cst (.int 3)) .nil))))) .nil)) (.cons (.cst (.int 2)) (.cons (.cst (.int 4)) (.cons (.tup (.cons (.cst (.str "t")) .nil)) .nil)))))) .nil)))))
  (.cons (.asg 1 (.tup (.cons (.cst (.str "p")) (.cons (.tup (.cons (.cst (.str "a")) .nil)) (.cons (.add (.var 1) (.tup (.cons (.tup (.cons (.cst (.str "wait")) (.cons (.tup .nil) (.cons (.cst (.int 3)) (.cons (.cst (.int 4)) (.cons (.tup .nil) .nil)))))) (.cons (.tup (.cons (.cst (.str "exit")) (.cons (.cst (.int 0)) .nil))) .nil)))) .nil)))))
  (.cons (.ret (.tup (.cons (.var 1) (.cons (.tup (.cons (.cst (.str "c")) (.cons (.tup (.cons (.cst (.str "b")) .nil)) (.cons (.tup (.cons (.tup (.cons (.cst (.str "fork")) (.cons (.cst (.str "w")) (.cons (.cst (.str "m")) (.cons (.cst (.str "b")) (.cons (.cst (.int 1)) .nil)))))) (.cons (.tup (.cons (.cst (.str "fork")) (.cons (.cst (.str "w")) (.cons (.cst (.str "m")) (.cons (.cst (.str "")) (.cons (.cst (.int 2)) .nil)))))) (.cons (.tup (.cons (.cst (.str "exit")) (.cons (.cst (.int 0)) .nil))) .nil)))) .nil)))) (.cons (.var 4) .nil)))))
  .nil))) .nil)
  (.cons (.ite (.cmp .eq (.var 5) (.cst (.int 2))) (.cons (.asg 1 (.tup (.cons (.cst (.str "p")) (.cons (.tup .nil) (.cons (.tup (.cons (.tup (.cons (.cst (.str "fork")) (.cons (.cst (.str "c")) (.cons (.cst (.str "u")) (.cons (.cst (.str "")) (.cons (.cst (.int 1)) .nil)))))) (.cons (.tup (.cons (.cst (.str "wait")) (.cons (.tup .nil) (.cons (.cst (.int 1)) (.cons (.cst (.int 2)) (.cons (.tup (.cons (.cst (.str "u")) .nil)) .nil)))))) (.cons (.tup (.cons (.cst (.str "exit")) (.cons (.cst (.int 0)) .nil))) .nil)))) .nil)))))
  (.cons (.ret (.tup (.cons (.var 1) (.cons (.tup (.cons (.cst (.str "c")) (.cons (.tup .nil) (.cons (.tup (.cons (.tup (.cons (.cst (.str "fork")) (.cons (.cst (.str "w")) (.cons (.cst (.str "x")) (.cons (.cst (.str "")) (.cons (.cst (.int 1)) .nil)))))) (.cons (.tup (.cons (.cst (.str "exit")) (.cons (.cst (.int 0)) .nil))) .nil))) .nil)))) (.cons (.tup (.cons (.cst (.str "w")) (.cons (.tup .nil) (.cons (.tup (.cons (.tup (.cons (.cst (.str "go")) (.cons (.tup (.cons (.cst (.int 0)) (.cons (.cst (.int 1)) .nil))) .nil))) (.cons (.tup (.cons (.cst (.str "exit")) (.cons (.cst (.int 1)) .nil))) .nil))) .nil)))) .nil)))))
  .nil)) .nil)
  (.cons (.ite (.cmp .eq (.var 5) (.cst (.int 3))) (.cons (.ret (.tup (.cons (.tup (.cons (.cst (.str "p")) (.cons (.tup .nil) (.cons (.tup (.cons (.tup (.cons (.cst (.str "fork")) (.cons (.cst (.str "w")) (.cons (.cst (.str "x")) (.cons (.cst (.str "")) (.cons (.cst (.int 1)) .nil)))))) (.cons (.tup (.cons (.cst (.str "poll")) (.cons (.tup .nil) (.cons (.cst (.int 2)) (.cons (.cst (.int 3)) (.cons (.cst (.int 1)) (.cons (.tup .nil) .nil))))))) (.cons (.tup (.cons (.cst (.str "exit")) (.cons (.cst (.int 0)) .nil))) (.cons (.tup (.cons (.cst (.str "exit")) (.cons (.cst (.int 1)) .nil))) .nil))))) .nil)))) (.cons (.var 4) .nil))))
  .nil) .nil)
  (.cons (.ite (.cmp .eq (.var 5) (.cst (.int 4))) (.cons (.asg 1 (.tup (.cons (.tup (.cons (.cst (.str "fork")) (.cons (.cst (.str "c")) (.cons (.cst (.str "u")) (.cons (.cst (.str "a")) (.cons (.cst (.int 1)) .nil)))))) (.cons (.tup (.cons (.cst (.str "fork")) (.cons (.cst (.str "c")) (.cons (.cst (.str "u")) (.cons (.cst (.str "a")) (.cons (.cst (.int 2)) .nil)))))) (.cons (.tup (.cons (.cst (.str "wait")) (.cons (.tup (.cons (.tup (.cons (.cst (.str "a")) (.cons (.cst (.int 3)) (.cons (.cst (.int 3)) (.cons (.cst (.int 3)) .nil))))) .nil)) (.cons (.cst (.int 3)) (.cons (.cst (.int 4)) (.cons (.tup (.cons (.cst (.str "u")) .nil)) .nil)))))) .nil)))))
  (.cons (.asg 1 (.tup (.cons (.cst (.str "p")) (.cons (.tup (.cons (.cst (.str "a")) .nil)) (.cons (.add (.var 1) (.tup (.cons (.tup (.cons (.cst (.str "wait")) (.cons (.tup .nil) (.cons (.cst (.int 3)) (.cons (.cst (.int 4)) (.cons (.tup .nil) .nil)))))) (.cons (.tup (.cons (.cst (.str "exit")) (.cons (.cst (.int 0)) .nil))) .nil)))) .nil)))))
  (.cons (.ret (.tup (.cons (.var 1) (.cons (.tup (.cons (.cst (.str "c")) (.cons (.tup .nil) (.cons (.tup (.cons (.tup (.cons (.cst (.str "fork")) (.cons (.cst (.str "w")) (.cons (.cst (.str "x")) (.cons (.cst (.str "")) (.cons (.cst (.int 1)) .nil)))))) (.cons (.tup (.cons (.cst (.str "exit")) (.cons (.cst (.int 0)) .nil))) .nil))) .nil)))) (.cons (.var 4) .nil)))))
  .nil))) .nil)
  (.cons (.asg 1 (.tup (.cons (.tup (.cons (.cst (.str "fork")) (.cons (.cst (.str "q")) (.cons (.cst (.str "t")) (.cons (.cst (.str "a")) (.cons (.cst (.int 1)) .nil)))))) (.cons (.tup (.cons (.cst (.str "fork")) (.cons (.cst (.str "q")) (.cons (.cst (.str "u")) (.cons (.cst (.str "b")) (.cons (.cst (.int 2)) .nil)))))) (.cons (.tup (.cons (.cst (.str "release")) (.cons (.cst (.str "a")) (.cons (.cst (.int 3)) .nil)))) (.cons (.tup (.cons (.cst (.str "kill")) (.cons (.cst (.str "b")) (.cons (.cst (.int 4)) .nil)))) .nil))))))
  (.cons (.asg 1 (.add (.var 1) (.tup (.cons (.tup (.cons (.cst (.str "poll")) (.cons (.tup (.cons (.tup (.cons (.cst (.str "a")) (.cons (.cst (.int 4)) (.cons (.cst (.int 4)) (.cons (.cst (.int 4)) .nil))))) (.cons (.tup (.cons (.cst (.str "b")) (.cons (.cst (.int 4)) (.cons (.cst (.int 4)) (.cons (.cst (.int 5)) .nil))))) .nil))) (.cons (.cst (.int 4)) (.cons (.cst (.int 5)) (.cons (.cst (.int 4)) (.cons (.tup (.cons (.cst (.str "t")) (.cons (.cst (.str "u")) .nil))) .nil))))))) (.cons (.tup (.cons (.cst (.str "go")) (.cons (.tup (.cons (.cst (.int 0)) (.cons (.cst (.int 6)) .nil))) .nil))) (.cons (.tup (.cons (.cst (.str "exit")) (.cons (.cst (.int 1)) .nil))) .nil))))))
  (.cons (.asg 2 (.tup (.cons (.tup (.cons (.cst (.str "fork")) (.cons (.cst (.str "c")) (.cons (.cst (.str "t")) (.cons (.cst (.str "")) (.cons (.cst (.int 1)) .nil)))))) (.cons (.tup (.cons (.cst (.str "fork")) (.cons (.cst (.str "c")) (.cons (.cst (.str "m")) (.cons (.cst (.str "")) (.cons (.cst (.int 2)) .nil)))))) (.cons (.tup (.cons (.cst (.str "go")) (.cons (.tup (.cons (.cst (.int 0)) (.cons (.cst (.int 3)) .nil))) .nil))) (.cons (.tup (.cons (.cst (.str "exit")) (.cons (.cst (.int 1)) .nil))) .nil))))))
  (.cons (.asg 3 (.tup (.cons (.tup (.cons (.cst (.str "fork")) (.cons (.cst (.str "w")) (.cons (.cst (.str "m")) (.cons (.cst (.str "b")) (.cons (.cst (.int 1)) .nil)))))) (.cons (.tup (.cons (.cst (.str "kill")) (.cons (.cst (.str "b")) (.cons (.cst (.int 2)) .nil)))) (.cons (.tup (.cons (.cst (.str "wait")) (.cons (.tup (.cons (.tup (.cons (.cst (.str "b")) (.cons (.cst (.int 3)) (.cons (.cst (.int 3)) (.cons (.cst (.int 3)) .nil))))) .nil)) (.cons (.neg (.cst (.int 1))) (.cons (.cst (.int 3)) (.cons (.tup .nil) .nil)))))) (.cons (.tup (.cons (.cst (.str "exit")) (.cons (.cst (.int 0)) .nil))) .nil))))))
  (.cons (.ret (.tup (.cons (.tup (.cons (.cst (.str "p")) (.cons (.tup (.cons (.cst (.str "a")) (.cons (.cst (.str "b")) .nil))) (.cons (.var 1) .nil)))) (.cons (.tup (.cons (.cst (.str "q")) (.cons (.tup .nil) (.cons (.var 2) .nil)))) (.cons (.tup (.cons (.cst (.str "c")) (.cons (.tup (.cons (.cst (.str "b")) .nil)) (.cons (.var 3) .nil)))) (.cons (.var 4) .nil))))))
  .nil)))))))))))
/-- 55: _law_wait -/
def N55 : List Str := ["_law_source_here", "_law_slots", "_law_tags_now", "_law_size", "_law_rows", "_law_slot", "_law_meant", "_law_pool", "_law_none", "_law_k"]
def B55 : SL := (.cons (.own 4 (.lst .nil))
  (.cons (.for (.name 5) (.seq (.var 1)) (.cons (.ite (.cmp .gt (.call 52 (.cons (.var 0) (.cons (.cst (.int 3)) .nil))) (.cst (.int 0))) (.cons (.app 4 (.tup (.cons (.var 5) (.cons (.call 52 (.cons (.var 0) (.cons (.var 3) .nil))) (.cons (.call 52 (.cons (.var 0) (.cons (.var 3) .nil))) (.cons (.call 52 (.cons (.var 0) (.cons (.var 3) .nil))) .nil))))))
  .nil) .nil)
  .nil))
  (.cons (.par 7 8 false false (.sub (.call 52 (.cons (.var 0) (.cons (.add (.var 3) (.cst (.int 1))) .nil))) (.cst (.int 1))) (.call 52 (.cons (.var 0) (.cons (.var 3) .nil))))
  (.cons (.ite (.and (.imm (.cmp .eq (.var 4) (.lst .nil))) (.cmp .eq (.var 7) (.neg (.cst (.int 1))))) (.cons (.asg 7 (.cst (.int 0)))
  .nil) .nil)
  (.cons (.asg 6 (.blt .tuple (.blt .sset (.lc [("_law_k", 9)] (.name 9) (.rng (.call 52 (.cons (.var 0) (.cons (.cst (.int 3)) .nil)))) .no (.call 53 (.cons (.var 0) (.cons (.var 2) .nil)))))))
  (.cons (.ite (.cmp .eq (.call 52 (.cons (.var 0) (.cons (.cst (.int 2)) .nil))) (.cst (.int 0))) (.cons (.ret (.tup (.cons (.cst (.str "wait")) (.cons (.blt .tuple (.var 4)) (.cons (.var 7) (.cons (.var 8) (.cons (.var 6) .nil)))))))
  .nil) .nil)
  (.cons (.ret (.tup (.cons (.cst (.str "poll")) (.cons (.blt .tuple (.var 4)) (.cons (.var 7) (.cons (.var 8) (.cons (.call 52 (.cons (.var 0) (.cons (.var 3) .nil))) (.cons (.var 6) .nil))))))))
  .nil)))))))
/-- 56: _law_fork -/
def N56 : List Str := ["_law_source_here", "_law_later", "_law_slots", "_law_tags_now", "_law_size", "_law_kind_here", "_law_tag"]
def B56 : SL := (.cons (.par 5 6 false false (.call 53 (.cons (.var 0) (.cons (.var 1) .nil))) (.call 53 (.cons (.var 0) (.cons (.var 3) .nil))))
  (.cons (.ret (.tup (.cons (.cst (.str "fork")) (.cons (.var 5) (.cons (.var 6) (.cons (.call 53 (.cons (.var 0) (.cons (.add (.tup (.cons (.cst (.str "")) (.cons (.cst (.str "")) .nil))) (.var 2)) .nil))) (.cons (.call 52 (.cons (.var 0) (.cons (.var 4) .nil))) .nil)))))))
  .nil))
/-- 57: _law_instruction -/
def N57 : List Str := ["_law_source_here", "_law_later", "_law_slots", "_law_tags_now", "_law_size", "_law_words", "_law_word"]
def B57 : SL := (.cons (.asg 5 (.lst (.cons (.cst (.str "go")) (.cons (.cst (.str "wait")) (.cons (.cst (.str "wait")) (.cons (.cst (.str "exit")) .nil))))))
  (.cons (.ite (.cmp .ne (.var 1) (.tup .nil)) (.cons (.asg 5 (.add (.var 5) (.lst (.cons (.cst (.str "fork")) (.cons (.cst (.str "fork")) (.cons (.cst (.str "fork")) (.cons (.cst (.str "fork")) .nil)))))))
  .nil) .nil)
  (.cons (.ite (.cmp .ne (.var 2) (.tup .nil)) (.cons (.asg 5 (.add (.var 5) (.lst (.cons (.cst (.str "kill")) (.cons (.cst (.str "release")) .nil)))))
  .nil) .nil)
  (.cons (.asg 6 (.call 53 (.cons (.var 0) (.cons (.var 5) .nil))))
  (.cons (.ite (.cmp .eq (.var 6) (.cst (.str "go"))) (.cons (.ret (.tup (.cons (.cst (.str "go")) (.cons (.blt .tuple (.blt .sset (.lst (.cons (.call 52 (.cons (.var 0) (.cons (.var 4) .nil))) (.cons (.call 52 (.cons (.var 0) (.cons (.var 4) .nil))) .nil))))) .nil))))
  .nil) .nil)
  (.cons (.ite (.cmp .eq (.var 6) (.cst (.str "fork"))) (.cons (.ret (.call 56 (.cons (.var 0) (.cons (.var 1) (.cons (.var 2) (.cons (.var 3) (.cons (.var 4) .nil)))))))
  .nil) .nil)
  (.cons (.ite (.cmp .eq (.var 6) (.cst (.str "exit"))) (.cons (.ret (.tup (.cons (.cst (.str "exit")) (.cons (.call 52 (.cons (.var 0) (.cons (.cst (.int 2)) .nil))) .nil))))
  .nil) .nil)
  (.cons (.ite (.cmp .eq (.var 6) (.cst (.str "wait"))) (.cons (.ret (.call 55 (.cons (.var 0) (.cons (.var 2) (.cons (.var 3) (.cons (.var 4) .nil))))))
  .nil) .nil)
  (.cons (.ret (.tup (.cons (.var 6) (.cons (.call 53 (.cons (.var 0) (.cons (.var 2) .nil))) (.cons (.call 52 (.cons (.var 0) (.cons (.var 4) .nil))) .nil)))))
  .nil)))))))))
/-- 58: _law_kind -/
def N58 : List Str := ["_law_source_here", "_law_name", "_law_later", "_law_tags_now", "_law_slots", "_law_size", "_law_places", "_law_k"]
def B58 : SL := (.cons (.asg 4 (.call 53 (.cons (.var 0) (.cons (.lst (.cons (.tup .nil) (.cons (.tup .nil) (.cons (.tup (.cons (.cst (.str "h")) .nil)) (.cons (.tup (.cons (.cst (.str "wait")) .nil)) (.cons (.tup (.cons (.cst (.str "a")) (.cons (.cst (.str "h")) .nil))) (.cons (.tup (.cons (.cst (.str "b")) (.cons (.cst (.str "zz")) .nil))) .nil))))))) .nil))))
  (.cons (.asg 5 (.add (.cst (.int 1)) (.call 52 (.cons (.var 0) (.cons (.cst (.int 7)) .nil)))))
  (.cons (.own 6 (.lc [("_law_k", 7)] (.name 7) (.rng (.var 5)) .no (.call 57 (.cons (.var 0) (.cons (.var 2) (.cons (.var 4) (.cons (.var 3) (.cons (.var 5) .nil))))))))
  (.cons (.ite (.cmp .gt (.call 52 (.cons (.var 0) (.cons (.cst (.int 3)) .nil))) (.cst (.int 0))) (.cons (.put 6 (.sub (.var 5) (.cst (.int 1))) (.tup (.cons (.cst (.str "exit")) (.cons (.call 52 (.cons (.var 0) (.cons (.cst (.int 2)) .nil))) .nil))))
  .nil) .nil)
  (.cons (.ite (.and (.cmp .ne (.var 2) (.tup .nil)) (.cmp .gt (.call 52 (.cons (.var 0) (.cons (.cst (.int 4)) .nil))) (.cst (.int 0)))) (.cons (.put 6 (.cst (.int 0)) (.call 56 (.cons (.var 0) (.cons (.var 2) (.cons (.var 4) (.cons (.var 3) (.cons (.var 5) .nil)))))))
  .nil) .nil)
  (.cons (.ret (.tup (.cons (.var 1) (.cons (.var 4) (.cons (.blt .tuple (.var 6)) .nil)))))
  .nil))))))
/-- 59: _law_system -/
def N59 : List Str := ["_law_source_here", "_law_names", "_law_tags_now", "_law_k", "_law_name"]
def B59 : SL := (.cons (.ite (.cmp .eq (.call 52 (.cons (.var 0) (.cons (.cst (.int 4)) .nil))) (.cst (.int 0))) (.cons (.ret (.call 54 (.cons (.var 0) .nil)))
  .nil) .nil)
  (.cons (.asg 1 (.call 53 (.cons (.var 0) (.cons (.lst (.cons (.tup (.cons (.cst (.str "main")) (.cons (.cst (.str "work")) (.cons (.cst (.str "lib")) (.cons (.cst (.str "w")) .nil))))) (.cons (.tup (.cons (.cst (.str "z")) (.cons (.cst (.str "y")) (.cons (.cst (.str "x")) (.cons (.cst (.str "a")) .nil))))) (.cons (.tup (.cons (.cst (.str "go")) (.cons (.cst (.str "fork")) (.cons (.cst (.str "exit")) (.cons (.cst (.str "wait")) .nil))))) .nil)))) .nil))))
  (.cons (.asg 1 (.sl (.var 1) .no (.so (.add (.cst (.int 2)) (.call 52 (.cons (.var 0) (.cons (.cst (.int 3)) .nil)))))))
  (.cons (.asg 2 (.call 53 (.cons (.var 0) (.cons (.lst (.cons (.tup (.cons (.cst (.str "l")) (.cons (.cst (.str "m")) (.cons (.cst (.str "x")) .nil)))) (.cons (.tup (.cons (.cst (.str "take")) (.cons (.cst (.str "none")) (.cons (.cst (.str "t")) .nil)))) (.cons (.tup (.cons (.cst (.str "abcdefgh")) (.cons (.cst (.str "a")) (.cons (.cst (.str "b")) .nil)))) .nil)))) .nil))))
  (.cons (.ret (.blt .tuple (.lc [("_law_k", 3), ("_law_name", 4)] (.tup [3, 4]) (.enum (.var 1)) .no (.call 58 (.cons (.var 0) (.cons (.var 4) (.cons (.sl (.var 1) (.so (.add (.var 3) (.cst (.int 1)))) .no) (.cons (.var 2) .nil))))))))
  .nil)))))
/-- 60: _law_newborn -/
def N60 : List Str := ["_law_whole", "_law_kind_here", "_law_tag", "_law_forker"]
def B60 : SL := (.cons (.ret (.tup (.cons (.var 1) (.cons (.var 2) (.cons (.var 3) (.cons (.var 3) (.cons (.neg (.cst (.int 1))) (.cons (.cst (.int 0)) (.cons (.mul (.tup (.cons (.neg (.cst (.int 1))) .nil)) (.blt .len (.ix (.ix (.var 0) (.var 1)) (.cst (.int 1))))) (.cons (.tup .nil) (.cons (.cst (.bl true)) .nil)))))))))))
  .nil)
/-- 61: _law_first -/
def N61 : List Str := ["_law_whole"]
def B61 : SL := (.cons (.ret (.tup (.cons (.call 60 (.cons (.var 0) (.cons (.cst (.int 0)) (.cons (.cst (.str "")) (.cons (.neg (.cst (.int 1))) .nil))))) .nil)))
  .nil)
/-- 62: _law_put -/
def N62 : List Str := ["_law_folk", "_law_p", "_law_spot", "_law_value", "_law_row"]
def B62 : SL := (.cons (.asg 4 (.ix (.var 0) (.var 1)))
  (.cons (.ret (.add (.add (.sl (.var 0) .no (.so (.var 1))) (.tup (.cons (.add (.add (.sl (.var 4) .no (.so (.var 2))) (.tup (.cons (.var 3) .nil))) (.sl (.var 4) (.so (.add (.var 2) (.cst (.int 1)))) .no)) .nil))) (.sl (.var 0) (.so (.add (.var 1) (.cst (.int 1)))) .no)))
  .nil))
/-- 63: _law_pooled -/
def N63 : List Str := ["_law_folk", "_law_p", "_law_some"]
def B63 : SL := (.cons (.ret (.call 62 (.cons (.var 0) (.cons (.var 1) (.cons (.cst (.int 7)) (.cons (.blt .tuple (.blt .sset (.add (.blt .list (.ix (.ix (.var 0) (.var 1)) (.cst (.int 7)))) (.var 2)))) .nil))))))
  .nil)
/-- 64: _law_slotted -/
def N64 : List Str := ["_law_folk", "_law_p", "_law_k", "_law_child", "_law_slots"]
def B64 : SL := (.cons (.asg 4 (.ix (.ix (.var 0) (.var 1)) (.cst (.int 6))))
  (.cons (.ret (.call 62 (.cons (.var 0) (.cons (.var 1) (.cons (.cst (.int 6)) (.cons (.add (.add (.sl (.var 4) .no (.so (.var 2))) (.tup (.cons (.var 3) .nil))) (.sl (.var 4) (.so (.add (.var 2) (.cst (.int 1)))) .no)) .nil))))))
  .nil))
/-- 65: _law_ended -/
def N65 : List Str := ["_law_folk", "_law_p", "_law_code", "_law_c", "_law_children", "_law_parent"]
def B65 : SL := (.cons (.par 4 5 false false (.add (.lc [("_law_c", 3)] (.name 3) (.seq (.ix (.ix (.var 0) (.var 1)) (.cst (.int 6)))) (.so (.cmp .ge (.var 3) (.cst (.int 0)))) (.var 3)) (.blt .list (.ix (.ix (.var 0) (.var 1)) (.cst (.int 7))))) (.ix (.ix (.var 0) (.var 1)) (.cst (.int 3))))
  (.cons (.for (.name 3) (.seq (.var 4)) (.cons (.asg 0 (.call 62 (.cons (.var 0) (.cons (.var 3) (.cons (.cst (.int 3)) (.cons (.var 5) .nil))))))
  .nil))
  (.cons (.ite (.cmp .ge (.var 5) (.cst (.int 0))) (.cons (.asg 0 (.call 63 (.cons (.var 0) (.cons (.var 5) (.cons (.var 4) .nil)))))
  .nil) .nil)
  (.cons (.asg 0 (.call 62 (.cons (.var 0) (.cons (.var 1) (.cons (.cst (.int 6)) (.cons (.mul (.tup (.cons (.neg (.cst (.int 1))) .nil)) (.blt .len (.ix (.ix (.var 0) (.var 1)) (.cst (.int 6))))) .nil))))))
  (.cons (.ret (.call 62 (.cons (.call 62 (.cons (.var 0) (.cons (.var 1) (.cons (.cst (.int 7)) (.cons (.tup .nil) .nil))))) (.cons (.var 1) (.cons (.cst (.int 4)) (.cons (.var 2) .nil))))))
  .nil)))))
/-- 66: _law_at -/
def N66 : List Str := ["_law_whole", "_law_folk", "_law_p"]
def B66 : SL := (.cons (.ret (.ix (.ix (.ix (.var 0) (.ix (.ix (.var 1) (.var 2)) (.cst (.int 0)))) (.cst (.int 2))) (.ix (.ix (.var 1) (.var 2)) (.cst (.int 5)))))
  .nil)
/-- 67: _law_in_rows -/
def N67 : List Str := ["_law_whole", "_law_folk", "_law_p", "_law_row", "_law_names", "_law_found", "_law_c"]
def B67 : SL := (.cons (.par 4 5 false true (.ix (.ix (.var 0) (.ix (.ix (.var 1) (.var 2)) (.cst (.int 0)))) (.cst (.int 1))) (.lst .nil))
  (.cons (.for (.name 3) (.seq (.ix (.call 66 (.cons (.var 0) (.cons (.var 1) (.cons (.var 2) .nil)))) (.cst (.int 1)))) (.cons (.asg 6 (.ix (.ix (.ix (.var 1) (.var 2)) (.cst (.int 6))) (.idx (.var 4) (.ix (.var 3) (.cst (.int 0))))))
  (.cons (.ite (.cmp .ge (.var 6) (.cst (.int 0))) (.cons (.app 5 (.var 6))
  .nil) .nil)
  .nil)))
  (.cons (.ret (.var 5))
  .nil)))
/-- 68: _law_steps -/
def N68 : List Str := ["_law_whole", "_law_folk", "_law_p", "_law_one", "_law_seen", "_law_looked", "_law_found", "_law_near", "_law_c", "_law_target"]
def B68 : SL := (.cons (.asg 3 (.call 66 (.cons (.var 0) (.cons (.var 1) (.cons (.var 2) .nil)))))
  (.cons (.ite (.cmp .eq (.ix (.var 3) (.cst (.int 0))) (.cst (.str "go"))) (.cons (.ret (.lc [("_law_target", 9)] (.name 9) (.seq (.ix (.var 3) (.cst (.int 1)))) .no (.tup (.cons (.var 2) (.cons (.cst (.str "go")) (.cons (.var 9) .nil))))))
  .nil) .nil)
  (.cons (.ite (.cmp .notin (.ix (.var 3) (.cst (.int 0))) (.tup (.cons (.cst (.str "wait")) (.cons (.cst (.str "poll")) .nil)))) (.cons (.ret (.lst (.cons (.tup (.cons (.var 2) (.cons (.ix (.var 3) (.cst (.int 0))) (.cons (.neg (.cst (.int 1))) .nil)))) .nil)))
  .nil) .nil)
  (.cons (.asg 4 (.call 67 (.cons (.var 0) (.cons (.var 1) (.cons (.var 2) .nil)))))
  (.cons (.asg 5 (.ife (.cmp .ne (.ix (.var 3) (.cst (.int 2))) (.neg (.cst (.int 1)))) (.add (.var 4) (.blt .list (.ix (.ix (.var 1) (.var 2)) (.cst (.int 7))))) (.var 4)))
  (.cons (.own 6 (.lc [("_law_c", 8)] (.name 8) (.seq (.var 5)) (.so (.cmp .ge (.ix (.ix (.var 1) (.var 8)) (.cst (.int 4))) (.cst (.int 0)))) (.tup (.cons (.var 2) (.cons (.cst (.str "take")) (.cons (.var 8) .nil))))))
  (.cons (.asg 7 (.var 4))
  (.cons (.ite (.cmp .ne (.ix (.var 3) (.cst (.int 2))) (.neg (.cst (.int 1)))) (.cons (.asg 7 (.add (.lc [("_law_c", 8)] (.name 8) (.seq (.ix (.ix (.var 1) (.var 2)) (.cst (.int 6)))) (.so (.cmp .ge (.var 8) (.cst (.int 0)))) (.var 8)) (.blt .list (.ix (.ix (.var 1) (.var 2)) (.cst (.int 7))))))
  .nil) .nil)
  (.cons (.ite (.cmp .eq (.var 7) (.lst .nil)) (.cons (.app 6 (.tup (.cons (.var 2) (.cons (.cst (.str "none")) (.cons (.neg (.cst (.int 1))) .nil)))))
  .nil) (.cons (.ite (.cmp .eq (.ix (.var 3) (.cst (.int 0))) (.cst (.str "poll"))) (.cons (.app 6 (.tup (.cons (.var 2) (.cons (.cst (.str "later")) (.cons (.neg (.cst (.int 1))) .nil)))))
  .nil) .nil)
  .nil))
  (.cons (.ret (.var 6))
  .nil))))))))))
/-- 69: _law_next -/
def N69 : List Str := ["_law_whole", "_law_folk", "_law_found", "_law_p", "_law_row"]
def B69 : SL := (.cons (.asg 2 (.lst .nil))
  (.cons (.for (.tup [3, 4]) (.enum (.var 1)) (.cons (.ite (.and (.ix (.var 4) (.cst (.int 8))) (.cmp .eq (.ix (.var 4) (.cst (.int 4))) (.neg (.cst (.int 1))))) (.cons (.asg 2 (.add (.var 2) (.call 68 (.cons (.var 0) (.cons (.var 1) (.cons (.var 3) .nil))))))
  .nil) .nil)
  .nil))
  (.cons (.ret (.blt .sset (.var 2)))
  .nil)))
/-- 70: _law_forked -/
def N70 : List Str := ["_law_whole", "_law_folk", "_law_p", "_law_one", "_law_k", "_law_old", "_law_c", "_law_names", "_law_kind_here"]
def B70 : SL := (.cons (.par 6 7 false false (.blt .len (.var 1)) (.lc [("_law_kind_here", 8)] (.name 8) (.seq (.var 0)) .no (.ix (.var 8) (.cst (.int 0)))))
  (.cons (.asg 1 (.add (.var 1) (.tup (.cons (.call 60 (.cons (.var 0) (.cons (.idx (.var 7) (.ix (.var 3) (.cst (.int 1)))) (.cons (.ix (.var 3) (.cst (.int 2))) (.cons (.var 2) .nil))))) .nil))))
  (.cons (.ite (.cmp .eq (.ix (.var 3) (.cst (.int 3))) (.cst (.str ""))) (.cons (.ret (.call 63 (.cons (.var 1) (.cons (.var 2) (.cons (.lst (.cons (.var 6) .nil)) .nil)))))
  .nil) .nil)
  (.cons (.asg 4 (.idx (.ix (.ix (.var 0) (.ix (.ix (.var 1) (.var 2)) (.cst (.int 0)))) (.cst (.int 1))) (.ix (.var 3) (.cst (.int 3)))))
  (.cons (.asg 5 (.ix (.ix (.ix (.var 1) (.var 2)) (.cst (.int 6))) (.var 4)))
  (.cons (.ret (.call 64 (.cons (.call 63 (.cons (.var 1) (.cons (.var 2) (.cons (.ife (.cmp .ge (.var 5) (.cst (.int 0))) (.lst (.cons (.var 5) .nil)) (.lst .nil)) .nil)))) (.cons (.var 2) (.cons (.var 4) (.cons (.var 6) .nil))))))
  .nil))))))
/-- 71: _law_taken -/
def N71 : List Str := ["_law_whole", "_law_folk", "_law_p", "_law_one", "_law_c", "_law_gone", "_law_k", "_law_row", "_law_rest", "_law_some", "_law_other"]
def B71 : SL := (.cons (.asg 5 (.call 62 (.cons (.var 1) (.cons (.var 4) (.cons (.cst (.int 8)) (.cons (.cst (.bl false)) .nil))))))
  (.cons (.ite (.cmp .isin (.var 4) (.ix (.ix (.var 1) (.var 2)) (.cst (.int 7)))) (.cons (.asg 8 (.blt .tuple (.lc [("_law_other", 10)] (.name 10) (.seq (.ix (.ix (.var 1) (.var 2)) (.cst (.int 7)))) (.so (.cmp .ne (.var 10) (.var 4))) (.var 10))))
  (.cons (.ret (.call 62 (.cons (.call 62 (.cons (.var 5) (.cons (.var 2) (.cons (.cst (.int 7)) (.cons (.var 8) .nil))))) (.cons (.var 2) (.cons (.cst (.int 5)) (.cons (.ix (.var 3) (.cst (.int 2))) .nil))))))
  .nil)) .nil)
  (.cons (.asg 6 (.idx (.ix (.ix (.var 1) (.var 2)) (.cst (.int 6))) (.var 4)))
  (.cons (.asg 7 (.ix (.lc [("_law_some", 9)] (.name 9) (.seq (.ix (.var 3) (.cst (.int 1)))) (.so (.cmp .eq (.ix (.var 9) (.cst (.int 0))) (.ix (.ix (.ix (.var 0) (.ix (.ix (.var 1) (.var 2)) (.cst (.int 0)))) (.cst (.int 1))) (.var 6)))) (.var 9)) (.cst (.int 0))))
  (.cons (.ret (.call 62 (.cons (.call 64 (.cons (.var 5) (.cons (.var 2) (.cons (.var 6) (.cons (.neg (.cst (.int 1))) .nil))))) (.cons (.var 2) (.cons (.cst (.int 5)) (.cons (.ix (.var 7) (.add (.cst (.int 1)) (.ix (.ix (.var 1) (.var 4)) (.cst (.int 4))))) .nil))))))
  .nil)))))
/-- 72: _law_done -/
def N72 : List Str := ["_law_whole", "_law_folk", "_law_single", "_law_one", "_law_k", "_law_c", "_law_p", "_law_word", "_law_number"]
def B72 : SL := (.cons (.unp [6, 7, 8] (.var 2))
  (.cons (.asg 3 (.call 66 (.cons (.var 0) (.cons (.var 1) (.cons (.var 6) .nil)))))
  (.cons (.ite (.cmp .eq (.var 7) (.cst (.str "go"))) (.cons (.ret (.call 62 (.cons (.var 1) (.cons (.var 6) (.cons (.cst (.int 5)) (.cons (.var 8) .nil))))))
  .nil) .nil)
  (.cons (.ite (.cmp .eq (.var 7) (.cst (.str "take"))) (.cons (.ret (.call 71 (.cons (.var 0) (.cons (.var 1) (.cons (.var 6) (.cons (.var 3) (.cons (.var 8) .nil)))))))
  .nil) .nil)
  (.cons (.ite (.cmp .eq (.var 7) (.cst (.str "none"))) (.cons (.ret (.call 62 (.cons (.var 1) (.cons (.var 6) (.cons (.cst (.int 5)) (.cons (.ix (.var 3) (.cst (.int 3))) .nil))))))
  .nil) .nil)
  (.cons (.ite (.cmp .eq (.var 7) (.cst (.str "later"))) (.cons (.ret (.call 62 (.cons (.var 1) (.cons (.var 6) (.cons (.cst (.int 5)) (.cons (.ix (.var 3) (.cst (.int 4))) .nil))))))
  .nil) .nil)
  (.cons (.ite (.cmp .eq (.var 7) (.cst (.str "exit"))) (.cons (.ret (.call 65 (.cons (.var 1) (.cons (.var 6) (.cons (.ix (.var 3) (.cst (.int 1))) .nil)))))
  .nil) .nil)
  (.cons (.ite (.cmp .eq (.var 7) (.cst (.str "fork"))) (.cons (.ret (.call 62 (.cons (.call 70 (.cons (.var 0) (.cons (.var 1) (.cons (.var 6) (.cons (.var 3) .nil))))) (.cons (.var 6) (.cons (.cst (.int 5)) (.cons (.ix (.var 3) (.cst (.int 4))) .nil))))))
  .nil) .nil)
  (.cons (.asg 4 (.idx (.ix (.ix (.var 0) (.ix (.ix (.var 1) (.var 6)) (.cst (.int 0)))) (.cst (.int 1))) (.ix (.var 3) (.cst (.int 1)))))
  (.cons (.asg 5 (.ix (.ix (.ix (.var 1) (.var 6)) (.cst (.int 6))) (.var 4)))
  (.cons (.ite (.and (.cmp .ge (.var 5) (.cst (.int 0))) (.cmp .eq (.var 7) (.cst (.str "release")))) (.cons (.asg 1 (.call 64 (.cons (.call 63 (.cons (.var 1) (.cons (.var 6) (.cons (.lst (.cons (.var 5) .nil)) .nil)))) (.cons (.var 6) (.cons (.var 4) (.cons (.neg (.cst (.int 1))) .nil))))))
  .nil) (.cons (.ite (.and (.cmp .ge (.var 5) (.cst (.int 0))) (.cmp .eq (.ix (.ix (.var 1) (.var 5)) (.cst (.int 4))) (.neg (.cst (.int 1))))) (.cons (.asg 1 (.call 65 (.cons (.var 1) (.cons (.var 5) (.cons (.cst (.int 2)) .nil)))))
  .nil) .nil)
  .nil))
  (.cons (.ret (.call 62 (.cons (.var 1) (.cons (.var 6) (.cons (.cst (.int 5)) (.cons (.ix (.var 3) (.cst (.int 2))) .nil))))))
  .nil))))))))))))
/-- 73: _law_led -/
def N73 : List Str := ["_law_source_here", "_law_whole", "_law_many", "_law_k", "_law_made", "_law_folks", "_law_some"]
def B73 : SL := (.cons (.par 4 5 true true (.lst .nil) (.lst (.cons (.call 61 (.cons (.var 1) .nil)) .nil)))
  (.cons (.for (.name 3) (.rng (.var 2)) (.cons (.asg 6 (.call 69 (.cons (.var 1) (.cons (.imm (.ix (.var 5) (.sub (.blt .len (.var 5)) (.cst (.int 1))))) .nil))))
  (.cons (.ite (.cmp .eq (.var 6) (.lst .nil)) (.cons .brk
  .nil) .nil)
  (.cons (.app 4 (.call 53 (.cons (.var 0) (.cons (.var 6) .nil))))
  (.cons (.app 5 (.call 72 (.cons (.var 1) (.cons (.imm (.ix (.var 5) (.sub (.blt .len (.var 5)) (.cst (.int 1))))) (.cons (.imm (.ix (.var 4) (.sub (.blt .len (.var 4)) (.cst (.int 1))))) .nil)))))
  .nil)))))
  (.cons (.ret (.tup (.cons (.blt .tuple (.var 4)) (.cons (.var 5) .nil))))
  .nil)))
/-- 74: _law_behind_right -/
def N74 : List Str := ["_law_whole", "_law_steps_now", "_law_folk", "_law_there", "_law_row", "_law_ways", "_law_told", "_law_p", "_law_one", "_law_left", "_law_c"]
def B74 : SL := (.cons (.par 5 6 false false (.call 48 (.cons (.var 0) (.cons (.var 1) .nil))) (.call 47 (.cons (.var 0) (.cons (.var 1) .nil))))
  (.cons (.asg 3 (.lc [("_law_row", 4)] (.name 4) (.seq (.var 6)) .no (.ix (.var 4) (.cst (.int 0)))))
  (.cons (.ite (.cmp .ne (.var 3) (.lc [("_law_p", 7), ("_law_row", 4)] (.tup [7, 4]) (.enum (.var 2)) (.so (.ix (.var 4) (.cst (.int 8)))) (.var 7))) (.cons (.ret (.cst (.bl false)))
  .nil) .nil)
  (.cons (.for (.name 4) (.seq (.var 6)) (.cons (.par 7 8 false false (.ix (.var 4) (.cst (.int 0))) (.call 66 (.cons (.var 0) (.cons (.var 2) (.cons (.ix (.var 4) (.cst (.int 0))) .nil)))))
  (.cons (.ite (.and (.cmp .eq (.ix (.var 4) (.cst (.int 4))) (.neg (.cst (.int 1)))) (.and (.cmp .isin (.ix (.var 8) (.cst (.int 0))) (.tup (.cons (.cst (.str "wait")) (.cons (.cst (.str "poll")) .nil)))) (.cmp .ne (.ix (.var 8) (.cst (.int 2))) (.neg (.cst (.int 1)))))) (.cons (.asg 9 (.lc [("_law_c", 10)] (.name 10) (.seq (.call 50 (.cons (.var 0) (.cons (.var 1) (.cons (.var 7) .nil))))) (.so (.and (.cmp .ne (.var 10) (.var 7)) (.cmp .isin (.var 10) (.var 3)))) (.var 10)))
  (.cons (.ite (.cmp .ne (.cmp .isin (.tup (.cons (.var 7) (.cons (.cst (.str "none")) (.cons (.neg (.cst (.int 1))) .nil)))) (.var 5)) (.cmp .eq (.var 9) (.lst .nil))) (.cons (.ret (.cst (.bl false)))
  .nil) .nil)
  (.cons (.ite (.cmp .ne (.cmp .isin (.tup (.cons (.var 7) (.cons (.cst (.str "later")) (.cons (.neg (.cst (.int 1))) .nil)))) (.var 5)) (.and (.cmp .ne (.var 9) (.lst .nil)) (.cmp .eq (.ix (.var 8) (.cst (.int 0))) (.cst (.str "poll"))))) (.cons (.ret (.cst (.bl false)))
  .nil) .nil)
  .nil))) .nil)
  .nil)))
  (.cons (.ret (.cst (.bl true)))
  .nil)))))
end Fy
end
section
/-! FyCk -/
namespace Fy
open PySem PySem.Spec PyProof.Rows L2
open C8 (scC)
def top (i : Nat) : Stmt := PySem.Challenge.pw_forkyields_k29_whole_none_with_a_pool.main.body.getD i (.Pass ⟨0, 0, 0, 0⟩)
theorem K0 : (scC N0 ["thing"] (defScope (top 14)) && chkSL N0 (fnms.take 0) (defScope (top 14)) B0 (defBody (top 14))) = true := by decide +kernel
theorem K1 : (scC N1 ["thing"] (defScope (top 15)) && chkSL N1 (fnms.take 1) (defScope (top 15)) B1 (defBody (top 15))) = true := by decide +kernel
theorem K2 : (scC N2 ["thing"] (defScope (top 16)) && chkSL N2 (fnms.take 2) (defScope (top 16)) B2 (defBody (top 16))) = true := by decide +kernel
theorem K3 : (scC N3 ["some"] (defScope (top 17)) && chkSL N3 (fnms.take 3) (defScope (top 17)) B3 (defBody (top 17))) = true := by decide +kernel
theorem K4 : (scC N4 ["thing"] (defScope (top 18)) && chkSL N4 (fnms.take 4) (defScope (top 18)) B4 (defBody (top 18))) = true := by decide +kernel
theorem K5 : (scC N5 ["thing"] (defScope (top 19)) && chkSL N5 (fnms.take 5) (defScope (top 19)) B5 (defBody (top 19))) = true := by decide +kernel
theorem K6 : (scC N6 ["thing", "many"] (defScope (top 20)) && chkSL N6 (fnms.take 6) (defScope (top 20)) B6 (defBody (top 20))) = true := by decide +kernel
theorem K7 : (scC N7 ["thing"] (defScope (top 21)) && chkSL N7 (fnms.take 7) (defScope (top 21)) B7 (defBody (top 21))) = true := by decide +kernel
theorem K8 : (scC N8 ["thing"] (defScope (top 22)) && chkSL N8 (fnms.take 8) (defScope (top 22)) B8 (defBody (top 22))) = true := by decide +kernel
theorem K9 : (scC N9 ["thing"] (defScope (top 23)) && chkSL N9 (fnms.take 9) (defScope (top 23)) B9 (defBody (top 23))) = true := by decide +kernel
theorem K10 : (scC N10 ["thing", "many"] (defScope (top 24)) && chkSL N10 (fnms.take 10) (defScope (top 24)) B10 (defBody (top 24))) = true := by decide +kernel
theorem K11 : (scC N11 ["thing"] (defScope (top 25)) && chkSL N11 (fnms.take 11) (defScope (top 25)) B11 (defBody (top 25))) = true := by decide +kernel
theorem K12 : (scC N12 ["thing"] (defScope (top 26)) && chkSL N12 (fnms.take 12) (defScope (top 26)) B12 (defBody (top 26))) = true := by decide +kernel
theorem K13 : (scC N13 ["thing"] (defScope (top 27)) && chkSL N13 (fnms.take 13) (defScope (top 27)) B13 (defBody (top 27))) = true := by decide +kernel
theorem K14 : (scC N14 ["thing"] (defScope (top 28)) && chkSL N14 (fnms.take 14) (defScope (top 28)) B14 (defBody (top 28))) = true := by decide +kernel
theorem K15 : (scC N15 ["instruction"] (defScope (top 29)) && chkSL N15 (fnms.take 15) (defScope (top 29)) B15 (defBody (top 29))) = true := by decide +kernel
theorem K16 : (scC N16 ["instruction"] (defScope (top 30)) && chkSL N16 (fnms.take 16) (defScope (top 30)) B16 (defBody (top 30))) = true := by decide +kernel
theorem K17 : (scC N17 ["system"] (defScope (top 31)) && chkSL N17 (fnms.take 17) (defScope (top 31)) B17 (defBody (top 31))) = true := by decide +kernel
theorem K18 : (scC N18 ["thing"] (defScope (top 32)) && chkSL N18 (fnms.take 18) (defScope (top 32)) B18 (defBody (top 32))) = true := by decide +kernel
theorem K19 : (scC N19 ["thing"] (defScope (top 33)) && chkSL N19 (fnms.take 19) (defScope (top 33)) B19 (defBody (top 33))) = true := by decide +kernel
theorem K20 : (scC N20 ["system", "name"] (defScope (top 38)) && chkSL N20 (fnms.take 20) (defScope (top 38)) B20 (defBody (top 38))) = true := by decide +kernel
theorem K21 : (scC N21 ["system", "process", "name", "tag", "parent"] (defScope (top 39)) && chkSL N21 (fnms.take 21) (defScope (top 39)) B21 (defBody (top 39))) = true := by decide +kernel
theorem K22 : (scC N22 ["system"] (defScope (top 40)) && chkSL N22 (fnms.take 22) (defScope (top 40)) B22 (defBody (top 40))) = true := by decide +kernel
theorem K23 : (scC N23 ["system", "row"] (defScope (top 41)) && chkSL N23 (fnms.take 23) (defScope (top 41)) B23 (defBody (top 41))) = true := by decide +kernel
theorem K24 : (scC N24 ["system", "row", "slot"] (defScope (top 42)) && chkSL N24 (fnms.take 24) (defScope (top 42)) B24 (defBody (top 42))) = true := by decide +kernel
theorem K25 : (scC N25 ["row"] (defScope (top 43)) && chkSL N25 (fnms.take 25) (defScope (top 43)) B25 (defBody (top 43))) = true := by decide +kernel
theorem K26 : (scC N26 ["there", "process"] (defScope (top 44)) && chkSL N26 (fnms.take 26) (defScope (top 44)) B26 (defBody (top 44))) = true := by decide +kernel
theorem K27 : (scC N27 ["there", "rows"] (defScope (top 45)) && chkSL N27 (fnms.take 27) (defScope (top 45)) B27 (defBody (top 45))) = true := by decide +kernel
theorem K28 : (scC N28 ["row", "place"] (defScope (top 46)) && chkSL N28 (fnms.take 28) (defScope (top 46)) B28 (defBody (top 46))) = true := by decide +kernel
theorem K29 : (scC N29 ["row", "at", "child"] (defScope (top 47)) && chkSL N29 (fnms.take 29) (defScope (top 47)) B29 (defBody (top 47))) = true := by decide +kernel
theorem K30 : (scC N30 ["row", "children"] (defScope (top 48)) && chkSL N30 (fnms.take 30) (defScope (top 48)) B30 (defBody (top 48))) = true := by decide +kernel
theorem K31 : (scC N31 ["row", "at"] (defScope (top 49)) && chkSL N31 (fnms.take 31) (defScope (top 49)) B31 (defBody (top 49))) = true := by decide +kernel
theorem K32 : (scC N32 ["there", "process", "code"] (defScope (top 50)) && chkSL N32 (fnms.take 32) (defScope (top 50)) B32 (defBody (top 50))) = true := by decide +kernel
theorem K33 : (scC N33 ["system", "row", "instruction"] (defScope (top 51)) && chkSL N33 (fnms.take 33) (defScope (top 51)) B33 (defBody (top 51))) = true := by decide +kernel
theorem K34 : (scC N34 ["system", "there", "row", "instruction"] (defScope (top 52)) && chkSL N34 (fnms.take 34) (defScope (top 52)) B34 (defBody (top 52))) = true := by decide +kernel
theorem K35 : (scC N35 ["system", "there", "row"] (defScope (top 53)) && chkSL N35 (fnms.take 35) (defScope (top 53)) B35 (defBody (top 53))) = true := by decide +kernel
theorem K36 : (scC N36 ["system", "tree"] (defScope (top 54)) && chkSL N36 (fnms.take 36) (defScope (top 54)) B36 (defBody (top 54))) = true := by decide +kernel
theorem K37 : (scC N37 ["system", "tree", "thing"] (defScope (top 55)) && chkSL N37 (fnms.take 37) (defScope (top 55)) B37 (defBody (top 55))) = true := by decide +kernel
theorem K38 : (scC N38 ["system", "tree", "row", "instruction"] (defScope (top 56)) && chkSL N38 (fnms.take 38) (defScope (top 56)) B38 (defBody (top 56))) = true := by decide +kernel
theorem K39 : (scC N39 ["system", "there", "row", "instruction", "child"] (defScope (top 57)) && chkSL N39 (fnms.take 39) (defScope (top 57)) B39 (defBody (top 57))) = true := by decide +kernel
theorem K40 : (scC N40 ["system", "there", "row", "instruction"] (defScope (top 58)) && chkSL N40 (fnms.take 40) (defScope (top 58)) B40 (defBody (top 58))) = true := by decide +kernel
theorem K41 : (scC N41 ["system", "tree", "step"] (defScope (top 59)) && chkSL N41 (fnms.take 41) (defScope (top 59)) B41 (defBody (top 59))) = true := by decide +kernel
theorem K42 : (scC N42 ["system", "steps"] (defScope (top 61)) && chkSL N42 (fnms.take 42) (defScope (top 61)) B42 (defBody (top 61))) = true := by decide +kernel
theorem K43 : (scC N43 ["system"] (defScope (top 62)) && chkSL N43 (fnms.take 43) (defScope (top 62)) B43 (defBody (top 62))) = true := by decide +kernel
theorem K44 : (scC N44 ["system", "run"] (defScope (top 63)) && chkSL N44 (fnms.take 44) (defScope (top 63)) B44 (defBody (top 63))) = true := by decide +kernel
theorem K45 : (scC N45 ["fine"] (defScope (top 64)) && chkSL N45 (fnms.take 45) (defScope (top 64)) B45 (defBody (top 64))) = true := by decide +kernel
theorem K46 : (scC N46 ["tree"] (defScope (top 65)) && chkSL N46 (fnms.take 46) (defScope (top 65)) B46 (defBody (top 65))) = true := by decide +kernel
theorem K47 : (scC N47 ["system", "run"] (defScope (top 66)) && chkSL N47 (fnms.take 47) (defScope (top 66)) B47 (defBody (top 66))) = true := by decide +kernel
theorem K48 : (scC N48 ["system", "run"] (defScope (top 67)) && chkSL N48 (fnms.take 48) (defScope (top 67)) B48 (defBody (top 67))) = true := by decide +kernel
theorem K49 : (scC N49 ["system", "run", "process"] (defScope (top 68)) && chkSL N49 (fnms.take 49) (defScope (top 68)) B49 (defBody (top 68))) = true := by decide +kernel
theorem K50 : (scC N50 ["system", "run", "process"] (defScope (top 70)) && chkSL N50 (fnms.take 50) (defScope (top 70)) B50 (defBody (top 70))) = true := by decide +kernel
theorem K53 : (scC N53 ["_law_source_here", "_law_some"] (defScope (top 74)) && chkSL N53 (fnms.take 53) (defScope (top 74)) B53 (defBody (top 74))) = true := by decide +kernel
theorem K54 : (scC N54 ["_law_source_here"] (defScope (top 75)) && chkSL N54 (fnms.take 54) (defScope (top 75)) B54 (defBody (top 75))) = true := by decide +kernel
theorem K55 : (scC N55 ["_law_source_here", "_law_slots", "_law_tags_now", "_law_size"] (defScope (top 76)) && chkSL N55 (fnms.take 55) (defScope (top 76)) B55 (defBody (top 76))) = true := by decide +kernel
theorem K56 : (scC N56 ["_law_source_here", "_law_later", "_law_slots", "_law_tags_now", "_law_size"] (defScope (top 77)) && chkSL N56 (fnms.take 56) (defScope (top 77)) B56 (defBody (top 77))) = true := by decide +kernel
theorem K57 : (scC N57 ["_law_source_here", "_law_later", "_law_slots", "_law_tags_now", "_law_size"] (defScope (top 78)) && chkSL N57 (fnms.take 57) (defScope (top 78)) B57 (defBody (top 78))) = true := by decide +kernel
theorem K58 : (scC N58 ["_law_source_here", "_law_name", "_law_later", "_law_tags_now"] (defScope (top 79)) && chkSL N58 (fnms.take 58) (defScope (top 79)) B58 (defBody (top 79))) = true := by decide +kernel
theorem K59 : (scC N59 ["_law_source_here"] (defScope (top 80)) && chkSL N59 (fnms.take 59) (defScope (top 80)) B59 (defBody (top 80))) = true := by decide +kernel
theorem K60 : (scC N60 ["_law_whole", "_law_kind_here", "_law_tag", "_law_forker"] (defScope (top 81)) && chkSL N60 (fnms.take 60) (defScope (top 81)) B60 (defBody (top 81))) = true := by decide +kernel
theorem K61 : (scC N61 ["_law_whole"] (defScope (top 82)) && chkSL N61 (fnms.take 61) (defScope (top 82)) B61 (defBody (top 82))) = true := by decide +kernel
theorem K62 : (scC N62 ["_law_folk", "_law_p", "_law_spot", "_law_value"] (defScope (top 83)) && chkSL N62 (fnms.take 62) (defScope (top 83)) B62 (defBody (top 83))) = true := by decide +kernel
theorem K63 : (scC N63 ["_law_folk", "_law_p", "_law_some"] (defScope (top 84)) && chkSL N63 (fnms.take 63) (defScope (top 84)) B63 (defBody (top 84))) = true := by decide +kernel
theorem K64 : (scC N64 ["_law_folk", "_law_p", "_law_k", "_law_child"] (defScope (top 85)) && chkSL N64 (fnms.take 64) (defScope (top 85)) B64 (defBody (top 85))) = true := by decide +kernel
theorem K65 : (scC N65 ["_law_folk", "_law_p", "_law_code"] (defScope (top 86)) && chkSL N65 (fnms.take 65) (defScope (top 86)) B65 (defBody (top 86))) = true := by decide +kernel
theorem K66 : (scC N66 ["_law_whole", "_law_folk", "_law_p"] (defScope (top 87)) && chkSL N66 (fnms.take 66) (defScope (top 87)) B66 (defBody (top 87))) = true := by decide +kernel
theorem K67 : (scC N67 ["_law_whole", "_law_folk", "_law_p"] (defScope (top 88)) && chkSL N67 (fnms.take 67) (defScope (top 88)) B67 (defBody (top 88))) = true := by decide +kernel
theorem K68 : (scC N68 ["_law_whole", "_law_folk", "_law_p"] (defScope (top 89)) && chkSL N68 (fnms.take 68) (defScope (top 89)) B68 (defBody (top 89))) = true := by decide +kernel
theorem K69 : (scC N69 ["_law_whole", "_law_folk"] (defScope (top 90)) && chkSL N69 (fnms.take 69) (defScope (top 90)) B69 (defBody (top 90))) = true := by decide +kernel
theorem K70 : (scC N70 ["_law_whole", "_law_folk", "_law_p", "_law_one"] (defScope (top 91)) && chkSL N70 (fnms.take 70) (defScope (top 91)) B70 (defBody (top 91))) = true := by decide +kernel
theorem K71 : (scC N71 ["_law_whole", "_law_folk", "_law_p", "_law_one", "_law_c"] (defScope (top 92)) && chkSL N71 (fnms.take 71) (defScope (top 92)) B71 (defBody (top 92))) = true := by decide +kernel
theorem K72 : (scC N72 ["_law_whole", "_law_folk", "_law_single"] (defScope (top 93)) && chkSL N72 (fnms.take 72) (defScope (top 93)) B72 (defBody (top 93))) = true := by decide +kernel
theorem K73 : (scC N73 ["_law_source_here", "_law_whole", "_law_many"] (defScope (top 94)) && chkSL N73 (fnms.take 73) (defScope (top 94)) B73 (defBody (top 94))) = true := by decide +kernel
theorem K74 : (scC N74 ["_law_whole", "_law_steps_now", "_law_folk"] (defScope (top 95)) && chkSL N74 (fnms.take 74) (defScope (top 95)) B74 (defBody (top 95))) = true := by decide +kernel
end Fy
end
section
/-! FyG -/
namespace Fy
open PySem PySem.Spec PyProof.Rows L2
open C8 (scC fnScope_by)
/-! ### from def to def -/
structure Mdl (K : PySem.W.Frag) (w : World) (mg : Str → Option Value) : Prop where
  free : ∀ x ∈ bltNames, mg x = none
  cons : ∀ (n : Nat) (p : Str × D), gcs[n]? = some p → ∃ u v, mg p.1 = some u ∧ RelV v u ∧ ∀ S G, Is K S G p.2 v
  words : ∃ d es n, mg "WORDS_AT" = some (.ref d) ∧ KDict K w d es n ∧ ∀ z ws, wordsD z = some ws → ∃ a, PySem.W.nsIn K d z = some (some (.ref a)) ∧ KTup K a (ws.map L2.V.str)
section
variable {P : Program} {w : World} {K : PySem.W.Frag} {mg : Str → Option Value} {base : Heap}
/-- the defs so far -/
def Has (P : Program) (w : World) (K : PySem.W.Frag) (mg : Str → Option Value) (base : Heap) (Γ : Nat → Spec) (k : Nat) : Prop := ∀ (f : Nat) (x : Str), (fnms.take k)[f]? = some x → ∃ a, mg x = some (.ref a) ∧ PySem.W.keepIn K (.ref a) = true ∧ FnR P w K mg base CX0 k a (spOf K (Γ f))
theorem fx_of {N : List Str} {x : Str} {sc : Scope} {f : Addr} {cdv : Value} {A : Around} {outer : List Env} {s : Shared} {H : Hp} {E : XK} (hk : sc.kind = .function) : Fx (cxOf CX0 P w K mg base N x sc f cdv A outer s H E).nox := ⟨hk, PassesOwn.never, fun _ => rfl⟩
theorem bs_of {Γ : Nat → Spec} {k : Nat} {N : List Str} {x : Str} {sc : Scope} {f : Addr} {cdv : Value} {A : Around} {outer : List Env} {s : Shared} {H : Hp} {E : XK} (M : Mdl K w mg) (h : Has P w K mg base Γ k) (nd : N.Nodup) (hr : Room k (A.deeper (envOfC x sc s.heap.objs.size f cdv))) :
    Bs Γ (fnms.take k) k (cxOf CX0 P w K mg base N x sc f cdv A outer s H E).nox := ⟨rfl, hr, nd, h, M.free, M.cons, M.words⟩
abbrev FnP (K : PySem.W.Frag) (x : Str) (st : Stmt) (f : Addr) (fd : FuncData) : Prop := FunD K x x (defArgs st) (defBody st) (defScope st) [] [] f fd
theorem ok_of {Γ : Nat → Spec} {k : Nat} {x : Str} {st : Stmt} {f : Addr} {fd : FuncData} {N ps : List Str} {b : SL} {G : Spec} (hS : SsetOk) (M : Mdl K w mg) (h : Has P w K mg base Γ k) (F : FnP K x st f fd) (ck : (scC N ps (defScope st) && chkSL N (fnms.take k) (defScope st) b (defBody st)) = true) (kp : Keeps Γ N b ps.length G) : FnOk P w K mg base CX0 (k + 1) f fd ps (spOf K G) := by
  obtain ⟨c1, c2⟩ := b2 ck
  have S := fnScope_by c1
  refine F.ok S (fun vs H Q E sp => sp_len kp sp) fun cdv A outer s H vs Q E hr sp => ?_
  obtain ⟨t, h1, h2⟩ := body_run hS (bs_of (E := E) (outer := outer) (H := H) M h S.nd hr) (fx_of (E := E) S.kind) c2 kp sp
  exact ⟨t, h1.nox, h2⟩
theorem fnr_of {k : Nat} {x : Str} {st : Stmt} {f : Addr} {fd : FuncData} {ps : List Str} {G : Spec} (F : FnP K x st f fd) (o : FnOk P w K mg base CX0 k f fd ps (spOf K G)) (gm : mg x = some (.ref f))
    (bd : ∀ (kV doc pm : Value) (an : Option Addr) (cdv ct : Value) (us : List Value), us.length = ps.length → bindArgs (PySem.W.fnOf x x (defArgs st) (defBody st) (defScope st) .none kV doc pm an cdv ct) ⟨us, []⟩ = pure (ps.zip us)) : ∃ a, mg x = some (.ref a) ∧ PySem.W.keepIn K (.ref a) = true ∧ FnR P w K mg base CX0 k a (spOf K G) :=
  ⟨f, gm, F.kp, (o.raw (F.bindsN bd) .nil).imp fun vs H Q E h => by rw [List.append_nil]; exact h⟩
theorem has_step {Γ : Nat → Spec} {k : Nat} {x : Str} (h : Has P w K mg base Γ k) (e : fnms[k]? = some x) (c : ∃ a, mg x = some (.ref a) ∧ PySem.W.keepIn K (.ref a) = true ∧ FnR P w K mg base CX0 (k + 1) a (spOf K (Γ k))) : Has P w K mg base Γ (k + 1) := fun f y hy => by
  by_cases q : f < k
  · obtain ⟨a, h1, h2, h3⟩ := h f y (by
      rw [List.getElem?_take] at hy ⊢
      rw [if_pos q]
      rwa [if_pos (by omega)] at hy)
    exact ⟨a, h1, h2, h3.mono (Nat.le_succ k)⟩
  · have hf : f < k + 1 := by
      rw [List.getElem?_take] at hy
      split at hy
      · assumption
      · cases hy
    have : f = k := by omega
    subst this
    rw [List.getElem?_take, if_pos (Nat.lt_succ_self _), e] at hy
    cases hy
    exact c
theorem has_zero {Γ : Nat → Spec} : Has P w K mg base Γ 0 := fun f x h => by simp at h
end
end Fy
end
section
/-! FyH2 -/
namespace Fy
open PySem PySem.Spec PyProof.Rows L2
theorem okTup_ok {K : PySem.W.Frag} {a : Addr} {vs : List Str} (h : FyH.okTup K a vs = true) : KTup K a (vs.map L2.V.str) := by
  unfold FyH.okTup at h
  split at h
  · rename_i t its n sl e
    obtain ⟨h1, h2⟩ := b2 h
    obtain ⟨h3, h4⟩ := b2 h2
    exact ⟨_, its, n, e, ⟨by rw [of_decide_eq_true h1], rfl⟩, rfl, of_decide_eq_true h3, He.relAll_ok h4⟩
  · cases h
theorem is_strs {K : PySem.W.Frag} {a : Addr} {vs : List Str} (h : KTup K a (vs.map L2.V.str)) : ∀ S G, Is K S G (strsD vs) (.ref a) := fun S G => is_tup.mpr ⟨a, _, rfl, .inr h, isL_strs vs⟩
section
variable {K : PySem.W.Frag} {w : World} {mg : Str → Option Value} {h : Heap}
abbrev Says (w : World) (h : Heap) (K : PySem.W.Frag) : Prop := He.SaysX FyH.fa FyH.fn FyH.ts [] FyH.ex w h K
theorem mdl_of (X : K.In h) (G : h.Ns mainGlobals mg) (c : Says w h K) : Mdl K w mg := by
  have m := c.more
  unfold FyH.ex at m
  simp only [Bool.and_eq_true] at m
  obtain ⟨⟨⟨⟨⟨⟨⟨⟨⟨⟨⟨m0, m1⟩, m2⟩, m3⟩, m4⟩, m5⟩, m6⟩, m7⟩, m8⟩, m9⟩, m10⟩, m11⟩ := m
  refine ⟨fun x hx => ?_, fun n p e => ?_, ?_⟩
  · simp only [bltNames, List.mem_cons, List.not_mem_nil, or_false] at hx
    rcases hx with rfl | rfl | rfl | rfl | rfl | rfl | rfl | rfl | rfl | rfl | rfl | rfl | rfl | rfl
    · exact He.free_ok X G (c.t.d.fact 76 (f := .free "isinstance") rfl)
    · exact He.free_ok X G (c.t.d.fact 77 (f := .free "int") rfl)
    · exact He.free_ok X G (c.t.d.fact 78 (f := .free "bool") rfl)
    · exact He.free_ok X G (c.t.d.fact 79 (f := .free "str") rfl)
    · exact He.free_ok X G (c.t.d.fact 80 (f := .free "tuple") rfl)
    · exact He.free_ok X G (c.t.d.fact 81 (f := .free "len") rfl)
    · exact He.free_ok X G (c.t.d.fact 82 (f := .free "all") rfl)
    · exact He.free_ok X G (c.t.d.fact 83 (f := .free "zip") rfl)
    · exact He.free_ok X G (c.t.d.fact 84 (f := .free "list") rfl)
    · exact He.free_ok X G (c.t.d.fact 85 (f := .free "enumerate") rfl)
    · exact He.free_ok X G (c.t.d.fact 86 (f := .free "dict") rfl)
    · exact He.free_ok X G (c.t.d.fact 87 (f := .free "sorted") rfl)
    · exact He.free_ok X G (c.t.d.fact 88 (f := .free "range") rfl)
    · exact He.free_ok X G (c.t.d.fact 89 (f := .free "set") rfl)
  · match n, e with
    | 0, e =>
      cases e
      obtain ⟨t, g⟩ := He.str_ok X G (c.t.d.fact 95 (f := .str "LETTERS" "abcdefghijklmnopqrstuvwxyz") rfl)
      exact ⟨_, .str "abcdefghijklmnopqrstuvwxyz", g, ⟨t, rfl⟩, fun S G => is_str.mpr rfl⟩
    | 1, e =>
      cases e
      obtain ⟨t, g⟩ := He.int_ok X G (c.t.d.fact 90 (f := .int "LONGEST_NAME" (8)) rfl)
      exact ⟨_, .int (8), g, ⟨t, rfl⟩, fun S G => is_int.mpr rfl⟩
    | 2, e =>
      cases e
      obtain ⟨t, g⟩ := He.str_ok X G (c.t.d.fact 96 (f := .str "POOL" "") rfl)
      exact ⟨_, .str "", g, ⟨t, rfl⟩, fun S G => is_str.mpr rfl⟩
    | 3, e =>
      cases e
      obtain ⟨t, g⟩ := He.int_ok X G (c.t.d.fact 91 (f := .int "NO_PLACE" (-1)) rfl)
      exact ⟨_, .int (-1), g, ⟨t, rfl⟩, fun S G => is_int.mpr rfl⟩
    | 4, e =>
      cases e
      obtain ⟨t, g⟩ := He.int_ok X G (c.t.d.fact 92 (f := .int "LIVING" (-1)) rfl)
      exact ⟨_, .int (-1), g, ⟨t, rfl⟩, fun S G => is_int.mpr rfl⟩
    | 5, e =>
      cases e
      exact ⟨_, .ref (He.ga K "STEP_WORDS"), He.glo_ok X G (c.t.d.fact 97 (f := .glo "STEP_WORDS") rfl), rfl, is_strs (okTup_ok m0)⟩
    | 6, e =>
      cases e
      exact ⟨_, .ref (He.ga K "NUMBERED_WORDS"), He.glo_ok X G (c.t.d.fact 98 (f := .glo "NUMBERED_WORDS") rfl), rfl, is_strs (okTup_ok m1)⟩
    | 7, e =>
      cases e
      exact ⟨_, .ref (He.ga K "WAIT_WORDS"), He.glo_ok X G (c.t.d.fact 99 (f := .glo "WAIT_WORDS") rfl), rfl, is_strs (okTup_ok m2)⟩
    | 8, e =>
      cases e
      exact ⟨_, .ref (He.ga K "SLOT_WORDS"), He.glo_ok X G (c.t.d.fact 100 (f := .glo "SLOT_WORDS") rfl), rfl, is_strs (okTup_ok m3)⟩
    | 9, e =>
      cases e
      obtain ⟨t, g⟩ := He.int_ok X G (c.t.d.fact 93 (f := .int "NOBODY" (-1)) rfl)
      exact ⟨_, .int (-1), g, ⟨t, rfl⟩, fun S G => is_int.mpr rfl⟩
    | 10, e =>
      cases e
      obtain ⟨t, g⟩ := He.int_ok X G (c.t.d.fact 94 (f := .int "KILLED" (2)) rfl)
      exact ⟨_, .int (2), g, ⟨t, rfl⟩, fun S G => is_int.mpr rfl⟩
    | n + 11, e => exact absurd e (by simp [gcs])
  · obtain ⟨es, n, D⟩ := c.t.tab 0 rfl
    refine ⟨_, es, n, He.glo_ok X G (c.t.d.fact 101 (f := .glo "WORDS_AT") rfl), D, fun z ws e => ?_⟩
    have vals : ∀ (k : Str) (f : PySem.W.Frag → Addr), (k, He.Dv.adr f) ∈ ([("go", .adr (FyH.atKey "WORDS_AT" "go")), ("fork", .adr (FyH.atKey "WORDS_AT" "fork")), ("wait", .adr (FyH.atKey "WORDS_AT" "wait")), ("poll", .adr (FyH.atKey "WORDS_AT" "poll")), ("kill", .adr (FyH.atKey "WORDS_AT" "kill")), ("release", .adr (FyH.atKey "WORDS_AT" "release")), ("exit", .adr (FyH.atKey "WORDS_AT" "exit"))] : List (Str × He.Dv)) → PySem.W.nsIn K (He.ga K "WORDS_AT") k = some (some (.ref (f K))) := fun k f hm => by
      obtain ⟨u, e1, r⟩ := He.valsB_ok m11 hm
      obtain rfl : u = Value.ref (f K) := r
      exact e1
    unfold wordsD at e
    by_cases q0 : z = "go"
    · rw [if_pos q0] at e
      cases e
      subst q0
      exact ⟨_, vals "go" _ (by simp), okTup_ok m4⟩
    by_cases q1 : z = "fork"
    · rw [if_neg q0, if_pos q1] at e
      cases e
      subst q1
      exact ⟨_, vals "fork" _ (by simp), okTup_ok m5⟩
    by_cases q2 : z = "wait"
    · rw [if_neg q0, if_neg q1, if_pos q2] at e
      cases e
      subst q2
      exact ⟨_, vals "wait" _ (by simp), okTup_ok m6⟩
    by_cases q3 : z = "poll"
    · rw [if_neg q0, if_neg q1, if_neg q2, if_pos q3] at e
      cases e
      subst q3
      exact ⟨_, vals "poll" _ (by simp), okTup_ok m7⟩
    by_cases q4 : z = "kill"
    · rw [if_neg q0, if_neg q1, if_neg q2, if_neg q3, if_pos q4] at e
      cases e
      subst q4
      exact ⟨_, vals "kill" _ (by simp), okTup_ok m8⟩
    by_cases q5 : z = "release"
    · rw [if_neg q0, if_neg q1, if_neg q2, if_neg q3, if_neg q4, if_pos q5] at e
      cases e
      subst q5
      exact ⟨_, vals "release" _ (by simp), okTup_ok m9⟩
    by_cases q6 : z = "exit"
    · rw [if_neg q0, if_neg q1, if_neg q2, if_neg q3, if_neg q4, if_neg q5, if_pos q6] at e
      cases e
      subst q6
      exact ⟨_, vals "exit" _ (by simp), okTup_ok m10⟩
    rw [if_neg q0, if_neg q1, if_neg q2, if_neg q3, if_neg q4, if_neg q5, if_neg q6] at e
    cases e
end
end Fy
end
section
/-! FyA -/
namespace Fy
open PySem PySem.Spec PyProof.Rows L2
open C8 (scC fnScope_by)
/-- f(x, *rest): the rest comes as a tuple that is only walked -/
def starG (G : Spec) : Spec := fun ds R => ∃ d rows, ds = d :: rows ∧ rows.length ≤ sizeLine ∧ G [d, .raw rows] R
section
variable {P : Program} {w : World} {K : PySem.W.Frag} {mg : Str → Option Value} {base : Heap} {h : Heap}
theorem star_of {Γ : Nat → Spec} {k : Nat} {x pv p1 : Str} {st : Stmt} {f : Addr} {fd : FuncData} {N : List Str} {b : SL} {G : Spec} (hS : SsetOk) (M : Mdl K w mg) (hh : Has P w K mg base Γ k) (F : FnP K x st f fd) (ck : (scC N [p1, pv] (defScope st) && chkSL N (fnms.take k) (defScope st) b (defBody st)) = true) (kp : Keeps Γ N b 2 G) (gm : mg x = some (.ref f))
    (hb : ∀ (kV doc pm : Value) (an : Option Addr) (cdv ct : Value) (us rest : List Value), us.length = [p1].length → bindArgs (PySem.W.fnOf x x (defArgs st) (defBody st) (defScope st) .none kV doc pm an cdv ct) ⟨us ++ rest, []⟩ = (newTuple rest >>= fun t => pure (([p1] : List Str).zip us ++ [(pv, t)]))) :
    ∃ a, mg x = some (.ref a) ∧ PySem.W.keepIn K (.ref a) = true ∧ FnR P w K mg base CX0 (k + 1) a (spOf K (starG G)) := by
  obtain ⟨c1, c2⟩ := b2 ck
  have S := fnScope_by c1
  refine ⟨f, gm, F.kp, ?_⟩
  obtain ⟨oc, od, dV, kV, doc, pm, an, cdv, ct, osl, rfl, lk, hcd, hD, hK⟩ := F.ex
  obtain rfl : dV = .none := by
    rcases hD with ⟨_, e⟩ | ⟨e, _⟩
    · exact e
    · exact absurd rfl e
  refine (StX.fn_star (ps := [p1]) (sp := spOf K G) lk hcd S StX.cxUp_none (hb kV doc pm an cdv ct) (fun A outer s H vs Q E hr sp => ?_)).imp fun vs H Q E hs => ?_
  · obtain ⟨t, h1, h2⟩ := body_run hS (bs_of (E := E) (outer := outer) (H := H) M hh S.nd hr) (fx_of (E := E) S.kind) c2 kp sp
    exact ⟨t, h1.nox, h2⟩
  · obtain ⟨S', V, ds, R, A, l, ⟨d, rows, rfl, hz, g⟩, q⟩ := hs
    unfold IsL at l
    obtain ⟨v, vr, rfl, i1, l1⟩ := l
    refine ⟨[v], vr, rfl, rfl, by rw [l1.len]; exact hz, fun p hp => ⟨S', V, [d, .raw rows], R, A.new hp, ?_, g, fun d r => Wit.ext (q d r) (Ext.new hp)⟩⟩
    exact isL_cons (Is.mono (Ext.new hp |>.hide V) _ _ i1) (isL_cons (is_raw.mpr ⟨p, vr, rfl, A.src.ne hp, hide_new (A.nin hp), IsL.mono (Ext.new hp |>.hide V) _ _ l1⟩) isL_nil)

/-- what is to be shown of the defs -/
structure AllK (Γ : Nat → Spec) (G27 : Spec) : Prop where
  k0 : Keeps Γ N0 B0 1 (Γ 0)
  k1 : Keeps Γ N1 B1 1 (Γ 1)
  k2 : Keeps Γ N2 B2 1 (Γ 2)
  k3 : Keeps Γ N3 B3 1 (Γ 3)
  k4 : Keeps Γ N4 B4 1 (Γ 4)
  k5 : Keeps Γ N5 B5 1 (Γ 5)
  k6 : Keeps Γ N6 B6 2 (Γ 6)
  k7 : Keeps Γ N7 B7 1 (Γ 7)
  k8 : Keeps Γ N8 B8 1 (Γ 8)
  k9 : Keeps Γ N9 B9 1 (Γ 9)
  k10 : Keeps Γ N10 B10 2 (Γ 10)
  k11 : Keeps Γ N11 B11 1 (Γ 11)
  k12 : Keeps Γ N12 B12 1 (Γ 12)
  k13 : Keeps Γ N13 B13 1 (Γ 13)
  k14 : Keeps Γ N14 B14 1 (Γ 14)
  k15 : Keeps Γ N15 B15 1 (Γ 15)
  k16 : Keeps Γ N16 B16 1 (Γ 16)
  k17 : Keeps Γ N17 B17 1 (Γ 17)
  k18 : Keeps Γ N18 B18 1 (Γ 18)
  k19 : Keeps Γ N19 B19 1 (Γ 19)
  k20 : Keeps Γ N20 B20 2 (Γ 20)
  k21 : Keeps Γ N21 B21 5 (Γ 21)
  k22 : Keeps Γ N22 B22 1 (Γ 22)
  k23 : Keeps Γ N23 B23 2 (Γ 23)
  k24 : Keeps Γ N24 B24 3 (Γ 24)
  k25 : Keeps Γ N25 B25 1 (Γ 25)
  k26 : Keeps Γ N26 B26 2 (Γ 26)
  k27 : Keeps Γ N27 B27 2 G27
  s27 : Γ 27 = starG G27
  k28 : Keeps Γ N28 B28 2 (Γ 28)
  k29 : Keeps Γ N29 B29 3 (Γ 29)
  k30 : Keeps Γ N30 B30 2 (Γ 30)
  k31 : Keeps Γ N31 B31 2 (Γ 31)
  k32 : Keeps Γ N32 B32 3 (Γ 32)
  k33 : Keeps Γ N33 B33 3 (Γ 33)
  k34 : Keeps Γ N34 B34 4 (Γ 34)
  k35 : Keeps Γ N35 B35 3 (Γ 35)
  k36 : Keeps Γ N36 B36 2 (Γ 36)
  k37 : Keeps Γ N37 B37 3 (Γ 37)
  k38 : Keeps Γ N38 B38 4 (Γ 38)
  k39 : Keeps Γ N39 B39 5 (Γ 39)
  k40 : Keeps Γ N40 B40 4 (Γ 40)
  k41 : Keeps Γ N41 B41 3 (Γ 41)
  k42 : Keeps Γ N42 B42 2 (Γ 42)
  k43 : Keeps Γ N43 B43 1 (Γ 43)
  k44 : Keeps Γ N44 B44 2 (Γ 44)
  k45 : Keeps Γ N45 B45 1 (Γ 45)
  k46 : Keeps Γ N46 B46 1 (Γ 46)
  k47 : Keeps Γ N47 B47 2 (Γ 47)
  k48 : Keeps Γ N48 B48 2 (Γ 48)
  k49 : Keeps Γ N49 B49 3 (Γ 49)
  k50 : Keeps Γ N50 B50 3 (Γ 50)
  k53 : Keeps Γ N53 B53 2 (Γ 53)
  k54 : Keeps Γ N54 B54 1 (Γ 54)
  k55 : Keeps Γ N55 B55 4 (Γ 55)
  k56 : Keeps Γ N56 B56 5 (Γ 56)
  k57 : Keeps Γ N57 B57 5 (Γ 57)
  k58 : Keeps Γ N58 B58 4 (Γ 58)
  k59 : Keeps Γ N59 B59 1 (Γ 59)
  k60 : Keeps Γ N60 B60 4 (Γ 60)
  k61 : Keeps Γ N61 B61 1 (Γ 61)
  k62 : Keeps Γ N62 B62 4 (Γ 62)
  k63 : Keeps Γ N63 B63 3 (Γ 63)
  k64 : Keeps Γ N64 B64 4 (Γ 64)
  k65 : Keeps Γ N65 B65 3 (Γ 65)
  k66 : Keeps Γ N66 B66 3 (Γ 66)
  k67 : Keeps Γ N67 B67 3 (Γ 67)
  k68 : Keeps Γ N68 B68 3 (Γ 68)
  k69 : Keeps Γ N69 B69 2 (Γ 69)
  k70 : Keeps Γ N70 B70 4 (Γ 70)
  k71 : Keeps Γ N71 B71 5 (Γ 71)
  k72 : Keeps Γ N72 B72 3 (Γ 72)
  k73 : Keeps Γ N73 B73 3 (Γ 73)
  k74 : Keeps Γ N74 B74 3 (Γ 74)
theorem has_all {Γ : Nat → Spec} {G27 : Spec} (hS : SsetOk) (A : AllK Γ G27) (X : K.In h) (G : h.Ns mainGlobals mg) (c : Says w h K)
    (h51 : Has P w K mg base Γ 51 → ∃ a, mg fnms[51]! = some (.ref a) ∧ PySem.W.keepIn K (.ref a) = true ∧ FnR P w K mg base CX0 52 a (spOf K (Γ 51)))
    (h52 : Has P w K mg base Γ 52 → ∃ a, mg fnms[52]! = some (.ref a) ∧ PySem.W.keepIn K (.ref a) = true ∧ FnR P w K mg base CX0 53 a (spOf K (Γ 52)))
    : Has P w K mg base Γ 75 := by
  have M := mdl_of X G c
  have a0 : Has P w K mg base Γ 0 := has_zero
  obtain ⟨d0, F0⟩ := c.t.d.def_ 0 (d := FyH.defD "is_integer" 14) rfl
  have a1 := has_step a0 rfl (fnr_of (st := top 14) F0 (ok_of (st := top 14) hS M a0 F0 K0 A.k0) (He.glo_ok X G (c.t.d.fact 0 (f := .glo "is_integer") rfl)) fun _ _ _ _ _ _ us hl => match us, hl with | [_], _ => rfl)
  obtain ⟨d1, F1⟩ := c.t.d.def_ 1 (d := FyH.defD "is_number" 15) rfl
  have a2 := has_step a1 rfl (fnr_of (st := top 15) F1 (ok_of (st := top 15) hS M a1 F1 K1 A.k1) (He.glo_ok X G (c.t.d.fact 1 (f := .glo "is_number") rfl)) fun _ _ _ _ _ _ us hl => match us, hl with | [_], _ => rfl)
  obtain ⟨d2, F2⟩ := c.t.d.def_ 2 (d := FyH.defD "is_name" 16) rfl
  have a3 := has_step a2 rfl (fnr_of (st := top 16) F2 (ok_of (st := top 16) hS M a2 F2 K2 A.k2) (He.glo_ok X G (c.t.d.fact 2 (f := .glo "is_name") rfl)) fun _ _ _ _ _ _ us hl => match us, hl with | [_], _ => rfl)
  obtain ⟨d3, F3⟩ := c.t.d.def_ 3 (d := FyH.defD "is_rising" 17) rfl
  have a4 := has_step a3 rfl (fnr_of (st := top 17) F3 (ok_of (st := top 17) hS M a3 F3 K3 A.k3) (He.glo_ok X G (c.t.d.fact 3 (f := .glo "is_rising") rfl)) fun _ _ _ _ _ _ us hl => match us, hl with | [_], _ => rfl)
  obtain ⟨d4, F4⟩ := c.t.d.def_ 4 (d := FyH.defD "is_name_set" 18) rfl
  have a5 := has_step a4 rfl (fnr_of (st := top 18) F4 (ok_of (st := top 18) hS M a4 F4 K4 A.k4) (He.glo_ok X G (c.t.d.fact 4 (f := .glo "is_name_set") rfl)) fun _ _ _ _ _ _ us hl => match us, hl with | [_], _ => rfl)
  obtain ⟨d5, F5⟩ := c.t.d.def_ 5 (d := FyH.defD "are_numbers" 19) rfl
  have a6 := has_step a5 rfl (fnr_of (st := top 19) F5 (ok_of (st := top 19) hS M a5 F5 K5 A.k5) (He.glo_ok X G (c.t.d.fact 5 (f := .glo "are_numbers") rfl)) fun _ _ _ _ _ _ us hl => match us, hl with | [_], _ => rfl)
  obtain ⟨d6, F6⟩ := c.t.d.def_ 6 (d := FyH.defD "is_tuple_of" 20) rfl
  have a7 := has_step a6 rfl (fnr_of (st := top 20) F6 (ok_of (st := top 20) hS M a6 F6 K6 A.k6) (He.glo_ok X G (c.t.d.fact 6 (f := .glo "is_tuple_of") rfl)) fun _ _ _ _ _ _ us hl => match us, hl with | [_, _], _ => rfl)
  obtain ⟨d7, F7⟩ := c.t.d.def_ 7 (d := FyH.defD "is_place_or_none" 21) rfl
  have a8 := has_step a7 rfl (fnr_of (st := top 21) F7 (ok_of (st := top 21) hS M a7 F7 K7 A.k7) (He.glo_ok X G (c.t.d.fact 7 (f := .glo "is_place_or_none") rfl)) fun _ _ _ _ _ _ us hl => match us, hl with | [_], _ => rfl)
  obtain ⟨d8, F8⟩ := c.t.d.def_ 8 (d := FyH.defD "is_row" 22) rfl
  have a9 := has_step a8 rfl (fnr_of (st := top 22) F8 (ok_of (st := top 22) hS M a8 F8 K8 A.k8) (He.glo_ok X G (c.t.d.fact 8 (f := .glo "is_row") rfl)) fun _ _ _ _ _ _ us hl => match us, hl with | [_], _ => rfl)
  obtain ⟨d9, F9⟩ := c.t.d.def_ 9 (d := FyH.defD "are_rows" 23) rfl
  have a10 := has_step a9 rfl (fnr_of (st := top 23) F9 (ok_of (st := top 23) hS M a9 F9 K9 A.k9) (He.glo_ok X G (c.t.d.fact 9 (f := .glo "are_rows") rfl)) fun _ _ _ _ _ _ us hl => match us, hl with | [_], _ => rfl)
  obtain ⟨d10, F10⟩ := c.t.d.def_ 10 (d := FyH.defD "is_wait" 24) rfl
  have a11 := has_step a10 rfl (fnr_of (st := top 24) F10 (ok_of (st := top 24) hS M a10 F10 K10 A.k10) (He.glo_ok X G (c.t.d.fact 10 (f := .glo "is_wait") rfl)) fun _ _ _ _ _ _ us hl => match us, hl with | [_, _], _ => rfl)
  obtain ⟨d11, F11⟩ := c.t.d.def_ 11 (d := FyH.defD "is_fork" 25) rfl
  have a12 := has_step a11 rfl (fnr_of (st := top 25) F11 (ok_of (st := top 25) hS M a11 F11 K11 A.k11) (He.glo_ok X G (c.t.d.fact 11 (f := .glo "is_fork") rfl)) fun _ _ _ _ _ _ us hl => match us, hl with | [_], _ => rfl)
  obtain ⟨d12, F12⟩ := c.t.d.def_ 12 (d := FyH.defD "is_instruction" 26) rfl
  have a13 := has_step a12 rfl (fnr_of (st := top 26) F12 (ok_of (st := top 26) hS M a12 F12 K12 A.k12) (He.glo_ok X G (c.t.d.fact 12 (f := .glo "is_instruction") rfl)) fun _ _ _ _ _ _ us hl => match us, hl with | [_], _ => rfl)
  obtain ⟨d13, F13⟩ := c.t.d.def_ 13 (d := FyH.defD "has_kind_shape" 27) rfl
  have a14 := has_step a13 rfl (fnr_of (st := top 27) F13 (ok_of (st := top 27) hS M a13 F13 K13 A.k13) (He.glo_ok X G (c.t.d.fact 13 (f := .glo "has_kind_shape") rfl)) fun _ _ _ _ _ _ us hl => match us, hl with | [_], _ => rfl)
  obtain ⟨d14, F14⟩ := c.t.d.def_ 14 (d := FyH.defD "is_step" 28) rfl
  have a15 := has_step a14 rfl (fnr_of (st := top 28) F14 (ok_of (st := top 28) hS M a14 F14 K14 A.k14) (He.glo_ok X G (c.t.d.fact 14 (f := .glo "is_step") rfl)) fun _ _ _ _ _ _ us hl => match us, hl with | [_], _ => rfl)
  obtain ⟨d15, F15⟩ := c.t.d.def_ 15 (d := FyH.defD "targets_of" 29) rfl
  have a16 := has_step a15 rfl (fnr_of (st := top 29) F15 (ok_of (st := top 29) hS M a15 F15 K15 A.k15) (He.glo_ok X G (c.t.d.fact 15 (f := .glo "targets_of") rfl)) fun _ _ _ _ _ _ us hl => match us, hl with | [_], _ => rfl)
  obtain ⟨d16, F16⟩ := c.t.d.def_ 16 (d := FyH.defD "slots_named" 30) rfl
  have a17 := has_step a16 rfl (fnr_of (st := top 30) F16 (ok_of (st := top 30) hS M a16 F16 K16 A.k16) (He.glo_ok X G (c.t.d.fact 16 (f := .glo "slots_named") rfl)) fun _ _ _ _ _ _ us hl => match us, hl with | [_], _ => rfl)
  obtain ⟨d17, F17⟩ := c.t.d.def_ 17 (d := FyH.defD "instructions_fault" 31) rfl
  have a18 := has_step a17 rfl (fnr_of (st := top 31) F17 (ok_of (st := top 31) hS M a17 F17 K17 A.k17) (He.glo_ok X G (c.t.d.fact 17 (f := .glo "instructions_fault") rfl)) fun _ _ _ _ _ _ us hl => match us, hl with | [_], _ => rfl)
  obtain ⟨d18, F18⟩ := c.t.d.def_ 18 (d := FyH.defD "system_fault" 32) rfl
  have a19 := has_step a18 rfl (fnr_of (st := top 32) F18 (ok_of (st := top 32) hS M a18 F18 K18 A.k18) (He.glo_ok X G (c.t.d.fact 18 (f := .glo "system_fault") rfl)) fun _ _ _ _ _ _ us hl => match us, hl with | [_], _ => rfl)
  obtain ⟨d19, F19⟩ := c.t.d.def_ 19 (d := FyH.defD "is_system" 33) rfl
  have a20 := has_step a19 rfl (fnr_of (st := top 33) F19 (ok_of (st := top 33) hS M a19 F19 K19 A.k19) (He.glo_ok X G (c.t.d.fact 19 (f := .glo "is_system") rfl)) fun _ _ _ _ _ _ us hl => match us, hl with | [_], _ => rfl)
  obtain ⟨d20, F20⟩ := c.t.d.def_ 20 (d := FyH.defD "named_kind" 38) rfl
  have a21 := has_step a20 rfl (fnr_of (st := top 38) F20 (ok_of (st := top 38) hS M a20 F20 K20 A.k20) (He.glo_ok X G (c.t.d.fact 20 (f := .glo "named_kind") rfl)) fun _ _ _ _ _ _ us hl => match us, hl with | [_, _], _ => rfl)
  obtain ⟨d21, F21⟩ := c.t.d.def_ 21 (d := FyH.defD "new_row" 39) rfl
  have a22 := has_step a21 rfl (fnr_of (st := top 39) F21 (ok_of (st := top 39) hS M a21 F21 K21 A.k21) (He.glo_ok X G (c.t.d.fact 21 (f := .glo "new_row") rfl)) fun _ _ _ _ _ _ us hl => match us, hl with | [_, _, _, _, _], _ => rfl)
  obtain ⟨d22, F22⟩ := c.t.d.def_ 22 (d := FyH.defD "first_tree" 40) rfl
  have a23 := has_step a22 rfl (fnr_of (st := top 40) F22 (ok_of (st := top 40) hS M a22 F22 K22 A.k22) (He.glo_ok X G (c.t.d.fact 22 (f := .glo "first_tree") rfl)) fun _ _ _ _ _ _ us hl => match us, hl with | [_], _ => rfl)
  obtain ⟨d23, F23⟩ := c.t.d.def_ 23 (d := FyH.defD "instruction_of" 41) rfl
  have a24 := has_step a23 rfl (fnr_of (st := top 41) F23 (ok_of (st := top 41) hS M a23 F23 K23 A.k23) (He.glo_ok X G (c.t.d.fact 23 (f := .glo "instruction_of") rfl)) fun _ _ _ _ _ _ us hl => match us, hl with | [_, _], _ => rfl)
  obtain ⟨d24, F24⟩ := c.t.d.def_ 24 (d := FyH.defD "slot_index" 42) rfl
  have a25 := has_step a24 rfl (fnr_of (st := top 42) F24 (ok_of (st := top 42) hS M a24 F24 K24 A.k24) (He.glo_ok X G (c.t.d.fact 24 (f := .glo "slot_index") rfl)) fun _ _ _ _ _ _ us hl => match us, hl with | [_, _, _], _ => rfl)
  obtain ⟨d25, F25⟩ := c.t.d.def_ 25 (d := FyH.defD "children_in" 43) rfl
  have a26 := has_step a25 rfl (fnr_of (st := top 43) F25 (ok_of (st := top 43) hS M a25 F25 K25 A.k25) (He.glo_ok X G (c.t.d.fact 25 (f := .glo "children_in") rfl)) fun _ _ _ _ _ _ us hl => match us, hl with | [_], _ => rfl)
  obtain ⟨d26, F26⟩ := c.t.d.def_ 26 (d := FyH.defD "has_ended" 44) rfl
  have a27 := has_step a26 rfl (fnr_of (st := top 44) F26 (ok_of (st := top 44) hS M a26 F26 K26 A.k26) (He.glo_ok X G (c.t.d.fact 26 (f := .glo "has_ended") rfl)) fun _ _ _ _ _ _ us hl => match us, hl with | [_, _], _ => rfl)
  obtain ⟨d27, F27⟩ := c.t.d.def_ 27 (d := FyH.defD "replaced" 45) rfl
  have a28 := has_step a27 rfl (by rw [A.s27]; exact star_of (st := top 45) hS M a27 F27 K27 A.k27 (He.glo_ok X G (c.t.d.fact 27 (f := .glo "replaced") rfl)) (fun _ _ _ _ _ _ us rest hl => match us, rest, hl with | [_], [], _ => rfl | [_], _ :: _, _ => rfl))
  obtain ⟨d28, F28⟩ := c.t.d.def_ 28 (d := FyH.defD "at_place" 46) rfl
  have a29 := has_step a28 rfl (fnr_of (st := top 46) F28 (ok_of (st := top 46) hS M a28 F28 K28 A.k28) (He.glo_ok X G (c.t.d.fact 28 (f := .glo "at_place") rfl)) fun _ _ _ _ _ _ us hl => match us, hl with | [_, _], _ => rfl)
  obtain ⟨d29, F29⟩ := c.t.d.def_ 29 (d := FyH.defD "with_slot" 47) rfl
  have a30 := has_step a29 rfl (fnr_of (st := top 47) F29 (ok_of (st := top 47) hS M a29 F29 K29 A.k29) (He.glo_ok X G (c.t.d.fact 29 (f := .glo "with_slot") rfl)) fun _ _ _ _ _ _ us hl => match us, hl with | [_, _, _], _ => rfl)
  obtain ⟨d30, F30⟩ := c.t.d.def_ 30 (d := FyH.defD "pooled" 48) rfl
  have a31 := has_step a30 rfl (fnr_of (st := top 48) F30 (ok_of (st := top 48) hS M a30 F30 K30 A.k30) (He.glo_ok X G (c.t.d.fact 30 (f := .glo "pooled") rfl)) fun _ _ _ _ _ _ us hl => match us, hl with | [_, _], _ => rfl)
  obtain ⟨d31, F31⟩ := c.t.d.def_ 31 (d := FyH.defD "released" 49) rfl
  have a32 := has_step a31 rfl (fnr_of (st := top 49) F31 (ok_of (st := top 49) hS M a31 F31 K31 A.k31) (He.glo_ok X G (c.t.d.fact 31 (f := .glo "released") rfl)) fun _ _ _ _ _ _ us hl => match us, hl with | [_, _], _ => rfl)
  obtain ⟨d32, F32⟩ := c.t.d.def_ 32 (d := FyH.defD "ended" 50) rfl
  have a33 := has_step a32 rfl (fnr_of (st := top 50) F32 (ok_of (st := top 50) hS M a32 F32 K32 A.k32) (He.glo_ok X G (c.t.d.fact 32 (f := .glo "ended") rfl)) fun _ _ _ _ _ _ us hl => match us, hl with | [_, _, _], _ => rfl)
  obtain ⟨d33, F33⟩ := c.t.d.def_ 33 (d := FyH.defD "watched_children" 51) rfl
  have a34 := has_step a33 rfl (fnr_of (st := top 51) F33 (ok_of (st := top 51) hS M a33 F33 K33 A.k33) (He.glo_ok X G (c.t.d.fact 33 (f := .glo "watched_children") rfl)) fun _ _ _ _ _ _ us hl => match us, hl with | [_, _, _], _ => rfl)
  obtain ⟨d34, F34⟩ := c.t.d.def_ 34 (d := FyH.defD "wait_moves" 52) rfl
  have a35 := has_step a34 rfl (fnr_of (st := top 52) F34 (ok_of (st := top 52) hS M a34 F34 K34 A.k34) (He.glo_ok X G (c.t.d.fact 34 (f := .glo "wait_moves") rfl)) fun _ _ _ _ _ _ us hl => match us, hl with | [_, _, _, _], _ => rfl)
  obtain ⟨d35, F35⟩ := c.t.d.def_ 35 (d := FyH.defD "moves_of" 53) rfl
  have a36 := has_step a35 rfl (fnr_of (st := top 53) F35 (ok_of (st := top 53) hS M a35 F35 K35 A.k35) (He.glo_ok X G (c.t.d.fact 35 (f := .glo "moves_of") rfl)) fun _ _ _ _ _ _ us hl => match us, hl with | [_, _, _], _ => rfl)
  obtain ⟨d36, F36⟩ := c.t.d.def_ 36 (d := FyH.defD "steps_in" 54) rfl
  have a37 := has_step a36 rfl (fnr_of (st := top 54) F36 (ok_of (st := top 54) hS M a36 F36 K36 A.k36) (He.glo_ok X G (c.t.d.fact 36 (f := .glo "steps_in") rfl)) fun _ _ _ _ _ _ us hl => match us, hl with | [_, _], _ => rfl)
  obtain ⟨d37, F37⟩ := c.t.d.def_ 37 (d := FyH.defD "step_fault" 55) rfl
  have a38 := has_step a37 rfl (fnr_of (st := top 55) F37 (ok_of (st := top 55) hS M a37 F37 K37 A.k37) (He.glo_ok X G (c.t.d.fact 37 (f := .glo "step_fault") rfl)) fun _ _ _ _ _ _ us hl => match us, hl with | [_, _, _], _ => rfl)
  obtain ⟨d38, F38⟩ := c.t.d.def_ 38 (d := FyH.defD "forked" 56) rfl
  have a39 := has_step a38 rfl (fnr_of (st := top 56) F38 (ok_of (st := top 56) hS M a38 F38 K38 A.k38) (He.glo_ok X G (c.t.d.fact 38 (f := .glo "forked") rfl)) fun _ _ _ _ _ _ us hl => match us, hl with | [_, _, _, _], _ => rfl)
  obtain ⟨d39, F39⟩ := c.t.d.def_ 39 (d := FyH.defD "taken" 57) rfl
  have a40 := has_step a39 rfl (fnr_of (st := top 57) F39 (ok_of (st := top 57) hS M a39 F39 K39 A.k39) (He.glo_ok X G (c.t.d.fact 39 (f := .glo "taken") rfl)) fun _ _ _ _ _ _ us hl => match us, hl with | [_, _, _, _, _], _ => rfl)
  obtain ⟨d40, F40⟩ := c.t.d.def_ 40 (d := FyH.defD "killed" 58) rfl
  have a41 := has_step a40 rfl (fnr_of (st := top 58) F40 (ok_of (st := top 58) hS M a40 F40 K40 A.k40) (He.glo_ok X G (c.t.d.fact 40 (f := .glo "killed") rfl)) fun _ _ _ _ _ _ us hl => match us, hl with | [_, _, _, _], _ => rfl)
  obtain ⟨d41, F41⟩ := c.t.d.def_ 41 (d := FyH.defD "after_step" 59) rfl
  have a42 := has_step a41 rfl (fnr_of (st := top 59) F41 (ok_of (st := top 59) hS M a41 F41 K41 A.k41) (He.glo_ok X G (c.t.d.fact 41 (f := .glo "after_step") rfl)) fun _ _ _ _ _ _ us hl => match us, hl with | [_, _, _], _ => rfl)
  obtain ⟨d42, F42⟩ := c.t.d.def_ 42 (d := FyH.defD "walked" 61) rfl
  have a43 := has_step a42 rfl (fnr_of (st := top 61) F42 (ok_of (st := top 61) hS M a42 F42 K42 A.k42) (He.glo_ok X G (c.t.d.fact 42 (f := .glo "walked") rfl)) fun _ _ _ _ _ _ us hl => match us, hl with | [_, _], _ => rfl)
  obtain ⟨d43, F43⟩ := c.t.d.def_ 43 (d := FyH.defD "need_system" 62) rfl
  have a44 := has_step a43 rfl (fnr_of (st := top 62) F43 (ok_of (st := top 62) hS M a43 F43 K43 A.k43) (He.glo_ok X G (c.t.d.fact 43 (f := .glo "need_system") rfl)) fun _ _ _ _ _ _ us hl => match us, hl with | [_], _ => rfl)
  obtain ⟨d44, F44⟩ := c.t.d.def_ 44 (d := FyH.defD "tree_behind" 63) rfl
  have a45 := has_step a44 rfl (fnr_of (st := top 63) F44 (ok_of (st := top 63) hS M a44 F44 K44 A.k44) (He.glo_ok X G (c.t.d.fact 44 (f := .glo "tree_behind") rfl)) fun _ _ _ _ _ _ us hl => match us, hl with | [_, _], _ => rfl)
  obtain ⟨d45, F45⟩ := c.t.d.def_ 45 (d := FyH.defD "need_process" 64) rfl
  have a46 := has_step a45 rfl (fnr_of (st := top 64) F45 (ok_of (st := top 64) hS M a45 F45 K45 A.k45) (He.glo_ok X G (c.t.d.fact 45 (f := .glo "need_process") rfl)) fun _ _ _ _ _ _ us hl => match us, hl with | [_], _ => rfl)
  obtain ⟨d46, F46⟩ := c.t.d.def_ 46 (d := FyH.defD "rows_of" 65) rfl
  have a47 := has_step a46 rfl (fnr_of (st := top 65) F46 (ok_of (st := top 65) hS M a46 F46 K46 A.k46) (He.glo_ok X G (c.t.d.fact 46 (f := .glo "rows_of") rfl)) fun _ _ _ _ _ _ us hl => match us, hl with | [_], _ => rfl)
  obtain ⟨d47, F47⟩ := c.t.d.def_ 47 (d := FyH.defD "tree_after" 66) rfl
  have a48 := has_step a47 rfl (fnr_of (st := top 66) F47 (ok_of (st := top 66) hS M a47 F47 K47 A.k47) (He.glo_ok X G (c.t.d.fact 47 (f := .glo "tree_after") rfl)) fun _ _ _ _ _ _ us hl => match us, hl with | [_, _], _ => rfl)
  obtain ⟨d48, F48⟩ := c.t.d.def_ 48 (d := FyH.defD "next_steps" 67) rfl
  have a49 := has_step a48 rfl (fnr_of (st := top 67) F48 (ok_of (st := top 67) hS M a48 F48 K48 A.k48) (He.glo_ok X G (c.t.d.fact 48 (f := .glo "next_steps") rfl)) fun _ _ _ _ _ _ us hl => match us, hl with | [_, _], _ => rfl)
  obtain ⟨d49, F49⟩ := c.t.d.def_ 49 (d := FyH.defD "born_of" 68) rfl
  have a50 := has_step a49 rfl (fnr_of (st := top 68) F49 (ok_of (st := top 68) hS M a49 F49 K49 A.k49) (He.glo_ok X G (c.t.d.fact 49 (f := .glo "born_of") rfl)) fun _ _ _ _ _ _ us hl => match us, hl with | [_, _, _], _ => rfl)
  obtain ⟨d50, F50⟩ := c.t.d.def_ 50 (d := FyH.defD "family_of" 70) rfl
  have a51 := has_step a50 rfl (fnr_of (st := top 70) F50 (ok_of (st := top 70) hS M a50 F50 K50 A.k50) (He.glo_ok X G (c.t.d.fact 50 (f := .glo "family_of") rfl)) fun _ _ _ _ _ _ us hl => match us, hl with | [_, _, _], _ => rfl)
  have a52 := has_step a51 rfl (h51 a51)
  have a53 := has_step a52 rfl (h52 a52)
  obtain ⟨d53, F53⟩ := c.t.d.def_ 53 (d := FyH.defD "_law_any" 74) rfl
  have a54 := has_step a53 rfl (fnr_of (st := top 74) F53 (ok_of (st := top 74) hS M a53 F53 K53 A.k53) (He.glo_ok X G (c.t.d.fact 53 (f := .glo "_law_any") rfl)) fun _ _ _ _ _ _ us hl => match us, hl with | [_, _], _ => rfl)
  obtain ⟨d54, F54⟩ := c.t.d.def_ 54 (d := FyH.defD "_law_scene" 75) rfl
  have a55 := has_step a54 rfl (fnr_of (st := top 75) F54 (ok_of (st := top 75) hS M a54 F54 K54 A.k54) (He.glo_ok X G (c.t.d.fact 54 (f := .glo "_law_scene") rfl)) fun _ _ _ _ _ _ us hl => match us, hl with | [_], _ => rfl)
  obtain ⟨d55, F55⟩ := c.t.d.def_ 55 (d := FyH.defD "_law_wait" 76) rfl
  have a56 := has_step a55 rfl (fnr_of (st := top 76) F55 (ok_of (st := top 76) hS M a55 F55 K55 A.k55) (He.glo_ok X G (c.t.d.fact 55 (f := .glo "_law_wait") rfl)) fun _ _ _ _ _ _ us hl => match us, hl with | [_, _, _, _], _ => rfl)
  obtain ⟨d56, F56⟩ := c.t.d.def_ 56 (d := FyH.defD "_law_fork" 77) rfl
  have a57 := has_step a56 rfl (fnr_of (st := top 77) F56 (ok_of (st := top 77) hS M a56 F56 K56 A.k56) (He.glo_ok X G (c.t.d.fact 56 (f := .glo "_law_fork") rfl)) fun _ _ _ _ _ _ us hl => match us, hl with | [_, _, _, _, _], _ => rfl)
  obtain ⟨d57, F57⟩ := c.t.d.def_ 57 (d := FyH.defD "_law_instruction" 78) rfl
  have a58 := has_step a57 rfl (fnr_of (st := top 78) F57 (ok_of (st := top 78) hS M a57 F57 K57 A.k57) (He.glo_ok X G (c.t.d.fact 57 (f := .glo "_law_instruction") rfl)) fun _ _ _ _ _ _ us hl => match us, hl with | [_, _, _, _, _], _ => rfl)
  obtain ⟨d58, F58⟩ := c.t.d.def_ 58 (d := FyH.defD "_law_kind" 79) rfl
  have a59 := has_step a58 rfl (fnr_of (st := top 79) F58 (ok_of (st := top 79) hS M a58 F58 K58 A.k58) (He.glo_ok X G (c.t.d.fact 58 (f := .glo "_law_kind") rfl)) fun _ _ _ _ _ _ us hl => match us, hl with | [_, _, _, _], _ => rfl)
  obtain ⟨d59, F59⟩ := c.t.d.def_ 59 (d := FyH.defD "_law_system" 80) rfl
  have a60 := has_step a59 rfl (fnr_of (st := top 80) F59 (ok_of (st := top 80) hS M a59 F59 K59 A.k59) (He.glo_ok X G (c.t.d.fact 59 (f := .glo "_law_system") rfl)) fun _ _ _ _ _ _ us hl => match us, hl with | [_], _ => rfl)
  obtain ⟨d60, F60⟩ := c.t.d.def_ 60 (d := FyH.defD "_law_newborn" 81) rfl
  have a61 := has_step a60 rfl (fnr_of (st := top 81) F60 (ok_of (st := top 81) hS M a60 F60 K60 A.k60) (He.glo_ok X G (c.t.d.fact 60 (f := .glo "_law_newborn") rfl)) fun _ _ _ _ _ _ us hl => match us, hl with | [_, _, _, _], _ => rfl)
  obtain ⟨d61, F61⟩ := c.t.d.def_ 61 (d := FyH.defD "_law_first" 82) rfl
  have a62 := has_step a61 rfl (fnr_of (st := top 82) F61 (ok_of (st := top 82) hS M a61 F61 K61 A.k61) (He.glo_ok X G (c.t.d.fact 61 (f := .glo "_law_first") rfl)) fun _ _ _ _ _ _ us hl => match us, hl with | [_], _ => rfl)
  obtain ⟨d62, F62⟩ := c.t.d.def_ 62 (d := FyH.defD "_law_put" 83) rfl
  have a63 := has_step a62 rfl (fnr_of (st := top 83) F62 (ok_of (st := top 83) hS M a62 F62 K62 A.k62) (He.glo_ok X G (c.t.d.fact 62 (f := .glo "_law_put") rfl)) fun _ _ _ _ _ _ us hl => match us, hl with | [_, _, _, _], _ => rfl)
  obtain ⟨d63, F63⟩ := c.t.d.def_ 63 (d := FyH.defD "_law_pooled" 84) rfl
  have a64 := has_step a63 rfl (fnr_of (st := top 84) F63 (ok_of (st := top 84) hS M a63 F63 K63 A.k63) (He.glo_ok X G (c.t.d.fact 63 (f := .glo "_law_pooled") rfl)) fun _ _ _ _ _ _ us hl => match us, hl with | [_, _, _], _ => rfl)
  obtain ⟨d64, F64⟩ := c.t.d.def_ 64 (d := FyH.defD "_law_slotted" 85) rfl
  have a65 := has_step a64 rfl (fnr_of (st := top 85) F64 (ok_of (st := top 85) hS M a64 F64 K64 A.k64) (He.glo_ok X G (c.t.d.fact 64 (f := .glo "_law_slotted") rfl)) fun _ _ _ _ _ _ us hl => match us, hl with | [_, _, _, _], _ => rfl)
  obtain ⟨d65, F65⟩ := c.t.d.def_ 65 (d := FyH.defD "_law_ended" 86) rfl
  have a66 := has_step a65 rfl (fnr_of (st := top 86) F65 (ok_of (st := top 86) hS M a65 F65 K65 A.k65) (He.glo_ok X G (c.t.d.fact 65 (f := .glo "_law_ended") rfl)) fun _ _ _ _ _ _ us hl => match us, hl with | [_, _, _], _ => rfl)
  obtain ⟨d66, F66⟩ := c.t.d.def_ 66 (d := FyH.defD "_law_at" 87) rfl
  have a67 := has_step a66 rfl (fnr_of (st := top 87) F66 (ok_of (st := top 87) hS M a66 F66 K66 A.k66) (He.glo_ok X G (c.t.d.fact 66 (f := .glo "_law_at") rfl)) fun _ _ _ _ _ _ us hl => match us, hl with | [_, _, _], _ => rfl)
  obtain ⟨d67, F67⟩ := c.t.d.def_ 67 (d := FyH.defD "_law_in_rows" 88) rfl
  have a68 := has_step a67 rfl (fnr_of (st := top 88) F67 (ok_of (st := top 88) hS M a67 F67 K67 A.k67) (He.glo_ok X G (c.t.d.fact 67 (f := .glo "_law_in_rows") rfl)) fun _ _ _ _ _ _ us hl => match us, hl with | [_, _, _], _ => rfl)
  obtain ⟨d68, F68⟩ := c.t.d.def_ 68 (d := FyH.defD "_law_steps" 89) rfl
  have a69 := has_step a68 rfl (fnr_of (st := top 89) F68 (ok_of (st := top 89) hS M a68 F68 K68 A.k68) (He.glo_ok X G (c.t.d.fact 68 (f := .glo "_law_steps") rfl)) fun _ _ _ _ _ _ us hl => match us, hl with | [_, _, _], _ => rfl)
  obtain ⟨d69, F69⟩ := c.t.d.def_ 69 (d := FyH.defD "_law_next" 90) rfl
  have a70 := has_step a69 rfl (fnr_of (st := top 90) F69 (ok_of (st := top 90) hS M a69 F69 K69 A.k69) (He.glo_ok X G (c.t.d.fact 69 (f := .glo "_law_next") rfl)) fun _ _ _ _ _ _ us hl => match us, hl with | [_, _], _ => rfl)
  obtain ⟨d70, F70⟩ := c.t.d.def_ 70 (d := FyH.defD "_law_forked" 91) rfl
  have a71 := has_step a70 rfl (fnr_of (st := top 91) F70 (ok_of (st := top 91) hS M a70 F70 K70 A.k70) (He.glo_ok X G (c.t.d.fact 70 (f := .glo "_law_forked") rfl)) fun _ _ _ _ _ _ us hl => match us, hl with | [_, _, _, _], _ => rfl)
  obtain ⟨d71, F71⟩ := c.t.d.def_ 71 (d := FyH.defD "_law_taken" 92) rfl
  have a72 := has_step a71 rfl (fnr_of (st := top 92) F71 (ok_of (st := top 92) hS M a71 F71 K71 A.k71) (He.glo_ok X G (c.t.d.fact 71 (f := .glo "_law_taken") rfl)) fun _ _ _ _ _ _ us hl => match us, hl with | [_, _, _, _, _], _ => rfl)
  obtain ⟨d72, F72⟩ := c.t.d.def_ 72 (d := FyH.defD "_law_done" 93) rfl
  have a73 := has_step a72 rfl (fnr_of (st := top 93) F72 (ok_of (st := top 93) hS M a72 F72 K72 A.k72) (He.glo_ok X G (c.t.d.fact 72 (f := .glo "_law_done") rfl)) fun _ _ _ _ _ _ us hl => match us, hl with | [_, _, _], _ => rfl)
  obtain ⟨d73, F73⟩ := c.t.d.def_ 73 (d := FyH.defD "_law_led" 94) rfl
  have a74 := has_step a73 rfl (fnr_of (st := top 94) F73 (ok_of (st := top 94) hS M a73 F73 K73 A.k73) (He.glo_ok X G (c.t.d.fact 73 (f := .glo "_law_led") rfl)) fun _ _ _ _ _ _ us hl => match us, hl with | [_, _, _], _ => rfl)
  obtain ⟨d74, F74⟩ := c.t.d.def_ 74 (d := FyH.defD "_law_behind_right" 95) rfl
  have a75 := has_step a74 rfl (fnr_of (st := top 95) F74 (ok_of (st := top 95) hS M a74 F74 K74 A.k74) (He.glo_ok X G (c.t.d.fact 74 (f := .glo "_law_behind_right") rfl)) fun _ _ _ _ _ _ us hl => match us, hl with | [_, _, _], _ => rfl)
  exact a75
end
end Fy
end
section
/-! FyEnd -/
set_option maxHeartbeats 0
namespace Fy
open PySem PySem.Spec PyProof.Rows L2
def spLaw (K : PySem.W.Frag) : Sp := fun vs H Q _ => ∃ (a : Addr) (ns : List Int), vs = [.ref a] ∧ SqL K H a (ns.map V.int) ∧ ∀ H', Q (.bl true) H'
/-- the law's own def keeps its promise -/
def LawOk : Prop := ∀ (P : Program) (w : World) (K : PySem.W.Frag) (mg : Str → Option Value) (base h : Heap) (fa : Addr) (fd : FuncData), K.In h → h.Ns mainGlobals mg → Says w h K → FnP K "law" (top 96) fa fd → FnOk P w K mg base CX0 76 fa fd ["_law_script"] (spLaw K)
end Fy
open PySem PySem.W PySem.Calls PyProof.Rows
theorem Fy.end_of (HL : Fy.LawOk) : PySem.Challenge.rw_forkyields_k29_whole_none_with_a_pool.Holds := by
  w_on; o_law
  refine HandSHeadRun.head_any (r := OpenLaw.row PySem.Challenge.rw_forkyields_k29_whole_none_with_a_pool) (q := view (OpenLaw.row PySem.Challenge.rw_forkyields_k29_whole_none_with_a_pool).prog [96]) (H := FyH.hk) (ob := FyH.ob) (M := 5000) (loose := FyH.loose) (d := HandSHeadRun.topDef (OpenLaw.row PySem.Challenge.rw_forkyields_k29_whole_none_with_a_pool).prog 96) (kwd := []) FyH.ob_eq
    (by kernel_rfl) (fun s => by kernel_rfl) FyH.run (by kernel_rfl) (by kernel_rfl) (by kernel_rfl) (by rfl) (by first | assumption | decide +kernel) (by decide +kernel) ⟨rfl, rfl, rfl, rfl, rfl, by decide +kernel⟩ ?hw ?hc
  case hw => w_witness2
  case hc =>
    refine L2.walk_ofE (l := PySem.Challenge.rw_forkyields_k29_whole_none_with_a_pool) (n := 63) (k := 76) (x := "_law_script") (CX := L2.CX0) rfl (by decide) (by kernel_rfl) ⟨rfl, by decide, by decide⟩ ?F (fun _ _ _ _ z => z)
    intro w mg fa h Y G hmg0
    obtain ⟨K, KX, c⟩ := Y
    have hmg : mg ("law" : PySem.Str) = some (.ref fa) := by
      have e : (HandSHeadRun.topDef (OpenLaw.row PySem.Challenge.rw_forkyields_k29_whole_none_with_a_pool).prog 96).name = ("law" : PySem.Str) := by kernel_rfl
      rw [← e]
      exact hmg0
    obtain ⟨fd, F⟩ := c.t.d.def_ 75 (d := FyH.defD "law" 96) rfl
    have e := hmg.symm.trans (He.glo_ok KX G (c.t.d.fact 75 (f := .glo "law") rfl))
    cases e
    have b := L2.FunD.bindsA (ps := ["_law_script"]) F fun _ _ _ _ _ _ us hl => match us, hl with | [_], _ => rfl
    exact ⟨K, fd, Fy.spLaw K, KX, fun s v => b s [v] rfl, fun H a ns hl _ hS => ⟨a, ns, rfl, hS, fun _ => rfl⟩, fun base _ _ => HL _ w K mg base h _ fd KX G c F⟩
end
section
/-! FyMod -/
namespace Fy
open PySem PySem.Spec
/-! ### the typed model: systems, processes, steps -/
abbrev WRow := Str × Nat × Nat × Nat
inductive Ins where
  | go (ts : List Nat) | fork (kind tag slot : Str) (t : Nat) | wait (rows : List WRow) (pool : Option Nat) (non : Nat) (later : Option Nat) (meant : List Str)
  | kill (s : Str) (t : Nat) | release (s : Str) (t : Nat) | exit (c : Nat)
  deriving Inhabited
structure Kd where
  name : Str
  slots : List Str
  places : List Ins
  deriving Inhabited
/-- none as -1 -/
def oi : Option Nat → Int
  | none => -1
  | some n => n
def nD (n : Nat) : D := .int n
def oD (o : Option Nat) : D := .int (oi o)
def WRow.d (r : WRow) : D := .tup [.str r.1, nD r.2.1, nD r.2.2.1, nD r.2.2.2]
def Ins.word : Ins → Str
  | .go _ => "go" | .fork .. => "fork" | .wait _ _ _ none _ => "wait" | .wait _ _ _ (some _) _ => "poll" | .kill .. => "kill" | .release .. => "release" | .exit _ => "exit"
def Ins.d : Ins → D
  | .go ts => .tup [.str "go", .tup (ts.map nD)]
  | .fork k t s n => .tup [.str "fork", .str k, .str t, .str s, nD n]
  | .wait rows pool non none meant => .tup [.str "wait", .tup (rows.map WRow.d), oD pool, nD non, strsD meant]
  | .wait rows pool non (some l) meant => .tup [.str "poll", .tup (rows.map WRow.d), oD pool, nD non, nD l, strsD meant]
  | .kill s t => .tup [.str "kill", .str s, nD t]
  | .release s t => .tup [.str "release", .str s, nD t]
  | .exit c => .tup [.str "exit", nD c]
def Kd.d (k : Kd) : D := .tup [.str k.name, strsD k.slots, .tup (k.places.map Ins.d)]
abbrev Sys := List Kd
def sysD (w : Sys) : D := .tup (w.map Kd.d)
/-- the names that occur -/
def names : List Str := ["main", "work", "lib", "w", "p", "c", "q", "z", "y", "x", "a", "go", "fork", "exit", "wait", "l", "m", "t", "u", "take", "none", "abcdefgh", "b", "h", "zz"]
/-- ascending texts -/
def asc (xs : List Str) : Prop := xs.Pairwise fun x y => x.cps.toList < y.cps.toList
def InsOk (later slots : List Str) (n : Nat) : Ins → Prop
  | .go ts => ts ≠ [] ∧ ts.length ≤ 2 ∧ ts.Pairwise (· < ·) ∧ ∀ t ∈ ts, t < n
  | .fork k t s g => k ∈ later ∧ t ∈ names ∧ (s = "" ∨ s ∈ slots) ∧ g < n
  | .wait rows pool non lat meant => (rows.map (·.1)).Sublist slots ∧ (∀ r ∈ rows, r.2.1 < n ∧ r.2.2.1 < n ∧ r.2.2.2 < n) ∧ (rows ≠ [] ∨ pool ≠ none) ∧ (∀ q, pool = some q → q < n) ∧ non < n ∧ (∀ q, lat = some q → q < n) ∧ (∀ x ∈ meant, x ∈ names) ∧ asc meant ∧ meant.length ≤ 2
  | .kill s g => s ∈ slots ∧ g < n
  | .release s g => s ∈ slots ∧ g < n
  | .exit c => c ≤ 1
def KdOk (later : List Str) (k : Kd) : Prop := k.name ∈ names ∧ (∀ s ∈ k.slots, s ∈ names) ∧ asc k.slots ∧ k.slots.length ≤ 2 ∧ k.places ≠ [] ∧ k.places.length ≤ 7 ∧ ∀ i ∈ k.places, InsOk later k.slots k.places.length i
def KdsOk : Sys → Prop
  | [] => True
  | k :: r => KdOk (r.map (·.name)) k ∧ KdsOk r
def SysOk (w : Sys) : Prop := w ≠ [] ∧ w.length ≤ 4 ∧ (w.map (·.name)).Nodup ∧ KdsOk w
/-! ### processes -/
structure Rw where
  k : Nat
  tag : Str
  forker : Option Nat
  parent : Option Nat
  code : Option Nat
  place : Nat
  slots : List (Option Nat)
  pool : List Nat
  here : Bool
  fp : Option Nat
  deriving Inhabited
abbrev Folk := List Rw
/-- the law's row -/
def Rw.law (r : Rw) : D := .tup [nD r.k, .str r.tag, oD r.forker, oD r.parent, oD r.code, nD r.place, .tup (r.slots.map oD), .tup (r.pool.map nD), .bl r.here]
def folkD (T : Folk) : D := .tup (T.map Rw.law)
def kdAt (w : Sys) (k : Nat) : Kd := w.getD k default
/-- the program's row -/
def Rw.row (w : Sys) (p : Nat) (r : Rw) : D := .tup [nD p, .str (kdAt w r.k).name, .str r.tag, oD r.parent, oD r.code, nD r.place, .tup (r.slots.map oD), .tup (r.pool.map nD)]
def Rw.born (w : Sys) (r : Rw) : D := .tup [.str (kdAt w r.k).name, .str r.tag, oD r.forker, oD r.fp]
/-- those that are here, with their numbers -/
def hereFrom : Nat → Folk → List (Nat × Rw)
  | _, [] => []
  | n, r :: T => if r.here = true then (n, r) :: hereFrom (n + 1) T else hereFrom (n + 1) T
def thereD (w : Sys) (T : Folk) : D := .dic ((hereFrom 0 T).map fun q => (q.1 : Int)) ((hereFrom 0 T).map fun q => q.2.row w q.1)
def bornD (w : Sys) (T : Folk) : D := .tup (T.map (Rw.born w))
def treeD (w : Sys) (T : Folk) : D := .tup [thereD w T, bornD w T]
def Rw.kids (r : Rw) : List Nat := r.slots.filterMap id ++ r.pool
inductive Mv where
  | go (t : Nat) | fork | take (c : Nat) | non | later | kill | release | exit
  deriving Inhabited, DecidableEq
def Mv.word : Mv → Str
  | .go _ => "go" | .fork => "fork" | .take _ => "take" | .non => "none" | .later => "later" | .kill => "kill" | .release => "release" | .exit => "exit"
def Mv.num : Mv → Int
  | .go t => t | .take c => c | _ => -1
def stepD (p : Nat) (m : Mv) : D := .tup [nD p, .str m.word, .int m.num]
def rwAt (T : Folk) (p : Nat) : Rw := T.getD p default
def insAt (w : Sys) (r : Rw) : Ins := (kdAt w r.k).places.getD r.place default
def slotIx (w : Sys) (r : Rw) (s : Str) : Nat := (kdAt w r.k).slots.idxOf s
/-- the children in the slots of the rows of a wait -/
def seen (w : Sys) (r : Rw) (rows : List WRow) : List Nat := rows.filterMap fun q => r.slots.getD (slotIx w r q.1) none
def waitMv (w : Sys) (T : Folk) (r : Rw) (rows : List WRow) (pool later : Option Nat) : List Mv :=
  (((if pool.isSome = true then seen w r rows ++ r.pool else seen w r rows).filter fun c => (rwAt T c).code.isSome).map .take)
    ++ (if (if pool.isSome = true then r.kids else seen w r rows) = [] then [.non] else if later.isSome = true then [.later] else [])
def movesT (w : Sys) (T : Folk) (p : Nat) : List Mv :=
  match insAt w (rwAt T p) with
  | .go ts => ts.map .go
  | .fork .. => [.fork]
  | .kill .. => [.kill]
  | .release .. => [.release]
  | .exit _ => [.exit]
  | .wait rows pool _ later _ => waitMv w T (rwAt T p) rows pool later
/-! ### what a step does -/
def putT (T : Folk) (p : Nat) (f : Rw → Rw) : Folk := T.set p (f (rwAt T p))
def sortN (xs : List Nat) : List Nat := xs.mergeSort (fun a b => decide (a ≤ b))
def pooledT (T : Folk) (p : Nat) (cs : List Nat) : Folk := putT T p fun r => { r with pool := sortN (r.pool ++ cs) }
def slottedT (T : Folk) (p j : Nat) (c : Option Nat) : Folk := putT T p fun r => { r with slots := r.slots.set j c }
def handedT (T : Folk) (q : Option Nat) (cs : List Nat) : Folk := cs.foldl (fun T c => putT T c fun r => { r with parent := q }) T
def endedT (T : Folk) (p code : Nat) : Folk :=
  let r := rwAt T p
  let T1 := handedT T r.parent r.kids
  let T2 := match r.parent with | some q => pooledT T1 q r.kids | none => T1
  putT T2 p fun r => { r with slots := r.slots.map fun _ => none, pool := [], code := some code }
def newbornT (w : Sys) (k : Nat) (tag : Str) (f fp : Option Nat) : Rw :=
  { k := k, tag := tag, forker := f, parent := f, code := none, place := 0, slots := (kdAt w k).slots.map fun _ => none, pool := [], here := true, fp := fp }
def firstT (w : Sys) : Folk := [newbornT w 0 "" none none]
def goesT (T : Folk) (p g : Nat) : Folk := putT T p fun r => { r with place := g }
def forkedT (w : Sys) (T : Folk) (p : Nat) (kind tag slot : Str) : Folk :=
  let r := rwAt T p
  let T1 := T ++ [newbornT w ((w.map (·.name)).idxOf kind) tag (some p) (some r.place)]
  if slot = "" then pooledT T1 p [T.length]
  else
    let j := slotIx w r slot
    slottedT (pooledT T1 p (r.slots.getD j none).toList) p j (some T.length)
def takenT (w : Sys) (T : Folk) (p c : Nat) (rows : List WRow) (pool : Option Nat) : Folk :=
  let r := rwAt T p
  let T1 := putT T c fun r => { r with here := false }
  if c ∈ r.pool then goesT (putT T1 p fun r => { r with pool := r.pool.filter (· ≠ c) }) p (pool.getD 0)
  else
    let j := r.slots.idxOf (some c)
    let q := (rows.filter fun q => q.1 = (kdAt w r.k).slots.getD j default).headD default
    goesT (slottedT T1 p j none) p (match (rwAt T c).code with | some 0 => q.2.1 | some 1 => q.2.2.1 | _ => q.2.2.2)
def stepT (w : Sys) (T : Folk) (p : Nat) (m : Mv) : Folk :=
  let r := rwAt T p
  match insAt w r, m with
  | .go _, .go t => goesT T p t
  | .wait rows pool _ _ _, .take c => takenT w T p c rows pool
  | .wait _ _ n _ _, .non => goesT T p n
  | .wait _ _ _ l _, .later => goesT T p (l.getD 0)
  | .exit c, .exit => endedT T p c
  | .fork kind tag slot g, .fork => goesT (forkedT w T p kind tag slot) p g
  | .kill s g, .kill => match r.slots.getD (slotIx w r s) none with
    | some c => if (rwAt T c).code.isSome = true then goesT T p g else goesT (endedT T c 2) p g
    | none => goesT T p g
  | .release s g, .release => match r.slots.getD (slotIx w r s) none with
    | some c => goesT (slottedT (pooledT T p [c]) p (slotIx w r s) none) p g
    | none => goesT T p g
  | _, _ => T
end Fy
end
section
/-! FyLp -/
namespace Fy
open PySem PySem.Spec PyProof.Rows L2
/-! ### loops -/
section
variable {tg : Tg} {own : List Nat} {cW : Rho → (Bool → Prop) → Prop} {eW : Rho → (D → Prop) → Prop} {ρ : Rho} {α : Type}
/-- a comprehension: each item brings at most one thing, of which something is known -/
theorem compW_all (e : α → D) (P : α → Option D → Prop) : ∀ {xs : List α} {acc : List D} {Q : List D → Prop}
    (h : ∀ x ∈ xs, ∀ Q : Option D → Prop, (∀ o, P x o → Q o) → bindT tg (e x) (wipeR ρ own) fun ρ' => cW ρ' fun b => if b = true then eW ρ' fun y => Q (some y) else Q none),
    (∀ os : List (Option D), os.length = xs.length → (∀ q ∈ xs.zip os, P q.1 q.2) → Q (acc ++ os.filterMap id)) → compW tg own cW eW ρ (xs.map e) acc Q
  | [], acc, Q, _, q => by
    have := q [] rfl (fun _ h => by simp at h)
    simpa [compW] using this
  | x :: xs, acc, Q, h, q => by
    refine h x (List.mem_cons_self ..) (fun o => compW tg own cW eW ρ (xs.map e) (match o with | some y => acc ++ [y] | none => acc) Q) fun o po => ?_
    refine compW_all e P (fun x m => h x (List.mem_cons_of_mem _ m)) fun os hl hp => ?_
    have := q (o :: os) (by simp [hl]) (fun z hz => by
      rw [List.zip_cons_cons] at hz
      rcases List.mem_cons.mp hz with r | r
      · rw [r]; exact po
      · exact hp z r)
    cases o with
    | none => simpa [List.filterMap_cons] using this
    | some y => simpa [List.filterMap_cons] using this
/-- a comprehension that computes -/
theorem compW_fm (e : α → D) (f : α → Option D) : ∀ {xs : List α} {acc : List D} {Q : List D → Prop}
    (h : ∀ x ∈ xs, ∀ Q : Option D → Prop, Q (f x) → bindT tg (e x) (wipeR ρ own) fun ρ' => cW ρ' fun b => if b = true then eW ρ' fun y => Q (some y) else Q none),
    Q (acc ++ xs.filterMap f) → compW tg own cW eW ρ (xs.map e) acc Q
  | [], acc, Q, _, q => by simpa [compW] using q
  | x :: xs, acc, Q, h, q => by
    refine h x (List.mem_cons_self ..) (fun o => compW tg own cW eW ρ (xs.map e) (match o with | some y => acc ++ [y] | none => acc) Q) ?_
    refine compW_fm e f (fun x m => h x (List.mem_cons_of_mem _ m)) ?_
    cases hf : f x with
    | none => simpa [List.filterMap_cons, hf] using q
    | some y => simpa [List.filterMap_cons, hf] using q
theorem compW_map (e f : α → D) {xs : List α} {acc : List D} {Q : List D → Prop}
    (h : ∀ x ∈ xs, ∀ Q : Option D → Prop, Q (some (f x)) → bindT tg (e x) (wipeR ρ own) fun ρ' => cW ρ' fun b => if b = true then eW ρ' fun y => Q (some y) else Q none)
    (q : Q (acc ++ xs.map f)) : compW tg own cW eW ρ (xs.map e) acc Q :=
  compW_fm e (fun x => some (f x)) h (by rw [show xs.filterMap (fun x => some (f x)) = xs.map f from by rw [← List.filterMap_eq_map]; rfl]; exact q)
/-- a for loop: I says what stands when these items are still to come -/
theorem forW_inv {bW : Dn → Rho → Prop} {Dx : Dn} (e : α → D) (I : List α → Rho → Prop) (fin : ∀ ρ, I [] ρ → Dx.nx ρ) : ∀ {xs : List α} {ρ : Rho}
    (h : ∀ x rest ρ, I (x :: rest) ρ → ∀ N : Rho → Prop, (∀ ρ', I rest ρ' → N ρ') → bindT tg (e x) ρ fun ρ' => bW { nx := N, rt := Dx.rt, bk := Dx.nx } ρ'), I xs ρ → forW tg bW Dx (xs.map e) ρ
  | [], ρ, h, i => fin ρ i
  | x :: xs, ρ, h, i => h x xs ρ i _ fun ρ' i' => forW_inv e I fin h i'
end
/-! ### cases, one by one, for simp -/
section
variable {Q : Bool → Prop} {R : D → Prop}
@[simp] theorem c_eq {a b : D} : cmpW .eq a b Q = (eqOk a b ∧ Q (a.eqd b)) := rfl
@[simp] theorem c_ne {a b : D} : cmpW .ne a b Q = (eqOk a b ∧ Q (!a.eqd b)) := rfl
@[simp] theorem c_lt_i {i j : Int} : cmpW .lt (.int i) (.int j) Q = Q (decide (i < j)) := rfl
@[simp] theorem c_lt_s {x y : Str} : cmpW .lt (.str x) (.str y) Q = Q (decide (x.cps.toList < y.cps.toList)) := rfl
@[simp] theorem c_le_i {i j : Int} : cmpW .le (.int i) (.int j) Q = Q (decide (i ≤ j)) := rfl
@[simp] theorem c_gt_i {i j : Int} : cmpW .gt (.int i) (.int j) Q = Q (decide (j < i)) := rfl
@[simp] theorem c_ge_i {i j : Int} : cmpW .ge (.int i) (.int j) Q = Q (decide (j ≤ i)) := rfl
@[simp] theorem c_in_s {x y : Str} : cmpW .isin (.str x) (.str y) Q = Q (!(Builtin.Str.occurrences y x 0 y.length 1).isEmpty) := rfl
@[simp] theorem c_in_d {i : Int} {ks : List Int} {ds : List D} : cmpW .isin (.int i) (.dic ks ds) Q = Q (decide (i ∈ ks)) := rfl
@[simp] theorem c_nin_d {i : Int} {ks : List Int} {ds : List D} : cmpW .notin (.int i) (.dic ks ds) Q = Q (!decide (i ∈ ks)) := rfl
@[simp] theorem b_len_t {ds : List D} : bltW .len (.tup ds) R = R (.int ds.length) := rfl
@[simp] theorem b_len_l {ds : List D} : bltW .len (.lst ds) R = R (.int ds.length) := rfl
@[simp] theorem b_len_s {x : Str} : bltW .len (.str x) R = (x.length ≤ sizeLine ∧ R (.int x.length)) := rfl
@[simp] theorem b_all {ds : List D} : bltW .all (.lst ds) R = ∃ bs, blsD ds = some bs ∧ R (.bl (bs.all id)) := rfl
@[simp] theorem b_sorted {ds : List D} : bltW .sorted (.lst ds) R = (sortsD ds ∧ ∀ es, es.Perm ds → es.Pairwise (fun a b => a.le b = true) → R (.lst es)) := rfl
@[simp] theorem b_tup_l {ds : List D} : bltW .tuple (.lst ds) R = R (.tup ds) := rfl
@[simp] theorem b_tup_t {ds : List D} : bltW .tuple (.tup ds) R = R (.tup ds) := rfl
@[simp] theorem b_lst_t {ds : List D} : bltW .list (.tup ds) R = R (.lst ds) := rfl
@[simp] theorem b_lst_l {ds : List D} : bltW .list (.lst ds) R = R (.lst ds) := rfl
@[simp] theorem b_lst_d {ks : List Int} {ds : List D} : bltW .list (.dic ks ds) R = R (.lst (ks.map .int)) := rfl
@[simp] theorem ix_t {ds : List D} {i : Int} : ixW (.tup ds) (.int i) R = ∃ d, atI ds i = some d ∧ R d := rfl
@[simp] theorem ix_l {ds : List D} {i : Int} : ixW (.lst ds) (.int i) R = ∃ d, atI ds i = some d ∧ R d := rfl
@[simp] theorem ix_d {ks : List Int} {ds : List D} {i : Int} : ixW (.dic ks ds) (.int i) R = ∃ d, dget ks ds i = some d ∧ R d := rfl
@[simp] theorem sl_t {ds : List D} {lo hi : Option Int} : slW (.tup ds) lo hi R = R (.tup (cutD ds lo hi)) := rfl
@[simp] theorem sl_l {ds : List D} {lo hi : Option Int} : slW (.lst ds) lo hi R = R (.lst (cutD ds lo hi)) := rfl
@[simp] theorem add_i {i j : Int} : addW (.int i) (.int j) R = R (.int (i + j)) := rfl
@[simp] theorem add_t {a b : List D} : addW (.tup a) (.tup b) R = (a.length + b.length ≤ sizeLine ∧ R (.tup (a ++ b))) := rfl
@[simp] theorem add_l {a b : List D} : addW (.lst a) (.lst b) R = (a.length + b.length ≤ sizeLine ∧ R (.lst (a ++ b))) := rfl
@[simp] theorem sub_i {i j : Int} : subW (.int i) (.int j) R = R (.int (i - j)) := rfl
@[simp] theorem mul_t {a : D} {k : Int} : mulW (.tup [a]) (.int k) R = (0 ≤ k ∧ k ≤ 1000 ∧ R (.tup (List.replicate k.toNat a))) := rfl
@[simp] theorem it_t {ds : List D} : itemsD (.tup ds) = some ds := rfl
@[simp] theorem it_l {ds : List D} : itemsD (.lst ds) = some ds := rfl
@[simp] theorem it_r {ds : List D} : itemsD (.raw ds) = some ds := rfl
@[simp] theorem rv_f {ρ : Rho} : rvR false ρ = ρ := rfl
@[simp] theorem rv_t {ρ : Rho} : rvR true ρ = ρ.map shown := rfl
@[simp] theorem shown_s {b : Bool} {d : D} : shown (some (b, d)) = some (false, d) := rfl
@[simp] theorem shown_n : shown none = none := rfl
theorem bls_true : ∀ {n : Nat} {ds : List D}, ds = List.replicate n (.bl true) → blsD ds = some (List.replicate n true)
  | 0, _, h => by rw [h]; rfl
  | n + 1, _, h => by rw [h]; show (blsD (List.replicate n (.bl true))).map (true :: ·) = _; rw [bls_true rfl]; rfl
end
theorem atI_nat {α : Type} {xs : List α} {n : Nat} (h : n < xs.length) : atI xs (n : Int) = xs[n]? := by
  have : ixN xs.length (n : Int) = some n := by unfold ixN; simp; omega
  simp [atI, this]
@[simp] theorem at0 {a : D} {r : List D} : atI (a :: r) 0 = some a := (atI_nat (n := 0) (by simp)).trans rfl
@[simp] theorem at1 {a b : D} {r : List D} : atI (a :: b :: r) 1 = some b := (atI_nat (n := 1) (by simp)).trans rfl
@[simp] theorem at2 {a b c : D} {r : List D} : atI (a :: b :: c :: r) 2 = some c := (atI_nat (n := 2) (by simp)).trans rfl
@[simp] theorem at3 {a b c d : D} {r : List D} : atI (a :: b :: c :: d :: r) 3 = some d := (atI_nat (n := 3) (by simp)).trans rfl
@[simp] theorem at4 {a b c d e : D} {r : List D} : atI (a :: b :: c :: d :: e :: r) 4 = some e := (atI_nat (n := 4) (by simp)).trans rfl
@[simp] theorem at5 {a b c d e f : D} {r : List D} : atI (a :: b :: c :: d :: e :: f :: r) 5 = some f := (atI_nat (n := 5) (by simp)).trans rfl
@[simp] theorem at6 {a b c d e f g : D} {r : List D} : atI (a :: b :: c :: d :: e :: f :: g :: r) 6 = some g := (atI_nat (n := 6) (by simp)).trans rfl
@[simp] theorem at7 {a b c d e f g h : D} {r : List D} : atI (a :: b :: c :: d :: e :: f :: g :: h :: r) 7 = some h := (atI_nat (n := 7) (by simp)).trans rfl
@[simp] theorem at8 {a b c d e f g h i : D} {r : List D} : atI (a :: b :: c :: d :: e :: f :: g :: h :: i :: r) 8 = some i := (atI_nat (n := 8) (by simp)).trans rfl
end Fy
end
section
/-! FyK1 -/
namespace Fy
open PySem PySem.Spec PyProof.Rows L2
/-! ### promises of the checks of kinds -/
def G0 : Spec := fun ds R => ∃ i : Int, ds = [.int i] ∧ R (.bl true)
def G1 : Spec := fun ds R => ∃ i : Int, ds = [.int i] ∧ R (.bl (decide (0 ≤ i)))
def G2 : Spec := fun ds R => ∃ s : Str, ds = [.str s] ∧ ((s ∈ names ∧ R (.bl true)) ∨ (s = "" ∧ R (.bl false)))
def G3 : Spec := fun ds R => ∃ xs, (ds = [.tup xs] ∨ ds = [.lst xs]) ∧ ((∃ ns : List Nat, xs = ns.map nD ∧ ns.Pairwise (· < ·)) ∨ ∃ ss : List Str, xs = ss.map .str ∧ asc ss) ∧ R (.bl true)
def G4 : Spec := fun ds R => ∃ ss : List Str, ds = [strsD ss] ∧ (∀ s ∈ ss, s ∈ names) ∧ asc ss ∧ R (.bl true)
def G5 : Spec := fun ds R => ∃ ns : List Nat, ds = [.tup (ns.map nD)] ∧ R (.bl true)
def G6 : Spec := fun ds R => ∃ (xs : List D) (n : Int), ds = [.tup xs, .int n] ∧ xs.length = n ∧ R (.bl true)
def G7 : Spec := fun ds R => ∃ o : Option Nat, ds = [oD o] ∧ R (.bl true)
def G8 : Spec := fun ds R => ∃ r : WRow, ds = [r.d] ∧ r.1 ∈ names ∧ R (.bl true)
def G9 : Spec := fun ds R => ∃ rows : List WRow, ds = [.tup (rows.map WRow.d)] ∧ (∀ r ∈ rows, r.1 ∈ names) ∧ asc (rows.map (·.1)) ∧ R (.bl true)
def Mono (G : Spec) : Prop := ∀ ds R R', (∀ d, R d → R' d) → G ds R → G ds R'
theorem wpCall {Γ : Nat → Spec} (hm : ∀ f, Mono (Γ f)) {f : Nat} {es : EL} {rv : Bool} {ρ : Rho} {Q : D → Prop} : wpE Γ (.call f es) rv ρ Q = wpL Γ es rv ρ fun ds => Γ f ds Q := by
  show (wpL Γ es rv ρ fun ds => ∃ R, Γ f ds R ∧ ∀ d, R d → Q d) = _
  congr 1; funext ds
  exact propext ⟨fun ⟨R, g, h⟩ => hm f ds R Q h g, fun g => ⟨Q, g, fun _ z => z⟩⟩
variable {Γ : Nat → Spec} (hm : ∀ f, Mono (Γ f))
include hm
theorem kk0 : Keeps Γ N0 B0 1 G0 := by
  rintro ds R ⟨i, rfl, r⟩
  refine ⟨rfl, ?_⟩
  simp [B0, wpSL, wpS, wpE, boolW, ρ0, N0, D.isT, D.ty]
  exact r
theorem kk1 (g0 : Γ 0 = G0) : Keeps Γ N1 B1 1 G1 := by
  rintro ds R ⟨i, rfl, r⟩
  refine ⟨rfl, ?_⟩
  simp [B1, wpSL, wpS, ↓wpCall hm, wpE, wpL, boolW, ρ0, N1, D.isT, D.ty, g0, G0]
  exact r
omit hm in
theorem names_ok : ∀ s ∈ names, 1 ≤ s.length ∧ s.length ≤ 8 ∧ ∀ c ∈ s.cps.toList, c ∈ ("abcdefghijklmnopqrstuvwxyz" : Str).cps.toList := by decide +kernel
theorem kk2 : Keeps Γ N2 B2 1 G2 := by
  have sz : sizeLine = 1048576 ∨ 100000 ≤ sizeLine := by decide +kernel
  rintro ds R ⟨s, rfl, ⟨m, r⟩ | ⟨rfl, r⟩⟩
  · refine ⟨rfl, ?_⟩
    obtain ⟨a, b, c⟩ := names_ok s m
    have h1 : (1 : Int) ≤ s.length := by omega
    have h8 : (s.length : Int) ≤ 8 := by omega
    simp [B2, wpSL, wpS, ↓wpCall hm, wpE, wpL, boolW, ρ0, N2, D.isT, D.ty, gcs, wpI]
    refine ⟨by omega, ?_⟩
    rw [if_pos h1]
    refine .inl ⟨h8, by omega, ?_⟩
    refine compW_map (fun c => .str ⟨#[c]⟩) (fun _ => .bl true) (fun x hx Q q => ?_) ?_
    · simp [bindT, wipeR, wpC, StrLaws.found_one]
      rw [decide_eq_true (by simpa using c x hx)]
      exact q
    · refine ⟨_, bls_true (n := s.cps.toList.length) (by simp [List.map_const']), ?_⟩
      simpa using r
  · refine ⟨rfl, ?_⟩
    simp [B2, wpSL, wpS, ↓wpCall hm, wpE, wpL, boolW, ρ0, N2, D.isT, D.ty, gcs]
    refine ⟨by decide +kernel, ?_⟩
    rw [if_neg (by decide)]
    exact r
omit hm in
theorem zipD_map {α : Type} (f : α → D) : ∀ (xs ys : List α), zipD (xs.map f) (ys.map f) = (xs.zip ys).map fun q => .raw [f q.1, f q.2]
  | [], _ => by simp [zipD]
  | x :: xs, [] => by simp [zipD]
  | x :: xs, y :: ys => by simp [zipD, zipD_map f xs ys]
omit hm in
theorem next_lt {α : Type} {r : α → α → Prop} : ∀ {xs : List α}, xs.Pairwise r → ∀ q ∈ xs.zip xs.tail, r q.1 q.2
  | [], _, q, h => by simp at h
  | [x], _, q, h => by simp at h
  | x :: y :: xs, h, q, m => by
    have h' := List.pairwise_cons.mp h
    rw [List.tail_cons, List.zip_cons_cons] at m
    rcases List.mem_cons.mp m with r | r
    · rw [r]; exact h'.1 y (List.mem_cons_self ..)
    · exact next_lt h'.2 q r
omit hm in
theorem cut1 (ds : List D) : cutD ds (some 1) none = ds.tail := by
  cases ds with
  | nil => rfl
  | cons d r =>
    unfold cutD
    have h1 : HT.sIx (d :: r).length 0 (some 1) = 1 := by
      simp [HT.sIx]; try omega
    have h2 : HT.sIx (d :: r).length (d :: r).length none = (d :: r).length := by simp [HT.sIx]
    rw [h1, h2]
    simp
theorem kk3 : Keeps Γ N3 B3 1 G3 := by
  rintro ds R ⟨xs, hd, hx, r⟩
  have key : ∀ d0 : D, compW (Tg.tup [1, 2]) [1, 2] (wpC Γ EO.no) (fun ρ' Q' => ∃ d, ρ'[1]? = some (some (false, d)) ∧ ∃ d_1, ρ'[2]? = some (some (false, d_1)) ∧ cmpW Op.lt d d_1 fun c => Q' (D.bl c)) [some (false, d0), none, none] (zipD xs xs.tail) [] fun es => ∃ bs, blsD es = some bs ∧ R (.bl (bs.all id)) := fun d0 => by
    rcases hx with ⟨ns, rfl, pw⟩ | ⟨ss, rfl, pw⟩
    · rw [← List.map_tail, zipD_map]
      refine compW_map _ (fun _ => .bl true) (fun q hq Q h => ?_) ?_
      · have lt : ((q.1 : Int) < q.2) := by have := next_lt pw q hq; omega
        simp [bindT, wipeR, wpC, setAll, nD]
        rw [decide_eq_true (next_lt pw q hq)]; exact h
      · refine ⟨_, bls_true (n := (ns.zip ns.tail).length) (by simp [List.map_const']), ?_⟩
        simpa using r
    · rw [← List.map_tail, zipD_map]
      refine compW_map _ (fun _ => .bl true) (fun q hq Q h => ?_) ?_
      · simp [bindT, wipeR, wpC, setAll]
        have t : q.1.cps.toList < q.2.cps.toList := next_lt pw q hq
        simp at t
        rw [decide_eq_true t]; exact h
      · refine ⟨_, bls_true (n := (ss.zip ss.tail).length) (by simp [List.map_const']), ?_⟩
        simpa using r
  rcases hd with rfl | rfl
  · refine ⟨rfl, ?_⟩
    simp [B3, wpSL, wpS, ↓wpCall hm, wpE, wpL, wpO, boolW, ρ0, N3, D.isT, D.ty, gcs, wpI]
    rw [cut1]; exact key _
  · refine ⟨rfl, ?_⟩
    simp [B3, wpSL, wpS, ↓wpCall hm, wpE, wpL, wpO, boolW, ρ0, N3, D.isT, D.ty, gcs, wpI]
    rw [cut1]; exact key _
theorem kk4 (g2 : Γ 2 = G2) (g3 : Γ 3 = G3) : Keeps Γ N4 B4 1 G4 := by
  rintro ds R ⟨ss, rfl, hn, pw, r⟩
  refine ⟨rfl, ?_⟩
  simp [B4, wpSL, wpS, ↓wpCall hm, wpE, wpL, wpO, boolW, ρ0, N4, D.isT, D.ty, gcs, wpI, strsD, g2, g3]
  refine compW_map _ (fun _ => .bl true) (fun q hq Q h => ?_) ?_
  · simp [bindT, wipeR, wpC]
    exact ⟨_, rfl, .inl ⟨hn _ hq, h⟩⟩
  · refine ⟨_, bls_true (n := ss.length) (by simp [List.map_const']), ?_⟩
    simp
    exact ⟨_, .inl rfl, .inr ⟨ss, rfl, pw⟩, _, rfl, r⟩
theorem kk5 (g1 : Γ 1 = G1) : Keeps Γ N5 B5 1 G5 := by
  rintro ds R ⟨ns, rfl, r⟩
  refine ⟨rfl, ?_⟩
  simp [B5, wpSL, wpS, ↓wpCall hm, wpE, wpL, wpO, boolW, ρ0, N5, D.isT, D.ty, gcs, wpI, g1]
  refine compW_map _ (fun _ => .bl true) (fun q hq Q h => ?_) ?_
  · simp [bindT, wipeR, wpC]
    exact ⟨q, rfl, by simpa using h⟩
  · refine ⟨_, bls_true (n := ns.length) (by simp [List.map_const']), ?_⟩
    simpa using r
theorem kk6 : Keeps Γ N6 B6 2 G6 := by
  rintro ds R ⟨xs, n, rfl, h, r⟩
  refine ⟨rfl, ?_⟩
  simp [B6, wpSL, wpS, ↓wpCall hm, wpE, wpL, wpO, boolW, ρ0, N6, D.isT, D.ty, gcs, wpI]
  refine ⟨.inl rfl, ?_⟩
  rw [h]
  have : (D.int n).eqd (.int n) = true := by simp [D.eqd, D.toP, PyData.eqv]
  rw [this]; exact r
theorem kk7 (g0 : Γ 0 = G0) : Keeps Γ N7 B7 1 G7 := by
  rintro ds R ⟨o, rfl, r⟩
  refine ⟨rfl, ?_⟩
  have h : (-1 : Int) ≤ oi o := by cases o <;> simp [oi] <;> omega
  simp [B7, wpSL, wpS, ↓wpCall hm, wpE, wpL, wpO, boolW, ρ0, N7, D.isT, D.ty, gcs, wpI, g0]
  refine ⟨_, rfl, true, rfl, ?_⟩
  simpa [oD, h] using r
end Fy
end
section
/-! FyK2 -/
namespace Fy
open PySem PySem.Spec PyProof.Rows L2
/-! ### promises of the checks of kinds, 2 -/
@[simp] theorem eqd_i {i j : Int} : (D.int i).eqd (.int j) = decide (i = j) := by
  simp [D.eqd, D.toP, PyData.eqv]; try rfl
@[simp] theorem eqd_s {x y : Str} : (D.str x).eqd (.str y) = decide (x = y) := by
  simp [D.eqd, D.toP, PyData.eqv]; try rfl
@[simp] theorem eqOk_i {i j : Int} : eqOk (.int i) (.int j) := .inl rfl
@[simp] theorem eqOk_s {x y : Str} : eqOk (.str x) (.str y) := .inl rfl
@[simp] theorem c_in_ts {x : Str} {ds : List D} {Q : Bool → Prop} : cmpW .isin (.str x) (.tup ds) Q = (inOk (.str x) ds (.tup ds) ∧ Q (ds.any fun z => z.eqd (.str x))) := rfl
@[simp] theorem c_nin_ts {x : Str} {ds : List D} {Q : Bool → Prop} : cmpW .notin (.str x) (.tup ds) Q = (inOk (.str x) ds (.tup ds) ∧ Q (!ds.any fun z => z.eqd (.str x))) := rfl
@[simp] theorem inOk_s {x : Str} {ds : List D} {c : D} (h : ds.all flatD = true) : inOk (.str x) ds c := .inl ⟨rfl, h⟩
@[simp] theorem flat_i {i : Int} : flatD (.int i) = true := rfl
@[simp] theorem flat_s {i : Str} : flatD (.str i) = true := rfl
@[simp] theorem boolW_b {Q : Bool → Prop} {b : Bool} : boolW Q (.bl b) = Q b := propext ⟨fun ⟨_, e, q⟩ => by cases e; exact q, fun q => ⟨b, rfl, q⟩⟩
@[simp] theorem G6_t {xs : List D} {n : Int} {R : D → Prop} : G6 [.tup xs, .int n] R = ((xs.length : Int) = n ∧ R (.bl true)) := propext ⟨fun ⟨_, _, e, h, r⟩ => by cases e; exact ⟨h, r⟩, fun ⟨h, r⟩ => ⟨_, _, rfl, h, r⟩⟩
theorem G2_n {s : Str} {R : D → Prop} (h : s ∈ names) (r : R (.bl true)) : G2 [.str s] R := ⟨s, rfl, .inl ⟨h, r⟩⟩
variable {Γ : Nat → Spec} (hm : ∀ f, Mono (Γ f))
include hm
theorem kk8 (g2 : Γ 2 = G2) (g5 : Γ 5 = G5) (g6 : Γ 6 = G6) : Keeps Γ N8 B8 1 G8 := by
  rintro ds R ⟨q, rfl, h, r⟩
  refine ⟨rfl, ?_⟩
  simp [B8, wpSL, wpS, ↓wpCall hm, wpE, wpL, wpO, boolW, ρ0, N8, D.isT, D.ty, gcs, wpI, g2, g5, g6]
  unfold WRow.d
  simp
  refine G2_n h ?_
  simp [cut1]
  exact ⟨[q.2.1, q.2.2.1, q.2.2.2], rfl, by simpa using r⟩
theorem kk9 (g3 : Γ 3 = G3) (g8 : Γ 8 = G8) : Keeps Γ N9 B9 1 G9 := by
  rintro ds R ⟨rows, rfl, hn, pw, r⟩
  refine ⟨rfl, ?_⟩
  simp [B9, wpSL, wpS, ↓wpCall hm, wpE, wpL, wpO, boolW, ρ0, N9, D.isT, D.ty, gcs, wpI, g3, g8]
  refine compW_map _ (fun _ => .bl true) (fun q hq Q h => ?_) ?_
  · simp [bindT, wipeR, wpC]
    exact ⟨q, rfl, hn _ hq, h⟩
  · refine ⟨_, bls_true (n := rows.length) (by simp [List.map_const']), ?_⟩
    simp
    refine compW_map _ (fun q => .str q.1) (fun q hq Q h => ?_) ?_
    · simp [bindT, wipeR, wpC, WRow.d]
      exact h
    · exact ⟨_, .inr rfl, .inr ⟨rows.map (·.1), by simp, pw⟩, r⟩
omit hm in
theorem atI_oD : True := trivial
def G10 : Spec := fun ds R => ∃ (rows : List WRow) (pool : Option Nat) (non : Nat) (later : Option Nat) (meant : List Str), ds = [(Ins.wait rows pool non later meant).d, .int (if later.isSome = true then 2 else 1)] ∧ (∀ r ∈ rows, r.1 ∈ names) ∧ asc (rows.map (·.1)) ∧ (rows ≠ [] ∨ pool ≠ none) ∧ (∀ x ∈ meant, x ∈ names) ∧ asc meant ∧ R (.bl true)
theorem kk10 (g4 : Γ 4 = G4) (g5 : Γ 5 = G5) (g7 : Γ 7 = G7) (g9 : Γ 9 = G9) : Keeps Γ N10 B10 2 G10 := by
  rintro ds R ⟨rows, pool, non, later, meant, rfl, hn, pw, h0, mn, pm, r⟩
  refine ⟨rfl, ?_⟩
  have e9 : ∀ Q : D → Prop, Q (.bl true) → G9 [.tup (rows.map WRow.d)] Q := fun Q q => ⟨rows, rfl, hn, pw, q⟩
  have e7 : ∀ Q : D → Prop, Q (.bl true) → G7 [oD pool] Q := fun Q q => ⟨pool, rfl, q⟩
  cases later with
  | none =>
    simp [B10, wpSL, wpS, ↓wpCall hm, wpE, wpL, wpO, boolW, ρ0, N10, D.isT, D.ty, gcs, wpI, g4, g5, g7, g9, Ins.d]
    refine e9 _ ?_
    simp
    refine e7 _ ?_
    simp
    have fin : G5 [.tup (cutD [.str "wait", .tup (rows.map WRow.d), oD pool, nD non, strsD meant] (some 3) (some (-1)))] (boolW fun k => if k = true then ∃ d, atI [.str "wait", .tup (rows.map WRow.d), oD pool, nD non, strsD meant] (-1) = some d ∧ G4 [d] (boolW fun k' => R (D.bl k')) else R (D.bl false)) := by
      refine ⟨[non], rfl, ?_⟩
      simp
      exact ⟨_, rfl, meant, rfl, mn, pm, by simpa using r⟩
    by_cases hr : rows = []
    · rw [if_pos hr]
      have hp : oi pool ≠ -1 := by
        cases pool with
        | none => exact absurd rfl (h0.resolve_left (fun z => z hr))
        | some q => simp [oi]
      refine ⟨eqOk_i, ?_⟩
      simp only [oD, eqd_i, decide_eq_true_eq]
      rw [if_neg hp]
      exact fin
    · rw [if_neg hr]; exact fin
  | some l =>
    simp [B10, wpSL, wpS, ↓wpCall hm, wpE, wpL, wpO, boolW, ρ0, N10, D.isT, D.ty, gcs, wpI, g4, g5, g7, g9, Ins.d]
    refine e9 _ ?_
    simp
    refine e7 _ ?_
    simp
    have fin : G5 [.tup (cutD [.str "poll", .tup (rows.map WRow.d), oD pool, nD non, nD l, strsD meant] (some 3) (some (-1)))] (boolW fun k => if k = true then ∃ d, atI [.str "poll", .tup (rows.map WRow.d), oD pool, nD non, nD l, strsD meant] (-1) = some d ∧ G4 [d] (boolW fun k' => R (D.bl k')) else R (D.bl false)) := by
      refine ⟨[non, l], rfl, ?_⟩
      simp
      exact ⟨_, rfl, meant, rfl, mn, pm, by simpa using r⟩
    by_cases hr : rows = []
    · rw [if_pos hr]
      have hp : oi pool ≠ -1 := by
        cases pool with
        | none => exact absurd rfl (h0.resolve_left (fun z => z hr))
        | some q => simp [oi]
      refine ⟨eqOk_i, ?_⟩
      simp only [oD, eqd_i, decide_eq_true_eq]
      rw [if_neg hp]
      exact fin
    · rw [if_neg hr]; exact fin
def G11 : Spec := fun ds R => ∃ (k t s : Str) (g : Nat), ds = [(Ins.fork k t s g).d] ∧ k ∈ names ∧ t ∈ names ∧ (s = "" ∨ s ∈ names) ∧ R (.bl true)
theorem kk11 (g1 : Γ 1 = G1) (g2 : Γ 2 = G2) : Keeps Γ N11 B11 1 G11 := by
  rintro ds R ⟨k, t, s, g, rfl, hk, ht, hs, r⟩
  refine ⟨rfl, ?_⟩
  simp [B11, wpSL, wpS, ↓wpCall hm, wpE, wpL, wpO, boolW, ρ0, N11, D.isT, D.ty, gcs, wpI, g1, g2, Ins.d]
  refine G2_n hk ?_
  simp
  refine G2_n ht ?_
  simp
  refine ⟨g, rfl, ?_⟩
  simp
  rcases hs with rfl | hs
  · refine ⟨_, rfl, .inr ⟨rfl, ?_⟩⟩
    simpa using r
  · refine G2_n hs ?_
    simpa using r
end Fy
end
section
/-! FyK3 -/
namespace Fy
open PySem PySem.Spec PyProof.Rows L2
variable {Γ : Nat → Spec} (hm : ∀ f, Mono (Γ f))
include hm
def G12 : Spec := fun ds R => ∃ (later slots : List Str) (n : Nat) (i : Ins), ds = [i.d] ∧ (∀ s ∈ slots, s ∈ names) ∧ asc slots ∧ (∀ s ∈ later, s ∈ names) ∧ InsOk later slots n i ∧ R (.bl true)
theorem kk12 (g1 : Γ 1 = G1) (g2 : Γ 2 = G2) (g3 : Γ 3 = G3) (g5 : Γ 5 = G5) (g10 : Γ 10 = G10) (g11 : Γ 11 = G11) : Keeps Γ N12 B12 1 G12 := by
  rintro ds R ⟨later, slots, n, i, rfl, hs, pw, hl, ok, r⟩
  refine ⟨rfl, ?_⟩
  cases i with
  | go ts =>
    simp [B12, wpSL, wpS, ↓wpCall hm, wpE, wpL, wpO, boolW, ρ0, N12, D.isT, D.ty, gcs, wpI, g1, g2, g3, g5, g10, g11, Ins.d]
    obtain ⟨a, b, c, d⟩ := ok
    refine ⟨ts, rfl, ?_⟩
    simp
    rw [if_pos (List.length_pos_iff.mpr a)]
    exact ⟨_, .inl rfl, .inl ⟨ts, rfl, c⟩, by simpa using r⟩
  | fork k t s g =>
    simp (decide := true) [B12, wpSL, wpS, ↓wpCall hm, wpE, wpL, wpO, boolW, ρ0, N12, D.isT, D.ty, gcs, wpI, g1, g2, g3, g5, g10, g11, Ins.d, strsD]
    obtain ⟨a, b, c, d⟩ := ok
    exact ⟨k, t, s, g, rfl, hl _ a, b, c.imp_right (hs _), r⟩
  | exit c =>
    simp (decide := true) [B12, wpSL, wpS, ↓wpCall hm, wpE, wpL, wpO, boolW, ρ0, N12, D.isT, D.ty, gcs, wpI, g1, g2, g3, g5, g10, g11, Ins.d, strsD]
    have ok : c ≤ 1 := ok
    refine ⟨c, rfl, ?_⟩
    have h : (c : Int) ≤ 1 := by omega
    simp [nD, h]
    exact r
  | kill s g =>
    simp (decide := true) [B12, wpSL, wpS, ↓wpCall hm, wpE, wpL, wpO, boolW, ρ0, N12, D.isT, D.ty, gcs, wpI, g1, g2, g3, g5, g10, g11, Ins.d, strsD]
    refine G2_n (hs _ ok.1) ?_
    simp
    exact ⟨g, rfl, by simpa using r⟩
  | release s g =>
    simp (decide := true) [B12, wpSL, wpS, ↓wpCall hm, wpE, wpL, wpO, boolW, ρ0, N12, D.isT, D.ty, gcs, wpI, g1, g2, g3, g5, g10, g11, Ins.d, strsD]
    refine G2_n (hs _ ok.1) ?_
    simp
    exact ⟨g, rfl, by simpa using r⟩
  | wait rows pool non lat meant =>
    obtain ⟨sub, a2, a3, a4, a5, a6, a7, a8, a9⟩ := ok
    have rn : ∀ q ∈ rows, q.1 ∈ names := fun q hq => hs _ (sub.subset (List.mem_map_of_mem hq))
    have ra : asc (rows.map (·.1)) := pw.sublist sub
    cases lat with
    | none =>
      simp (decide := true) [B12, wpSL, wpS, ↓wpCall hm, wpE, wpL, wpO, boolW, ρ0, N12, D.isT, D.ty, gcs, wpI, g1, g2, g3, g5, g10, g11, Ins.d, strsD]
      refine ⟨["wait", "poll"], rfl, 0, rfl, fun m hm' => by omega, ?_⟩
      simp
      exact ⟨rows, pool, non, none, meant, rfl, rn, ra, a3, a7, a8, r⟩
    | some l =>
      simp (decide := true) [B12, wpSL, wpS, ↓wpCall hm, wpE, wpL, wpO, boolW, ρ0, N12, D.isT, D.ty, gcs, wpI, g1, g2, g3, g5, g10, g11, Ins.d, strsD]
      refine ⟨["wait", "poll"], rfl, 1, rfl, fun m hm' => ?_, ?_⟩
      · obtain rfl : m = 0 := by omega
        decide
      · simp
        exact ⟨rows, pool, non, some l, meant, rfl, rn, ra, a3, a7, a8, r⟩
end Fy
end
section
/-! FyTree -/
namespace Fy
open PySem PySem.Spec
/-! ### trees: who came of whom -/
def fks (T : Folk) : List (Option Nat) := T.map (·.forker)
inductive Anc (F : List (Option Nat)) (a : Nat) : Nat → Prop
  | base {c : Nat} : F[c]? = some (some a) → Anc F a c
  | step {q c : Nat} : F[c]? = some (some q) → Anc F a q → Anc F a c
theorem Anc.trans {F : List (Option Nat)} {a b c : Nat} (h : Anc F a b) (k : Anc F b c) : Anc F a c := by
  induction k with
  | base e => exact .step e h
  | step e _ ih => exact .step e ih
def Down (F : List (Option Nat)) : Prop := ∀ (c p : Nat), F[c]? = some (some p) → p < c
theorem Anc.lt {F : List (Option Nat)} {a c : Nat} (d : Down F) (h : Anc F a c) : a < c := by
  induction h with
  | base e => exact d _ _ e
  | step e _ ih => exact Nat.lt_trans ih (d _ _ e)
theorem Anc.in {F : List (Option Nat)} {a c : Nat} (h : Anc F a c) : c < F.length := by
  cases h with
  | base e => exact (List.getElem?_eq_some_iff.mp e).1
  | step e _ => exact (List.getElem?_eq_some_iff.mp e).1
theorem Anc.more {F : List (Option Nat)} {x : Option Nat} {a c : Nat} (h : Anc F a c) : Anc (F ++ [x]) a c := by
  have up : ∀ {c : Nat} {o : Option Nat}, F[c]? = some o → (F ++ [x])[c]? = some o := fun {c o} e => by
    rw [List.getElem?_append_left (List.getElem?_eq_some_iff.mp e).1]; exact e
  induction h with
  | base e => exact .base (up e)
  | step e _ ih => exact .step (up e) ih
theorem Anc.less {F : List (Option Nat)} {x : Option Nat} {a c : Nat} (d : Down (F ++ [x])) (h : Anc (F ++ [x]) a c) (hc : c < F.length) : Anc F a c := by
  induction h with
  | base e => exact .base (by rwa [List.getElem?_append_left hc] at e)
  | step e _ ih => exact .step (by rwa [List.getElem?_append_left hc] at e) (ih (Nat.lt_trans (d _ _ e) hc))
/-! ### rows by number -/
theorem rwAt_get {T : Folk} {p : Nat} (h : p < T.length) : T[p]? = some (rwAt T p) := by
  unfold rwAt; rw [List.getD_eq_getElem?_getD, List.getElem?_eq_getElem h]; rfl
theorem fks_get {T : Folk} {p : Nat} (h : p < T.length) : (fks T)[p]? = some (rwAt T p).forker := by
  unfold fks; rw [List.getElem?_map, rwAt_get h]; rfl
@[simp] theorem fks_len {T : Folk} : (fks T).length = T.length := by simp [fks]
theorem rwAt_set {T : Folk} {p q : Nat} {r : Rw} (h : p < T.length) : rwAt (T.set p r) q = if q = p then r else rwAt T q := by
  unfold rwAt
  rw [List.getD_eq_getElem?_getD, List.getD_eq_getElem?_getD, List.getElem?_set]
  by_cases e : q = p
  · subst e; simp [h]
  · rw [if_neg (fun z => e z.symm), if_neg e]
theorem rwAt_put {T : Folk} {p q : Nat} {f : Rw → Rw} (h : p < T.length) : rwAt (putT T p f) q = if q = p then f (rwAt T p) else rwAt T q := rwAt_set h
@[simp] theorem len_put {T : Folk} {p : Nat} {f : Rw → Rw} : (putT T p f).length = T.length := by simp [putT]
theorem rwAt_app {T : Folk} {r : Rw} {q : Nat} : rwAt (T ++ [r]) q = if q = T.length then r else rwAt T q := by
  unfold rwAt
  rw [List.getD_eq_getElem?_getD, List.getD_eq_getElem?_getD]
  by_cases e : q < T.length
  · rw [List.getElem?_append_left e, if_neg (by omega)]
  · rw [List.getElem?_append_right (by omega)]
    by_cases e2 : q = T.length
    · subst e2; simp
    · rw [if_neg e2, List.getElem?_eq_none (by simp; omega), List.getElem?_eq_none (by omega)]
theorem folk_ext {T U : Folk} (hl : T.length = U.length) (h : ∀ p, p < T.length → rwAt T p = rwAt U p) : T = U := by
  apply List.ext_getElem? fun p => ?_
  by_cases e : p < T.length
  · rw [rwAt_get e, rwAt_get (hl ▸ e), h p e]
  · rw [List.getElem?_eq_none (by omega), List.getElem?_eq_none (by omega)]
theorem fks_ext {T U : Folk} (hl : T.length = U.length) (h : ∀ p, p < T.length → (rwAt T p).forker = (rwAt U p).forker) : fks T = fks U := by
  apply List.ext_getElem? fun p => ?_
  by_cases e : p < T.length
  · rw [fks_get e, fks_get (hl ▸ e), h p e]
  · rw [List.getElem?_eq_none (by simp; omega), List.getElem?_eq_none (by simp; omega)]
/-! ### what always stands -/
structure RwOk (w : Sys) (p : Nat) (r : Rw) : Prop where
  k : r.k < w.length
  pl : r.place < (kdAt w r.k).places.length
  sl : r.slots.length = (kdAt w r.k).slots.length
  nd : r.kids.Nodup
  pa : r.pool.Pairwise (· < ·)
  cd : ∀ c, r.code = some c → c ≤ 2
  en : r.code ≠ none → r.kids = []
  gn : r.here = false → r.code ≠ none
  fk : ∀ f, r.forker = some f → f < p
structure TOk (w : Sys) (T : Folk) : Prop where
  pos : 0 < T.length
  row : ∀ p, p < T.length → RwOk w p (rwAt T p)
  kid : ∀ p, p < T.length → ∀ c, c ∈ (rwAt T p).kids ↔ c < T.length ∧ (rwAt T c).here = true ∧ (rwAt T c).parent = some p
  par : ∀ c, c < T.length → (rwAt T c).here = true → ∀ q, (rwAt T c).parent = some q → Anc (fks T) q c
  anc : ∀ c, c < T.length → (rwAt T c).here = true → ∀ a, a < T.length → (rwAt T a).here = true → (rwAt T a).code = none → Anc (fks T) a c → ∃ q, (rwAt T c).parent = some q ∧ (a = q ∨ Anc (fks T) a q)
namespace TOk
variable {w : Sys} {T : Folk}
theorem down (h : TOk w T) : Down (fks T) := fun c p e => by
  have hc : c < T.length := by have := (List.getElem?_eq_some_iff.mp e).1; simpa using this
  rw [fks_get hc] at e
  exact (h.row c hc).fk _ (Option.some.inj e)
theorem parlt (h : TOk w T) {c q : Nat} (hc : c < T.length) (hh : (rwAt T c).here = true) (e : (rwAt T c).parent = some q) : q < c := (h.par c hc hh q e).lt h.down
theorem parliv (h : TOk w T) {c q : Nat} (hc : c < T.length) (hh : (rwAt T c).here = true) (e : (rwAt T c).parent = some q) : q < T.length ∧ (rwAt T q).here = true ∧ (rwAt T q).code = none ∧ c ∈ (rwAt T q).kids := by
  have hq : q < T.length := Nat.lt_trans (h.parlt hc hh e) hc
  have hk : c ∈ (rwAt T q).kids := (h.kid q hq c).mpr ⟨hc, hh, e⟩
  have hn : (rwAt T q).code = none := by
    apply Classical.byContradiction
    intro z
    rw [(h.row q hq).en z] at hk
    cases hk
  refine ⟨hq, ?_, hn, hk⟩
  apply Classical.byContradiction
  intro z
  exact (h.row q hq).gn (by simpa using z) hn
/-- a living process has no children exactly if nothing that came of it is there -/
theorem whole (h : TOk w T) {p : Nat} (hp : p < T.length) (hh : (rwAt T p).here = true) (hn : (rwAt T p).code = none) : (rwAt T p).kids = [] ↔ ∀ c, c < T.length → (rwAt T c).here = true → ¬ Anc (fks T) p c := by
  constructor
  · intro e c hc hc' ha
    have : ∀ n c, c < n → c < T.length → (rwAt T c).here = true → Anc (fks T) p c → False := by
      intro n
      induction n with
      | zero => intro c l; omega
      | succ n ih =>
        intro c l hc hc' ha
        obtain ⟨q, h1, h2⟩ := h.anc c hc hc' p hp hh hn ha
        obtain ⟨q1, q2, q3, q4⟩ := h.parliv hc hc' h1
        rcases h2 with rfl | h2
        · rw [e] at q4; cases q4
        · exact ih q (by have := h.parlt hc hc' h1; omega) q1 q2 h2
    exact this (c + 1) c (by omega) hc hc' ha
  · intro z
    apply Classical.byContradiction
    intro e
    obtain ⟨c, hc⟩ := List.exists_mem_of_ne_nil _ e
    obtain ⟨h1, h2, h3⟩ := (h.kid p hp c).mp hc
    exact z c h1 h2 (h.par c h1 h2 p h3)
end TOk
/-! ### the kinds of change -/
/-- a row is turned about: the same children -/
theorem TOk.turn {w : Sys} {T U : Folk} (h : TOk w T) {p : Nat} (hp : p < T.length) (hl : U.length = T.length) (ho : ∀ q, q < T.length → q ≠ p → rwAt U q = rwAt T q)
    (hr : RwOk w p (rwAt U p)) (hk : (rwAt U p).kids.Perm (rwAt T p).kids) (e1 : (rwAt U p).here = (rwAt T p).here) (e2 : (rwAt U p).parent = (rwAt T p).parent) (e3 : (rwAt U p).code = (rwAt T p).code) (e4 : (rwAt U p).forker = (rwAt T p).forker) : TOk w U := by
  have all : ∀ q, q < T.length → (rwAt U q).here = (rwAt T q).here ∧ (rwAt U q).parent = (rwAt T q).parent ∧ (rwAt U q).code = (rwAt T q).code ∧ (rwAt U q).forker = (rwAt T q).forker ∧ (∀ c, c ∈ (rwAt U q).kids ↔ c ∈ (rwAt T q).kids) := fun q hq => by
    by_cases e : q = p
    · subst e; exact ⟨e1, e2, e3, e4, fun c => hk.mem_iff⟩
    · rw [ho q hq e]; exact ⟨rfl, rfl, rfl, rfl, fun _ => Iff.rfl⟩
  have hf : fks U = fks T := fks_ext hl fun q hq => (all q (hl ▸ hq)).2.2.2.1
  refine ⟨hl ▸ h.pos, fun q hq => ?_, fun q hq c => ?_, fun c hc hh q e => ?_, fun c hc hh a ha ah an hA => ?_⟩
  · rw [hl] at hq
    by_cases e : q = p
    · subst e; exact hr
    · rw [ho q hq e]; exact h.row q hq
  · rw [hl] at hq
    rw [(all q hq).2.2.2.2 c, h.kid q hq c, hl]
    constructor
    · rintro ⟨a, b, c'⟩; exact ⟨a, by rw [(all c a).1]; exact b, by rw [(all c a).2.1]; exact c'⟩
    · rintro ⟨a, b, c'⟩; exact ⟨a, by rw [(all c a).1] at b; exact b, by rw [(all c a).2.1] at c'; exact c'⟩
  · rw [hl] at hc
    rw [hf]
    exact h.par c hc (by rw [← (all c hc).1]; exact hh) q (by rw [← (all c hc).2.1]; exact e)
  · rw [hl] at hc ha
    rw [hf] at hA ⊢
    rw [(all c hc).2.1]
    exact h.anc c hc (by rw [← (all c hc).1]; exact hh) a ha (by rw [← (all a ha).1]; exact ah) (by rw [← (all a ha).2.2.1]; exact an) hA
/-- a new process -/
theorem TOk.fork {w : Sys} {T U : Folk} (h : TOk w T) {p : Nat} (hp : p < T.length) (hn : (rwAt T p).code = none) (hh : (rwAt T p).here = true) (hl : U.length = T.length + 1) (ho : ∀ q, q < T.length → q ≠ p → rwAt U q = rwAt T q)
    (hr : RwOk w p (rwAt U p)) (hk : (rwAt U p).kids.Perm (T.length :: (rwAt T p).kids)) (e1 : (rwAt U p).here = (rwAt T p).here) (e2 : (rwAt U p).parent = (rwAt T p).parent) (e3 : (rwAt U p).code = (rwAt T p).code) (e4 : (rwAt U p).forker = (rwAt T p).forker)
    (hc : RwOk w T.length (rwAt U T.length)) (n1 : (rwAt U T.length).here = true) (n2 : (rwAt U T.length).parent = some p) (n3 : (rwAt U T.length).forker = some p) (n4 : (rwAt U T.length).kids = []) : TOk w U := by
  have all : ∀ q, q < T.length → (rwAt U q).here = (rwAt T q).here ∧ (rwAt U q).parent = (rwAt T q).parent ∧ (rwAt U q).code = (rwAt T q).code ∧ (rwAt U q).forker = (rwAt T q).forker := fun q hq => by
    by_cases e : q = p
    · subst e; exact ⟨e1, e2, e3, e4⟩
    · rw [ho q hq e]; exact ⟨rfl, rfl, rfl, rfl⟩
  have hf : fks U = fks T ++ [some p] := by
    apply List.ext_getElem? fun q => ?_
    by_cases e : q < T.length
    · rw [fks_get (by omega), List.getElem?_append_left (by simpa using e), fks_get e, (all q e).2.2.2]
    · by_cases e' : q = T.length
      · subst e'; rw [fks_get (by omega), n3, List.getElem?_append_right (by simp)]; simp
      · rw [List.getElem?_eq_none (by simp; omega), List.getElem?_eq_none (by simp; omega)]
  have rows : ∀ q, q < U.length → RwOk w q (rwAt U q) := fun q hq => by
    by_cases e' : q = T.length
    · subst e'; exact hc
    · by_cases e : q = p
      · subst e; exact hr
      · rw [ho q (by omega) e]; exact h.row q (by omega)
  have dn : Down (fks T ++ [some p]) := fun c q e => by
    rw [← hf] at e
    have hc : c < U.length := by have := (List.getElem?_eq_some_iff.mp e).1; simpa using this
    rw [fks_get hc] at e
    exact (rows c hc).fk _ (Option.some.inj e)
  have ancn : ∀ {a : Nat}, Anc (fks T ++ [some p]) a T.length → a = p ∨ Anc (fks T) a p := fun {a} z => by
    cases z with
    | base e =>
      rw [List.getElem?_append_right (by simp)] at e
      simp at e
      exact .inl e.symm
    | step e z' =>
      rw [List.getElem?_append_right (by simp)] at e
      simp at e
      subst e
      exact .inr (z'.less dn (by simpa using hp))
  refine ⟨by omega, rows, fun q hq c => ?_, fun c hcc hhh q e => ?_, fun c hcc hhh a ha ah an hA => ?_⟩
  · by_cases eq : q = T.length
    · subst eq
      rw [n4]
      constructor
      · intro z; cases z
      · rintro ⟨a, b, c'⟩
        exfalso
        by_cases ec : c = T.length
        · subst ec; rw [n2] at c'; injection c' with c'; omega
        · have hc' : c < T.length := by omega
          rw [(all c hc').1] at b
          rw [(all c hc').2.1] at c'
          have := h.parlt hc' b c'
          omega
    · have hq' : q < T.length := by omega
      have key : c ∈ (rwAt U q).kids ↔ (c = T.length ∧ q = p) ∨ c ∈ (rwAt T q).kids := by
        by_cases e : q = p
        · subst e; rw [hk.mem_iff]; simp
        · rw [ho q hq' e]; simp [e]
      rw [key, h.kid q hq' c]
      constructor
      · rintro (⟨rfl, rfl⟩ | ⟨a, b, c'⟩)
        · exact ⟨by omega, n1, n2⟩
        · exact ⟨by omega, by rw [(all c a).1]; exact b, by rw [(all c a).2.1]; exact c'⟩
      · rintro ⟨a, b, c'⟩
        by_cases ec : c = T.length
        · subst ec; rw [n2] at c'; injection c' with c'; exact .inl ⟨rfl, c'.symm⟩
        · have hc' : c < T.length := by omega
          exact .inr ⟨hc', by rw [← (all c hc').1]; exact b, by rw [← (all c hc').2.1]; exact c'⟩
  · rw [hf]
    by_cases ec : c = T.length
    · subst ec
      rw [n2] at e; injection e with e; subst e
      exact .base (by rw [List.getElem?_append_right (by simp)]; simp)
    · have hc' : c < T.length := by omega
      exact (h.par c hc' (by rw [← (all c hc').1]; exact hhh) q (by rw [← (all c hc').2.1]; exact e)).more
  · rw [hf] at hA ⊢
    by_cases ec : c = T.length
    · subst ec
      exact ⟨p, n2, (ancn hA).imp id Anc.more⟩
    · have hc' : c < T.length := by omega
      have hA' := hA.less dn (by simpa using hc')
      have ha' : a < T.length := Nat.lt_trans (hA'.lt h.down) hc'
      obtain ⟨q, h1, h2⟩ := h.anc c hc' (by rw [← (all c hc').1]; exact hhh) a ha' (by rw [← (all a ha').1]; exact ah) (by rw [← (all a ha').2.2.1]; exact an) hA'
      exact ⟨q, by rw [(all c hc').2.1]; exact h1, h2.imp id Anc.more⟩
/-- an ended child is taken -/
theorem TOk.take {w : Sys} {T U : Folk} (h : TOk w T) {p c : Nat} (hp : p < T.length) (hc : c < T.length) (hcp : c ≠ p) (he : (rwAt T c).code ≠ none) (hl : U.length = T.length) (ho : ∀ q, q < T.length → q ≠ p → q ≠ c → rwAt U q = rwAt T q)
    (hr : RwOk w p (rwAt U p)) (hk : (rwAt T p).kids.Perm (c :: (rwAt U p).kids)) (e1 : (rwAt U p).here = (rwAt T p).here) (e2 : (rwAt U p).parent = (rwAt T p).parent) (e3 : (rwAt U p).code = (rwAt T p).code) (e4 : (rwAt U p).forker = (rwAt T p).forker)
    (ec : rwAt U c = { rwAt T c with here := false }) : TOk w U := by
  have all : ∀ q, q < T.length → ((rwAt U q).here = true ↔ (rwAt T q).here = true ∧ q ≠ c) ∧ (rwAt U q).parent = (rwAt T q).parent ∧ (rwAt U q).code = (rwAt T q).code ∧ (rwAt U q).forker = (rwAt T q).forker := fun q hq => by
    by_cases e : q = c
    · subst e; rw [ec]; simp
    · by_cases e' : q = p
      · subst e'; rw [e1]; exact ⟨⟨fun z => ⟨z, e⟩, fun z => z.1⟩, e2, e3, e4⟩
      · rw [ho q hq e' e]; exact ⟨⟨fun z => ⟨z, e⟩, fun z => z.1⟩, rfl, rfl, rfl⟩
  have hf : fks U = fks T := fks_ext hl fun q hq => (all q (hl ▸ hq)).2.2.2
  have ndp : (c :: (rwAt U p).kids).Nodup := hk.nodup_iff.mp (h.row p hp).nd
  have cp : (rwAt T c).parent = some p := ((h.kid p hp c).mp (hk.mem_iff.mpr (List.mem_cons_self ..))).2.2
  refine ⟨hl ▸ h.pos, fun q hq => ?_, fun q hq d => ?_, fun d hd hh q e => ?_, fun d hd hh a ha ah an hA => ?_⟩
  · rw [hl] at hq
    by_cases e : q = p
    · subst e; exact hr
    · by_cases e' : q = c
      · subst e'
        have := h.row q hq
        rw [ec]
        exact ⟨this.k, this.pl, this.sl, this.nd, this.pa, this.cd, this.en, fun _ => he, this.fk⟩
      · rw [ho q hq e e']; exact h.row q hq
  · rw [hl] at hq
    rw [hl]
    have key : d ∈ (rwAt U q).kids ↔ d ∈ (rwAt T q).kids ∧ d ≠ c := by
      by_cases e : q = p
      · subst e
        rw [hk.mem_iff]
        constructor
        · intro z
          refine ⟨List.mem_cons_of_mem _ z, fun y => ?_⟩
          subst y
          exact (List.nodup_cons.mp ndp).1 z
        · rintro ⟨z, y⟩
          exact (List.mem_cons.mp z).resolve_left y
      · have ne : ∀ z ∈ (rwAt T q).kids, z ≠ c := fun z hz y => by
          subst y
          have := ((h.kid q hq z).mp hz).2.2
          rw [cp] at this
          injection this with this
          exact e this.symm
        by_cases e' : q = c
        · subst e'
          rw [ec]
          exact ⟨fun z => ⟨z, ne d z⟩, fun z => z.1⟩
        · rw [ho q hq e e']
          exact ⟨fun z => ⟨z, ne d z⟩, fun z => z.1⟩
    rw [key, h.kid q hq d]
    constructor
    · rintro ⟨⟨a, b, c'⟩, e⟩; exact ⟨a, (all d a).1.mpr ⟨b, e⟩, by rw [(all d a).2.1]; exact c'⟩
    · rintro ⟨a, b, c'⟩; exact ⟨⟨a, ((all d a).1.mp b).1, by rw [← (all d a).2.1]; exact c'⟩, ((all d a).1.mp b).2⟩
  · rw [hl] at hd
    rw [hf]
    exact h.par d hd ((all d hd).1.mp hh).1 q (by rw [← (all d hd).2.1]; exact e)
  · rw [hl] at hd ha
    rw [hf] at hA ⊢
    rw [(all d hd).2.1]
    exact h.anc d hd ((all d hd).1.mp hh).1 a ha ((all a ha).1.mp ah).1 (by rw [← (all a ha).2.2.1]; exact an) hA
/-- an end: the children go to the parent -/
theorem TOk.finish {w : Sys} {T U : Folk} (h : TOk w T) {x : Nat} {o : Option Nat} (hx : x < T.length) (hh : (rwAt T x).here = true) (hn : (rwAt T x).code = none) (ho : (rwAt T x).parent = o) (hl : U.length = T.length)
    (hxx : RwOk w x (rwAt U x)) (x1 : (rwAt U x).here = true) (x2 : (rwAt U x).parent = o) (x3 : (rwAt U x).code ≠ none) (x4 : (rwAt U x).forker = (rwAt T x).forker) (x5 : (rwAt U x).kids = [])
    (hkid : ∀ c, c ∈ (rwAt T x).kids → rwAt U c = { rwAt T c with parent := o })
    (hpar : ∀ q, o = some q → RwOk w q (rwAt U q) ∧ (rwAt U q).kids.Perm ((rwAt T q).kids ++ (rwAt T x).kids) ∧ (rwAt U q).here = (rwAt T q).here ∧ (rwAt U q).parent = (rwAt T q).parent ∧ (rwAt U q).code = (rwAt T q).code ∧ (rwAt U q).forker = (rwAt T q).forker)
    (hoth : ∀ q, q < T.length → q ≠ x → q ∉ (rwAt T x).kids → o ≠ some q → rwAt U q = rwAt T q) : TOk w U := by
  have kx : ∀ {c : Nat}, c ∈ (rwAt T x).kids → c < T.length ∧ (rwAt T c).here = true ∧ (rwAt T c).parent = some x := fun {c} z => (h.kid x hx c).mp z
  have kgt : ∀ {c : Nat}, c ∈ (rwAt T x).kids → x < c := fun {c} z => h.parlt (kx z).1 (kx z).2.1 (kx z).2.2
  have plt : ∀ {q : Nat}, o = some q → q < x := fun {q} e => h.parlt hx hh (ho.trans e)
  have four : ∀ q, q < T.length → (q = x ∧ q ∉ (rwAt T x).kids ∧ o ≠ some q) ∨ (q ≠ x ∧ q ∈ (rwAt T x).kids ∧ o ≠ some q) ∨ (q ≠ x ∧ q ∉ (rwAt T x).kids ∧ o = some q) ∨ (q ≠ x ∧ q ∉ (rwAt T x).kids ∧ o ≠ some q) := fun q hq => by
    by_cases a : q = x
    · refine .inl ⟨a, fun z => ?_, fun z => ?_⟩
      · have := kgt z; omega
      · have := plt z; omega
    · by_cases b : q ∈ (rwAt T x).kids
      · refine .inr (.inl ⟨a, b, fun z => ?_⟩)
        have := plt z
        have := kgt b
        omega
      · by_cases c : o = some q
        · exact .inr (.inr (.inl ⟨a, b, c⟩))
        · exact .inr (.inr (.inr ⟨a, b, c⟩))
  have all : ∀ q, q < T.length → (rwAt U q).here = (rwAt T q).here ∧ (rwAt U q).parent = (if q ∈ (rwAt T x).kids then o else (rwAt T q).parent) ∧ ((rwAt U q).code = none → (rwAt T q).code = none ∧ q ≠ x) ∧ (rwAt U q).forker = (rwAt T q).forker := fun q hq => by
    rcases four q hq with ⟨a, b, c⟩ | ⟨a, b, c⟩ | ⟨a, b, c⟩ | ⟨a, b, c⟩
    · subst a; rw [if_neg b]; exact ⟨x1.trans hh.symm, x2.trans ho.symm, fun z => absurd z x3, x4⟩
    · rw [hkid q b, if_pos b]; exact ⟨rfl, rfl, fun z => ⟨z, a⟩, rfl⟩
    · obtain ⟨_, _, c1, c2, c3, c4⟩ := hpar q c
      rw [if_neg b]; exact ⟨c1, c2, fun z => ⟨c3 ▸ z, a⟩, c4⟩
    · rw [hoth q hq a b c, if_neg b]; exact ⟨rfl, rfl, fun z => ⟨z, a⟩, rfl⟩
  have hf : fks U = fks T := fks_ext hl fun q hq => (all q (hl ▸ hq)).2.2.2
  refine ⟨hl ▸ h.pos, fun q hq => ?_, fun q hq d => ?_, fun d hd hhd q e => ?_, fun d hd hhd a ha ah an hA => ?_⟩
  · rw [hl] at hq
    rcases four q hq with ⟨a, b, c⟩ | ⟨a, b, c⟩ | ⟨a, b, c⟩ | ⟨a, b, c⟩
    · subst a; exact hxx
    · rw [hkid q b]
      have := h.row q hq
      exact ⟨this.k, this.pl, this.sl, this.nd, this.pa, this.cd, this.en, this.gn, this.fk⟩
    · exact (hpar q c).1
    · rw [hoth q hq a b c]; exact h.row q hq
  · rw [hl] at hq
    rw [hl]
    have ux : ∀ {d : Nat}, d ∈ (rwAt T x).kids → (rwAt U d).parent = o := fun {d} z => by rw [hkid d z]
    have uy : ∀ {d : Nat}, d < T.length → d ∉ (rwAt T x).kids → (rwAt U d).parent = (rwAt T d).parent := fun {d} z y => by rw [(all d z).2.1, if_neg y]
    have un : ∀ {d : Nat}, d < T.length → (rwAt T d).here = true → (rwAt T d).parent = some x → d ∈ (rwAt T x).kids := fun {d} a b c => (h.kid x hx d).mpr ⟨a, b, c⟩
    rcases four q hq with ⟨a, b, c⟩ | ⟨a, b, c⟩ | ⟨a, b, c⟩ | ⟨a, b, c⟩
    · subst a
      rw [x5]
      constructor
      · intro z; cases z
      · rintro ⟨h1, h2, h3⟩
        rw [(all d h1).1] at h2
        by_cases dk : d ∈ (rwAt T q).kids
        · rw [ux dk] at h3; exact absurd h3 c
        · rw [uy h1 dk] at h3; exact absurd (un h1 h2 h3) dk
    · have e : (rwAt U q).kids = (rwAt T q).kids := by rw [hkid q b]; rfl
      rw [e, h.kid q hq d]
      constructor
      · rintro ⟨h1, h2, h3⟩
        refine ⟨h1, by rw [(all d h1).1]; exact h2, ?_⟩
        rw [uy h1 fun z => ?_]
        · exact h3
        · have := (kx z).2.2
          rw [h3] at this
          injection this with this
          exact a this
      · rintro ⟨h1, h2, h3⟩
        rw [(all d h1).1] at h2
        by_cases dk : d ∈ (rwAt T x).kids
        · rw [ux dk] at h3; exact absurd h3 c
        · rw [uy h1 dk] at h3; exact ⟨h1, h2, h3⟩
    · rw [(hpar q c).2.1.mem_iff, List.mem_append, h.kid q hq d]
      constructor
      · rintro (⟨h1, h2, h3⟩ | z)
        · refine ⟨h1, by rw [(all d h1).1]; exact h2, ?_⟩
          rw [uy h1 fun z => ?_]
          · exact h3
          · have := (kx z).2.2
            rw [h3] at this
            injection this with this
            exact a this
        · obtain ⟨h1, h2, h3⟩ := kx z
          exact ⟨h1, by rw [(all d h1).1]; exact h2, by rw [ux z]; exact c⟩
      · rintro ⟨h1, h2, h3⟩
        rw [(all d h1).1] at h2
        by_cases dk : d ∈ (rwAt T x).kids
        · exact .inr dk
        · rw [uy h1 dk] at h3; exact .inl ⟨h1, h2, h3⟩
    · rw [hoth q hq a b c, h.kid q hq d]
      constructor
      · rintro ⟨h1, h2, h3⟩
        refine ⟨h1, by rw [(all d h1).1]; exact h2, ?_⟩
        rw [uy h1 fun z => ?_]
        · exact h3
        · have := (kx z).2.2
          rw [h3] at this
          injection this with this
          exact a this
      · rintro ⟨h1, h2, h3⟩
        rw [(all d h1).1] at h2
        by_cases dk : d ∈ (rwAt T x).kids
        · rw [ux dk] at h3; exact absurd h3 c
        · rw [uy h1 dk] at h3; exact ⟨h1, h2, h3⟩
  · rw [hl] at hd
    rw [(all d hd).1] at hhd
    rw [hf]
    rw [(all d hd).2.1] at e
    by_cases dk : d ∈ (rwAt T x).kids
    · rw [if_pos dk] at e
      exact (h.par x hx hh q (ho.trans e)).trans (h.par d hd hhd x (kx dk).2.2)
    · rw [if_neg dk] at e
      exact h.par d hd hhd q e
  · rw [hl] at hd ha
    rw [(all d hd).1] at hhd
    rw [(all a ha).1] at ah
    obtain ⟨an, ax⟩ := (all a ha).2.2.1 an
    rw [hf] at hA ⊢
    rw [(all d hd).2.1]
    obtain ⟨q, h1, h2⟩ := h.anc d hd hhd a ha ah an hA
    by_cases dk : d ∈ (rwAt T x).kids
    · rw [if_pos dk]
      have e := (kx dk).2.2
      rw [h1] at e
      injection e with e
      subst e
      rcases h2 with h2 | h2
      · exact absurd h2 ax
      · obtain ⟨q', h3, h4⟩ := h.anc q hx hh a ha ah an h2
        exact ⟨q', ho.symm.trans h3, h4⟩
    · rw [if_neg dk]
      exact ⟨q, h1, h2⟩
end Fy
end
section
/-! FyStep -/
namespace Fy
open PySem PySem.Spec
/-! ### sorting -/
theorem sortN_perm {xs : List Nat} : (sortN xs).Perm xs := List.mergeSort_perm _ _
theorem sortN_le {xs : List Nat} : (sortN xs).Pairwise (· ≤ ·) := by
  have := List.pairwise_mergeSort (le := fun a b : Nat => decide (a ≤ b)) (fun a b c h k => by simp at *; omega) (fun a b => by simp; omega) xs
  exact this.imp fun {a b} h => by simpa using h
theorem sortN_lt {xs : List Nat} (h : xs.Nodup) : (sortN xs).Pairwise (· < ·) := by
  have h1 : (sortN xs).Nodup := sortN_perm.nodup_iff.mpr h
  exact (sortN_le.and h1).imp fun {a b} ⟨p, q⟩ => Nat.lt_of_le_of_ne p q
/-! ### systems -/
theorem kdAt_get {w : Sys} {i : Nat} (h : i < w.length) : w[i]? = some (kdAt w i) := by
  unfold kdAt; rw [List.getD_eq_getElem?_getD, List.getElem?_eq_getElem h]; rfl
theorem kdsOk_at : ∀ {w : Sys} {i : Nat}, KdsOk w → i < w.length → KdOk ((w.drop (i + 1)).map (·.name)) (kdAt w i)
  | [], i, _, h => by simp at h
  | k :: r, 0, o, _ => o.1
  | k :: r, i + 1, o, h => by
    have := kdsOk_at (w := r) (i := i) o.2 (by simpa using h)
    simpa [kdAt] using this
theorem SysOk.kd {w : Sys} (h : SysOk w) {i : Nat} (hi : i < w.length) : KdOk ((w.drop (i + 1)).map (·.name)) (kdAt w i) := kdsOk_at h.2.2.2 hi
theorem SysOk.ins {w : Sys} (h : SysOk w) {p : Nat} {r : Rw} (o : RwOk w p r) : InsOk ((w.drop (r.k + 1)).map (·.name)) (kdAt w r.k).slots (kdAt w r.k).places.length (insAt w r) := by
  have e : (kdAt w r.k).places[r.place]? = some (insAt w r) := by
    unfold insAt; rw [List.getD_eq_getElem?_getD, List.getElem?_eq_getElem o.pl]; rfl
  exact (h.kd o.k).2.2.2.2.2.2 _ (List.mem_of_getElem? e)
theorem SysOk.later {w : Sys} {i : Nat} {x : Str} (h : x ∈ (w.drop (i + 1)).map (·.name)) : x ∈ w.map (·.name) := by
  obtain ⟨k, a, b⟩ := List.mem_map.mp h
  exact List.mem_map.mpr ⟨k, List.drop_subset _ _ a, b⟩
theorem SysOk.named {w : Sys} {x : Str} (h : x ∈ w.map (·.name)) : (w.map (·.name)).idxOf x < w.length ∧ (kdAt w ((w.map (·.name)).idxOf x)).name = x := by
  have h1 : (w.map (·.name)).idxOf x < (w.map (·.name)).length := List.idxOf_lt_length_of_mem h
  have h2 : (w.map (·.name)).idxOf x < w.length := by simpa using h1
  refine ⟨h2, ?_⟩
  have h3 : (w.map (·.name))[(w.map (·.name)).idxOf x]'h1 = x := List.getElem_idxOf h1
  rw [List.getElem_map] at h3
  have e := kdAt_get h2
  rw [List.getElem?_eq_getElem h2] at e
  rw [← Option.some.inj e]
  exact h3
/-! ### children -/
theorem fm_none {α : Type} (xs : List α) : (xs.map fun _ => (none : Option Nat)).filterMap id = [] := by
  induction xs with
  | nil => rfl
  | cons x xs ih => simpa using ih
theorem mem_slots {xs : List (Option Nat)} {c : Nat} : c ∈ xs.filterMap id ↔ some c ∈ xs := by simp
theorem fm_split {xs : List (Option Nat)} {j : Nat} {o : Option Nat} (h : xs[j]? = some o) : ∃ rest, (xs.filterMap id).Perm (o.toList ++ rest) ∧ ∀ o', ((xs.set j o').filterMap id).Perm (o'.toList ++ rest) := by
  induction xs generalizing j with
  | nil => simp at h
  | cons x xs ih =>
    cases j with
    | zero =>
      simp at h; subst h
      refine ⟨xs.filterMap id, ?_, fun o' => ?_⟩
      · cases x <;> simp
      · cases o' <;> simp
    | succ j =>
      obtain ⟨rest, h1, h2⟩ := ih (j := j) (by simpa using h)
      cases x with
      | none => exact ⟨rest, by simpa using h1, fun o' => by simpa using h2 o'⟩
      | some y =>
        refine ⟨y :: rest, ?_, fun o' => ?_⟩
        · have : (List.filterMap id (some y :: xs)) = y :: xs.filterMap id := by simp
          rw [this]
          exact (h1.cons y).trans List.perm_middle.symm
        · have : (List.filterMap id ((some y :: xs).set (j + 1) o')) = y :: (xs.set j o').filterMap id := by simp
          rw [this]
          exact ((h2 o').cons y).trans List.perm_middle.symm
theorem getD_some {xs : List (Option Nat)} {j c : Nat} (h : xs.getD j none = some c) : xs[j]? = some (some c) := by
  rw [List.getD_eq_getElem?_getD] at h
  cases e : xs[j]? with
  | none => rw [e] at h; cases h
  | some o => rw [e] at h; exact congrArg some h
theorem getD_kid {r : Rw} {j c : Nat} (h : r.slots.getD j none = some c) : c ∈ r.kids := List.mem_append_left _ (mem_slots.mpr (List.mem_of_getElem? (getD_some h)))
/-- where a child stands in the slots is told by the child -/
theorem slot_uniq {xs : List (Option Nat)} (h : (xs.filterMap id).Nodup) {i j c : Nat} (a : xs[i]? = some (some c)) (b : xs[j]? = some (some c)) : i = j := by
  induction xs generalizing i j with
  | nil => simp at a
  | cons x xs ih =>
    have mem : ∀ {k : Nat}, xs[k]? = some (some c) → c ∈ xs.filterMap id := fun {k} e => mem_slots.mpr (List.mem_of_getElem? e)
    cases i with
    | zero =>
      cases j with
      | zero => rfl
      | succ j =>
        simp at a b; subst a
        have : (some c :: xs).filterMap id = c :: xs.filterMap id := by simp
        rw [this] at h
        exact absurd (mem b) (List.nodup_cons.mp h).1
    | succ i =>
      cases j with
      | zero =>
        simp at a b; subst b
        have : (some c :: xs).filterMap id = c :: xs.filterMap id := by simp
        rw [this] at h
        exact absurd (mem a) (List.nodup_cons.mp h).1
      | succ j =>
        refine congrArg (· + 1) (ih ?_ (by simpa using a) (by simpa using b))
        cases x with
        | none => simpa using h
        | some y =>
          have : (some y :: xs).filterMap id = y :: xs.filterMap id := by simp
          rw [this] at h
          exact (List.nodup_cons.mp h).2
/-! ### what stands of a row that is changed -/
theorem RwOk.place {w : Sys} {p g : Nat} {r : Rw} (h : RwOk w p r) (hg : g < (kdAt w r.k).places.length) : RwOk w p { r with place := g } := ⟨h.k, hg, h.sl, h.nd, h.pa, h.cd, h.en, h.gn, h.fk⟩
/-- other children of a living process -/
theorem RwOk.other {w : Sys} {p : Nat} {r : Rw} (h : RwOk w p r) (hn : r.code = none) {sl : List (Option Nat)} {pl : List Nat} (hl : sl.length = r.slots.length) (hp : pl.Pairwise (· < ·)) (hnd : (sl.filterMap id ++ pl).Nodup) : RwOk w p { r with slots := sl, pool := pl } :=
  ⟨h.k, h.pl, hl.trans h.sl, hnd, hp, h.cd, fun z => absurd hn z, h.gn, h.fk⟩
theorem TOk.goes {w : Sys} {T : Folk} (h : TOk w T) {p g : Nat} (hp : p < T.length) (hg : g < (kdAt w (rwAt T p).k).places.length) : TOk w (goesT T p g) := by
  have e : rwAt (goesT T p g) p = { rwAt T p with place := g } := by unfold goesT; rw [rwAt_put hp, if_pos rfl]
  refine h.turn hp (by simp [goesT]) (fun q _ n => by unfold goesT; rw [rwAt_put hp, if_neg n]) (e ▸ (h.row p hp).place hg) ?_ (by rw [e]) (by rw [e]) (by rw [e]) (by rw [e])
  rw [e]; exact List.Perm.refl _
@[simp] theorem len_goes {T : Folk} {p g : Nat} : (goesT T p g).length = T.length := by simp [goesT]
theorem rwAt_goes {T : Folk} {p g q : Nat} (hp : p < T.length) : rwAt (goesT T p g) q = if q = p then { rwAt T p with place := g } else rwAt T q := rwAt_put hp
/-! ### an end -/
theorem rwAt_handed {o : Option Nat} {q : Nat} : ∀ {cs : List Nat} {T : Folk}, (∀ c ∈ cs, c < T.length) → (handedT T o cs).length = T.length ∧ rwAt (handedT T o cs) q = if q ∈ cs then { rwAt T q with parent := o } else rwAt T q
  | [], T, _ => ⟨rfl, by simp [handedT]⟩
  | c :: cs, T, h => by
    have hc : c < T.length := h c (List.mem_cons_self ..)
    obtain ⟨h1, h2⟩ := rwAt_handed (o := o) (q := q) (cs := cs) (T := putT T c fun r => { r with parent := o }) (fun d hd => by rw [len_put]; exact h d (List.mem_cons_of_mem _ hd))
    refine ⟨h1.trans len_put, ?_⟩
    show rwAt (handedT (putT T c fun r => { r with parent := o }) o cs) q = _
    rw [h2, rwAt_put hc]
    by_cases e : q = c
    · subst e
      simp
    · by_cases e' : q ∈ cs
      · simp [e, e']
      · simp [e, e']
structure Ended (T U : Folk) (x code : Nat) : Prop where
  len : U.length = T.length
  self : rwAt U x = { rwAt T x with slots := (rwAt T x).slots.map fun _ => none, pool := [], code := some code }
  kid : ∀ c, c ∈ (rwAt T x).kids → rwAt U c = { rwAt T c with parent := (rwAt T x).parent }
  par : ∀ q, (rwAt T x).parent = some q → rwAt U q = { rwAt T q with pool := sortN ((rwAt T q).pool ++ (rwAt T x).kids) }
  oth : ∀ q, q < T.length → q ≠ x → q ∉ (rwAt T x).kids → (rwAt T x).parent ≠ some q → rwAt U q = rwAt T q
theorem TOk.ended {w : Sys} {T : Folk} (h : TOk w T) {x code : Nat} (hx : x < T.length) (hh : (rwAt T x).here = true) : Ended T (endedT T x code) x code := by
  have kx : ∀ {c : Nat}, c ∈ (rwAt T x).kids → c < T.length ∧ x < c := fun {c} z => by
    obtain ⟨a, b, c⟩ := (h.kid x hx _).mp z
    exact ⟨a, h.parlt a b c⟩
  have hd := fun q => rwAt_handed (o := (rwAt T x).parent) (q := q) (cs := (rwAt T x).kids) (T := T) fun c hc => (kx hc).1
  have xk : x ∉ (rwAt T x).kids := fun z => by have := (kx z).2; omega
  cases e : (rwAt T x).parent with
  | none =>
    have hU : endedT T x code = putT (handedT T none (rwAt T x).kids) x fun r => { r with slots := r.slots.map fun _ => none, pool := [], code := some code } := by
      unfold endedT; simp only [e]
    rw [e] at hd
    have hx1 : x < (handedT T none (rwAt T x).kids).length := by rw [(hd 0).1]; exact hx
    rw [hU]
    refine ⟨by rw [len_put, (hd 0).1], ?_, fun c hc => ?_, fun q z => ?_, fun q hq n1 n2 n3 => ?_⟩
    · rw [rwAt_put hx1, if_pos rfl, (hd x).2, if_neg xk]
    · rw [rwAt_put hx1, if_neg (fun (z : c = x) => xk (z ▸ hc)), (hd c).2, if_pos hc, e]
    · rw [e] at z; cases z
    · rw [rwAt_put hx1, if_neg n1, (hd q).2, if_neg n2]
  | some q =>
    have hq : q < x := h.parlt hx hh e
    have qk : q ∉ (rwAt T x).kids := fun z => by have := (kx z).2; omega
    have hU : endedT T x code = putT (pooledT (handedT T (some q) (rwAt T x).kids) q (rwAt T x).kids) x fun r => { r with slots := r.slots.map fun _ => none, pool := [], code := some code } := by
      unfold endedT; simp only [e]
    rw [e] at hd
    have hq1 : q < (handedT T (some q) (rwAt T x).kids).length := by rw [(hd 0).1]; omega
    have l2 : (pooledT (handedT T (some q) (rwAt T x).kids) q (rwAt T x).kids).length = T.length := by unfold pooledT; rw [len_put, (hd 0).1]
    have hx1 : x < (pooledT (handedT T (some q) (rwAt T x).kids) q (rwAt T x).kids).length := by rw [l2]; exact hx
    have hp := fun y => rwAt_put (T := handedT T (some q) (rwAt T x).kids) (p := q) (q := y) (f := fun r => { r with pool := sortN (r.pool ++ (rwAt T x).kids) }) hq1
    rw [hU]
    refine ⟨by rw [len_put, l2], ?_, fun c hc => ?_, fun q' z => ?_, fun y hy n1 n2 n3 => ?_⟩
    · rw [rwAt_put hx1, if_pos rfl]
      unfold pooledT
      rw [hp x, if_neg (by omega), (hd x).2, if_neg xk]
    · rw [rwAt_put hx1, if_neg (fun (z : c = x) => xk (z ▸ hc))]
      unfold pooledT
      rw [hp c, if_neg (fun (z : c = q) => qk (z ▸ hc)), (hd c).2, if_pos hc, e]
    · rw [e] at z; cases z
      rw [rwAt_put hx1, if_neg (by omega)]
      unfold pooledT
      rw [hp q, if_pos rfl, (hd q).2, if_neg qk]
    · rw [rwAt_put hx1, if_neg n1]
      unfold pooledT
      rw [hp y, if_neg (fun z => n3 (by rw [e, z])), (hd y).2, if_neg n2]
theorem TOk.endOk {w : Sys} {T : Folk} (h : TOk w T) {x code : Nat} (hx : x < T.length) (hh : (rwAt T x).here = true) (hn : (rwAt T x).code = none) (hc : code ≤ 2) : TOk w (endedT T x code) := by
  have E := h.ended (code := code) hx hh
  have self := h.row x hx
  have e5 : (rwAt (endedT T x code) x).kids = [] := by
    rw [E.self]; show (((rwAt T x).slots.map fun _ => (none : Option Nat)).filterMap id ++ []) = []
    rw [fm_none]; rfl
  refine h.finish (o := (rwAt T x).parent) hx hh hn rfl E.len ?_ (by rw [E.self]; exact hh) (by rw [E.self]) (by rw [E.self]; simp) (by rw [E.self]) e5 E.kid (fun q e => ?_) E.oth
  · refine ⟨by rw [E.self]; exact self.k, by rw [E.self]; exact self.pl, by rw [E.self]; simpa using self.sl, by rw [e5]; exact List.nodup_nil, by rw [E.self]; exact List.Pairwise.nil, fun c e => ?_, fun _ => e5, fun z => ?_, by rw [E.self]; exact self.fk⟩
    · rw [E.self] at e; injection e with e; omega
    · rw [E.self]; simp
  · obtain ⟨q1, q2, q3, q4⟩ := h.parliv hx hh e
    have rq := h.row q q1
    have dis : ((rwAt T q).kids ++ (rwAt T x).kids).Nodup := by
      rw [List.nodup_append]
      refine ⟨rq.nd, self.nd, fun a ha b hb z => ?_⟩
      subst z
      have p1 := ((h.kid q q1 a).mp ha).2.2
      have p2 := ((h.kid x hx a).mp hb).2.2
      rw [p1] at p2
      injection p2 with p2
      have := h.parlt hx hh e
      omega
    have hk : ({ rwAt T q with pool := sortN ((rwAt T q).pool ++ (rwAt T x).kids) } : Rw).kids.Perm ((rwAt T q).kids ++ (rwAt T x).kids) := by
      show ((rwAt T q).slots.filterMap id ++ sortN ((rwAt T q).pool ++ (rwAt T x).kids)).Perm (((rwAt T q).slots.filterMap id ++ (rwAt T q).pool) ++ (rwAt T x).kids)
      rw [List.append_assoc]
      exact List.Perm.append_left _ sortN_perm
    have np : ((rwAt T q).pool ++ (rwAt T x).kids).Nodup := by
      have : ((rwAt T q).slots.filterMap id ++ ((rwAt T q).pool ++ (rwAt T x).kids)).Nodup := by rw [← List.append_assoc]; exact dis
      exact (List.nodup_append.mp this).2.1
    rw [E.par q e]
    exact ⟨rq.other q3 (sl := (rwAt T q).slots) rfl (sortN_lt np) (hk.nodup_iff.mpr dis), hk, rfl, rfl, rfl, rfl⟩
end Fy
end
section
/-! FyStep2 -/
namespace Fy
open PySem PySem.Spec
def Can (w : Sys) (T : Folk) (p : Nat) (m : Mv) : Prop := p < T.length ∧ (rwAt T p).here = true ∧ (rwAt T p).code = none ∧ m ∈ movesT w T p
/-- the row of a process whose pool and slots were changed -/
theorem TOk.release {w : Sys} {T : Folk} (h : TOk w T) {p j c : Nat} (hp : p < T.length) (hn : (rwAt T p).code = none) (hs : (rwAt T p).slots.getD j none = some c) : TOk w (slottedT (pooledT T p [c]) p j none) := by
  have hl : (pooledT T p [c]).length = T.length := by simp [pooledT]
  have e : rwAt (slottedT (pooledT T p [c]) p j none) p = { rwAt T p with slots := (rwAt T p).slots.set j none, pool := sortN ((rwAt T p).pool ++ [c]) } := by
    unfold slottedT; rw [rwAt_put (by rw [hl]; exact hp), if_pos rfl]
    unfold pooledT; rw [rwAt_put hp, if_pos rfl]
  have o : ∀ q, q < T.length → q ≠ p → rwAt (slottedT (pooledT T p [c]) p j none) q = rwAt T q := fun q _ n => by
    unfold slottedT; rw [rwAt_put (by rw [hl]; exact hp), if_neg n]
    unfold pooledT; rw [rwAt_put hp, if_neg n]
  obtain ⟨rest, h1, h2⟩ := fm_split (getD_some hs)
  have h3 := h2 none
  have hk : ((((rwAt T p).slots.set j none).filterMap id) ++ sortN ((rwAt T p).pool ++ [c])).Perm (rwAt T p).kids := by
    refine List.perm_iff_count.mpr fun a => ?_
    have a1 := List.perm_iff_count.mp h1 a
    have a2 := List.perm_iff_count.mp h3 a
    have a3 := List.perm_iff_count.mp (sortN_perm (xs := (rwAt T p).pool ++ [c])) a
    have a4 : (rwAt T p).kids.count a = ((rwAt T p).slots.filterMap id).count a + (rwAt T p).pool.count a := by unfold Rw.kids; rw [List.count_append]
    simp [List.count_append, List.count_cons] at *
    omega
  have nd := (h.row p hp).nd
  have ndp : ((rwAt T p).pool ++ [c]).Nodup := by
    rw [List.nodup_append]
    refine ⟨(List.nodup_append.mp nd).2.1, by simp, fun a ha b hb z => ?_⟩
    simp at hb; subst hb; subst z
    exact (List.nodup_append.mp nd).2.2 a (mem_slots.mpr (List.mem_of_getElem? (getD_some hs))) a ha rfl
  refine h.turn hp (by simp [slottedT, hl]) o ?_ (by rw [e]; exact hk) (by rw [e]) (by rw [e]) (by rw [e]) (by rw [e])
  rw [e]
  exact (h.row p hp).other hn (by simp) (sortN_lt ndp) (hk.nodup_iff.mpr nd)
theorem newborn_ok {w : Sys} (S : SysOk w) {n p k : Nat} {tag : Str} {fp : Option Nat} (hp : p < n) (hk : k < w.length) : RwOk w n (newbornT w k tag (some p) fp) ∧ (newbornT w k tag (some p) fp).kids = [] := by
  have e : (newbornT w k tag (some p) fp).kids = [] := by
    show (((kdAt w k).slots.map fun _ => (none : Option Nat)).filterMap id ++ []) = []
    rw [fm_none]; rfl
  refine ⟨⟨hk, ?_, by simp [newbornT], by rw [e]; exact List.nodup_nil, List.Pairwise.nil, fun c z => by simp [newbornT] at z, fun _ => e, fun z => by simp [newbornT] at z, fun f z => ?_⟩, e⟩
  · show 0 < (kdAt w k).places.length
    exact List.length_pos_iff.mpr (S.kd hk).2.2.2.2.1
  · have : p = f := Option.some.inj z
    omega
theorem TOk.forkOk {w : Sys} (S : SysOk w) {T : Folk} (h : TOk w T) {p : Nat} {kind tag slot : Str} (hp : p < T.length) (hh : (rwAt T p).here = true) (hn : (rwAt T p).code = none) (hk : kind ∈ w.map (·.name)) (hs : slot = "" ∨ slot ∈ (kdAt w (rwAt T p).k).slots) :
    TOk w (forkedT w T p kind tag slot) ∧ (forkedT w T p kind tag slot).length = T.length + 1 ∧ (rwAt (forkedT w T p kind tag slot) p).k = (rwAt T p).k := by
  obtain ⟨nb, nk⟩ := newborn_ok S (tag := tag) (fp := some (rwAt T p).place) hp (SysOk.named hk).1
  have R := h.row p hp
  have kl : ∀ c ∈ (rwAt T p).kids, c < T.length := fun c hc => ((h.kid p hp c).mp hc).1
  have nd : (T.length :: (rwAt T p).kids).Nodup := List.nodup_cons.mpr ⟨fun z => by have := kl _ z; omega, R.nd⟩
  generalize hnb : newbornT w ((w.map (·.name)).idxOf kind) tag (some p) (some (rwAt T p).place) = b at nb nk
  have b1 : b.here = true := by rw [← hnb]; rfl
  have b2 : b.parent = some p := by rw [← hnb]; rfl
  have b3 : b.forker = some p := by rw [← hnb]; rfl
  have lt : p < (T ++ [b]).length := by simp; omega
  have t1 : ∀ q, rwAt (T ++ [b]) q = if q = T.length then b else rwAt T q := fun q => rwAt_app
  by_cases e : slot = ""
  · have hU : forkedT w T p kind tag slot = pooledT (T ++ [b]) p [T.length] := by unfold forkedT; simp only [hnb]; rw [if_pos e]
    have U1 : ∀ q, rwAt (pooledT (T ++ [b]) p [T.length]) q = if q = p then { rwAt T p with pool := sortN ((rwAt T p).pool ++ [T.length]) } else if q = T.length then b else rwAt T q := fun q => by
      unfold pooledT; rw [rwAt_put lt, t1, t1, if_neg (show ¬ p = T.length by omega)]
    rw [hU]
    have hkk : ((rwAt T p).slots.filterMap id ++ sortN ((rwAt T p).pool ++ [T.length])).Perm (T.length :: (rwAt T p).kids) := by
      refine List.perm_iff_count.mpr fun a => ?_
      have a3 := List.perm_iff_count.mp (sortN_perm (xs := (rwAt T p).pool ++ [T.length])) a
      simp [List.count_append, List.count_cons, Rw.kids] at *
      omega
    have ndp : ((rwAt T p).pool ++ [T.length]).Nodup := by
      refine ((sortN_perm (xs := (rwAt T p).pool ++ [T.length])).nodup_iff).mp ?_
      exact (List.nodup_append.mp (hkk.nodup_iff.mpr nd)).2.1
    refine ⟨h.fork hp hn hh (by simp [pooledT]) (fun q hq n => by rw [U1, if_neg n, if_neg (by omega)]) ?_ (by rw [U1, if_pos rfl]; exact hkk) (by rw [U1, if_pos rfl]) (by rw [U1, if_pos rfl]) (by rw [U1, if_pos rfl]) (by rw [U1, if_pos rfl]) ?_ ?_ ?_ ?_ ?_, by simp [pooledT], by rw [U1, if_pos rfl]⟩
    · rw [U1, if_pos rfl]
      exact R.other hn rfl (sortN_lt ndp) (hkk.nodup_iff.mpr nd)
    all_goals rw [U1, if_neg (by omega), if_pos rfl]
    · exact nb
    · exact b1
    · exact b2
    · exact b3
    · exact nk
  · have hs : slot ∈ (kdAt w (rwAt T p).k).slots := hs.resolve_left e
    have hj : slotIx w (rwAt T p) slot < (rwAt T p).slots.length := by rw [R.sl]; exact List.idxOf_lt_length_of_mem hs
    generalize hjj : slotIx w (rwAt T p) slot = j at hj
    have ho : (rwAt T p).slots[j]? = some ((rwAt T p).slots.getD j none) := by rw [List.getD_eq_getElem?_getD, List.getElem?_eq_getElem hj]; rfl
    generalize hold : (rwAt T p).slots.getD j none = old at ho
    have hU : forkedT w T p kind tag slot = slottedT (pooledT (T ++ [b]) p old.toList) p j (some T.length) := by unfold forkedT; simp only [hnb, hjj, hold]; rw [if_neg e]
    have lt2 : p < (pooledT (T ++ [b]) p old.toList).length := by simp [pooledT]; omega
    have U1 : ∀ q, rwAt (slottedT (pooledT (T ++ [b]) p old.toList) p j (some T.length)) q = if q = p then { rwAt T p with slots := (rwAt T p).slots.set j (some T.length), pool := sortN ((rwAt T p).pool ++ old.toList) } else if q = T.length then b else rwAt T q := fun q => by
      unfold slottedT; rw [rwAt_put lt2]
      unfold pooledT; rw [rwAt_put lt, rwAt_put lt, t1, t1, if_neg (show ¬ p = T.length by omega), if_pos rfl]
      by_cases z : q = p
      · rw [if_pos z, if_pos z]
      · rw [if_neg z, if_neg z, if_neg z]
    rw [hU]
    obtain ⟨rest, h1, h2⟩ := fm_split ho
    have h3 := h2 (some T.length)
    have hkk : (((rwAt T p).slots.set j (some T.length)).filterMap id ++ sortN ((rwAt T p).pool ++ old.toList)).Perm (T.length :: (rwAt T p).kids) := by
      refine List.perm_iff_count.mpr fun a => ?_
      have a1 := List.perm_iff_count.mp h1 a
      have a2 := List.perm_iff_count.mp h3 a
      have a3 := List.perm_iff_count.mp (sortN_perm (xs := (rwAt T p).pool ++ old.toList)) a
      have a4 : (rwAt T p).kids.count a = ((rwAt T p).slots.filterMap id).count a + (rwAt T p).pool.count a := by unfold Rw.kids; rw [List.count_append]
      simp [List.count_append, List.count_cons] at *
      omega
    have ndp : ((rwAt T p).pool ++ old.toList).Nodup := by
      refine ((sortN_perm (xs := (rwAt T p).pool ++ old.toList)).nodup_iff).mp ?_
      exact (List.nodup_append.mp (hkk.nodup_iff.mpr nd)).2.1
    refine ⟨h.fork hp hn hh (by simp [slottedT, pooledT]) (fun q hq n => by rw [U1, if_neg n, if_neg (by omega)]) ?_ (by rw [U1, if_pos rfl]; exact hkk) (by rw [U1, if_pos rfl]) (by rw [U1, if_pos rfl]) (by rw [U1, if_pos rfl]) (by rw [U1, if_pos rfl]) ?_ ?_ ?_ ?_ ?_, by simp [slottedT, pooledT], by rw [U1, if_pos rfl]⟩
    · rw [U1, if_pos rfl]
      exact R.other hn (by simp) (sortN_lt ndp) (hkk.nodup_iff.mpr nd)
    all_goals rw [U1, if_neg (by omega), if_pos rfl]
    · exact nb
    · exact b1
    · exact b2
    · exact b3
    · exact nk
/-! ### a take -/
structure TakeAt (w : Sys) (T : Folk) (p c : Nat) (rows : List WRow) (j : Nat) (q : WRow) : Prop where
  at' : (rwAt T p).slots[j]? = some (some c)
  ix : (rwAt T p).slots.idxOf (some c) = j
  name : (kdAt w (rwAt T p).k).slots[j]? = some q.1
  hd : (rows.filter fun z => z.1 = (kdAt w (rwAt T p).k).slots.getD j default).head? = some q
  mem : q ∈ rows
theorem seen_at {w : Sys} {r : Rw} {rows : List WRow} {c : Nat} (h : c ∈ seen w r rows) : ∃ q ∈ rows, r.slots[slotIx w r q.1]? = some (some c) := by
  obtain ⟨q, h1, h2⟩ := List.mem_filterMap.mp h
  exact ⟨q, h1, getD_some h2⟩
theorem seen_kid {w : Sys} {r : Rw} {rows : List WRow} {c : Nat} (h : c ∈ seen w r rows) : c ∈ r.kids := by
  obtain ⟨q, h1, h2⟩ := seen_at h
  exact List.mem_append_left _ (mem_slots.mpr (List.mem_of_getElem? h2))
theorem take_at {w : Sys} {T : Folk} (h : TOk w T) {p c : Nat} {rows : List WRow} (hp : p < T.length) (hc : c ∈ seen w (rwAt T p) rows) (hr : ∀ q ∈ rows, q.1 ∈ (kdAt w (rwAt T p).k).slots) : ∃ j q, TakeAt w T p c rows j q := by
  have R := h.row p hp
  have nd := (List.nodup_append.mp R.nd).1
  obtain ⟨q, h1, h2⟩ := seen_at hc
  have m : some c ∈ (rwAt T p).slots := List.mem_of_getElem? h2
  have il : (rwAt T p).slots.idxOf (some c) < (rwAt T p).slots.length := List.idxOf_lt_length_of_mem m
  have ie : (rwAt T p).slots[(rwAt T p).slots.idxOf (some c)]? = some (some c) := by rw [List.getElem?_eq_getElem il, List.getElem_idxOf il]
  have e := slot_uniq nd ie h2
  have nl : slotIx w (rwAt T p) q.1 < (kdAt w (rwAt T p).k).slots.length := List.idxOf_lt_length_of_mem (hr q h1)
  have ne : (kdAt w (rwAt T p).k).slots[slotIx w (rwAt T p) q.1]? = some q.1 := by
    have := List.getElem_idxOf nl
    rw [List.getElem?_eq_getElem nl]; exact congrArg some this
  have gd : (kdAt w (rwAt T p).k).slots.getD (slotIx w (rwAt T p) q.1) default = q.1 := by rw [List.getD_eq_getElem?_getD, ne]; rfl
  cases hf : (rows.filter fun z => z.1 = (kdAt w (rwAt T p).k).slots.getD (slotIx w (rwAt T p) q.1) default) with
  | nil =>
    have : q ∈ rows.filter fun z => z.1 = (kdAt w (rwAt T p).k).slots.getD (slotIx w (rwAt T p) q.1) default := List.mem_filter.mpr ⟨h1, by rw [gd]; simp⟩
    rw [hf] at this; cases this
  | cons q' r =>
    have : q' ∈ rows.filter fun z => z.1 = (kdAt w (rwAt T p).k).slots.getD (slotIx w (rwAt T p) q.1) default := by rw [hf]; exact List.mem_cons_self ..
    obtain ⟨m1, m2⟩ := List.mem_filter.mp this
    rw [gd] at m2
    simp at m2
    exact ⟨slotIx w (rwAt T p) q.1, q', h2, e, by rw [m2]; exact ne, by rw [hf]; rfl, m1⟩
theorem TOk.takeOk {w : Sys} (S : SysOk w) {T : Folk} (h : TOk w T) {p c : Nat} {rows : List WRow} {pool : Option Nat} (hp : p < T.length) (hh : (rwAt T p).here = true) (hn : (rwAt T p).code = none)
    (hc : c ∈ (if pool.isSome = true then seen w (rwAt T p) rows ++ (rwAt T p).pool else seen w (rwAt T p) rows)) (he : (rwAt T c).code.isSome = true)
    (hr : ∀ q ∈ rows, q.1 ∈ (kdAt w (rwAt T p).k).slots ∧ q.2.1 < (kdAt w (rwAt T p).k).places.length ∧ q.2.2.1 < (kdAt w (rwAt T p).k).places.length ∧ q.2.2.2 < (kdAt w (rwAt T p).k).places.length)
    (hg : ∀ g, pool = some g → g < (kdAt w (rwAt T p).k).places.length) : TOk w (takenT w T p c rows pool) ∧ (takenT w T p c rows pool).length = T.length := by
  have R := h.row p hp
  have ck : c ∈ (rwAt T p).kids := by
    split at hc
    · rcases List.mem_append.mp hc with z | z
      · exact seen_kid z
      · exact List.mem_append_right _ z
    · exact seen_kid hc
  have hcl : c < T.length := ((h.kid p hp c).mp ck).1
  have hpc : p < c := h.parlt hcl ((h.kid p hp c).mp ck).2.1 ((h.kid p hp c).mp ck).2.2
  have hce : (rwAt T c).code ≠ none := fun z => by rw [z] at he; cases he
  have l1 : p < (putT T c fun r => { r with here := false }).length := by rw [len_put]; exact hp
  have t1 : ∀ q, rwAt (putT T c fun r => { r with here := false }) q = if q = c then { rwAt T c with here := false } else rwAt T q := fun q => rwAt_put hcl
  by_cases m : c ∈ (rwAt T p).pool
  · have hU : takenT w T p c rows pool = goesT (putT (putT T c fun r => { r with here := false }) p fun r => { r with pool := r.pool.filter (· ≠ c) }) p (pool.getD 0) := by unfold takenT; simp only [if_pos m]
    have hps : pool.isSome = true := by
      cases pool with
      | some g => rfl
      | none =>
        have hc : c ∈ seen w (rwAt T p) rows := by simpa using hc
        obtain ⟨q, _, h2⟩ := seen_at hc
        exact absurd rfl ((List.nodup_append.mp R.nd).2.2 c (mem_slots.mpr (List.mem_of_getElem? h2)) c m)
    rw [hU]
    obtain ⟨g, rfl⟩ := Option.isSome_iff_exists.mp hps
    have t2 : ∀ q, rwAt (putT (putT T c fun r => { r with here := false }) p fun r => { r with pool := r.pool.filter (· ≠ c) }) q = if q = p then { rwAt T p with pool := (rwAt T p).pool.filter (· ≠ c) } else if q = c then { rwAt T c with here := false } else rwAt T q := fun q => by
      rw [rwAt_put l1, t1, t1, if_neg (show ¬ p = c by omega)]
    have hk : (rwAt T p).kids.Perm (c :: ((rwAt T p).slots.filterMap id ++ (rwAt T p).pool.filter (· ≠ c))) := by
      have nd := (List.nodup_append.mp R.nd).2.1
      have : (rwAt T p).pool.Perm (c :: (rwAt T p).pool.filter (· ≠ c)) := by
        have e1 : (rwAt T p).pool.erase c = (rwAt T p).pool.filter (· ≠ c) := by
          rw [nd.erase_eq_filter]
          congr 1
          funext a
          by_cases z : a = c <;> simp [z]
        rw [← e1]
        exact List.perm_cons_erase m
      refine List.perm_iff_count.mpr fun a => ?_
      have a1 := List.perm_iff_count.mp this a
      have a4 : (rwAt T p).kids.count a = ((rwAt T p).slots.filterMap id).count a + (rwAt T p).pool.count a := by unfold Rw.kids; rw [List.count_append]
      rw [List.count_cons] at a1 ⊢
      rw [List.count_append]
      omega
    have T2 : TOk w (putT (putT T c fun r => { r with here := false }) p fun r => { r with pool := r.pool.filter (· ≠ c) }) := by
      refine h.take hp hcl (by omega) hce (by simp) (fun q _ n1 n2 => by rw [t2, if_neg n1, if_neg n2]) ?_ ?_ (by rw [t2, if_pos rfl]) (by rw [t2, if_pos rfl]) (by rw [t2, if_pos rfl]) (by rw [t2, if_pos rfl]) (by rw [t2, if_neg (by omega), if_pos rfl])
      · rw [t2, if_pos rfl]
        exact R.other hn rfl (R.pa.filter _) (List.nodup_cons.mp (hk.nodup_iff.mp R.nd)).2
      · rw [t2, if_pos rfl]; exact hk
    refine ⟨T2.goes (by simp; exact hp) ?_, by simp⟩
    rw [t2, if_pos rfl]
    exact hg g rfl
  · have hcs : c ∈ seen w (rwAt T p) rows := by
      split at hc
      · exact (List.mem_append.mp hc).resolve_right m
      · exact hc
    obtain ⟨j, q, A⟩ := take_at h hp hcs fun q hq => (hr q hq).1
    have hU : takenT w T p c rows pool = goesT (slottedT (putT T c fun r => { r with here := false }) p j none) p (match (rwAt T c).code with | some 0 => q.2.1 | some 1 => q.2.2.1 | _ => q.2.2.2) := by
      unfold takenT; simp only [if_neg m, A.ix]
      rw [List.headD_eq_head?_getD, A.hd]; rfl
    rw [hU]
    have t2 : ∀ y, rwAt (slottedT (putT T c fun r => { r with here := false }) p j none) y = if y = p then { rwAt T p with slots := (rwAt T p).slots.set j none } else if y = c then { rwAt T c with here := false } else rwAt T y := fun y => by
      unfold slottedT
      rw [rwAt_put l1, t1, t1, if_neg (show ¬ p = c by omega)]
    obtain ⟨rest, h1, h2⟩ := fm_split A.at'
    have h3 := h2 none
    have hk : (rwAt T p).kids.Perm (c :: (((rwAt T p).slots.set j none).filterMap id ++ (rwAt T p).pool)) := by
      refine List.perm_iff_count.mpr fun a => ?_
      have a1 := List.perm_iff_count.mp h1 a
      have a2 := List.perm_iff_count.mp h3 a
      have a4 : (rwAt T p).kids.count a = ((rwAt T p).slots.filterMap id).count a + (rwAt T p).pool.count a := by unfold Rw.kids; rw [List.count_append]
      simp [List.count_append, List.count_cons] at *
      omega
    have T2 : TOk w (slottedT (putT T c fun r => { r with here := false }) p j none) := by
      refine h.take hp hcl (by omega) hce (by simp [slottedT]) (fun q _ n1 n2 => by rw [t2, if_neg n1, if_neg n2]) ?_ ?_ (by rw [t2, if_pos rfl]) (by rw [t2, if_pos rfl]) (by rw [t2, if_pos rfl]) (by rw [t2, if_pos rfl]) (by rw [t2, if_neg (by omega), if_pos rfl])
      · rw [t2, if_pos rfl]
        exact R.other hn (by simp) R.pa (List.nodup_cons.mp (hk.nodup_iff.mp R.nd)).2
      · rw [t2, if_pos rfl]; exact hk
    refine ⟨T2.goes (by simp [slottedT]; exact hp) ?_, by simp [slottedT]⟩
    rw [t2, if_pos rfl]
    obtain ⟨_, q1, q2, q3⟩ := hr q A.mem
    split
    · exact q1
    · exact q2
    · exact q3
/-! ### every step -/
theorem mem_wait {w : Sys} {T : Folk} {r : Rw} {rows : List WRow} {pool later : Option Nat} {m : Mv} (h : m ∈ waitMv w T r rows pool later) : (∃ c, m = .take c ∧ c ∈ (if pool.isSome = true then seen w r rows ++ r.pool else seen w r rows) ∧ (rwAt T c).code.isSome = true) ∨ m = .non ∨ (m = .later ∧ later.isSome = true) := by
  unfold waitMv at h
  rcases List.mem_append.mp h with h | h
  · obtain ⟨c, h1, h2⟩ := List.mem_map.mp h
    obtain ⟨h3, h4⟩ := List.mem_filter.mp h1
    exact .inl ⟨c, h2.symm, h3, h4⟩
  · by_cases hz : (if pool.isSome = true then r.kids else seen w r rows) = []
    · rw [if_pos hz] at h; exact .inr (.inl (by simpa using h))
    · rw [if_neg hz] at h
      by_cases hl : later.isSome = true
      · rw [if_pos hl] at h; exact .inr (.inr ⟨by simpa using h, hl⟩)
      · rw [if_neg hl] at h; cases h
theorem step_ok {w : Sys} (S : SysOk w) {T : Folk} (h : TOk w T) {p : Nat} {m : Mv} (hc : Can w T p m) : TOk w (stepT w T p m) ∧ (stepT w T p m).length ≤ T.length + 1 := by
  obtain ⟨hp, hh, hn, hm⟩ := hc
  have I := S.ins (h.row p hp)
  unfold movesT at hm
  unfold stepT
  generalize hi : insAt w (rwAt T p) = i at hm I
  have slot_get : ∀ {s : Str} {c : Nat}, (rwAt T p).slots.getD (slotIx w (rwAt T p) s) none = some c → c < T.length ∧ (rwAt T c).here = true ∧ c ≠ p := fun {s c} e => by
    have ck := getD_kid e
    obtain ⟨a, b, d⟩ := (h.kid p hp c).mp ck
    have := h.parlt a b d
    exact ⟨a, b, by omega⟩
  cases i with
  | go ts =>
    obtain ⟨t, ht, rfl⟩ := List.mem_map.mp hm
    simp only [hi]
    exact ⟨h.goes hp (I.2.2.2 t ht), by simp⟩
  | fork kind tag slot g =>
    simp at hm; subst hm
    simp only [hi]
    obtain ⟨a, b, c⟩ := h.forkOk S (tag := tag) hp hh hn (SysOk.later I.1) I.2.2.1
    refine ⟨a.goes (by omega) ?_, by rw [len_goes]; omega⟩
    rw [c]; exact I.2.2.2
  | exit c =>
    simp at hm; subst hm
    simp only [hi]
    have I : c ≤ 1 := I
    exact ⟨h.endOk hp hh hn (by omega), by rw [(h.ended hp hh).len]; omega⟩
  | kill s g =>
    simp at hm; subst hm
    simp only [hi]
    cases e : (rwAt T p).slots.getD (slotIx w (rwAt T p) s) none with
    | none => exact ⟨h.goes hp I.2, by simp⟩
    | some c =>
      simp only []
      obtain ⟨a, b, ne⟩ := slot_get e
      by_cases z : (rwAt T c).code.isSome = true
      · rw [if_pos z]; exact ⟨h.goes hp I.2, by simp⟩
      · rw [if_neg z]
        have cn : (rwAt T c).code = none := by simpa using z
        have E := h.ended (code := 2) a b
        refine ⟨(h.endOk a b cn (by omega)).goes (by rw [E.len]; exact hp) ?_, by rw [len_goes, E.len]; omega⟩
        have pk : (rwAt (endedT T c 2) p).k = (rwAt T p).k := by
          rw [E.par p ((h.kid p hp c).mp (getD_kid e)).2.2]
        rw [pk]; exact I.2
  | release s g =>
    simp at hm; subst hm
    simp only [hi]
    cases e : (rwAt T p).slots.getD (slotIx w (rwAt T p) s) none with
    | none => exact ⟨h.goes hp I.2, by simp⟩
    | some c =>
      simp only []
      have l1 : (pooledT T p [c]).length = T.length := by simp [pooledT]
      refine ⟨(h.release hp hn e).goes (by simp [slottedT, pooledT]; exact hp) ?_, by simp [slottedT, pooledT]⟩
      have pk : (rwAt (slottedT (pooledT T p [c]) p (slotIx w (rwAt T p) s) none) p).k = (rwAt T p).k := by
        unfold slottedT; rw [rwAt_put (by rw [l1]; exact hp), if_pos rfl]
        unfold pooledT; rw [rwAt_put hp, if_pos rfl]
      rw [pk]; exact I.2
  | wait rows pool non lat meant =>
    obtain ⟨sub, a2, a3, a4, a5, a6, a7, a8, a9⟩ := I
    rcases mem_wait hm with ⟨c, rfl, h1, h2⟩ | rfl | ⟨rfl, h1⟩
    · simp only [hi]
      obtain ⟨x, y⟩ := h.takeOk S hp hh hn h1 h2 (fun q hq => ⟨sub.subset (List.mem_map_of_mem hq), a2 q hq⟩) a4
      exact ⟨x, by omega⟩
    · simp only [hi]; exact ⟨h.goes hp a5, by simp⟩
    · simp only [hi]
      obtain ⟨g, rfl⟩ := Option.isSome_iff_exists.mp h1
      exact ⟨h.goes hp (a6 g rfl), by simp⟩
theorem first_ok {w : Sys} (S : SysOk w) : TOk w (firstT w) := by
  have hw : 0 < w.length := List.length_pos_iff.mpr S.1
  have e : rwAt (firstT w) 0 = newbornT w 0 "" none none := rfl
  have ek : (rwAt (firstT w) 0).kids = [] := by
    show (((kdAt w 0).slots.map fun _ => (none : Option Nat)).filterMap id ++ []) = []
    rw [fm_none]; rfl
  have z : ∀ {p : Nat}, p < (firstT w).length → p = 0 := fun {p} h => by simp [firstT] at h; exact h
  refine ⟨by simp [firstT], fun p hp => ?_, fun p hp c => ?_, fun c hc hh q e => ?_, fun c hc hh a ha ah an hA => ?_⟩
  · obtain rfl := z hp
    refine ⟨hw, List.length_pos_iff.mpr (S.kd hw).2.2.2.2.1, by simp [e, newbornT], by rw [ek]; exact List.nodup_nil, List.Pairwise.nil, fun c z => by simp [e, newbornT] at z, fun _ => ek, fun z => by simp [e, newbornT] at z, fun f z => by simp [e, newbornT] at z⟩
  · obtain rfl := z hp
    rw [ek]
    constructor
    · intro h; cases h
    · rintro ⟨a, b, d⟩
      obtain rfl := z a
      rw [‹rwAt (firstT w) 0 = _›] at d; cases d
  · obtain rfl := z hc
    rw [‹rwAt (firstT w) 0 = _›] at e; cases e
  · obtain rfl := z hc
    obtain rfl := z ha
    exfalso
    cases hA with
    | base x => rw [fks_get hc] at x; cases x
    | step x _ => rw [fks_get hc] at x; cases x
end Fy
end
section
/-! FyRun -/
namespace Fy
open PySem PySem.Spec
/-! ### runs -/
def Runs (w : Sys) : Folk → List (Nat × Mv) → Prop
  | _, [] => True
  | T, q :: r => Can w T q.1 q.2 ∧ Runs w (stepT w T q.1 q.2) r
def runT (w : Sys) : Folk → List (Nat × Mv) → Folk
  | T, [] => T
  | T, q :: r => runT w (stepT w T q.1 q.2) r
theorem run_ok {w : Sys} (S : SysOk w) : ∀ {ms : List (Nat × Mv)} {T : Folk}, TOk w T → Runs w T ms → TOk w (runT w T ms) ∧ (runT w T ms).length ≤ T.length + ms.length
  | [], T, h, _ => ⟨h, Nat.le_refl _⟩
  | q :: r, T, h, c => by
    obtain ⟨a, b⟩ := step_ok S h c.1
    obtain ⟨x, y⟩ := run_ok S a c.2
    exact ⟨x, by simp only [runT, List.length_cons]; omega⟩
theorem runT_app {w : Sys} : ∀ {ms ns : List (Nat × Mv)} {T : Folk}, runT w T (ms ++ ns) = runT w (runT w T ms) ns
  | [], _, _ => rfl
  | _ :: r, _, _ => runT_app (ms := r)
theorem runs_app {w : Sys} : ∀ {ms ns : List (Nat × Mv)} {T : Folk}, Runs w T (ms ++ ns) ↔ Runs w T ms ∧ Runs w (runT w T ms) ns
  | [], ns, T => by simp [Runs, runT]
  | q :: r, ns, T => by
    show Can w T q.1 q.2 ∧ Runs w (stepT w T q.1 q.2) (r ++ ns) ↔ (Can w T q.1 q.2 ∧ Runs w (stepT w T q.1 q.2) r) ∧ Runs w (runT w (stepT w T q.1 q.2) r) ns
    rw [runs_app (ms := r)]
    exact and_assoc.symm
theorem runs_take {w : Sys} {ms : List (Nat × Mv)} {T : Folk} (h : Runs w T ms) (k : Nat) : Runs w T (ms.take k) := by
  have := List.take_append_drop k ms
  rw [← this] at h
  exact (runs_app.mp h).1
/-! ### all steps -/
def living (T : Folk) (p : Nat) : Bool := (rwAt T p).here && (rwAt T p).code.isNone
def allMv (w : Sys) (T : Folk) : List (Nat × Mv) := (List.range T.length).flatMap fun p => if living T p = true then (movesT w T p).map fun m => (p, m) else []
theorem mem_all {w : Sys} {T : Folk} {q : Nat × Mv} : q ∈ allMv w T ↔ Can w T q.1 q.2 := by
  unfold allMv Can living
  rw [List.mem_flatMap]
  constructor
  · rintro ⟨p, h1, h2⟩
    have hp := List.mem_range.mp h1
    split at h2
    · rename_i hl
      obtain ⟨m, h3, rfl⟩ := List.mem_map.mp h2
      simp at hl
      exact ⟨hp, hl.1, hl.2, h3⟩
    · cases h2
  · rintro ⟨h1, h2, h3, h4⟩
    refine ⟨q.1, List.mem_range.mpr h1, ?_⟩
    rw [if_pos (by simp [h2, h3])]
    exact List.mem_map.mpr ⟨q.2, h4, rfl⟩
theorem nodup_lt : ∀ {n : Nat} {xs : List Nat}, xs.Nodup → (∀ x ∈ xs, x < n) → xs.length ≤ n
  | 0, [], _, _ => Nat.le_refl _
  | 0, x :: xs, _, h => by have := h x (List.mem_cons_self ..); omega
  | n + 1, xs, hn, h => by
    have h1 : (xs.erase n).length ≤ n := nodup_lt (hn.erase n) fun x hx => by
      have m := List.mem_of_mem_erase hx
      have l := h x m
      have : x ≠ n := fun z => by subst z; exact (List.Nodup.not_mem_erase hn) hx
      omega
    have := List.length_erase_le (l := xs) (a := n)
    have h2 : xs.length ≤ (xs.erase n).length + 1 := by
      by_cases m : n ∈ xs
      · rw [List.length_erase_of_mem m]; omega
      · rw [List.erase_of_not_mem m]; omega
    omega
theorem names_map {ks : List Str} {vs : List (Option Nat)} (hn : ks.Nodup) (hl : vs.length = ks.length) : (ks.map fun s => vs.getD (ks.idxOf s) none) = vs := by
  apply List.ext_getElem? fun i => ?_
  rw [List.getElem?_map]
  by_cases h : i < ks.length
  · rw [List.getElem?_eq_getElem h, List.getElem?_eq_getElem (by omega)]
    have e : ks.idxOf ks[i] = i := List.Nodup.idxOf_getElem hn i h
    simp [e, List.getD_eq_getElem?_getD, List.getElem?_eq_getElem (show i < vs.length by omega)]
  · rw [List.getElem?_eq_none (by omega), List.getElem?_eq_none (by omega)]; rfl
theorem asc_nodup {xs : List Str} (h : asc xs) : xs.Nodup := h.imp fun {a b} l z => by subst z; exact List.lt_irrefl _ l
theorem seen_sub {w : Sys} {p : Nat} {r : Rw} {rows : List WRow} (S : SysOk w) (o : RwOk w p r) (h : (rows.map (·.1)).Sublist (kdAt w r.k).slots) : (seen w r rows).Sublist (r.slots.filterMap id) := by
  have a := asc_nodup (S.kd o.k).2.2.1
  have e := names_map a o.sl
  have s := (h.map fun s => r.slots.getD ((kdAt w r.k).slots.idxOf s) none).filterMap (id : Option Nat → Option Nat)
  rw [e] at s
  have e2 : List.filterMap id ((rows.map (·.1)).map fun s => r.slots.getD ((kdAt w r.k).slots.idxOf s) none) = seen w r rows := by
    rw [List.map_map, List.filterMap_map]; rfl
  rw [e2] at s
  exact s
theorem looked_sub {w : Sys} {p : Nat} {r : Rw} {rows : List WRow} {pool : Option Nat} (S : SysOk w) (o : RwOk w p r) (h : (rows.map (·.1)).Sublist (kdAt w r.k).slots) : (if pool.isSome = true then seen w r rows ++ r.pool else seen w r rows).Sublist r.kids := by
  have s := seen_sub S o h
  split
  · exact s.append (List.Sublist.refl _)
  · exact s.trans (List.sublist_append_left _ _)
theorem Mv.take_inj {c d : Nat} (h : Mv.take c = Mv.take d) : c = d := by injection h
theorem moves_nd {w : Sys} {T : Folk} {p : Nat} (S : SysOk w) (h : TOk w T) (hp : p < T.length) : (movesT w T p).Nodup ∧ (movesT w T p).length ≤ 2 + (rwAt T p).kids.length := by
  have R := h.row p hp
  have I := S.ins R
  unfold movesT
  generalize insAt w (rwAt T p) = i at I
  cases i with
  | go ts =>
    refine ⟨?_, ?_⟩
    · show (ts.map Mv.go).Pairwise (· ≠ ·)
      rw [List.pairwise_map]
      exact I.2.2.1.imp fun {a b} l z => by injection z; omega
    · have := I.2.1
      simp; omega
  | fork kind tag slot g => exact ⟨by simp, by simp; omega⟩
  | exit c => exact ⟨by simp, by simp; omega⟩
  | kill s g => exact ⟨by simp, by simp; omega⟩
  | release s g => exact ⟨by simp, by simp; omega⟩
  | wait rows pool non lat meant =>
    have s := looked_sub (pool := pool) S R I.1
    simp only [waitMv]
    generalize (if pool.isSome = true then seen w (rwAt T p) rows ++ (rwAt T p).pool else seen w (rwAt T p) rows) = looked at s
    have nd : (looked.filter fun c => (rwAt T c).code.isSome).Nodup := (R.nd.sublist s).filter _
    have nm : ((looked.filter fun c => (rwAt T c).code.isSome).map Mv.take).Nodup := by
      show List.Pairwise (· ≠ ·) _
      rw [List.pairwise_map]
      exact nd.imp fun {a b} l z => l (by injection z)
    have ln : ((looked.filter fun c => (rwAt T c).code.isSome).map Mv.take).length ≤ (rwAt T p).kids.length := by
      rw [List.length_map]
      exact Nat.le_trans (List.length_filter_le _ _) s.length_le
    generalize hE : (if (if pool.isSome = true then (rwAt T p).kids else seen w (rwAt T p) rows) = [] then [Mv.non] else if lat.isSome = true then [Mv.later] else []) = E
    have hE1 : E.Nodup ∧ E.length ≤ 1 ∧ ∀ c, Mv.take c ∉ E := by
      rw [← hE]
      repeat' split
      all_goals simp
    refine ⟨?_, by rw [List.length_append]; omega⟩
    rw [List.nodup_append]
    refine ⟨nm, hE1.1, fun a ha b hb z => ?_⟩
    obtain ⟨c, _, rfl⟩ := List.mem_map.mp ha
    subst z
    exact hE1.2.2 c hb
theorem flat_len {α : Type} (f : Nat → List α) (g : Nat → List Nat) (h : ∀ p, (f p).length ≤ 2 + (g p).length) : ∀ xs : List Nat, (xs.flatMap f).length ≤ 2 * xs.length + (xs.flatMap g).length
  | [] => by simp
  | x :: xs => by
    have := flat_len f g h xs
    have := h x
    simp only [List.flatMap_cons, List.length_append, List.length_cons]
    omega
theorem all_len {w : Sys} {T : Folk} (S : SysOk w) (h : TOk w T) (hn : T.length ≤ 20) : (allMv w T).Nodup ∧ (allMv w T).length < 60 := by
  constructor
  · unfold allMv
    show List.Pairwise (· ≠ ·) _
    rw [List.pairwise_flatMap]
    refine ⟨fun p hp => ?_, ?_⟩
    · split
      · rw [List.pairwise_map]
        exact (moves_nd S h (List.mem_range.mp hp)).1.imp fun {a b} l z => l (by injection z)
      · exact List.Pairwise.nil
    · refine List.nodup_range.imp fun {a b} l x hx y hy z => ?_
      subst z
      have e : ∀ {p : Nat}, x ∈ (if living T p = true then (movesT w T p).map fun m => (p, m) else []) → x.1 = p := fun {p} hx => by
        split at hx
        · obtain ⟨m, _, rfl⟩ := List.mem_map.mp hx; rfl
        · cases hx
      exact l ((e hx).symm.trans (e hy))
  · let g : Nat → List Nat := fun p => if p < T.length then (rwAt T p).kids else []
    have l1 := flat_len (fun p => if living T p = true then (movesT w T p).map fun m => (p, m) else []) (fun p => if p < T.length then (rwAt T p).kids else []) (fun p => by
      by_cases hp : p < T.length
      · have := (moves_nd S h hp).2
        simp only [hp, if_true]
        split
        · rw [List.length_map]; exact this
        · simp
      · simp only [hp, if_false]
        have e : rwAt T p = default := by unfold rwAt; rw [List.getD_eq_getElem?_getD, List.getElem?_eq_none (by omega)]; rfl
        have : living T p = false := by unfold living; rw [e]; rfl
        simp [this]) (List.range T.length)
    have nd : (0 :: (List.range T.length).flatMap fun p => if p < T.length then (rwAt T p).kids else []).Nodup := by
      rw [List.nodup_cons]
      constructor
      · intro z
        obtain ⟨p, h1, h2⟩ := List.mem_flatMap.mp z
        have hp := List.mem_range.mp h1
        rw [if_pos hp] at h2
        obtain ⟨a, b, c⟩ := (h.kid p hp 0).mp h2
        have := h.parlt a b c
        omega
      · show List.Pairwise (· ≠ ·) _
        rw [List.pairwise_flatMap]
        refine ⟨fun p hp => by rw [if_pos (List.mem_range.mp hp)]; exact (h.row p (List.mem_range.mp hp)).nd, ?_⟩
        refine (List.Pairwise.imp_of_mem ?_ List.nodup_range)
        intro a b ha hb l x hx y hy z
        subst z
        rw [if_pos (List.mem_range.mp ha)] at hx
        rw [if_pos (List.mem_range.mp hb)] at hy
        have p1 := ((h.kid a (List.mem_range.mp ha) x).mp hx).2.2
        have p2 := ((h.kid b (List.mem_range.mp hb) x).mp hy).2.2
        rw [p1] at p2
        injection p2 with p2
        exact l p2
    have l2 := nodup_lt (n := T.length) nd fun x hx => by
      rcases List.mem_cons.mp hx with rfl | hx
      · exact h.pos
      · obtain ⟨p, h1, h2⟩ := List.mem_flatMap.mp hx
        have hp := List.mem_range.mp h1
        rw [if_pos hp] at h2
        exact ((h.kid p hp x).mp h2).1
    simp only [List.length_range, List.length_cons] at l1 l2
    unfold allMv
    omega
/-- none and later, by the children -/
theorem non_iff {w : Sys} {T : Folk} {p : Nat} {rows : List WRow} {g non : Nat} {lat : Option Nat} {meant : List Str} (hi : insAt w (rwAt T p) = .wait rows (some g) non lat meant) : (Mv.non ∈ movesT w T p ↔ (rwAt T p).kids = []) ∧ (Mv.later ∈ movesT w T p ↔ (rwAt T p).kids ≠ [] ∧ lat.isSome = true) := by
  unfold movesT
  rw [hi]
  simp only [waitMv, List.mem_append, List.mem_map]
  have n1 : ¬ ∃ a, a ∈ List.filter (fun c => (rwAt T c).code.isSome) (if (some g).isSome = true then seen w (rwAt T p) rows ++ (rwAt T p).pool else seen w (rwAt T p) rows) ∧ Mv.take a = Mv.non := by rintro ⟨_, _, z⟩; cases z
  have n2 : ¬ ∃ a, a ∈ List.filter (fun c => (rwAt T c).code.isSome) (if (some g).isSome = true then seen w (rwAt T p) rows ++ (rwAt T p).pool else seen w (rwAt T p) rows) ∧ Mv.take a = Mv.later := by rintro ⟨_, _, z⟩; cases z
  by_cases e : (rwAt T p).kids = []
  · simp [n1, n2, e]
  · by_cases l : lat.isSome = true
    · simp [n1, n2, e, l]
    · simp [n1, n2, e, l]
end Fy
end
section
/-! FyGs -/
namespace Fy
open PySem PySem.Spec PyProof.Rows L2
/-! ### the promises -/
def Ins.targets : Ins → List Nat
  | .go ts => ts | .fork _ _ _ g => [g] | .wait rows pool non lat _ => rows.flatMap (fun r => [r.2.1, r.2.2.1, r.2.2.2]) ++ pool.toList ++ [non] ++ lat.toList
  | .kill _ g => [g] | .release _ g => [g] | .exit _ => []
def Ins.slotsN : Ins → List Str
  | .wait rows _ _ _ _ => rows.map (·.1) | .kill s _ => [s] | .release s _ => [s] | .fork _ _ s _ => if s = "" then [] else [s] | _ => []
def mvD (m : Mv) : D := .tup [.str m.word, .int m.num]
def stD (q : Nat × Mv) : D := stepD q.1 q.2
def stepsD (ms : List (Nat × Mv)) : D := .tup (ms.map stD)
def relRow (r : Rw) (j : Nat) : Rw := match r.slots.getD j none with
  | none => r
  | some c => { r with slots := r.slots.set j none, pool := sortN (r.pool ++ [c]) }
/-- what the last steps lead to -/
def Good (w : Sys) (ms : List (Nat × Mv)) : Prop := SysOk w ∧ Runs w (firstT w) ms ∧ ms.length ≤ 20
def lastT (w : Sys) (ms : List (Nat × Mv)) : Folk := runT w (firstT w) ms
def G13 : Spec := fun ds R => ∃ k : Kd, ds = [k.d] ∧ k.name ∈ names ∧ (∀ s ∈ k.slots, s ∈ names) ∧ asc k.slots ∧ k.places ≠ [] ∧ R (.bl true)
def G14 : Spec := fun ds R => ∃ p m, ds = [stepD p m] ∧ R (.bl true)
def G15 : Spec := fun ds R => ∃ i : Ins, ds = [i.d] ∧ i.targets.length ≤ 1000 ∧ R (.lst (i.targets.map nD))
def G16 : Spec := fun ds R => ∃ i : Ins, ds = [i.d] ∧ R (.lst (i.slotsN.map .str))
def G17 : Spec := fun ds R => ∃ w, ds = [sysD w] ∧ SysOk w ∧ R .non
def G19 : Spec := fun ds R => ∃ w, ds = [sysD w] ∧ SysOk w ∧ R (.bl true)
def G20 : Spec := fun ds R => ∃ w i, ds = [sysD w, .str (kdAt w i).name] ∧ SysOk w ∧ i < w.length ∧ R (kdAt w i).d
def G21 : Spec := fun ds R => ∃ w p i tag par, ds = [sysD w, nD p, .str (kdAt w i).name, .str tag, oD par] ∧ SysOk w ∧ i < w.length ∧ R ((newbornT w i tag par none).row w p)
def G22 : Spec := fun ds R => ∃ w, ds = [sysD w] ∧ SysOk w ∧ R (treeD w (firstT w))
def G23 : Spec := fun ds R => ∃ w p r, ds = [sysD w, Rw.row w p r] ∧ SysOk w ∧ RwOk w p r ∧ R (insAt w r).d
def G24 : Spec := fun ds R => ∃ w p r s, ds = [sysD w, Rw.row w p r, .str s] ∧ SysOk w ∧ RwOk w p r ∧ s ∈ (kdAt w r.k).slots ∧ R (nD (slotIx w r s))
def G25 : Spec := fun ds R => ∃ w p r, ds = [Rw.row w p r] ∧ r.slots.length ≤ 2 ∧ r.pool.length ≤ 30 ∧ R (.lst (r.kids.map nD))
def G26 : Spec := fun ds R => ∃ w T p, ds = [thereD w T, nD p] ∧ p < T.length ∧ (rwAt T p).here = true ∧ R (.bl (rwAt T p).code.isSome)
def G27 : Spec := fun ds R => ∃ (ks : List Int) (es : List D) (qs : List (Int × List D)), ds = [.dic ks es, .raw (qs.map fun q => .tup (.int q.1 :: q.2))] ∧ ks.Nodup ∧ ks.length = es.length ∧ fixeds es = true ∧ es.length + qs.length ≤ 1000 ∧
  R (.dic (dputs ks es (qs.map (·.1)) (qs.map fun q => .tup (.int q.1 :: q.2))).1 (dputs ks es (qs.map (·.1)) (qs.map fun q => .tup (.int q.1 :: q.2))).2)
def G28 : Spec := fun ds R => ∃ w p r g, ds = [Rw.row w p r, nD g] ∧ R (Rw.row w p { r with place := g })
def G29 : Spec := fun ds R => ∃ w p r j c, ds = [Rw.row w p r, nD j, oD c] ∧ j < r.slots.length ∧ r.slots.length ≤ 2 ∧ R (Rw.row w p { r with slots := r.slots.set j c })
def G30 : Spec := fun ds R => ∃ w p r cs, ds = [Rw.row w p r, .lst (List.map nD cs)] ∧ r.pool.length ≤ 30 ∧ cs.length ≤ 60 ∧ R (Rw.row w p { r with pool := sortN (r.pool ++ cs) })
def G31 : Spec := fun ds R => ∃ w p r j, ds = [Rw.row w p r, nD j] ∧ j < r.slots.length ∧ r.slots.length ≤ 2 ∧ r.pool.length ≤ 30 ∧ R (Rw.row w p (relRow r j))
def G32 : Spec := fun ds R => ∃ w T x code, ds = [thereD w T, nD x, nD code] ∧ SysOk w ∧ TOk w T ∧ T.length ≤ 25 ∧ x < T.length ∧ (rwAt T x).here = true ∧ R (thereD w (endedT T x code))
def G33 : Spec := fun ds R => ∃ w p r rows pool non lat meant, ds = [sysD w, Rw.row w p r, (Ins.wait rows pool non lat meant).d] ∧ SysOk w ∧ RwOk w p r ∧ (∀ q ∈ rows, q.1 ∈ (kdAt w r.k).slots) ∧ R (.lst ((seen w r rows).map nD))
def G34 : Spec := fun ds R => ∃ w T p rows pool non lat meant, ds = [sysD w, thereD w T, (rwAt T p).row w p, (Ins.wait rows pool non lat meant).d] ∧ SysOk w ∧ TOk w T ∧ T.length ≤ 25 ∧ p < T.length ∧ (rows.map (·.1)).Sublist (kdAt w (rwAt T p).k).slots ∧ R (.lst ((waitMv w T (rwAt T p) rows pool lat).map mvD))
def G35 : Spec := fun ds R => ∃ w T p, ds = [sysD w, thereD w T, (rwAt T p).row w p] ∧ SysOk w ∧ TOk w T ∧ T.length ≤ 25 ∧ p < T.length ∧ R (.lst ((movesT w T p).map mvD))
def G36 : Spec := fun ds R => ∃ w T, ds = [sysD w, treeD w T] ∧ SysOk w ∧ TOk w T ∧ T.length ≤ 25 ∧ ∀ es : List D, (∀ d, d ∈ es ↔ d ∈ (allMv w T).map stD) → R (.tup es)
def G37 : Spec := fun ds R => ∃ w T p m, ds = [sysD w, treeD w T, stepD p m] ∧ SysOk w ∧ TOk w T ∧ T.length ≤ 25 ∧ Can w T p m ∧ R (.str "")
def G38 : Spec := fun ds R => ∃ w T p kind tag slot g, ds = [sysD w, treeD w T, (rwAt T p).row w p, (Ins.fork kind tag slot g).d] ∧ SysOk w ∧ TOk w T ∧ T.length ≤ 25 ∧ Can w T p .fork ∧ insAt w (rwAt T p) = .fork kind tag slot g ∧ R (treeD w (stepT w T p .fork))
def G39 : Spec := fun ds R => ∃ w T p c rows pool non lat meant, ds = [sysD w, thereD w T, (rwAt T p).row w p, (Ins.wait rows pool non lat meant).d, nD c] ∧ SysOk w ∧ TOk w T ∧ T.length ≤ 25 ∧ Can w T p (.take c) ∧ insAt w (rwAt T p) = .wait rows pool non lat meant ∧ R (thereD w (stepT w T p (.take c)))
def G40 : Spec := fun ds R => ∃ w T p s g, ds = [sysD w, thereD w T, (rwAt T p).row w p, (Ins.kill s g).d] ∧ SysOk w ∧ TOk w T ∧ T.length ≤ 25 ∧ Can w T p .kill ∧ insAt w (rwAt T p) = .kill s g ∧ R (thereD w (stepT w T p .kill))
def G41 : Spec := fun ds R => ∃ w T p m, ds = [sysD w, treeD w T, stepD p m] ∧ SysOk w ∧ TOk w T ∧ T.length ≤ 25 ∧ Can w T p m ∧ R (treeD w (stepT w T p m))
def G42 : Spec := fun ds R => ∃ w ms, ds = [sysD w, stepsD ms] ∧ Good w ms ∧ R (.tup [treeD w (lastT w ms), .non])
def G43 : Spec := fun ds R => ∃ w, ds = [sysD w] ∧ SysOk w ∧ R .non
def G44 : Spec := fun ds R => ∃ w ms, ds = [sysD w, stepsD ms] ∧ Good w ms ∧ R (treeD w (lastT w ms))
def G45 : Spec := fun ds R => ds = [.bl true] ∧ R .non
def rowsD (w : Sys) (T : Folk) : D := .tup ((hereFrom 0 T).map fun q => q.2.row w q.1)
def G46 : Spec := fun ds R => ∃ w T, ds = [treeD w T] ∧ R (rowsD w T)
def G47 : Spec := fun ds R => ∃ w ms, ds = [sysD w, stepsD ms] ∧ Good w ms ∧ R (rowsD w (lastT w ms))
def G48 : Spec := fun ds R => ∃ w ms, ds = [sysD w, stepsD ms] ∧ Good w ms ∧ ∀ es : List D, (∀ d, d ∈ es ↔ d ∈ (allMv w (lastT w ms)).map stD) → R (.tup es)
def G49 : Spec := fun ds R => ∃ w ms p, ds = [sysD w, stepsD ms, nD p] ∧ Good w ms ∧ p < (lastT w ms).length ∧ R (bornD w (lastT w ms))
def G50 : Spec := fun ds R => ∃ w ms p, ds = [sysD w, stepsD ms, nD p] ∧ Good w ms ∧ p < (lastT w ms).length ∧ ∀ xs : List Nat, (∀ c, c ∈ xs ↔ c = p ∨ c < (lastT w ms).length ∧ Anc (fks (lastT w ms)) p c) → R (.tup (xs.map nD))
def G51 : Spec := fun _ _ => False
def G52 : Spec := fun ds R => ∃ many : Int, ds = [.src, .int many] ∧ 0 < many ∧ many < 2 ^ 30 ∧ ∀ r : Int, 0 ≤ r → r < many → R (.int r)
def G53 : Spec := fun ds R => ∃ xs : List D, (ds = [.src, .tup xs] ∨ ds = [.src, .lst xs]) ∧ xs ≠ [] ∧ xs.length < 2 ^ 30 ∧ ∀ d ∈ xs, R d
def G54 : Spec := fun ds R => ds = [.src] ∧ ∀ w, SysOk w → R (sysD w)
/-- what the makers of instructions are given -/
def MakeOk (later slots tags : List Str) (size : Nat) : Prop := (∀ s ∈ later, s ∈ names) ∧ (∀ s ∈ slots, s ∈ names) ∧ (∀ s ∈ tags, s ∈ names) ∧ asc slots ∧ slots.length ≤ 2 ∧ later.length ≤ 4 ∧ tags ≠ [] ∧ tags.length ≤ 3 ∧ 1 ≤ size ∧ size ≤ 7
def G55 : Spec := fun ds R => ∃ later slots tags size, ds = [.src, strsD slots, strsD tags, nD size] ∧ MakeOk later slots tags size ∧ ∀ i, InsOk later slots size i → R i.d
def G56 : Spec := fun ds R => ∃ later slots tags size, ds = [.src, strsD later, strsD slots, strsD tags, nD size] ∧ MakeOk later slots tags size ∧ later ≠ [] ∧ ∀ i, InsOk later slots size i → R i.d
def G57 : Spec := fun ds R => ∃ later slots tags size, ds = [.src, strsD later, strsD slots, strsD tags, nD size] ∧ MakeOk later slots tags size ∧ ∀ i, InsOk later slots size i → R i.d
def G58 : Spec := fun ds R => ∃ name later tags, ds = [.src, .str name, strsD later, strsD tags] ∧ name ∈ names ∧ (∀ s ∈ later, s ∈ names) ∧ later.length ≤ 4 ∧ (∀ s ∈ tags, s ∈ names) ∧ tags ≠ [] ∧ tags.length ≤ 3 ∧ ∀ k : Kd, KdOk later k → k.name = name → R k.d
def G60 : Spec := fun ds R => ∃ w i tag par fp, ds = [sysD w, nD i, .str tag, oD par] ∧ SysOk w ∧ i < w.length ∧ R (newbornT w i tag par fp).law
def G61 : Spec := fun ds R => ∃ w, ds = [sysD w] ∧ SysOk w ∧ R (folkD (firstT w))
def G62 : Spec := fun ds R => ∃ (rows fs : List D) (p s : Nat) (v : D), ds = [.tup rows, nD p, nD s, v] ∧ rows[p]? = some (.tup fs) ∧ s < fs.length ∧ rows.length ≤ 1000 ∧ fs.length ≤ 1000 ∧ R (.tup (rows.set p (.tup (fs.set s v))))
def G63 : Spec := fun ds R => ∃ T p cs, ds = [folkD T, nD p, .lst (List.map nD cs)] ∧ p < T.length ∧ T.length ≤ 30 ∧ ((rwAt T p).pool ++ cs).Nodup ∧ ((rwAt T p).pool ++ cs).length < 60 ∧ R (folkD (pooledT T p cs))
def G64 : Spec := fun ds R => ∃ T p j c, ds = [folkD T, nD p, nD j, oD c] ∧ p < T.length ∧ T.length ≤ 30 ∧ j < (rwAt T p).slots.length ∧ (rwAt T p).slots.length ≤ 2 ∧ R (folkD (slottedT T p j c))
def G65 : Spec := fun ds R => ∃ w T x code, ds = [folkD T, nD x, nD code] ∧ SysOk w ∧ TOk w T ∧ T.length ≤ 25 ∧ x < T.length ∧ (rwAt T x).here = true ∧ R (folkD (endedT T x code))
def G66 : Spec := fun ds R => ∃ w T p, ds = [sysD w, folkD T, nD p] ∧ SysOk w ∧ TOk w T ∧ p < T.length ∧ R (insAt w (rwAt T p)).d
def G67 : Spec := fun ds R => ∃ w T p rows pool non lat meant, ds = [sysD w, folkD T, nD p] ∧ SysOk w ∧ TOk w T ∧ p < T.length ∧ insAt w (rwAt T p) = .wait rows pool non lat meant ∧ R (.lst ((seen w (rwAt T p) rows).map nD))
def G68 : Spec := fun ds R => ∃ w T p, ds = [sysD w, folkD T, nD p] ∧ SysOk w ∧ TOk w T ∧ T.length ≤ 25 ∧ p < T.length ∧ R (.lst ((movesT w T p).map (stepD p)))
def G69 : Spec := fun ds R => ∃ w T, ds = [sysD w, folkD T] ∧ SysOk w ∧ TOk w T ∧ T.length ≤ 20 ∧ ∀ qs : List (Nat × Mv), (∀ q ∈ qs, Can w T q.1 q.2) → qs.length < 60 → R (.lst (qs.map stD))
def G70 : Spec := fun ds R => ∃ w T p kind tag slot g, ds = [sysD w, folkD T, nD p, (Ins.fork kind tag slot g).d] ∧ SysOk w ∧ TOk w T ∧ T.length ≤ 25 ∧ Can w T p .fork ∧ insAt w (rwAt T p) = .fork kind tag slot g ∧ R (folkD (forkedT w T p kind tag slot))
def G71 : Spec := fun ds R => ∃ w T p c rows pool non lat meant, ds = [sysD w, folkD T, nD p, (Ins.wait rows pool non lat meant).d, nD c] ∧ SysOk w ∧ TOk w T ∧ T.length ≤ 25 ∧ Can w T p (.take c) ∧ insAt w (rwAt T p) = .wait rows pool non lat meant ∧ R (folkD (stepT w T p (.take c)))
def G72 : Spec := fun ds R => ∃ w T p m, ds = [sysD w, folkD T, stepD p m] ∧ SysOk w ∧ TOk w T ∧ T.length ≤ 25 ∧ Can w T p m ∧ R (folkD (stepT w T p m))
def statesD (w : Sys) (ms : List (Nat × Mv)) : D := .lst ((List.range (ms.length + 1)).map fun k => folkD (lastT w (ms.take k)))
def G73 : Spec := fun ds R => ∃ w, ds = [.src, sysD w, .int 20] ∧ SysOk w ∧ ∀ ms, Good w ms → R (.tup [stepsD ms, statesD w ms])
def G74 : Spec := fun ds R => ∃ w ms, ds = [sysD w, stepsD ms, folkD (lastT w ms)] ∧ Good w ms ∧ R (.bl true)
def GsL : List Spec := [G0, G1, G2, G3, G4, G5, G6, G7, G8, G9, G10, G11, G12, G13, G14, G15, G16, G17, G17, G19, G20, G21, G22, G23, G24, G25, G26, starG G27, G28, G29, G30, G31, G32, G33, G34, G35, G36, G37, G38, G39, G40, G41, G42, G43, G44, G45, G46, G47, G48, G49, G50, G51, G52, G53, G54, G55, G56, G57, G58, G54, G60, G61, G62, G63, G64, G65, G66, G67, G68, G69, G70, G71, G72, G73, G74]
def Gs (k : Nat) : Spec := GsL.getD k fun _ _ => False
end Fy
namespace Fy
open PySem PySem.Spec PyProof.Rows L2
theorem mono_gs : ∀ f, Mono (Gs f) := by
  have all : ∀ g ∈ GsL, Mono g := by
    simp only [GsL, List.forall_mem_cons]
    refine ⟨?_, ?_, ?_, ?_, ?_, ?_, ?_, ?_, ?_, ?_, ?_, ?_, ?_, ?_, ?_, ?_, ?_, ?_, ?_, ?_, ?_, ?_, ?_, ?_, ?_, ?_, ?_, ?_, ?_, ?_, ?_, ?_, ?_, ?_, ?_, ?_, ?_, ?_, ?_, ?_, ?_, ?_, ?_, ?_, ?_, ?_, ?_, ?_, ?_, ?_, ?_, ?_, ?_, ?_, ?_, ?_, ?_, ?_, ?_, ?_, ?_, ?_, ?_, ?_, ?_, ?_, ?_, ?_, ?_, ?_, ?_, ?_, ?_, ?_, ?_, fun _ h => by cases h⟩
    case _ => rintro ds R R' h ⟨i, e, r⟩; exact ⟨i, e, h _ r⟩
    case _ => rintro ds R R' h ⟨i, e, r⟩; exact ⟨i, e, h _ r⟩
    case _ => rintro ds R R' h ⟨i, e, r⟩; exact ⟨i, e, r.imp (fun r => ⟨r.1, h _ r.2⟩) (fun r => ⟨r.1, h _ r.2⟩)⟩
    case _ => rintro ds R R' h ⟨i, e, r, s⟩; exact ⟨i, e, r, h _ s⟩
    case _ => rintro ds R R' h ⟨i, e, r, s, t⟩; exact ⟨i, e, r, s, h _ t⟩
    case _ => rintro ds R R' h ⟨i, e, r⟩; exact ⟨i, e, h _ r⟩
    case _ => rintro ds R R' h ⟨i, j, e, r, s⟩; exact ⟨i, j, e, r, h _ s⟩
    case _ => rintro ds R R' h ⟨i, e, r⟩; exact ⟨i, e, h _ r⟩
    case _ => rintro ds R R' h ⟨i, e, r, s⟩; exact ⟨i, e, r, h _ s⟩
    case _ => rintro ds R R' h ⟨i, e, r, s, t⟩; exact ⟨i, e, r, s, h _ t⟩
    case _ => rintro ds R R' h ⟨a, b, c, d, e, f, g, i, j, k, l, r⟩; exact ⟨a, b, c, d, e, f, g, i, j, k, l, h _ r⟩
    case _ => rintro ds R R' h ⟨a, b, c, d, e, f, g, i, r⟩; exact ⟨a, b, c, d, e, f, g, i, h _ r⟩
    case _ => rintro ds R R' h ⟨a, b, c, d, e, f, g, i, j, r⟩; exact ⟨a, b, c, d, e, f, g, i, j, h _ r⟩
    case _ => rintro ds R R' h ⟨a, b, c, d, e, f, r⟩; exact ⟨a, b, c, d, e, f, h _ r⟩
    case _ => rintro ds R R' h ⟨a, b, c, r⟩; exact ⟨a, b, c, h _ r⟩
    case _ => rintro ds R R' h ⟨a, b, c, r⟩; exact ⟨a, b, c, h _ r⟩
    case _ => rintro ds R R' h ⟨a, b, r⟩; exact ⟨a, b, h _ r⟩
    case _ => rintro ds R R' h ⟨a, b, c, r⟩; exact ⟨a, b, c, h _ r⟩
    case _ => rintro ds R R' h ⟨a, b, c, r⟩; exact ⟨a, b, c, h _ r⟩
    case _ => rintro ds R R' h ⟨a, b, c, r⟩; exact ⟨a, b, c, h _ r⟩
    case _ => rintro ds R R' h ⟨a, b, c, d, e, r⟩; exact ⟨a, b, c, d, e, h _ r⟩
    case _ => rintro ds R R' h ⟨a, b, c, d, e, f, g, i, r⟩; exact ⟨a, b, c, d, e, f, g, i, h _ r⟩
    case _ => rintro ds R R' h ⟨a, b, c, r⟩; exact ⟨a, b, c, h _ r⟩
    case _ => rintro ds R R' h ⟨a, b, c, d, e, f, r⟩; exact ⟨a, b, c, d, e, f, h _ r⟩
    case _ => rintro ds R R' h ⟨a, b, c, d, e, f, g, i, r⟩; exact ⟨a, b, c, d, e, f, g, i, h _ r⟩
    case _ => rintro ds R R' h ⟨a, b, c, d, e, f, r⟩; exact ⟨a, b, c, d, e, f, h _ r⟩
    case _ => rintro ds R R' h ⟨a, b, c, d, e, f, r⟩; exact ⟨a, b, c, d, e, f, h _ r⟩
    case _ => rintro ds R R' h ⟨x, y, e, z, a, b, c, d, f, g, i, j, r⟩; exact ⟨x, y, e, z, a, b, c, d, f, g, i, j, h _ r⟩
    case _ => rintro ds R R' h ⟨a, b, c, d, e, r⟩; exact ⟨a, b, c, d, e, h _ r⟩
    case _ => rintro ds R R' h ⟨a, b, c, d, e, f, g, i, r⟩; exact ⟨a, b, c, d, e, f, g, i, h _ r⟩
    case _ => rintro ds R R' h ⟨a, b, c, d, e, f, g, r⟩; exact ⟨a, b, c, d, e, f, g, h _ r⟩
    case _ => rintro ds R R' h ⟨a, b, c, d, e, f, g, i, r⟩; exact ⟨a, b, c, d, e, f, g, i, h _ r⟩
    case _ => rintro ds R R' h ⟨a, b, c, d, e, f, g, i, j, k, r⟩; exact ⟨a, b, c, d, e, f, g, i, j, k, h _ r⟩
    case _ => rintro ds R R' h ⟨a, b, c, d, e, f, g, i, j, k, l, m, r⟩; exact ⟨a, b, c, d, e, f, g, i, j, k, l, m, h _ r⟩
    case _ => rintro ds R R' h ⟨a, b, c, d, e, f, g, i, j, k, l, m, n, o, r⟩; exact ⟨a, b, c, d, e, f, g, i, j, k, l, m, n, o, h _ r⟩
    case _ => rintro ds R R' h ⟨a, b, c, d, e, f, g, i, r⟩; exact ⟨a, b, c, d, e, f, g, i, h _ r⟩
    case _ => rintro ds R R' h ⟨a, b, c, d, e, f, r⟩; exact ⟨a, b, c, d, e, f, fun es z => h _ (r es z)⟩
    case _ => rintro ds R R' h ⟨a, b, c, d, e, f, g, i, j, r⟩; exact ⟨a, b, c, d, e, f, g, i, j, h _ r⟩
    case _ => rintro ds R R' h ⟨a, b, c, d, e, f, g, i, j, k, l, m, n, r⟩; exact ⟨a, b, c, d, e, f, g, i, j, k, l, m, n, h _ r⟩
    case _ => rintro ds R R' h ⟨a, b, c, d, e, f, g, i, j, k, l, m, n, o, p, r⟩; exact ⟨a, b, c, d, e, f, g, i, j, k, l, m, n, o, p, h _ r⟩
    case _ => rintro ds R R' h ⟨a, b, c, d, e, f, g, i, j, k, l, r⟩; exact ⟨a, b, c, d, e, f, g, i, j, k, l, h _ r⟩
    case _ => rintro ds R R' h ⟨a, b, c, d, e, f, g, i, j, r⟩; exact ⟨a, b, c, d, e, f, g, i, j, h _ r⟩
    case _ => rintro ds R R' h ⟨a, b, c, d, r⟩; exact ⟨a, b, c, d, h _ r⟩
    case _ => rintro ds R R' h ⟨a, b, c, r⟩; exact ⟨a, b, c, h _ r⟩
    case _ => rintro ds R R' h ⟨a, b, c, d, r⟩; exact ⟨a, b, c, d, h _ r⟩
    case _ => rintro ds R R' h ⟨a, r⟩; exact ⟨a, h _ r⟩
    case _ => rintro ds R R' h ⟨a, b, c, r⟩; exact ⟨a, b, c, h _ r⟩
    case _ => rintro ds R R' h ⟨a, b, c, d, r⟩; exact ⟨a, b, c, d, h _ r⟩
    case _ => rintro ds R R' h ⟨a, b, c, d, r⟩; exact ⟨a, b, c, d, fun es z => h _ (r es z)⟩
    case _ => rintro ds R R' h ⟨a, b, c, d, e, f, r⟩; exact ⟨a, b, c, d, e, f, h _ r⟩
    case _ => rintro ds R R' h ⟨a, b, c, d, e, f, r⟩; exact ⟨a, b, c, d, e, f, fun es z => h _ (r es z)⟩
    case _ => rintro ds R R' h z; exact z
    case _ => rintro ds R R' h ⟨a, b, c, d, r⟩; exact ⟨a, b, c, d, fun es z y => h _ (r es z y)⟩
    case _ => rintro ds R R' h ⟨a, b, c, d, r⟩; exact ⟨a, b, c, d, fun es z => h _ (r es z)⟩
    case _ => rintro ds R R' h ⟨a, r⟩; exact ⟨a, fun es z => h _ (r es z)⟩
    case _ => rintro ds R R' h ⟨a, b, c, d, e, f, r⟩; exact ⟨a, b, c, d, e, f, fun es z => h _ (r es z)⟩
    case _ => rintro ds R R' h ⟨a, b, c, d, e, f, g, r⟩; exact ⟨a, b, c, d, e, f, g, fun es z => h _ (r es z)⟩
    case _ => rintro ds R R' h ⟨a, b, c, d, e, f, r⟩; exact ⟨a, b, c, d, e, f, fun es z => h _ (r es z)⟩
    case _ => rintro ds R R' h ⟨a, b, c, d, e, f, g, i, j, k, r⟩; exact ⟨a, b, c, d, e, f, g, i, j, k, fun es z y => h _ (r es z y)⟩
    case _ => rintro ds R R' h ⟨a, r⟩; exact ⟨a, fun es z => h _ (r es z)⟩
    case _ => rintro ds R R' h ⟨a, b, c, d, e, f, g, i, r⟩; exact ⟨a, b, c, d, e, f, g, i, h _ r⟩
    case _ => rintro ds R R' h ⟨a, b, c, r⟩; exact ⟨a, b, c, h _ r⟩
    case _ => rintro ds R R' h ⟨a, b, c, d, e, f, g, i, j, k, r⟩; exact ⟨a, b, c, d, e, f, g, i, j, k, h _ r⟩
    case _ => rintro ds R R' h ⟨a, b, c, d, e, f, g, i, r⟩; exact ⟨a, b, c, d, e, f, g, i, h _ r⟩
    case _ => rintro ds R R' h ⟨a, b, c, d, e, f, g, i, j, r⟩; exact ⟨a, b, c, d, e, f, g, i, j, h _ r⟩
    case _ => rintro ds R R' h ⟨a, b, c, d, e, f, g, i, j, k, r⟩; exact ⟨a, b, c, d, e, f, g, i, j, k, h _ r⟩
    case _ => rintro ds R R' h ⟨a, b, c, d, e, f, g, r⟩; exact ⟨a, b, c, d, e, f, g, h _ r⟩
    case _ => rintro ds R R' h ⟨a, b, c, d, e, f, g, i, j, k, l, m, n, r⟩; exact ⟨a, b, c, d, e, f, g, i, j, k, l, m, n, h _ r⟩
    case _ => rintro ds R R' h ⟨a, b, c, d, e, f, g, i, r⟩; exact ⟨a, b, c, d, e, f, g, i, h _ r⟩
    case _ => rintro ds R R' h ⟨a, b, c, d, e, f, r⟩; exact ⟨a, b, c, d, e, f, fun es z y => h _ (r es z y)⟩
    case _ => rintro ds R R' h ⟨a, b, c, d, e, f, g, i, j, k, l, m, n, r⟩; exact ⟨a, b, c, d, e, f, g, i, j, k, l, m, n, h _ r⟩
    case _ => rintro ds R R' h ⟨a, b, c, d, e, f, g, i, j, k, l, m, n, o, p, r⟩; exact ⟨a, b, c, d, e, f, g, i, j, k, l, m, n, o, p, h _ r⟩
    case _ => rintro ds R R' h ⟨a, b, c, d, e, f, g, i, j, r⟩; exact ⟨a, b, c, d, e, f, g, i, j, h _ r⟩
    case _ => rintro ds R R' h ⟨a, b, c, r⟩; exact ⟨a, b, c, fun es z => h _ (r es z)⟩
    case _ => rintro ds R R' h ⟨a, b, c, d, r⟩; exact ⟨a, b, c, d, h _ r⟩
  intro f
  unfold Gs
  rw [List.getD_eq_getElem?_getD]
  cases e : GsL[f]? with
  | none => exact fun _ _ _ _ z => z
  | some g => exact all g (List.mem_of_getElem? e)
end Fy
end
section
/-! FyWs -/
namespace Fy
open PySem PySem.Spec PyProof.Rows L2
/-! ### tools for the readings -/
@[simp] theorem gs_0 : Gs 0 = G0 := rfl
@[simp] theorem gs_1 : Gs 1 = G1 := rfl
@[simp] theorem gs_2 : Gs 2 = G2 := rfl
@[simp] theorem gs_3 : Gs 3 = G3 := rfl
@[simp] theorem gs_4 : Gs 4 = G4 := rfl
@[simp] theorem gs_5 : Gs 5 = G5 := rfl
@[simp] theorem gs_6 : Gs 6 = G6 := rfl
@[simp] theorem gs_7 : Gs 7 = G7 := rfl
@[simp] theorem gs_8 : Gs 8 = G8 := rfl
@[simp] theorem gs_9 : Gs 9 = G9 := rfl
@[simp] theorem gs_10 : Gs 10 = G10 := rfl
@[simp] theorem gs_11 : Gs 11 = G11 := rfl
@[simp] theorem gs_12 : Gs 12 = G12 := rfl
@[simp] theorem gs_13 : Gs 13 = G13 := rfl
@[simp] theorem gs_14 : Gs 14 = G14 := rfl
@[simp] theorem gs_15 : Gs 15 = G15 := rfl
@[simp] theorem gs_16 : Gs 16 = G16 := rfl
@[simp] theorem gs_17 : Gs 17 = G17 := rfl
@[simp] theorem gs_18 : Gs 18 = G17 := rfl
@[simp] theorem gs_19 : Gs 19 = G19 := rfl
@[simp] theorem gs_20 : Gs 20 = G20 := rfl
@[simp] theorem gs_21 : Gs 21 = G21 := rfl
@[simp] theorem gs_22 : Gs 22 = G22 := rfl
@[simp] theorem gs_23 : Gs 23 = G23 := rfl
@[simp] theorem gs_24 : Gs 24 = G24 := rfl
@[simp] theorem gs_25 : Gs 25 = G25 := rfl
@[simp] theorem gs_26 : Gs 26 = G26 := rfl
@[simp] theorem gs_27 : Gs 27 = starG G27 := rfl
@[simp] theorem gs_28 : Gs 28 = G28 := rfl
@[simp] theorem gs_29 : Gs 29 = G29 := rfl
@[simp] theorem gs_30 : Gs 30 = G30 := rfl
@[simp] theorem gs_31 : Gs 31 = G31 := rfl
@[simp] theorem gs_32 : Gs 32 = G32 := rfl
@[simp] theorem gs_33 : Gs 33 = G33 := rfl
@[simp] theorem gs_34 : Gs 34 = G34 := rfl
@[simp] theorem gs_35 : Gs 35 = G35 := rfl
@[simp] theorem gs_36 : Gs 36 = G36 := rfl
@[simp] theorem gs_37 : Gs 37 = G37 := rfl
@[simp] theorem gs_38 : Gs 38 = G38 := rfl
@[simp] theorem gs_39 : Gs 39 = G39 := rfl
@[simp] theorem gs_40 : Gs 40 = G40 := rfl
@[simp] theorem gs_41 : Gs 41 = G41 := rfl
@[simp] theorem gs_42 : Gs 42 = G42 := rfl
@[simp] theorem gs_43 : Gs 43 = G43 := rfl
@[simp] theorem gs_44 : Gs 44 = G44 := rfl
@[simp] theorem gs_45 : Gs 45 = G45 := rfl
@[simp] theorem gs_46 : Gs 46 = G46 := rfl
@[simp] theorem gs_47 : Gs 47 = G47 := rfl
@[simp] theorem gs_48 : Gs 48 = G48 := rfl
@[simp] theorem gs_49 : Gs 49 = G49 := rfl
@[simp] theorem gs_50 : Gs 50 = G50 := rfl
@[simp] theorem gs_51 : Gs 51 = G51 := rfl
@[simp] theorem gs_52 : Gs 52 = G52 := rfl
@[simp] theorem gs_53 : Gs 53 = G53 := rfl
@[simp] theorem gs_54 : Gs 54 = G54 := rfl
@[simp] theorem gs_55 : Gs 55 = G55 := rfl
@[simp] theorem gs_56 : Gs 56 = G56 := rfl
@[simp] theorem gs_57 : Gs 57 = G57 := rfl
@[simp] theorem gs_58 : Gs 58 = G58 := rfl
@[simp] theorem gs_59 : Gs 59 = G54 := rfl
@[simp] theorem gs_60 : Gs 60 = G60 := rfl
@[simp] theorem gs_61 : Gs 61 = G61 := rfl
@[simp] theorem gs_62 : Gs 62 = G62 := rfl
@[simp] theorem gs_63 : Gs 63 = G63 := rfl
@[simp] theorem gs_64 : Gs 64 = G64 := rfl
@[simp] theorem gs_65 : Gs 65 = G65 := rfl
@[simp] theorem gs_66 : Gs 66 = G66 := rfl
@[simp] theorem gs_67 : Gs 67 = G67 := rfl
@[simp] theorem gs_68 : Gs 68 = G68 := rfl
@[simp] theorem gs_69 : Gs 69 = G69 := rfl
@[simp] theorem gs_70 : Gs 70 = G70 := rfl
@[simp] theorem gs_71 : Gs 71 = G71 := rfl
@[simp] theorem gs_72 : Gs 72 = G72 := rfl
@[simp] theorem gs_73 : Gs 73 = G73 := rfl
@[simp] theorem gs_74 : Gs 74 = G74 := rfl
@[simp] theorem we0 {Γ : Nat → Spec} : wpE Γ (.var i) rv ρ Q = (∃ o d, ρ[i]? = some (some (o, d)) ∧ (o = true → rv = true) ∧ Q d) := rfl
@[simp] theorem we1 {Γ : Nat → Spec} : wpE Γ (.cst c) u1 u2 Q = (Q c) := rfl
@[simp] theorem we2 {Γ : Nat → Spec} : wpE Γ (.gl n) u1 u2 Q = (∃ p, gcs[n]? = some p ∧ Q p.2) := rfl
@[simp] theorem we3 {Γ : Nat → Spec} : wpE Γ (.neg a) rv ρ Q = (wpE Γ a rv ρ fun d => ∃ i, d = .int i ∧ Q (.int (-i))) := rfl
@[simp] theorem we4 {Γ : Nat → Spec} : wpE Γ (.add a b) rv ρ Q = (wpE Γ a rv ρ fun x => wpE Γ b rv ρ fun y => addW x y Q) := rfl
@[simp] theorem we5 {Γ : Nat → Spec} : wpE Γ (.sub a b) rv ρ Q = (wpE Γ a rv ρ fun x => wpE Γ b rv ρ fun y => subW x y Q) := rfl
@[simp] theorem we6 {Γ : Nat → Spec} : wpE Γ (.mul a b) rv ρ Q = (wpE Γ a rv ρ fun x => wpE Γ b rv ρ fun y => mulW x y Q) := rfl
@[simp] theorem we7 {Γ : Nat → Spec} : wpE Γ (.cmp o a b) rv ρ Q = (wpE Γ a rv ρ fun x => wpE Γ b rv ρ fun y => cmpW o x y fun c => Q (.bl c)) := rfl
@[simp] theorem we8 {Γ : Nat → Spec} : wpE Γ (.chn o o' a b c) rv ρ Q = (wpE Γ a rv ρ fun x => wpE Γ b rv ρ fun y => cmpW o x y fun k => if k = true then wpE Γ c rv ρ fun z => cmpW o' y z fun k' => Q (.bl k') else Q (.bl false)) := rfl
@[simp] theorem we9 {Γ : Nat → Spec} : wpE Γ (.nt a) rv ρ Q = (wpE Γ a rv ρ (boolW fun b => Q (.bl (!b)))) := rfl
@[simp] theorem we10 {Γ : Nat → Spec} : wpE Γ (.and a b) rv ρ Q = (wpE Γ a rv ρ (boolW fun k => if k = true then wpE Γ b rv ρ (boolW fun k' => Q (.bl k')) else Q (.bl false))) := rfl
@[simp] theorem we11 {Γ : Nat → Spec} : wpE Γ (.or a b) rv ρ Q = (wpE Γ a rv ρ (boolW fun k => if k = true then Q (.bl true) else wpE Γ b rv ρ (boolW fun k' => Q (.bl k')))) := rfl
@[simp] theorem we12 {Γ : Nat → Spec} : wpE Γ (.ife c a b) rv ρ Q = (wpE Γ c rv ρ (boolW fun k => if k = true then wpE Γ a rv ρ Q else wpE Γ b rv ρ Q)) := rfl
@[simp] theorem we13 {Γ : Nat → Spec} : wpE Γ (.tup es) rv ρ Q = (wpL Γ es rv ρ fun ds => ds.length ≤ sizeLine ∧ Q (.tup ds)) := rfl
@[simp] theorem we14 {Γ : Nat → Spec} : wpE Γ (.lst es) rv ρ Q = (wpL Γ es rv ρ fun ds => ds.length ≤ sizeLine ∧ Q (.lst ds)) := rfl
@[simp] theorem we15 {Γ : Nat → Spec} : wpE Γ (.ix a b) rv ρ Q = (wpE Γ a rv ρ fun x => wpE Γ b rv ρ fun y => ixW x y Q) := rfl
@[simp] theorem we16 {Γ : Nat → Spec} {lo : EO} {hi : EO} : wpE Γ (.sl a lo hi) rv ρ Q = (wpE Γ a rv ρ fun x => wpO Γ lo rv ρ fun l => wpO Γ hi rv ρ fun h => slW x l h Q) := rfl
@[simp] theorem we18 {Γ : Nat → Spec} : wpE Γ (.blt b a) rv ρ Q = (wpE Γ a rv ρ fun x => bltW b x Q) := rfl
@[simp] theorem we19 {Γ : Nat → Spec} : wpE Γ (.isi a t) rv ρ Q = (wpE Γ a rv ρ fun x => x ≠ .src ∧ Q (.bl (x.isT t))) := rfl
@[simp] theorem we20 {Γ : Nat → Spec} : wpE Γ (.idx a b) rv ρ Q = (wpE Γ a rv ρ fun x => (∃ ds, x = .tup ds ∨ x = .lst ds) ∧ wpE Γ b rv ρ fun y => idxW x y Q) := rfl
@[simp] theorem we21 {Γ : Nat → Spec} : wpE Γ (.words a) rv ρ Q = (wpE Γ a rv ρ fun x => ∃ z ws, x = .str z ∧ wordsD z = some ws ∧ Q (.tup (ws.map .str))) := rfl
@[simp] theorem we22 {Γ : Nat → Spec} : wpE Γ (.lc own tg it c e) rv ρ Q = (wpI Γ it (rvR rv ρ) fun ds => compW tg (own.map (·.2)) (wpC Γ c) (fun ρ' Q' => wpE Γ e false ρ' Q') (rvR rv ρ) ds [] fun es => Q (.lst es)) := rfl
@[simp] theorem we23 {Γ : Nat → Spec} : wpE Γ (.lc2 own tg it is it2 e) rv ρ Q = (wpI Γ it (rvR rv ρ) fun ds => comp2W tg (own.map (·.2)) is (wpI Γ it2) (fun ρ' Q' => wpE Γ e false ρ' Q') (rvR rv ρ) ds [] fun es => Q (.lst es)) := rfl
@[simp] theorem we24 {Γ : Nat → Spec} : wpE Γ (.lci own tg d kp c e) u1 ρ Q = (∃ ks ds, ρ[d]? = some (some (false, .dic ks ds)) ∧ fixKs ρ kp ∧ (fixeds ds = true ∧ ds.length ≤ sizeLine) ∧ compW tg (own.map (·.2)) (wpC Γ c) (fun ρ' Q' => wpE Γ e false ρ' Q') (keepR ρ kp) (itsD ks ds) [] fun es => Q (.lst es)) := rfl
@[simp] theorem we25 {Γ : Nat → Spec} : wpE Γ (.dci own tg d kp c k v) u1 ρ Q = (∃ ks ds, ρ[d]? = some (some (false, .dic ks ds)) ∧ fixKs ρ kp ∧ (fixeds ds = true ∧ ds.length ≤ sizeLine) ∧ dcW tg (own.map (·.2)) (wpC Γ c) (fun ρ' Q' => wpE Γ k false ρ' Q') (fun ρ' Q' => wpE Γ v false ρ' Q') (keepR ρ kp) (itsD ks ds) [] [] fun ks' ds' => Q (.dic ks' ds')) := rfl
@[simp] theorem we26 {Γ : Nat → Spec} : wpE Γ (.d1 k v) rv ρ Q = (wpE Γ k rv ρ fun x => wpE Γ v rv ρ fun y => ∃ i, x = .int i ∧ Q (.dic [i] [y])) := rfl
@[simp] theorem we27 {Γ : Nat → Spec} : wpE Γ (.imm a) rv ρ Q = (wpE Γ a true ρ fun d => d.fixed = true ∧ Q d) := rfl
@[simp] theorem wl0 {Γ : Nat → Spec} : wpL Γ .nil u1 u2 Q = (Q []) := rfl
@[simp] theorem wl1 {Γ : Nat → Spec} : wpL Γ (.cons e r) rv ρ Q = (wpE Γ e rv ρ fun d => wpL Γ r rv ρ fun ds => Q (d :: ds)) := rfl
@[simp] theorem wl2 {Γ : Nat → Spec} : wpL Γ (.star e r) rv ρ Q = (wpE Γ e rv ρ fun d => ∃ xs, itemsD d = some xs ∧ wpL Γ r rv ρ fun ds => Q (xs ++ ds)) := rfl
@[simp] theorem wo0 {Γ : Nat → Spec} : wpO Γ .no u1 u2 Q = (Q none) := rfl
@[simp] theorem wo1 {Γ : Nat → Spec} : wpO Γ (.so e) rv ρ Q = (wpE Γ e rv ρ fun d => ∃ i, d = .int i ∧ Q (some i)) := rfl
@[simp] theorem wc0 {Γ : Nat → Spec} : wpC Γ .no u1 Q = (Q true) := rfl
@[simp] theorem wc1 {Γ : Nat → Spec} : wpC Γ (.so e) ρ Q = (wpE Γ e false ρ (boolW Q)) := rfl
@[simp] theorem wi0 {Γ : Nat → Spec} : wpI Γ (.seq e) ρ Q = (wpE Γ e false ρ fun d => ∃ xs, itemsD d = some xs ∧ Q xs) := rfl
@[simp] theorem wi1 {Γ : Nat → Spec} : wpI Γ (.enum e) ρ Q = (wpE Γ e false ρ fun d => ∃ xs, itemsD d = some xs ∧ Q (enumD 0 xs)) := rfl
@[simp] theorem wi2 {Γ : Nat → Spec} : wpI Γ (.zip a b) ρ Q = (wpE Γ a false ρ fun x => wpE Γ b false ρ fun y => (∃ xs ys, x = .tup xs ∧ y = .tup ys ∧ Q (zipD xs ys)) ∨ ∃ xs ys, x = .lst xs ∧ y = .lst ys ∧ Q (zipD xs ys)) := rfl
@[simp] theorem wi3 {Γ : Nat → Spec} : wpI Γ (.rng e) ρ Q = (wpE Γ e false ρ fun d => ∃ i : Int, d = .int i ∧ -(2 ^ 62) ≤ i ∧ i ≤ sizeLine ∧ Q (rngD 0 i.toNat)) := rfl
@[simp] theorem wi4 {Γ : Nat → Spec} : wpI Γ (.rng2 a b) ρ Q = (wpE Γ a false ρ fun x => wpE Γ b false ρ fun y => ∃ i j : Int, x = .int i ∧ y = .int j ∧ 0 ≤ i ∧ i ≤ sizeLine ∧ 0 ≤ j ∧ j ≤ sizeLine ∧ Q (rngD i (j - i).toNat)) := rfl
@[simp] theorem wi5 {Γ : Nat → Spec} : wpI Γ (.chars e) ρ Q = (wpE Γ e false ρ fun d => ∃ x : Str, d = .str x ∧ x.length ≤ sizeLine ∧ Q (charsD x)) := rfl
@[simp] theorem ws0 {Γ : Nat → Spec} {D : Dn} : wpS Γ (.asg i e) D ρ = (wpE Γ e false ρ fun d => D.nx (ρ.set i (some (false, d)))) := rfl
@[simp] theorem ws1 {Γ : Nat → Spec} {D : Dn} : wpS Γ (.own i e) D ρ = (wpE Γ e false ρ fun d => isLD d = true ∧ D.nx (ρ.set i (some (true, d)))) := rfl
@[simp] theorem ws2 {Γ : Nat → Spec} {D : Dn} : wpS Γ (.unp is e) D ρ = (wpE Γ e false ρ fun d => ∃ ds, d = .tup ds ∧ is.length = ds.length ∧ D.nx (setAll ρ is ds)) := rfl
@[simp] theorem ws3 {Γ : Nat → Spec} {D : Dn} {oi : Bool} {oj : Bool} : wpS Γ (.par i j oi oj a b) D ρ = (wpE Γ a false ρ fun x => wpE Γ b false ρ fun y => (oi = true → isLD x = true) ∧ (oj = true → isLD y = true) ∧ D.nx ((ρ.set i (some (oi, x))).set j (some (oj, y)))) := rfl
@[simp] theorem ws4 {Γ : Nat → Spec} {D : Dn} : wpS Γ (.ret e) D ρ = (wpE Γ e true ρ D.rt) := rfl
@[simp] theorem ws5 {Γ : Nat → Spec} {D : Dn} : wpS Γ (.ite c a b) D ρ = (wpE Γ c false ρ (boolW fun k => if k = true then wpSL Γ a D ρ else wpSL Γ b D ρ)) := rfl
@[simp] theorem ws6 {Γ : Nat → Spec} {D : Dn} : wpS Γ (.for tg it b) D ρ = (wpI Γ it ρ fun ds => forW tg (wpSL Γ b) D ds ρ) := rfl
@[simp] theorem ws7 {Γ : Nat → Spec} {D : Dn} : wpS Γ .brk D ρ = (D.bk ρ) := rfl
@[simp] theorem ws8 {Γ : Nat → Spec} {D : Dn} : wpS Γ (.app i e) D ρ = (∃ ds, ρ[i]? = some (some (true, .lst ds)) ∧ ds.length < sizeLine ∧ wpE Γ e false ρ fun y => D.nx (ρ.set i (some (true, .lst (ds ++ [y]))))) := rfl
@[simp] theorem ws9 {Γ : Nat → Spec} {D : Dn} : wpS Γ (.drp e) D ρ = (wpE Γ e false ρ fun _ => D.nx ρ) := rfl
@[simp] theorem ws10 {Γ : Nat → Spec} {D : Dn} : wpS Γ (.put i k v) D ρ = (wpE Γ v false ρ fun y => (∃ ks ds, ρ[i]? = some (some (true, .dic ks ds)) ∧ ks.length < sizeLine ∧ wpE Γ k false ρ fun x => ∃ n, x = .int n ∧ D.nx (ρ.set i (some (true, .dic (dput ks ds n y).1 (dput ks ds n y).2)))) ∨ ∃ ds, ρ[i]? = some (some (true, .lst ds)) ∧ wpE Γ k false ρ fun x => ∃ n j, x = .int n ∧ ixN ds.length n = some j ∧ D.nx (ρ.set i (some (true, .lst (ds.set j y))))) := rfl
@[simp] theorem ws11 {Γ : Nat → Spec} {D : Dn} : wpS Γ (.mtch e cs) D ρ = (wpE Γ e false ρ fun d => ∃ z, d = .str z ∧ wpM Γ cs z D ρ) := rfl
@[simp] theorem ws12 {Γ : Nat → Spec} : wpS Γ .nev u1 u2 = (False) := rfl
@[simp] theorem wsl0 {Γ : Nat → Spec} {D : Dn} : wpSL Γ .nil D ρ = (D.nx ρ) := rfl
@[simp] theorem wsl1 {Γ : Nat → Spec} {D : Dn} : wpSL Γ (.cons s r) D ρ = (wpS Γ s { D with nx := wpSL Γ r D } ρ) := rfl
theorem rho0_eq (N : List Str) (ds : List D) : ρ0 N ds = ds.map (fun d => some (false, d)) ++ List.replicate (N.length - ds.length) none := rfl
@[simp] theorem bindT_n {i : Nat} {d : D} {ρ : Rho} {k : Rho → Prop} : bindT (.name i) d ρ k = k (ρ.set i (some (false, d))) := rfl
@[simp] theorem bindT_t {is : List Nat} {ds : List D} {ρ : Rho} {k : Rho → Prop} : bindT (.tup is) (.tup ds) ρ k = (is.length = ds.length ∧ k (setAll ρ is ds)) := rfl
@[simp] theorem bindT_r {is : List Nat} {ds : List D} {ρ : Rho} {k : Rho → Prop} : bindT (.tup is) (.raw ds) ρ k = (is.length = ds.length ∧ k (setAll ρ is ds)) := rfl
@[simp] theorem wipe0 {ρ : Rho} : wipeR ρ [] = ρ := rfl
@[simp] theorem wipe1 {ρ : Rho} {v : Nat} {vs : List Nat} : wipeR ρ (v :: vs) = (wipeR ρ vs).set v none := rfl
@[simp] theorem setAll1 {ρ : Rho} {i : Nat} {is : List Nat} {d : D} {ds : List D} : setAll ρ (i :: is) (d :: ds) = setAll (ρ.set i (some (false, d))) is ds := rfl
@[simp] theorem setAll0 {ρ : Rho} : setAll ρ [] [] = ρ := rfl
@[simp] theorem isT_int {i : Int} : (D.int i).isT "int" = true := by simp [D.isT, D.ty]
@[simp] theorem isT_intb {i : Int} : (D.int i).isT "bool" = false := by simp [D.isT, D.ty]
@[simp] theorem isT_str {i : Str} : (D.str i).isT "str" = true := by simp [D.isT, D.ty]
@[simp] theorem isT_tup {i : List D} : (D.tup i).isT "tuple" = true := by simp [D.isT, D.ty]
@[simp ↓] theorem wpCallGs {f : Nat} {es : EL} {rv : Bool} {ρ : Rho} {Q : D → Prop} : wpE Gs (.call f es) rv ρ Q = wpL Gs es rv ρ fun ds => Gs f ds Q := wpCall mono_gs
theorem all_true {Q : D → Prop} {n : Nat} {ds : List D} (h : ds = List.replicate n (.bl true)) (q : Q (.bl true)) : ∃ bs, blsD ds = some bs ∧ Q (.bl (bs.all id)) := ⟨_, bls_true h, by simpa using q⟩
@[simp] theorem c_in_ls {x : Str} {ds : List D} {Q : Bool → Prop} : cmpW .isin (.str x) (.lst ds) Q = (inOk (.str x) ds (.lst ds) ∧ Q (ds.any fun z => z.eqd (.str x))) := rfl
@[simp] theorem c_nin_ls {x : Str} {ds : List D} {Q : Bool → Prop} : cmpW .notin (.str x) (.lst ds) Q = (inOk (.str x) ds (.lst ds) ∧ Q (!ds.any fun z => z.eqd (.str x))) := rfl
@[simp] theorem c_in_li {x : Int} {ds : List D} {Q : Bool → Prop} : cmpW .isin (.int x) (.lst ds) Q = (inOk (.int x) ds (.lst ds) ∧ Q (ds.any fun z => z.eqd (.int x))) := rfl
@[simp] theorem c_in_ti {x : Int} {ds : List D} {Q : Bool → Prop} : cmpW .isin (.int x) (.tup ds) Q = (inOk (.int x) ds (.tup ds) ∧ Q (ds.any fun z => z.eqd (.int x))) := rfl
@[simp] theorem c_in_lt {x : List D} {ds : List D} {Q : Bool → Prop} : cmpW .isin (.tup x) (.lst ds) Q = (inOk (.tup x) ds (.lst ds) ∧ Q (ds.any fun z => z.eqd (.tup x))) := rfl
@[simp] theorem c_in_tt {x : List D} {ds : List D} {Q : Bool → Prop} : cmpW .isin (.tup x) (.tup ds) Q = (inOk (.tup x) ds (.tup ds) ∧ Q (ds.any fun z => z.eqd (.tup x))) := rfl
/-! cuts and items -/
theorem cutF {ds : List D} {n : Nat} : cutD ds (some (n : Int)) none = ds.drop n := by
  unfold cutD
  rw [HT.sIx_nat, HT.sIx_none]
  rw [List.take_of_length_le (by simp)]
  by_cases h : n ≤ ds.length
  · rw [Nat.min_eq_left h]
  · rw [Nat.min_eq_right (by omega), List.drop_of_length_le (Nat.le_refl _), List.drop_of_length_le (by omega)]
theorem cutT {ds : List D} {n : Nat} : cutD ds none (some (n : Int)) = ds.take n := by
  unfold cutD
  rw [HT.sIx_nat, HT.sIx_none]
  simp only [List.drop_zero, Nat.sub_zero]
  by_cases h : n ≤ ds.length
  · rw [Nat.min_eq_left h]
  · rw [Nat.min_eq_right (by omega), List.take_of_length_le (Nat.le_refl _), List.take_of_length_le (by omega)]
theorem cutF1 {ds : List D} {n : Nat} : cutD ds (some ((n : Int) + 1)) none = ds.drop (n + 1) := cutF (n := n + 1)
@[simp] theorem cf1 {ds : List D} : cutD ds (some 1) none = ds.drop 1 := cutF (n := 1)
@[simp] theorem cf4 {ds : List D} : cutD ds (some 4) none = ds.drop 4 := cutF (n := 4)
@[simp] theorem cf5 {ds : List D} : cutD ds (some 5) none = ds.drop 5 := cutF (n := 5)
@[simp] theorem cf6 {ds : List D} : cutD ds (some 6) none = ds.drop 6 := cutF (n := 6)
@[simp] theorem ct3 {ds : List D} : cutD ds none (some 3) = ds.take 3 := cutT (n := 3)
@[simp] theorem ct4 {ds : List D} : cutD ds none (some 4) = ds.take 4 := cutT (n := 4)
@[simp] theorem ct5 {ds : List D} : cutD ds none (some 5) = ds.take 5 := cutT (n := 5)
@[simp] theorem ct6 {ds : List D} : cutD ds none (some 6) = ds.take 6 := cutT (n := 6)
@[simp] theorem ct7 {ds : List D} : cutD ds none (some 7) = ds.take 7 := cutT (n := 7)
@[simp] theorem c35 {a b c d e : D} : cutD [a, b, c, d, e] (some 3) (some (-1)) = [d] := rfl
@[simp] theorem c36 {a b c d e f : D} : cutD [a, b, c, d, e, f] (some 3) (some (-1)) = [d, e] := rfl
theorem at_map {α : Type} {f : α → D} {xs : List α} {i : Nat} {x : α} (h : xs[i]? = some x) : atI (xs.map f) (i : Int) = some (f x) := by
  rw [atI_nat (by have := (List.getElem?_eq_some_iff.mp h).1; simpa using this), List.getElem?_map, h]; rfl
theorem at_last {a : D} {r : List D} : atI (r ++ [a]) (-1) = some a := by
  have : ixN (r.length + 1) (-1) = some r.length := by unfold ixN; simp; omega
  simp [atI, this]
@[simp] theorem am2 {a b : D} : atI [a, b] (-1) = some b := at_last (r := [a])
@[simp] theorem am3 {a b c : D} : atI [a, b, c] (-1) = some c := at_last (r := [a, b])
@[simp] theorem am5 {a b c d e : D} : atI [a, b, c, d, e] (-1) = some e := at_last (r := [a, b, c, d])
theorem at_k {w : Sys} {i : Nat} (h : i < w.length) : atI (w.map Kd.d) (i : Int) = some (kdAt w i).d := at_map (kdAt_get h)
theorem at_f {T : Folk} {p : Nat} (h : p < T.length) : atI (T.map Rw.law) (p : Int) = some (rwAt T p).law := at_map (rwAt_get h)
theorem ins_get {w : Sys} {r : Rw} (h : r.place < (kdAt w r.k).places.length) : (kdAt w r.k).places[r.place]? = some (insAt w r) := by
  unfold insAt; rw [List.getD_eq_getElem?_getD, List.getElem?_eq_getElem h]; rfl
theorem at_i {w : Sys} {r : Rw} (h : r.place < (kdAt w r.k).places.length) : atI ((kdAt w r.k).places.map Ins.d) (r.place : Int) = some (insAt w r).d := at_map (ins_get h)
theorem slot_get {sl : List (Option Nat)} {j : Nat} (h : j < sl.length) : sl[j]? = some (sl.getD j none) := by
  rw [List.getD_eq_getElem?_getD, List.getElem?_eq_getElem h]; rfl
theorem at_s {sl : List (Option Nat)} {j : Nat} (h : j < sl.length) : atI (sl.map oD) (j : Int) = some (oD (sl.getD j none)) := at_map (slot_get h)
/-! loops -/
theorem enumD_map {α : Type} (e : α → D) : ∀ (xs : List α) (n : Nat), enumD n (xs.map e) = (xs.zipIdx n).map fun q => .raw [.int q.2, e q.1]
  | [], n => rfl
  | x :: xs, n => by
    show D.raw [.int n, e x] :: enumD (n + 1) (xs.map e) = _
    rw [enumD_map e xs (n + 1)]; rfl
theorem compI_map {β : Type} {is : List Nat} {eW : Rho → (D → Prop) → Prop} {ρ : Rho} (e f : β → D) : ∀ {ys : List β} {acc : List D} {Q : List D → Prop}, acc.length + ys.length ≤ sizeLine →
    (∀ y ∈ ys, ∀ Q : D → Prop, Q (f y) → bindT (match is with | [i] => .name i | _ => .tup is) (e y) (wipeR ρ is) fun ρ' => eW ρ' Q) → Q (acc ++ ys.map f) → compI is eW ρ (ys.map e) acc Q
  | [], acc, Q, _, _, q => by simpa [compI] using q
  | y :: ys, acc, Q, l, h, q => by
    refine h y (List.mem_cons_self ..) (fun y => acc.length < sizeLine ∧ compI is eW ρ (ys.map e) (acc ++ [y]) Q) ⟨by simp at l; omega, ?_⟩
    exact compI_map e f (by simp at l ⊢; omega) (fun y m => h y (List.mem_cons_of_mem _ m)) (by simpa using q)
theorem comp2W_map {α β : Type} {tg : Tg} {own is : List Nat} {iW : Rho → (List D → Prop) → Prop} {eW : Rho → (D → Prop) → Prop} {ρ : Rho} (e : α → D) (g : α → List β) (f : α → β → D) : ∀ {xs : List α} {acc : List D} {Q : List D → Prop}, acc.length + (xs.flatMap g).length ≤ sizeLine →
    (∀ x ∈ xs, ∀ (acc : List D) (Q : List D → Prop), acc.length + (g x).length ≤ sizeLine → Q (acc ++ (g x).map (f x)) → bindT tg (e x) (wipeR ρ own) fun ρ' => iW ρ' fun its => compI is eW ρ' its acc Q) → Q (acc ++ xs.flatMap fun x => (g x).map (f x)) → comp2W tg own is iW eW ρ (xs.map e) acc Q
  | [], acc, Q, _, _, q => by simpa [comp2W] using q
  | x :: xs, acc, Q, l, h, q => by
    simp only [List.flatMap_cons, List.length_append] at l
    refine h x (List.mem_cons_self ..) acc (fun acc' => comp2W tg own is iW eW ρ (xs.map e) acc' Q) (by omega) ?_
    exact comp2W_map e g f (by simp only [List.length_append, List.length_map]; omega) (fun y m => h y (List.mem_cons_of_mem _ m)) (by simpa using q)
theorem size_big : 100000 ≤ sizeLine := by decide +kernel
/-! the calls -/
@[simp] theorem g0_i {i : Int} {Q : D → Prop} : G0 [.int i] Q = Q (.bl true) := propext ⟨fun ⟨_, e, q⟩ => q, fun q => ⟨i, rfl, q⟩⟩
@[simp] theorem g1_i {i : Int} {Q : D → Prop} : G1 [.int i] Q = Q (.bl (decide (0 ≤ i))) := propext ⟨fun ⟨_, e, q⟩ => by cases e; exact q, fun q => ⟨i, rfl, q⟩⟩
@[simp] theorem g1_n {i : Nat} {Q : D → Prop} : G1 [nD i] Q = Q (.bl true) := by unfold nD; rw [g1_i]; simp
section
variable {Q : D → Prop}
theorem call0 {i : Int} (q : Q (.bl true)) : G0 [.int i] Q := ⟨i, rfl, q⟩
theorem call1 {i : Int} (q : Q (.bl (decide (0 ≤ i)))) : G1 [.int i] Q := ⟨i, rfl, q⟩
theorem call1n {i : Nat} (q : Q (.bl true)) : G1 [nD i] Q := ⟨i, rfl, by simpa using q⟩
theorem call4 {ss : List Str} (h : ∀ s ∈ ss, s ∈ names) (h2 : asc ss) (q : Q (.bl true)) : G4 [strsD ss] Q := ⟨ss, rfl, h, h2, q⟩
end
end Fy
end
section
/-! FyK4 -/
namespace Fy
open PySem PySem.Spec PyProof.Rows L2
theorem kk13 : Keeps Gs N13 B13 1 G13 := by
  rintro ds R ⟨k, rfl, h1, h2, h3, h4, r⟩
  refine ⟨rfl, ?_⟩
  simp (decide := true) [ρ0, gcs, B13, N13, Kd.d]
  refine G2_n h1 ?_
  simp
  refine call4 h2 h3 ?_
  simp
  simpa [List.length_pos_iff, h4] using r
theorem kk14 : Keeps Gs N14 B14 1 G14 := by
  rintro ds R ⟨p, m, rfl, r⟩
  refine ⟨rfl, ?_⟩
  simp (decide := true) [ρ0, gcs, B14, N14, stepD]
  cases m <;> simp (decide := true) [Mv.word, Mv.num, strsD]
  all_goals exact r
theorem kk15 : Keeps Gs N15 B15 1 G15 := by
  rintro ds R ⟨i, rfl, hs, r⟩
  refine ⟨rfl, ?_⟩
  have sz := size_big
  cases i with
  | go ts => simp (decide := true) [ρ0, gcs, B15, N15, Ins.d]; exact r
  | fork k t s g => simp (decide := true) [ρ0, gcs, B15, N15, Ins.d, strsD]; exact r
  | kill s g => simp (decide := true) [ρ0, gcs, B15, N15, Ins.d, strsD]; exact r
  | release s g => simp (decide := true) [ρ0, gcs, B15, N15, Ins.d, strsD]; exact r
  | exit g => simp (decide := true) [ρ0, gcs, B15, N15, Ins.d, strsD]; exact r
  | wait rows pool non lat meant =>
    cases lat with
    | none =>
      cases pool with
      | none =>
        simp (decide := true) [ρ0, gcs, B15, N15, Ins.d, strsD, oD, oi]
        simp [Ins.targets] at hs
        refine comp2W_map WRow.d (fun r => [r.2.1, r.2.2.1, r.2.2.2]) (fun _ => nD) (by simp; omega) (fun x hx acc Q l q => ?_) ?_
        · simp [WRow.d]
          exact compI_map nD nD (ys := [x.2.1, x.2.2.1, x.2.2.2]) l (fun y hy Q q => by simpa using q) q
        · simp [List.map_flatMap, Ins.targets] at r ⊢
          exact ⟨by omega, r⟩
      | some g =>
        simp (decide := true) [ρ0, gcs, B15, N15, Ins.d, strsD, oD, oi]
        simp [Ins.targets] at hs
        refine comp2W_map WRow.d (fun r => [r.2.1, r.2.2.1, r.2.2.2]) (fun _ => nD) (by simp; omega) (fun x hx acc Q l q => ?_) ?_
        · simp [WRow.d]
          exact compI_map nD nD (ys := [x.2.1, x.2.2.1, x.2.2.2]) l (fun y hy Q q => by simpa using q) q
        · simp [List.map_flatMap, Ins.targets] at r ⊢
          exact ⟨by omega, r⟩
    | some l =>
      cases pool with
      | none =>
        simp (decide := true) [ρ0, gcs, B15, N15, Ins.d, strsD, oD, oi]
        simp [Ins.targets] at hs
        refine comp2W_map WRow.d (fun r => [r.2.1, r.2.2.1, r.2.2.2]) (fun _ => nD) (by simp; omega) (fun x hx acc Q l q => ?_) ?_
        · simp [WRow.d]
          exact compI_map nD nD (ys := [x.2.1, x.2.2.1, x.2.2.2]) l (fun y hy Q q => by simpa using q) q
        · simp [List.map_flatMap, Ins.targets] at r ⊢
          exact ⟨by omega, r⟩
      | some g =>
        simp (decide := true) [ρ0, gcs, B15, N15, Ins.d, strsD, oD, oi]
        simp [Ins.targets] at hs
        refine comp2W_map WRow.d (fun r => [r.2.1, r.2.2.1, r.2.2.2]) (fun _ => nD) (by simp; omega) (fun x hx acc Q l q => ?_) ?_
        · simp [WRow.d]
          exact compI_map nD nD (ys := [x.2.1, x.2.2.1, x.2.2.2]) l (fun y hy Q q => by simpa using q) q
        · simp [List.map_flatMap, Ins.targets] at r ⊢
          exact ⟨by omega, r⟩
theorem kk16 : Keeps Gs N16 B16 1 G16 := by
  rintro ds R ⟨i, rfl, r⟩
  refine ⟨rfl, ?_⟩
  cases i with
  | go ts => simp (decide := true) [ρ0, gcs, B16, N16, Ins.d, strsD]; exact r
  | fork k t s g =>
    simp (decide := true) [ρ0, gcs, B16, N16, Ins.d, strsD]
    unfold Ins.slotsN at r
    by_cases h : s = "" <;> simpa [h] using r
  | kill s g => simp (decide := true) [ρ0, gcs, B16, N16, Ins.d, strsD]; exact r
  | release s g => simp (decide := true) [ρ0, gcs, B16, N16, Ins.d, strsD]; exact r
  | exit g => simp (decide := true) [ρ0, gcs, B16, N16, Ins.d, strsD]; exact r
  | wait rows pool non lat meant =>
    cases lat with
    | none =>
      simp (decide := true) [ρ0, gcs, B16, N16, Ins.d, strsD]
      refine compW_map WRow.d (fun q => .str q.1) (fun x hx Q q => ?_) ?_
      · simp [WRow.d]; exact q
      · simp [Ins.slotsN] at r ⊢; exact r
    | some l =>
      simp (decide := true) [ρ0, gcs, B16, N16, Ins.d, strsD]
      refine compW_map WRow.d (fun q => .str q.1) (fun x hx Q q => ?_) ?_
      · simp [WRow.d]; exact q
      · simp [Ins.slotsN] at r ⊢; exact r
end Fy
end
section
/-! FyK5 -/
namespace Fy
open PySem PySem.Spec PyProof.Rows L2
def spotsT (w : Sys) : List (Nat × Nat × Ins) := w.zipIdx.flatMap fun k => k.1.places.zipIdx.map fun o => (k.2, o.2, o.1)
def spD (q : Nat × Nat × Ins) : D := .tup [nD q.1, nD q.2.1, q.2.2.d]
theorem mem_spots {w : Sys} {q : Nat × Nat × Ins} (h : q ∈ spotsT w) : q.1 < w.length ∧ (kdAt w q.1).places[q.2.1]? = some q.2.2 := by
  unfold spotsT at h
  obtain ⟨k, h1, h2⟩ := List.mem_flatMap.mp h
  obtain ⟨o, h3, rfl⟩ := List.mem_map.mp h2
  have a := List.mem_zipIdx_iff_getElem?.mp h1
  have b := List.mem_zipIdx_iff_getElem?.mp h3
  have l : k.2 < w.length := (List.getElem?_eq_some_iff.mp a).1
  rw [kdAt_get l] at a
  refine ⟨l, ?_⟩
  show (kdAt w k.2).places[o.2]? = some o.1
  rw [Option.some.inj a]; exact b
theorem spots_len {w : Sys} (S : SysOk w) : (spotsT w).length ≤ 28 := by
  have : ∀ (ks : Sys) (n : Nat), (∀ k ∈ ks, k.places.length ≤ 7) → ((ks.zipIdx n).flatMap fun k => k.1.places.zipIdx.map fun o => (k.2, o.2, o.1)).length ≤ 7 * ks.length := by
    intro ks
    induction ks with
    | nil => intro n _; simp
    | cons k ks ih =>
      intro n h
      have := ih (n + 1) fun k hk => h k (List.mem_cons_of_mem _ hk)
      have := h k (List.mem_cons_self ..)
      simp only [List.zipIdx_cons, List.flatMap_cons, List.length_append, List.length_map, List.length_zipIdx, List.length_cons]
      omega
  have h := this w 0 fun k hk => by
    obtain ⟨i, hi⟩ := List.getElem?_of_mem hk
    have l := (List.getElem?_eq_some_iff.mp hi).1
    have e := kdAt_get l
    rw [hi] at e
    rw [Option.some.inj e]
    exact (S.kd l).2.2.2.2.2.1
  have := S.2.1
  unfold spotsT
  omega
theorem targets_lt {later slots : List Str} {n : Nat} {i : Ins} (h : InsOk later slots n i) : ∀ t ∈ i.targets, t < n := by
  intro t ht
  cases i with
  | go ts => exact h.2.2.2 t ht
  | fork k tg s g => simp [Ins.targets] at ht; subst ht; exact h.2.2.2
  | kill s g => simp [Ins.targets] at ht; subst ht; exact h.2
  | release s g => simp [Ins.targets] at ht; subst ht; exact h.2
  | exit c => simp [Ins.targets] at ht
  | wait rows pool non lat meant =>
    obtain ⟨sub, a2, a3, a4, a5, a6, a7, a8, a9⟩ := h
    simp only [Ins.targets, List.mem_append, List.mem_flatMap, Option.mem_toList, List.mem_singleton] at ht
    rcases ht with ((⟨r, hr, ht⟩ | ht) | ht) | ht
    · have := a2 r hr
      simp at ht
      rcases ht with rfl | rfl | rfl
      · exact this.1
      · exact this.2.1
      · exact this.2.2
    · exact a4 t ht
    · subst ht; exact a5
    · exact a6 t ht
theorem targets_len {later slots : List Str} {n : Nat} {i : Ins} (h : InsOk later slots n i) (hl : slots.length ≤ 2) : i.targets.length ≤ 1000 := by
  cases i with
  | go ts => have := h.2.1; simp [Ins.targets]; omega
  | fork k tg s g => simp [Ins.targets]
  | kill s g => simp [Ins.targets]
  | release s g => simp [Ins.targets]
  | exit c => simp [Ins.targets]
  | wait rows pool non lat meant =>
    have l := h.1.length_le
    simp at l
    have e : (rows.flatMap fun r => [r.2.1, r.2.2.1, r.2.2.2]).length = 3 * rows.length := by
      clear l h
      induction rows with
      | nil => rfl
      | cons r rows ih => simp only [List.flatMap_cons, List.length_append, List.length_cons, List.length_nil, ih]; omega
    simp only [Ins.targets, List.length_append, e]
    cases pool <;> cases lat <;> simp <;> omega
theorem slotsN_in {later slots : List Str} {n : Nat} {i : Ins} (h : InsOk later slots n i) : ∀ s ∈ i.slotsN, s ∈ slots := by
  intro s hs
  cases i with
  | go ts => cases hs
  | exit c => cases hs
  | kill s' g => simp [Ins.slotsN] at hs; subst hs; exact h.1
  | release s' g => simp [Ins.slotsN] at hs; subst hs; exact h.1
  | fork k tg s' g =>
    simp only [Ins.slotsN] at hs
    by_cases e : s' = ""
    · simp [e] at hs
    · simp [e] at hs; subst hs; exact h.2.2.1.resolve_left e
  | wait rows pool non lat meant => exact h.1.subset hs
theorem kd_names {w : Sys} (S : SysOk w) {i : Nat} (h : i < w.length) : (∀ s ∈ (w.drop (i + 1)).map (·.name), s ∈ names) := by
  intro s hs
  obtain ⟨k, a, b⟩ := List.mem_map.mp (SysOk.later hs)
  obtain ⟨j, hj⟩ := List.getElem?_of_mem a
  have l := (List.getElem?_eq_some_iff.mp hj).1
  have e := kdAt_get l
  rw [hj] at e
  rw [← b, Option.some.inj e]
  exact (S.kd l).1
theorem any_str {x : Str} {ds : List Str} : ((ds.map D.str).any fun z => z.eqd (.str x)) = decide (x ∈ ds) := by
  rw [List.any_map]
  induction ds with
  | nil => simp
  | cons d ds ih =>
    rw [List.any_cons, ih]
    by_cases e : d = x
    · subst e; simp
    · have : ¬ x = d := fun z => e z.symm
      simp [e, this]
theorem inOk_strs {x : Str} {ds : List Str} {c : D} : inOk (.str x) (ds.map .str) c := .inl ⟨rfl, by simp [List.all_map, flatD]⟩
abbrev I17 (w : Sys) (rest : List (Nat × Nat × Ins)) (ρ : Rho) : Prop := (∀ x ∈ rest, x ∈ spotsT w) ∧ ∃ a b c, ρ = [some (false, sysD w), some (false, .lst (w.map fun k => .str k.name)), some (false, .lst ((spotsT w).map spD)), a, b, c, none, none, none]
theorem kk17 : Keeps Gs N17 B17 1 G17 := by
  rintro ds R ⟨w, rfl, S, r⟩
  refine ⟨rfl, ?_⟩
  have sz := size_big
  have sl := spots_len S
  have at3 : ∀ {q}, q ∈ spotsT w → InsOk ((w.drop (q.1 + 1)).map (·.name)) (kdAt w q.1).slots (kdAt w q.1).places.length q.2.2 := fun {q} h => by
    obtain ⟨a, b⟩ := mem_spots h
    exact (S.kd a).2.2.2.2.2.2 _ (List.mem_of_getElem? b)
  simp [ρ0, gcs, B17, N17, sysD]
  refine compW_map Kd.d (fun k => .str k.name) (fun x hx Q q => ?_) ?_
  · simp [Kd.d]; exact q
  · rw [enumD_map]
    refine comp2W_map (fun q : Kd × Nat => D.raw [.int q.2, q.1.d]) (fun q => q.1.places.zipIdx) (fun q o => spD (q.2, o.2, o.1)) ?_ (fun x hx acc Q l q => ?_) ?_
    · have : (w.zipIdx.flatMap fun q => q.1.places.zipIdx).length = (spotsT w).length := by
        unfold spotsT
        rw [List.length_flatMap, List.length_flatMap]
        simp
      simp only [List.length_nil]
      omega
    · simp [Kd.d]
      rw [enumD_map]
      refine compI_map (fun q : Ins × Nat => D.raw [.int q.2, q.1.d]) _ l (fun y hy Q q => ?_) q
      simp
      exact ⟨by omega, q⟩
    · have e : (w.zipIdx.flatMap fun q => q.1.places.zipIdx.map fun o => spD (q.2, o.2, o.1)) = (spotsT w).map spD := by
        unfold spotsT
        rw [List.map_flatMap]
        simp [List.map_map, Function.comp_def]
      rw [List.nil_append, e]
      simp only [List.nil_append]
      refine forW_inv spD (I17 w) (fun ρ hρ => ?_) (fun x rest ρ hI N hN => ?_) ⟨fun x h => h, none, none, none, rfl⟩
      rotate_left
      · obtain ⟨hm, a, b, c, rfl⟩ := hI
        have xs := hm x (List.mem_cons_self ..)
        have hx := (mem_spots xs).1
        simp [spD]
        refine ⟨_, _, _, x.2.2, rfl, (S.kd hx).2.1, (S.kd hx).2.2.1, kd_names S hx, at3 xs, ?_⟩
        simp
        exact hN _ ⟨fun y hy => hm y (List.mem_cons_of_mem _ hy), _, _, _, rfl⟩
      obtain ⟨hm, a, b, c, rfl⟩ := hρ
      simp
      refine forW_inv spD (I17 w) (fun ρ hρ => ?_) (fun x rest ρ hI N hN => ?_) ⟨fun x h => h, a, b, c, rfl⟩
      rotate_left
      · obtain ⟨hm, a, b, c, rfl⟩ := hI
        have xs := hm x (List.mem_cons_self ..)
        have hx := (mem_spots xs).1
        simp [spD]
        refine ⟨x.2.2, rfl, targets_len (at3 xs) (S.kd hx).2.2.2.1, ?_⟩
        simp
        refine compW_map nD (fun _ => .bl true) (fun t ht Q q => ?_) ?_
        · have lt := targets_lt (at3 xs) t ht
          simp [sysD, nD]
          refine ⟨_, at_k hx, ?_⟩
          simp [Kd.d]
          rw [decide_eq_true lt]
          exact q
        · refine ⟨_, bls_true (n := x.2.2.targets.length) (by simp [List.map_const']), ?_⟩
          simp
          exact hN _ ⟨fun y hy => hm y (List.mem_cons_of_mem _ hy), _, _, _, rfl⟩
      obtain ⟨hm, a, b, c, rfl⟩ := hρ
      simp
      refine forW_inv spD (I17 w) (fun ρ hρ => ?_) (fun x rest ρ hI N hN => ?_) ⟨fun x h => h, a, b, c, rfl⟩
      rotate_left
      · obtain ⟨hm, a, b, c, rfl⟩ := hI
        have xs := hm x (List.mem_cons_self ..)
        have hx := (mem_spots xs).1
        simp [spD]
        refine ⟨x.2.2, rfl, ?_⟩
        simp
        refine compW_map D.str (fun _ => .bl true) (fun t ht Q q => ?_) ?_
        · have lt := slotsN_in (at3 xs) t ht
          simp [sysD, nD]
          refine ⟨_, at_k hx, ?_⟩
          simp [Kd.d, strsD]
          rw [← List.any_map, any_str, decide_eq_true lt]
          exact q
        · refine ⟨_, bls_true (n := x.2.2.slotsN.length) (by simp [List.map_const']), ?_⟩
          simp
          exact hN _ ⟨fun y hy => hm y (List.mem_cons_of_mem _ hy), _, _, _, rfl⟩
      obtain ⟨hm, a, b, c, rfl⟩ := hρ
      simp
      refine forW_inv spD (I17 w) (fun ρ hρ => r) (fun x rest ρ hI N hN => ?_) ⟨fun x h => h, a, b, c, rfl⟩
      obtain ⟨hm, a, b, c, rfl⟩ := hI
      have xs := hm x (List.mem_cons_self ..)
      have hx := (mem_spots xs).1
      have go := hN _ ⟨fun y hy => hm y (List.mem_cons_of_mem _ hy), some (false, nD x.1), some (false, nD x.2.1), some (false, x.2.2.d), rfl⟩
      have A := at3 xs
      cases hi : x.2.2 with
      | fork kind tag slot g =>
        rw [hi] at go A
        simp (decide := true) [spD, Ins.d, hi] at go ⊢
        rw [show nD x.1 = D.int x.1 from rfl] at go ⊢
        simp [cutF1]
        have k : kind ∈ (w.map (·.name)).drop (x.1 + 1) := by rw [← List.map_drop]; exact A.1
        rw [show (w.map fun k => D.str k.name) = (w.map (·.name)).map D.str from by rw [List.map_map]; rfl] at go ⊢
        rw [← List.map_drop]
        refine ⟨inOk_strs, ?_⟩
        rw [if_neg]
        · exact go
        · intro z
          have := z (.str kind) (List.mem_map.mpr ⟨kind, k, rfl⟩)
          simp at this
      | wait rows pool non lat meant =>
        rw [hi] at go
        cases lat <;> simp (decide := true) [spD, Ins.d, hi] at go ⊢ <;> exact go
      | _ => rw [hi] at go; simp (decide := true) [spD, Ins.d, hi] at go ⊢; exact go
theorem kk18 : Keeps Gs N18 B18 1 G17 := by
  rintro ds R ⟨w, rfl, S, r⟩
  refine ⟨rfl, ?_⟩
  have hl : 0 < w.length := List.length_pos_iff.mpr S.1
  have hw : w ≠ [] := S.1
  simp [ρ0, gcs, B18, N18, sysD, hw]
  refine compW_map Kd.d (fun _ => .bl true) (fun x hx Q q => ?_) ?_
  · simp
    obtain ⟨i, hi⟩ := List.getElem?_of_mem hx
    have l := (List.getElem?_eq_some_iff.mp hi).1
    have e := kdAt_get l
    rw [hi] at e
    cases e
    exact ⟨_, rfl, (S.kd l).1, (S.kd l).2.1, (S.kd l).2.2.1, (S.kd l).2.2.2.2.1, q⟩
  · refine ⟨_, bls_true (n := w.length) (by simp [List.map_const']), ?_⟩
    simp
    refine compW_map Kd.d (fun k => .str k.name) (fun x hx Q q => ?_) ?_
    · simp [Kd.d]; exact q
    · rw [List.nil_append, show (w.map fun k => D.str k.name) = (w.map (·.name)).map D.str from by rw [List.map_map]; rfl, enumD_map]
      refine forW_inv (fun q : Str × Nat => D.raw [.int q.2, .str q.1]) (fun rest ρ => (∀ x ∈ rest, x ∈ (w.map (·.name)).zipIdx) ∧ ∃ a b, ρ = [some (false, sysD w), some (false, .lst ((w.map (·.name)).map D.str)), a, b, none, none]) (fun ρ hρ => ?_) (fun x rest ρ hI N hN => ?_) ⟨fun x h => h, none, none, rfl⟩
      · obtain ⟨_, a, b, rfl⟩ := hρ
        simp
        exact ⟨w, rfl, S, r⟩
      · obtain ⟨hm, a, b, rfl⟩ := hI
        have xs := List.mem_zipIdx_iff_getElem?.mp (hm x (List.mem_cons_self ..))
        have go := hN _ ⟨fun y hy => hm y (List.mem_cons_of_mem _ hy), some (false, .int x.2), some (false, .str x.1), rfl⟩
        simp at go ⊢
        rw [cutT, ← List.map_take]
        refine ⟨.inl ⟨rfl, List.all_eq_true.mpr fun d hd => ?_⟩, ?_⟩
        · obtain ⟨k, _, rfl⟩ := List.mem_map.mp hd; rfl
        rw [if_neg]
        · exact go
        · rintro ⟨y, hy, e⟩
          obtain ⟨k, hk, rfl⟩ := List.mem_map.mp hy
          simp at e
          obtain ⟨j, hj⟩ := List.getElem?_of_mem hk
          rw [List.getElem?_take] at hj
          split at hj
          · have h1 : (w.map (·.name))[j]? = some x.1 := by rw [List.getElem?_map, hj, ← e]; rfl
            have l1 := (List.getElem?_eq_some_iff.mp h1).1
            have := (List.getElem?_inj l1 S.2.2.1).mp (h1.trans xs.symm)
            omega
          · cases hj
theorem kk19 : Keeps Gs N19 B19 1 G19 := by
  rintro ds R ⟨w, rfl, S, r⟩
  refine ⟨rfl, ?_⟩
  simp [ρ0, gcs, B19, N19]
  exact ⟨w, rfl, S, r⟩
end Fy
end
section
/-! FyTh -/
namespace Fy
open PySem PySem.Spec PyProof.Rows L2
@[simp] theorem le_size {n : Nat} (h : n ≤ 100000) : n ≤ sizeLine := Nat.le_trans h size_big
/-! ### sorted ints -/
theorem le_int {i j : Int} : (D.int i).le (.int j) = decide (i ≤ j) := by
  unfold D.le
  simp only [D.toP, PySem.W.dataLt_int]
  by_cases h : i ≤ j
  · have : ¬ j < i := by omega
    simp [h]
  · have : j < i := by omega
    simp [h, this]
theorem sorted_eq {es : List D} {ms : List Int} (h1 : es.Perm (ms.map D.int)) (h2 : es.Pairwise (fun a b => a.le b = true)) (h3 : ms.Pairwise (· ≤ ·)) : es = ms.map D.int := by
  refine List.Perm.eq_of_pairwise (le := fun a b : D => a.le b = true) (fun a b ha hb p q => ?_) h2 ?_ h1
  · obtain ⟨i, _, rfl⟩ := List.mem_map.mp (h1.subset ha)
    obtain ⟨j, _, rfl⟩ := List.mem_map.mp hb
    simp only [le_int, decide_eq_true_eq] at p q
    rw [Int.le_antisymm p q]
  · rw [List.pairwise_map]
    exact h3.imp fun {a b} l => by rw [le_int]; simpa using l
theorem sorted_nat {es : List D} {ns : List Nat} (h1 : es.Perm (ns.map nD)) (h2 : es.Pairwise (fun a b => a.le b = true)) : es = (sortN ns).map nD := by
  have e : ∀ xs : List Nat, xs.map nD = (xs.map fun n : Nat => (n : Int)).map D.int := fun xs => by rw [List.map_map]; rfl
  rw [e] at h1 ⊢
  refine sorted_eq ((h1.trans ?_)) h2 ?_
  · exact (((sortN_perm (xs := ns)).map _).map _).symm
  · rw [List.pairwise_map]
    exact sortN_le.imp fun {a b} l => by omega
theorem sorts_nat {ns : List Nat} : sortsD (ns.map nD) := .inl ⟨ns.map fun n : Nat => (n : Int), by rw [List.map_map]; rfl⟩
/-! ### those that are here -/
theorem here_mem : ∀ {T : Folk} {n p : Nat} {r : Rw}, (p, r) ∈ hereFrom n T ↔ n ≤ p ∧ T[p - n]? = some r ∧ r.here = true
  | [], n, p, r => by simp [hereFrom]
  | x :: T, n, p, r => by
    have ih := here_mem (T := T) (n := n + 1) (p := p) (r := r)
    have step : (n + 1 ≤ p ∧ T[p - (n + 1)]? = some r ∧ r.here = true) ↔ (n + 1 ≤ p ∧ (x :: T)[p - n]? = some r ∧ r.here = true) := by
      constructor
      · rintro ⟨a, b, c⟩; exact ⟨a, by rw [show p - n = (p - (n + 1)) + 1 from by omega]; simpa using b, c⟩
      · rintro ⟨a, b, c⟩; exact ⟨a, by rw [show p - n = (p - (n + 1)) + 1 from by omega] at b; simpa using b, c⟩
    have one : ((p, r) = (n, x) ∧ x.here = true) ↔ (p = n ∧ (x :: T)[p - n]? = some r ∧ r.here = true) := by
      constructor
      · rintro ⟨e, h⟩; cases e; simp [h]
      · rintro ⟨rfl, b, c⟩; simp at b; subst b; exact ⟨rfl, c⟩
    unfold hereFrom
    by_cases h : x.here = true
    · rw [if_pos h, List.mem_cons, ih, step]
      constructor
      · rintro (e | ⟨a, b⟩)
        · obtain ⟨a, b⟩ := one.mp ⟨e, h⟩; exact ⟨by omega, b⟩
        · exact ⟨by omega, b⟩
      · rintro ⟨a, b⟩
        by_cases e : p = n
        · exact .inl (one.mpr ⟨e, b⟩).1
        · exact .inr ⟨by omega, b⟩
    · rw [if_neg h, ih, step]
      constructor
      · rintro ⟨a, b⟩; exact ⟨by omega, b⟩
      · rintro ⟨a, b⟩
        by_cases e : p = n
        · exact absurd (one.mpr ⟨e, b⟩).2 h
        · exact ⟨by omega, b⟩
theorem here_mem0 {T : Folk} {p : Nat} {r : Rw} : (p, r) ∈ hereFrom 0 T ↔ p < T.length ∧ r = rwAt T p ∧ r.here = true := by
  rw [here_mem]
  constructor
  · rintro ⟨_, b, c⟩
    have l := (List.getElem?_eq_some_iff.mp b).1
    simp at l b
    rw [rwAt_get l] at b
    exact ⟨l, (Option.some.inj b).symm, c⟩
  · rintro ⟨a, rfl, c⟩
    exact ⟨by omega, by simpa using rwAt_get a, c⟩
theorem here_lt : ∀ {T : Folk} {n : Nat}, ((hereFrom n T).map (·.1)).Pairwise (· < ·)
  | [], n => List.Pairwise.nil
  | x :: T, n => by
    have ih := here_lt (T := T) (n := n + 1)
    unfold hereFrom
    by_cases h : x.here = true
    · rw [if_pos h, List.map_cons, List.pairwise_cons]
      refine ⟨fun p hp => ?_, ih⟩
      obtain ⟨⟨q, r⟩, hq, rfl⟩ := List.mem_map.mp hp
      have := (here_mem.mp hq).1
      show n < q
      omega
    · rw [if_neg h]; exact ih
theorem here_len : ∀ {T : Folk} {n : Nat}, (hereFrom n T).length ≤ T.length
  | [], n => Nat.le_refl _
  | x :: T, n => by
    have := here_len (T := T) (n := n + 1)
    unfold hereFrom
    split
    · simp; omega
    · simp; omega
theorem here_set : ∀ {T : Folk} {n p : Nat} {r : Rw}, p < T.length → (rwAt T p).here = true → r.here = true → hereFrom n (T.set p r) = (hereFrom n T).map fun q => if q.1 = n + p then (q.1, r) else q
  | [], n, p, r, h, _, _ => by simp at h
  | x :: T, n, 0, r, _, h1, h2 => by
    have h1 : x.here = true := h1
    show (if r.here = true then _ else _) = _
    rw [if_pos h2]
    show _ = (if x.here = true then (n, x) :: hereFrom (n + 1) T else _).map _
    rw [if_pos h1, List.map_cons]
    simp only [Nat.add_zero, if_true]
    congr 1
    have : (hereFrom (n + 1) T).map (fun q => if q.1 = n then (q.1, r) else q) = (hereFrom (n + 1) T).map id := by
      apply List.map_congr_left
      rintro ⟨q, s⟩ hq
      have := (here_mem.mp hq).1
      rw [if_neg (show ¬ q = n by omega)]; rfl
    rw [this, List.map_id]
  | x :: T, n, p + 1, r, h, h1, h2 => by
    have h1 : (rwAt T p).here = true := by simpa [rwAt] using h1
    have ih := here_set (T := T) (n := n + 1) (p := p) (r := r) (by simpa using h) h1 h2
    have e : n + 1 + p = n + (p + 1) := by omega
    rw [e] at ih
    show (if x.here = true then (n, x) :: hereFrom (n + 1) (T.set p r) else hereFrom (n + 1) (T.set p r)) = (if x.here = true then (n, x) :: hereFrom (n + 1) T else hereFrom (n + 1) T).map _
    by_cases hx : x.here = true
    · rw [if_pos hx, if_pos hx, List.map_cons, ih, if_neg (show ¬ n = n + (p + 1) by omega)]
    · rw [if_neg hx, if_neg hx, ih]
theorem here_app : ∀ {T : Folk} {n : Nat} {r : Rw}, r.here = true → hereFrom n (T ++ [r]) = hereFrom n T ++ [(n + T.length, r)]
  | [], n, r, h => by simp [hereFrom, h]
  | x :: T, n, r, h => by
    have ih := here_app (T := T) (n := n + 1) (r := r) h
    have e : n + 1 + T.length = n + (x :: T).length := by simp; omega
    rw [e] at ih
    show (if x.here = true then (n, x) :: hereFrom (n + 1) (T ++ [r]) else hereFrom (n + 1) (T ++ [r])) = (if x.here = true then (n, x) :: hereFrom (n + 1) T else hereFrom (n + 1) T) ++ _
    by_cases hx : x.here = true
    · rw [if_pos hx, if_pos hx, ih, List.cons_append]
    · rw [if_neg hx, if_neg hx, ih]
theorem here_out : ∀ {T : Folk} {n c : Nat} {r : Rw}, c < T.length → r.here = false → hereFrom n (T.set c r) = (hereFrom n T).filter fun q => q.1 ≠ n + c
  | [], n, c, r, h, _ => by simp at h
  | x :: T, n, 0, r, _, h2 => by
    show (if r.here = true then _ else hereFrom (n + 1) T) = (if x.here = true then (n, x) :: hereFrom (n + 1) T else hereFrom (n + 1) T).filter _
    rw [if_neg (by rw [h2]; simp)]
    have : (hereFrom (n + 1) T).filter (fun q => decide (q.1 ≠ n + 0)) = hereFrom (n + 1) T := by
      rw [List.filter_eq_self]
      rintro ⟨q, s⟩ hq
      have := (here_mem.mp hq).1
      simp; omega
    by_cases hx : x.here = true
    · rw [if_pos hx, List.filter_cons, if_neg (by simp), this]
    · rw [if_neg hx, this]
  | x :: T, n, c + 1, r, h, h2 => by
    have ih := here_out (T := T) (n := n + 1) (c := c) (r := r) (by simpa using h) h2
    have e : n + 1 + c = n + (c + 1) := by omega
    rw [e] at ih
    show (if x.here = true then (n, x) :: hereFrom (n + 1) (T.set c r) else hereFrom (n + 1) (T.set c r)) = (if x.here = true then (n, x) :: hereFrom (n + 1) T else hereFrom (n + 1) T).filter _
    by_cases hx : x.here = true
    · rw [if_pos hx, if_pos hx, List.filter_cons, if_pos (by simp), ih]
    · rw [if_neg hx, if_neg hx, ih]
/-! ### the dict of those that are here -/
def keysT (T : Folk) : List Int := (hereFrom 0 T).map fun q => (q.1 : Int)
def rowsT (w : Sys) (T : Folk) : List D := (hereFrom 0 T).map fun q => q.2.row w q.1
theorem thereD_eq {w : Sys} {T : Folk} : thereD w T = .dic (keysT T) (rowsT w T) := rfl
theorem keysT_nd {T : Folk} : (keysT T).Nodup := by
  have h := here_lt (T := T) (n := 0)
  unfold keysT
  have e : (hereFrom 0 T).map (fun q => (q.1 : Int)) = ((hereFrom 0 T).map (·.1)).map fun n : Nat => (n : Int) := by rw [List.map_map]; rfl
  rw [e]
  show List.Pairwise (· ≠ ·) _
  rw [List.pairwise_map]
  exact h.imp fun {a b} l z => by omega
theorem keysT_mem {T : Folk} {p : Nat} : (p : Int) ∈ keysT T ↔ p < T.length ∧ (rwAt T p).here = true := by
  unfold keysT
  rw [List.mem_map]
  constructor
  · rintro ⟨⟨q, r⟩, h, e⟩
    have e : (q : Int) = p := e
    obtain rfl : q = p := by omega
    obtain ⟨a, rfl, b⟩ := here_mem0.mp h
    exact ⟨a, b⟩
  · rintro ⟨a, b⟩
    exact ⟨(p, rwAt T p), here_mem0.mpr ⟨a, rfl, b⟩, rfl⟩
theorem dget_map {α : Type} {k : α → Nat} {v : α → D} : ∀ {L : List α}, (L.map k).Pairwise (· < ·) → ∀ {x : α}, x ∈ L → dget (L.map fun q => (k q : Int)) (L.map v) (k x : Int) = some (v x)
  | [], _, x, h => by cases h
  | y :: L, pw, x, h => by
    have pw := List.pairwise_cons.mp pw
    show (if (k y : Int) = (k x : Int) then some (v y) else dget (L.map fun q => (k q : Int)) (L.map v) (k x : Int)) = _
    rcases List.mem_cons.mp h with rfl | h
    · rw [if_pos rfl]
    · have : k y < k x := pw.1 (k x) (List.mem_map.mpr ⟨x, h, rfl⟩)
      rw [if_neg (by omega)]
      exact dget_map pw.2 h
theorem dget_there {w : Sys} {T : Folk} {p : Nat} (h : p < T.length) (hh : (rwAt T p).here = true) : dget (keysT T) (rowsT w T) (p : Int) = some ((rwAt T p).row w p) :=
  dget_map (k := fun q : Nat × Rw => q.1) (v := fun q : Nat × Rw => q.2.row w q.1) here_lt (here_mem0.mpr ⟨h, rfl, hh⟩)
theorem fixeds_map {α : Type} {f : α → D} (h : ∀ x, (f x).fixed = true) : ∀ xs : List α, fixeds (xs.map f) = true
  | [] => rfl
  | x :: xs => by show ((f x).fixed && fixeds (xs.map f)) = true; rw [h x, fixeds_map h xs]; rfl
theorem fixed_nD {n : Nat} : (nD n).fixed = true := rfl
theorem fixed_oD {n : Option Nat} : (oD n).fixed = true := rfl
theorem fixed_row {w : Sys} {p : Nat} {r : Rw} : (r.row w p).fixed = true := by
  unfold Rw.row
  show (fixeds _) = true
  simp only [fixeds, D.fixed, fixed_nD, fixed_oD, fixeds_map (fun x => fixed_oD), fixeds_map (fun x => fixed_nD), Bool.and_self]
theorem rowsT_fixed {w : Sys} {T : Folk} : fixeds (rowsT w T) = true := fixeds_map (fun x => fixed_row) _
theorem rowsT_len {w : Sys} {T : Folk} : (rowsT w T).length ≤ T.length := by unfold rowsT; rw [List.length_map]; exact here_len
theorem keys_rows {w : Sys} {T : Folk} : (keysT T).length = (rowsT w T).length := by simp [keysT, rowsT]
/-- one entry set -/
def up1 (T : Folk) (p : Nat) (r : Rw) : Folk := if p < T.length then T.set p r else T ++ [r]
def upT : Folk → List (Nat × Rw) → Folk
  | T, [] => T
  | T, q :: r => upT (up1 T q.1 q.2) r
def UpOk : Folk → List (Nat × Rw) → Prop
  | _, [] => True
  | T, q :: r => ((q.1 < T.length ∧ (rwAt T q.1).here = true) ∨ q.1 = T.length) ∧ q.2.here = true ∧ UpOk (up1 T q.1 q.2) r
theorem dput_there {w : Sys} {T : Folk} {p : Nat} {r : Rw} (h : (p < T.length ∧ (rwAt T p).here = true) ∨ p = T.length) (hr : r.here = true) : dput (keysT T) (rowsT w T) (p : Int) (r.row w p) = (keysT (up1 T p r), rowsT w (up1 T p r)) := by
  unfold dput up1
  rcases h with ⟨a, b⟩ | a
  · rw [if_pos (keysT_mem.mpr ⟨a, b⟩), if_pos a]
    have e := here_set (n := 0) a b hr
    unfold keysT rowsT
    rw [e, List.map_map, List.map_map, List.zipWith_map, List.zipWith_self]
    congr 1
    · apply List.map_congr_left
      rintro ⟨q, s⟩ _
      simp only [Function.comp_apply]
      split <;> rfl
    · apply List.map_congr_left
      rintro ⟨q, s⟩ _
      simp only [Function.comp_apply]
      by_cases z : q = p
      · subst z; simp
      · rw [if_neg (by omega), if_neg (by omega)]
  · subst a
    rw [if_neg (fun z => by have := (keysT_mem.mp z).1; omega), if_neg (by omega)]
    have e := here_app (T := T) (n := 0) hr
    unfold keysT rowsT
    rw [e]
    simp
theorem dputs_there {w : Sys} : ∀ {ups : List (Nat × Rw)} {T : Folk}, UpOk T ups → dputs (keysT T) (rowsT w T) (ups.map fun q => (q.1 : Int)) (ups.map fun q => q.2.row w q.1) = (keysT (upT T ups), rowsT w (upT T ups))
  | [], T, _ => rfl
  | q :: r, T, h => by
    show dputs (dput (keysT T) (rowsT w T) (q.1 : Int) (q.2.row w q.1)).1 (dput (keysT T) (rowsT w T) (q.1 : Int) (q.2.row w q.1)).2 _ _ = _
    rw [dput_there h.1 h.2.1]
    exact dputs_there h.2.2
/-- the rest of a row behind its number -/
def Rw.tl (w : Sys) (r : Rw) : List D := [.str (kdAt w r.k).name, .str r.tag, oD r.parent, oD r.code, nD r.place, .tup (r.slots.map oD), .tup (r.pool.map nD)]
theorem call27 {w : Sys} {T : Folk} {ups : List (Nat × Rw)} {ds : List D} {Q : D → Prop} (he : ds = ups.map fun q => q.2.row w q.1) (h : UpOk T ups) (hl : T.length + ups.length ≤ 1000) (q : Q (thereD w (upT T ups))) : starG G27 (thereD w T :: ds) Q := by
  subst he
  have sz := size_big
  refine ⟨_, _, rfl, by rw [List.length_map]; omega, keysT T, rowsT w T, ups.map fun q => ((q.1 : Int), q.2.tl w), ?_, keysT_nd, keys_rows, rowsT_fixed, ?_, ?_⟩
  · rw [List.map_map]; rfl
  · have := rowsT_len (w := w) (T := T)
    simp; omega
  · rw [List.map_map, List.map_map]
    have e : dputs (keysT T) (rowsT w T) (ups.map ((fun q : Int × List D => q.1) ∘ fun q : Nat × Rw => ((q.1 : Int), q.2.tl w))) (ups.map ((fun q : Int × List D => D.tup (.int q.1 :: q.2)) ∘ fun q : Nat × Rw => ((q.1 : Int), q.2.tl w))) = (keysT (upT T ups), rowsT w (upT T ups)) := dputs_there h
    rw [e]
    exact q
end Fy
end
section
/-! FyK6 -/
namespace Fy
open PySem PySem.Spec PyProof.Rows L2
/-! ### kinds and rows -/
theorem at_all {xs : List D} {d : D} (h : d ∈ xs) (h2 : ∀ e ∈ xs, e = d) : atI xs 0 = some d := by
  cases xs with
  | nil => cases h
  | cons x xs => rw [at0, h2 x (List.mem_cons_self ..)]
theorem kd_uniq {w : Sys} (S : SysOk w) {i : Nat} (h : i < w.length) {k : Kd} (hk : k ∈ w) (e : k.name = (kdAt w i).name) : k = kdAt w i := by
  obtain ⟨j, hj⟩ := List.getElem?_of_mem hk
  have l := (List.getElem?_eq_some_iff.mp hj).1
  have h1 : (w.map (·.name))[j]? = some (kdAt w i).name := by rw [List.getElem?_map, hj, ← e]; rfl
  have h2 : (w.map (·.name))[i]? = some (kdAt w i).name := by rw [List.getElem?_map, kdAt_get h]; rfl
  have := (List.getElem?_inj (List.getElem?_eq_some_iff.mp h1).1 S.2.2.1).mp (h1.trans h2.symm)
  subst this
  rw [kdAt_get h] at hj
  exact (Option.some.inj hj).symm
section
variable {Q : D → Prop} {w : Sys} {T : Folk} {p : Nat} {r : Rw}
theorem call20 {i : Nat} (S : SysOk w) (h : i < w.length) (q : Q (kdAt w i).d) : G20 [sysD w, .str (kdAt w i).name] Q := ⟨w, i, rfl, S, h, q⟩
theorem call23 (S : SysOk w) (o : RwOk w p r) (q : Q (insAt w r).d) : G23 [sysD w, r.row w p] Q := ⟨w, p, r, rfl, S, o, q⟩
theorem call24 {s : Str} (S : SysOk w) (o : RwOk w p r) (h : s ∈ (kdAt w r.k).slots) (q : Q (nD (slotIx w r s))) : G24 [sysD w, r.row w p, .str s] Q := ⟨w, p, r, s, rfl, S, o, h, q⟩
end
theorem kk20 : Keeps Gs N20 B20 2 G20 := by
  rintro ds R ⟨w, i, rfl, S, h, r⟩
  refine ⟨rfl, ?_⟩
  simp [ρ0, gcs, B20, N20, sysD]
  refine compW_fm Kd.d (fun k => if k.name = (kdAt w i).name then some k.d else none) (fun x hx Q q => ?_) ?_
  · simp [Kd.d] at q ⊢
    by_cases e : x.name = (kdAt w i).name
    · simp [e] at q ⊢; exact q
    · simp [e] at q ⊢; exact q
  · refine ⟨(kdAt w i).d, ?_, r⟩
    refine at_all ?_ fun e he => ?_
    · rw [List.nil_append, List.mem_filterMap]
      exact ⟨kdAt w i, List.mem_of_getElem? (kdAt_get h), by simp⟩
    · rw [List.nil_append, List.mem_filterMap] at he
      obtain ⟨k, hk, e1⟩ := he
      split at e1
      · rw [← Option.some.inj e1, kd_uniq S h hk ‹_›]
      · cases e1
theorem none_map {α : Type} (xs : List α) : List.replicate xs.length (D.int (-1)) = ((xs.map fun _ => (none : Option Nat)).map oD) := by
  rw [List.map_map]
  simp [Function.comp_def, List.map_const', oD, oi]
theorem kk21 : Keeps Gs N21 B21 5 G21 := by
  rintro ds R ⟨w, p, i, tag, par, rfl, S, h, r⟩
  refine ⟨rfl, ?_⟩
  have sz := size_big
  have l2 := (S.kd h).2.2.2.1
  simp [ρ0, gcs, B21, N21]
  refine call20 S h ?_
  simp [Kd.d, strsD]
  refine ⟨by omega, ?_⟩
  rw [none_map]
  exact r
theorem kk22 : Keeps Gs N22 B22 1 G22 := by
  rintro ds R ⟨w, rfl, S, r⟩
  refine ⟨rfl, ?_⟩
  have sz := size_big
  have h : 0 < w.length := List.length_pos_iff.mpr S.1
  simp [ρ0, gcs, B22, N22]
  refine ⟨(kdAt w 0).d, at_k h, ?_⟩
  simp [Kd.d]
  refine ⟨w, 0, 0, "", none, rfl, S, h, ?_⟩
  exact r
theorem kk23 : Keeps Gs N23 B23 2 G23 := by
  rintro ds R ⟨w, p, rw', rfl, S, o, r⟩
  refine ⟨rfl, ?_⟩
  simp [ρ0, gcs, B23, N23, Rw.row]
  refine call20 S o.k ?_
  simp [Kd.d, nD]
  exact ⟨_, at_i o.pl, r⟩
theorem idxOf_first {xs : List Str} {z : Str} {m : Nat} (h : m < xs.idxOf z) : xs[m]? ≠ some z := by
  intro e
  have l := (List.getElem?_eq_some_iff.mp e)
  have := List.not_of_lt_findIdx (p := (· == z)) (xs := xs) (i := m) h
  simp [l.2] at this
theorem idxOf_get {xs : List Str} {z : Str} (h : z ∈ xs) : xs[xs.idxOf z]? = some z := by
  have l := List.idxOf_lt_length_of_mem h
  rw [List.getElem?_eq_getElem l, List.getElem_idxOf l]
theorem kk24 : Keeps Gs N24 B24 3 G24 := by
  rintro ds R ⟨w, p, rw', s, rfl, S, o, h, r⟩
  refine ⟨rfl, ?_⟩
  simp [ρ0, gcs, B24, N24, Rw.row]
  refine call20 S o.k ?_
  simp [Kd.d, strsD]
  exact ⟨_, rfl, (kdAt w rw'.k).slots.idxOf s, idxOf_get h, fun m hm => idxOf_first hm, r⟩
theorem oD_ne {o : Option Nat} : ((oD o).eqd (.int (-1))) = o.isNone := by
  cases o with
  | none => simp [oD, oi]
  | some n => simp [oD, oi]
theorem kk25 : Keeps Gs N25 B25 1 G25 := by
  rintro ds R ⟨w, p, rw', rfl, h1, h2, r⟩
  refine ⟨rfl, ?_⟩
  have sz := size_big
  simp [ρ0, gcs, B25, N25, Rw.row]
  refine compW_fm oD (fun o => o.map nD) (fun x hx Q q => ?_) ?_
  · cases x with
    | none => simp [oD, oi, gcs] at q ⊢; exact q
    | some n => simp [oD, oi, gcs] at q ⊢; exact q
  · have e : rw'.slots.filterMap (fun o => o.map nD) = (rw'.slots.filterMap id).map nD := by rw [List.map_filterMap]; rfl
    have l : (rw'.slots.filterMap id).length ≤ rw'.slots.length := List.length_filterMap_le ..
    rw [List.nil_append, e]
    refine ⟨by rw [List.length_map]; omega, ?_⟩
    unfold Rw.kids at r
    rwa [List.map_append] at r
theorem kk26 : Keeps Gs N26 B26 2 G26 := by
  rintro ds R ⟨w, T, p, rfl, h1, h2, r⟩
  refine ⟨rfl, ?_⟩
  simp [ρ0, gcs, B26, N26, thereD_eq, nD]
  refine ⟨_, dget_there h1 h2, ?_⟩
  simp [Rw.row]
  cases e : (rwAt T p).code with
  | none => rw [e] at r; simp [oD, oi] at r ⊢; exact r
  | some c => rw [e] at r; simp [oD, oi] at r ⊢; exact r
theorem kk28 : Keeps Gs N28 B28 2 G28 := by
  rintro ds R ⟨w, p, rw', g, rfl, r⟩
  refine ⟨rfl, ?_⟩
  have sz := size_big
  simp [ρ0, gcs, B28, N28, Rw.row]
  exact r
theorem take_set_drop {α : Type} {xs : List α} {j : Nat} {x : α} (h : j < xs.length) : xs.take j ++ x :: xs.drop (j + 1) = xs.set j x := by
  rw [List.set_eq_take_append_cons_drop, if_pos h]
section
variable {Q : D → Prop} {w : Sys} {T : Folk} {p : Nat} {r : Rw}
theorem call29 {j : Nat} {c : Option Nat} (h1 : j < r.slots.length) (h2 : r.slots.length ≤ 2) (q : Q (Rw.row w p { r with slots := r.slots.set j c })) : G29 [r.row w p, nD j, oD c] Q := ⟨w, p, r, j, c, rfl, h1, h2, q⟩
theorem call30 {cs : List Nat} (h1 : r.pool.length ≤ 30) (h2 : cs.length ≤ 60) (q : Q (Rw.row w p { r with pool := sortN (r.pool ++ cs) })) : G30 [r.row w p, .lst (List.map nD cs)] Q := ⟨w, p, r, cs, rfl, h1, h2, q⟩
end
theorem kk29 : Keeps Gs N29 B29 3 G29 := by
  rintro ds R ⟨w, p, rw', j, c, rfl, h1, h2, r⟩
  refine ⟨rfl, ?_⟩
  have sz := size_big
  simp [ρ0, gcs, B29, N29, Rw.row, nD, cutT, cutF1]
  refine ⟨by omega, ?_⟩
  rw [show (List.map oD rw'.slots).take j ++ oD c :: (List.map oD rw'.slots).drop (j + 1) = (rw'.slots.set j c).map oD from by rw [take_set_drop (by simpa using h1), List.map_set]]
  exact r
theorem kk30 : Keeps Gs N30 B30 2 G30 := by
  rintro ds R ⟨w, p, rw', cs, rfl, h1, h2, r⟩
  refine ⟨rfl, ?_⟩
  have sz := size_big
  simp [ρ0, gcs, B30, N30, Rw.row]
  rw [← List.map_append]
  refine ⟨by omega, sorts_nat, fun es e1 e2 => ?_⟩
  rw [sorted_nat e1 e2]
  exact r
theorem kk31 : Keeps Gs N31 B31 2 G31 := by
  rintro ds R ⟨w, p, rw', j, rfl, h1, h2, h3, r⟩
  refine ⟨rfl, ?_⟩
  have sz := size_big
  unfold relRow at r
  simp [ρ0, gcs, B31, N31]
  simp only [Rw.row, at6, ix_t, nD]
  refine ⟨_, rfl, _, at_s h1, ?_⟩
  cases e : rw'.slots.getD j none with
  | none =>
    rw [e] at r
    simp [oD, oi]
    exact r
  | some c =>
    rw [e] at r
    simp [oD, oi]
    refine call29 (c := none) h1 h2 ?_
    exact call30 (cs := [c]) h3 (by simp) r
end Fy
end
section
/-! FyK7 -/
namespace Fy
open PySem PySem.Spec PyProof.Rows L2
/-! ### data that can be compared -/
def Ok1 (n : Nat) (d : D) : Prop := d.plain = true ∧ PyData.canLay0 d.toP = true ∧ PyData.depth d.toP ≤ n
theorem ok1_all {n : Nat} : ∀ {ds : List D}, (∀ d ∈ ds, Ok1 n d) → plains ds = true ∧ PyData.canLayAll0 (toPs ds) = true ∧ PyData.depthAll (toPs ds) ≤ n
  | [], _ => ⟨rfl, rfl, Nat.zero_le _⟩
  | d :: ds, h => by
    obtain ⟨a, b, c⟩ := h d (List.mem_cons_self ..)
    obtain ⟨x, y, z⟩ := ok1_all (ds := ds) fun e he => h e (List.mem_cons_of_mem _ he)
    refine ⟨by show (d.plain && plains ds) = true; rw [a, x]; rfl, by show (PyData.canLay0 d.toP && PyData.canLayAll0 (toPs ds)) = true; rw [b, y]; rfl, ?_⟩
    show max (PyData.depth d.toP) (PyData.depthAll (toPs ds)) ≤ n
    exact Nat.max_le.mpr ⟨c, z⟩
theorem ok1_tup {n : Nat} {ds : List D} (h : ∀ d ∈ ds, Ok1 n d) : Ok1 (n + 1) (.tup ds) := by
  obtain ⟨a, b, c⟩ := ok1_all h
  exact ⟨a, b, Nat.succ_le_succ c⟩
theorem ok1_lst {n : Nat} {ds : List D} (h : ∀ d ∈ ds, Ok1 n d) : Ok1 (n + 1) (.lst ds) := by
  obtain ⟨a, b, c⟩ := ok1_all h
  exact ⟨a, b, Nat.succ_le_succ c⟩
theorem ok1_int {n : Nat} {i : Int} : Ok1 n (.int i) := ⟨rfl, rfl, Nat.zero_le _⟩
theorem ok1_str {n : Nat} {x : Str} (h : PyData.canLay0 (.str x) = true) : Ok1 n (.str x) := ⟨rfl, h, Nat.zero_le _⟩
theorem okd_of {n : Nat} {d : D} (h : Ok1 n d) (l : n ≤ 64) : d.okd := ⟨h.1, by
  show (PyData.canLay0 d.toP && decide (PyData.depth d.toP ≤ 64)) = true
  rw [h.2.1, decide_eq_true (Nat.le_trans h.2.2 l)]; rfl⟩
theorem word_ok {m : Mv} : PyData.canLay0 (.str m.word) = true := by cases m <;> (simp only [Mv.word]; decide +kernel)
theorem ok1_mv {m : Mv} : Ok1 1 (mvD m) := ok1_tup fun d hd => by
  simp at hd
  rcases hd with rfl | rfl
  · exact ok1_str word_ok
  · exact ok1_int
theorem ok1_st {q : Nat × Mv} : Ok1 1 (stD q) := ok1_tup fun d hd => by
  simp at hd
  rcases hd with rfl | rfl | rfl
  · exact ok1_int
  · exact ok1_str word_ok
  · exact ok1_int
@[simp] theorem eqd_nil : (D.tup []).eqd (.tup []) = true := rfl
@[simp] theorem eqd_cons {a b : D} {r s : List D} : (D.tup (a :: r)).eqd (.tup (b :: s)) = (a.eqd b && (D.tup r).eqd (.tup s)) := rfl
@[simp] theorem eqd_lnil : (D.lst []).eqd (.lst []) = true := rfl
@[simp] theorem eqd_lcons {a b : D} {r s : List D} : (D.lst (a :: r)).eqd (.lst (b :: s)) = (a.eqd b && (D.lst r).eqd (.lst s)) := rfl
@[simp] theorem eqd_ln {a : D} {r : List D} : (D.lst (a :: r)).eqd (.lst []) = false := rfl
@[simp] theorem eqd_tn {a : D} {r : List D} : (D.tup (a :: r)).eqd (.tup []) = false := rfl
theorem mv_ext {m n : Mv} (h : m.word = n.word) (k : m.num = n.num) : m = n := by
  cases m with
  | go t =>
    cases n with
    | go u =>
      have k : (t : Int) = u := k
      obtain rfl : t = u := by omega
      rfl
    | _ => simp (decide := true) [Mv.word] at h
  | take t =>
    cases n with
    | take u =>
      have k : (t : Int) = u := k
      obtain rfl : t = u := by omega
      rfl
    | _ => simp (decide := true) [Mv.word] at h
  | _ => cases n <;> first | rfl | simp (decide := true) [Mv.word] at h
theorem mv_eqd {m n : Mv} : (mvD m).eqd (mvD n) = decide (m = n) := by
  unfold mvD
  simp
  by_cases h : m = n
  · subst h; simp
  · have : ¬ (m.word = n.word ∧ m.num = n.num) := fun z => h (mv_ext z.1 z.2)
    simp [h]
    intro a b
    exact this ⟨a, b⟩
theorem any_mv {m : Mv} {ms : List Mv} : ((ms.map mvD).any fun z => z.eqd (mvD m)) = decide (m ∈ ms) := by
  rw [List.any_map]
  induction ms with
  | nil => simp
  | cons d ds ih =>
    rw [List.any_cons, ih]
    simp only [Function.comp_apply, mv_eqd]
    by_cases e : d = m
    · subst e; simp
    · have : ¬ m = d := fun z => e z.symm
      simp [e, this]
/-! ### replaced -/
theorem itsD_zip : ∀ {ks : List Int} {es : List D}, itsD ks es = (ks.zip es).map fun q => .raw [.int q.1, q.2]
  | [], _ => by simp [itsD]
  | _ :: _, [] => by simp [itsD]
  | k :: ks, e :: es => by simp [itsD, itsD_zip (ks := ks) (es := es)]
theorem pairsD_zip : ∀ {ks : List Int} {es : List D}, ks.length = es.length → pairsD ((ks.zip es).map fun q => .tup [.int q.1, q.2]) = some (ks, es)
  | [], [], _ => rfl
  | [], _ :: _, h => by simp at h
  | _ :: _, [], h => by simp at h
  | k :: ks, e :: es, h => by
    have ih := pairsD_zip (ks := ks) (es := es) (by simpa using h)
    show (pairD (.tup [.int k, e])).bind (fun q => (pairsD ((ks.zip es).map fun q => .tup [.int q.1, q.2])).map fun p => (q.1 :: p.1, q.2 :: p.2)) = _
    rw [ih]; rfl
theorem dput_new {ks : List Int} {es : List D} {i : Int} {e : D} (h : i ∉ ks) : dput ks es i e = (ks ++ [i], es ++ [e]) := by unfold dput; rw [if_neg h]
theorem dputs_new : ∀ {ks' : List Int} {es' : List D} {ks : List Int} {es : List D}, (ks ++ ks').Nodup → ks'.length = es'.length → dputs ks es ks' es' = (ks ++ ks', es ++ es')
  | [], [], ks, es, _, _ => by simp [dputs]
  | [], _ :: _, ks, es, _, h => by simp at h
  | _ :: _, [], ks, es, _, h => by simp at h
  | k :: ks', e :: es', ks, es, nd, h => by
    have nk : k ∉ ks := fun z => (List.nodup_append.mp nd).2.2 k z k (List.mem_cons_self ..) rfl
    show dputs (dput ks es k e).1 (dput ks es k e).2 ks' es' = _
    rw [dput_new nk]
    have nd' : ((ks ++ [k]) ++ ks').Nodup := by simpa using nd
    rw [dputs_new nd' (by simpa using h)]
    simp
theorem dput_len {ks : List Int} {es : List D} {i : Int} {e : D} : (dput ks es i e).1.length ≤ ks.length + 1 := by
  unfold dput; split
  · simp
  · simp
theorem kk27 : Keeps Gs N27 B27 2 G27 := by
  rintro ds R ⟨ks, es, qs, rfl, nd, hl, hf, sz, r⟩
  refine ⟨rfl, ?_⟩
  have big := size_big
  simp [ρ0, gcs, B27, N27, hf, fixKs, isLD]
  refine ⟨ks, es, ⟨rfl, rfl⟩, ⟨hf, by omega⟩, ?_⟩
  rw [itsD_zip]
  refine compW_map (fun q : Int × D => .raw [.int q.1, q.2]) (fun q => .tup [.int q.1, q.2]) (fun x hx Q q => ?_) ?_
  · simp [keepR]; exact q
  · refine ⟨ks, es, pairsD_zip hl, ?_⟩
    rw [dputs_new (ks := []) (es := []) nd hl]
    simp only [List.nil_append]
    refine ⟨trivial, ?_⟩
    refine forW_inv (fun q : Int × List D => .tup (.int q.1 :: q.2)) (fun rest ρ => ∃ a b x, ρ = [some (false, .dic ks es), some (false, .raw (qs.map fun q => .tup (.int q.1 :: q.2))), some (true, .dic a b), x, none] ∧ a.length + rest.length ≤ 1000 ∧ dputs a b (rest.map (·.1)) (rest.map fun q => .tup (.int q.1 :: q.2)) = dputs ks es (qs.map (·.1)) (qs.map fun q => .tup (.int q.1 :: q.2))) (fun ρ hρ => ?_) (fun x rest ρ hI N hN => ?_) ⟨ks, es, none, rfl, by omega, rfl⟩
    · obtain ⟨a, b, x, rfl, _, h⟩ := hρ
      simp [dputs] at h ⊢
      rw [← h] at r
      exact r
    · obtain ⟨a, b, y, rfl, l, h⟩ := hI
      simp at l ⊢
      refine ⟨a, b, ⟨rfl, rfl⟩, by omega, ?_⟩
      refine hN _ ⟨_, _, _, rfl, ?_, h⟩
      have := dput_len (ks := a) (es := b) (i := x.1) (e := .tup (.int x.1 :: x.2))
      omega
/-! ### many entries set -/
theorem up_at : ∀ {ups : List (Nat × Rw)} {T : Folk}, (ups.map (·.1)).Nodup → (∀ q ∈ ups, q.1 < T.length) → (upT T ups).length = T.length ∧ (∀ q ∈ ups, rwAt (upT T ups) q.1 = q.2) ∧ ∀ p, (∀ q ∈ ups, q.1 ≠ p) → rwAt (upT T ups) p = rwAt T p
  | [], T, _, _ => ⟨rfl, fun q h => (by cases h), fun _ _ => rfl⟩
  | u :: ups, T, nd, h => by
    have hu : u.1 < T.length := h u (List.mem_cons_self ..)
    have nd := List.nodup_cons.mp nd
    have e1 : up1 T u.1 u.2 = T.set u.1 u.2 := if_pos hu
    obtain ⟨a, b, c⟩ := up_at (ups := ups) (T := T.set u.1 u.2) nd.2 fun q hq => by simpa using h q (List.mem_cons_of_mem _ hq)
    have e2 : upT T (u :: ups) = upT (T.set u.1 u.2) ups := by show upT (up1 T u.1 u.2) ups = _; rw [e1]
    rw [e2]
    refine ⟨by simpa using a, fun q hq => ?_, fun p hp => ?_⟩
    · rcases List.mem_cons.mp hq with rfl | hq
      · rw [c q.1 fun z hz e => nd.1 (List.mem_map.mpr ⟨z, hz, e⟩), rwAt_set hu, if_pos rfl]
      · exact b q hq
    · rw [c p fun z hz => hp z (List.mem_cons_of_mem _ hz), rwAt_set hu, if_neg fun e => hp u (List.mem_cons_self ..) e.symm]
theorem upok_of : ∀ {ups : List (Nat × Rw)} {T : Folk}, (∀ q ∈ ups, q.1 < T.length ∧ (rwAt T q.1).here = true ∧ q.2.here = true) → UpOk T ups
  | [], _, _ => trivial
  | u :: ups, T, h => by
    obtain ⟨a, b, c⟩ := h u (List.mem_cons_self ..)
    refine ⟨.inl ⟨a, b⟩, c, ?_⟩
    have e1 : up1 T u.1 u.2 = T.set u.1 u.2 := if_pos a
    rw [e1]
    refine upok_of fun q hq => ?_
    obtain ⟨x, y, z⟩ := h q (List.mem_cons_of_mem _ hq)
    refine ⟨by simpa using x, ?_, z⟩
    rw [rwAt_set a]
    split
    · exact c
    · exact y
end Fy
end
section
/-! FyRx -/
namespace Fy
open PySem PySem.Spec PyProof.Rows L2
/-! ### a row's fields, for simp -/
section
variable {w : Sys} {p : Nat} {r : Rw} {Q : D → Prop} {T : Folk}
@[simp] theorem rx0 : ixW (Rw.row w p r) (.int 0) Q = Q (.int p) := by unfold Rw.row; simp [nD]
@[simp] theorem rx1 : ixW (Rw.row w p r) (.int 1) Q = Q (.str (kdAt w r.k).name) := by unfold Rw.row; simp [nD]
@[simp] theorem rx3 : ixW (Rw.row w p r) (.int 3) Q = Q (oD r.parent) := by unfold Rw.row; simp [nD]
@[simp] theorem rx4 : ixW (Rw.row w p r) (.int 4) Q = Q (oD r.code) := by unfold Rw.row; simp [nD]
@[simp] theorem rx5 : ixW (Rw.row w p r) (.int 5) Q = Q (.int r.place) := by unfold Rw.row; simp [nD]
@[simp] theorem rx6 : ixW (Rw.row w p r) (.int 6) Q = Q (.tup (r.slots.map oD)) := by unfold Rw.row; simp [nD]
@[simp] theorem rx7 : ixW (Rw.row w p r) (.int 7) Q = Q (.tup (r.pool.map nD)) := by unfold Rw.row; simp
@[simp] theorem rt3 : slW (Rw.row w p r) none (some 3) Q = Q (.tup [nD p, .str (kdAt w r.k).name, .str r.tag]) := by unfold Rw.row; simp
@[simp] theorem rt4 : slW (Rw.row w p r) none (some 4) Q = Q (.tup [nD p, .str (kdAt w r.k).name, .str r.tag, oD r.parent]) := by unfold Rw.row; simp
@[simp] theorem rt7 : slW (Rw.row w p r) none (some 7) Q = Q (.tup [nD p, .str (kdAt w r.k).name, .str r.tag, oD r.parent, oD r.code, nD r.place, .tup (r.slots.map oD)]) := by unfold Rw.row; simp
@[simp] theorem rf4 : slW (Rw.row w p r) (some 4) none Q = Q (.tup [oD r.code, nD r.place, .tup (r.slots.map oD), .tup (r.pool.map nD)]) := by unfold Rw.row; simp
/-- the row of one that is here -/
@[simp] theorem dx (h : p < T.length) (hh : (rwAt T p).here = true) : ixW (thereD w T) (.int p) Q = Q ((rwAt T p).row w p) := by
  rw [thereD_eq]
  exact propext ⟨fun ⟨d, e, q⟩ => by rw [dget_there h hh] at e; cases e; exact q, fun q => ⟨_, dget_there h hh, q⟩⟩
theorem sx {sl : List (Option Nat)} {j : Nat} (h : j < sl.length) : ixW (.tup (sl.map oD)) (.int j) Q = Q (oD (sl.getD j none)) :=
  propext ⟨fun ⟨d, e, q⟩ => by rw [at_s h] at e; cases e; exact q, fun q => ⟨_, at_s h, q⟩⟩
@[simp] theorem lx0 : ixW r.law (.int 0) Q = Q (.int r.k) := by unfold Rw.law; simp [nD]
@[simp] theorem lx3 : ixW r.law (.int 3) Q = Q (oD r.parent) := by unfold Rw.law; simp [nD]
@[simp] theorem lx4 : ixW r.law (.int 4) Q = Q (oD r.code) := by unfold Rw.law; simp [nD]
@[simp] theorem lx5 : ixW r.law (.int 5) Q = Q (.int r.place) := by unfold Rw.law; simp [nD]
@[simp] theorem lx6 : ixW r.law (.int 6) Q = Q (.tup (r.slots.map oD)) := by unfold Rw.law; simp [nD]
@[simp] theorem lx7 : ixW r.law (.int 7) Q = Q (.tup (r.pool.map nD)) := by unfold Rw.law; simp
@[simp] theorem lx8 : ixW r.law (.int 8) Q = Q (.bl r.here) := by unfold Rw.law; simp [nD]
@[simp] theorem fx' (h : p < T.length) : ixW (folkD T) (.int p) Q = Q (rwAt T p).law :=
  propext ⟨fun ⟨d, e, q⟩ => by rw [at_f h] at e; cases e; exact q, fun q => ⟨_, at_f h, q⟩⟩
@[simp] theorem kx {i : Nat} (h : i < w.length) : ixW (sysD w) (.int i) Q = Q (kdAt w i).d :=
  propext ⟨fun ⟨d, e, q⟩ => by rw [at_k h] at e; cases e; exact q, fun q => ⟨_, at_k h, q⟩⟩
@[simp] theorem kd0 {k : Kd} : ixW k.d (.int 0) Q = Q (.str k.name) := by unfold Kd.d; simp
@[simp] theorem kd1 {k : Kd} : ixW k.d (.int 1) Q = Q (strsD k.slots) := by unfold Kd.d; simp
@[simp] theorem kd2 {k : Kd} : ixW k.d (.int 2) Q = Q (.tup (k.places.map Ins.d)) := by unfold Kd.d; simp
theorem plx (h : r.place < (kdAt w r.k).places.length) : ixW (.tup ((kdAt w r.k).places.map Ins.d)) (.int r.place) Q = Q (insAt w r).d :=
  propext ⟨fun ⟨d, e, q⟩ => by rw [at_i h] at e; cases e; exact q, fun q => ⟨_, at_i h, q⟩⟩
@[simp] theorem ins0 {i : Ins} : ixW i.d (.int 0) Q = Q (.str i.word) := by
  cases i with
  | wait rows pool non lat meant => cases lat <;> simp [Ins.d, Ins.word]
  | _ => simp [Ins.d, Ins.word]
@[simp] theorem wait1 {rows : List WRow} {pool : Option Nat} {non : Nat} {lat : Option Nat} {meant : List Str} : ixW (Ins.wait rows pool non lat meant).d (.int 1) Q = Q (.tup (rows.map WRow.d)) := by cases lat <;> simp [Ins.d]
@[simp] theorem wait2 {rows : List WRow} {pool : Option Nat} {non : Nat} {lat : Option Nat} {meant : List Str} : ixW (Ins.wait rows pool non lat meant).d (.int 2) Q = Q (oD pool) := by cases lat <;> simp [Ins.d]
@[simp] theorem wait3 {rows : List WRow} {pool : Option Nat} {non : Nat} {lat : Option Nat} {meant : List Str} : ixW (Ins.wait rows pool non lat meant).d (.int 3) Q = Q (.int non) := by cases lat <;> simp [Ins.d, nD]
@[simp] theorem wait4 {rows : List WRow} {pool : Option Nat} {non l : Nat} {meant : List Str} : ixW (Ins.wait rows pool non (some l) meant).d (.int 4) Q = Q (.int l) := by simp [Ins.d, nD]
@[simp] theorem wr0 {q : WRow} : ixW q.d (.int 0) Q = Q (.str q.1) := by unfold WRow.d; simp
@[simp] theorem eqOk_oi {o : Option Nat} {i : Int} : eqOk (oD o) (.int i) := .inl rfl
@[simp] theorem eqd_om {o : Option Nat} : (oD o).eqd (.int (-1)) = o.isNone := by cases o <;> simp [oD, oi]
end
end Fy
end
section
/-! FyK23 -/
namespace Fy
open PySem PySem.Spec PyProof.Rows L2
/-! ### the law's makers -/
section
variable {Q : D → Prop}
theorem call52 {m : Int} (h0 : 0 < m) (h1 : m < 2 ^ 30) (q : ∀ n : Nat, (n : Int) < m → Q (.int n)) : G52 [.src, .int m] Q := ⟨m, rfl, h0, h1, fun r r0 r1 => by
  obtain ⟨n, rfl⟩ := Int.eq_ofNat_of_zero_le r0
  exact q n r1⟩
theorem call53t {xs : List D} (h0 : xs ≠ []) (h1 : xs.length < 2 ^ 30) (q : ∀ d ∈ xs, Q d) : G53 [.src, .tup xs] Q := ⟨xs, .inl rfl, h0, h1, q⟩
theorem call53l {xs : List D} (h0 : xs ≠ []) (h1 : xs.length < 2 ^ 30) (q : ∀ d ∈ xs, Q d) : G53 [.src, .lst xs] Q := ⟨xs, .inr rfl, h0, h1, q⟩
theorem call53s {xs : List Str} (h0 : xs ≠ []) (h1 : xs.length < 2 ^ 30) (q : ∀ s ∈ xs, Q (.str s)) : G53 [.src, strsD xs] Q := call53t (by simpa using h0) (by simpa using h1) fun d hd => by
  obtain ⟨s, hs, rfl⟩ := List.mem_map.mp hd
  exact q s hs
end
theorem kk53 : Keeps Gs N53 B53 2 G53 := by
  rintro ds R ⟨xs, hd, h0, h1, r⟩
  have hl : 0 < xs.length := List.length_pos_iff.mpr h0
  rcases hd with rfl | rfl
  · refine ⟨rfl, ?_⟩
    simp [ρ0, gcs, B53, N53]
    refine call52 (by omega) (by omega) fun n hn => ?_
    have hn' : n < xs.length := by omega
    exact ⟨xs[n], by rw [atI_nat hn', List.getElem?_eq_getElem hn'], r _ (List.getElem_mem hn')⟩
  · refine ⟨rfl, ?_⟩
    simp [ρ0, gcs, B53, N53]
    refine call52 (by omega) (by omega) fun n hn => ?_
    have hn' : n < xs.length := by omega
    exact ⟨xs[n], by rw [atI_nat hn', List.getElem?_eq_getElem hn'], r _ (List.getElem_mem hn')⟩
/-! sets, sorted -/
theorem list_lift' {α : Type} {f : α → D} {P : α → Prop} : ∀ {es : List D}, (∀ d ∈ es, ∃ q, P q ∧ f q = d) → ∃ qs : List α, es = qs.map f ∧ ∀ q ∈ qs, P q
  | [], _ => ⟨[], rfl, fun q h => (by cases h)⟩
  | d :: es, h => by
    obtain ⟨q, a, b⟩ := h d (List.mem_cons_self ..)
    obtain ⟨qs, c, e⟩ := list_lift' (es := es) fun d hd => h d (List.mem_cons_of_mem _ hd)
    exact ⟨q :: qs, by rw [List.map_cons, b, c], fun x hx => by
      rcases List.mem_cons.mp hx with rfl | hx
      · exact a
      · exact e x hx⟩
theorem nodup_sub_len {α : Type} : ∀ {es ds : List α}, es.Nodup → (∀ d ∈ es, d ∈ ds) → es.length ≤ ds.length
  | [], _, _, _ => Nat.zero_le _
  | e :: es, ds, nd, h => by
    obtain ⟨a, b, rfl⟩ := List.append_of_mem (h e (List.mem_cons_self ..))
    have nd := List.nodup_cons.mp nd
    have := nodup_sub_len (es := es) (ds := a ++ b) nd.2 fun d hd => by
      have m := h d (List.mem_cons_of_mem _ hd)
      have ne : d ≠ e := fun z => nd.1 (z ▸ hd)
      simp only [List.mem_append, List.mem_cons] at m ⊢
      rcases m with m | m | m
      · exact .inl m
      · exact absurd m ne
      · exact .inr m
    simp only [List.length_append, List.length_cons] at this ⊢
    omega
theorem sset_nat {es : List D} {xs : List Nat} (h1 : es.Nodup) (h2 : ∀ d, d ∈ es ↔ d ∈ xs.map nD) (h3 : es.Pairwise (fun a b => a.le b = true)) : ∃ ns : List Nat, es = ns.map nD ∧ ns.Pairwise (· < ·) ∧ (∀ n ∈ ns, n ∈ xs) ∧ (∀ n ∈ xs, n ∈ ns) ∧ ns.length ≤ xs.length := by
  obtain ⟨ns, rfl, hn⟩ := list_lift' (f := nD) (P := fun n => n ∈ xs) (es := es) fun d hd => by simpa using (h2 d).mp hd
  have nd : ns.Nodup := by
    have h1 : List.Pairwise (· ≠ ·) _ := h1
    rw [List.pairwise_map] at h1
    exact h1.imp fun {a b} l z => l (congrArg nD z)
  refine ⟨ns, rfl, ?_, hn, fun n hx => ?_, ?_⟩
  · rw [List.pairwise_map] at h3
    refine (h3.and nd).imp fun {a b} ⟨p, q⟩ => ?_
    have p : (D.int a).le (.int b) = true := p
    rw [le_int] at p
    have := of_decide_eq_true p
    have q : a ≠ b := q
    omega
  · obtain ⟨m, hm, e⟩ := List.mem_map.mp ((h2 (nD n)).mpr (List.mem_map.mpr ⟨n, hx, rfl⟩))
    have e : (m : Int) = n := by injection e
    have : m = n := by omega
    exact this ▸ hm
  · exact nodup_sub_len nd hn
theorem le_str {x y : Str} : (D.str x).le (.str y) = !decide (y.cps.toList < x.cps.toList) := by
  unfold D.le
  simp only [D.toP, PySem.W.dataLt_str]
theorem str_ext {x y : Str} (h : x.cps.toList = y.cps.toList) : x = y := PySem.W.str_of_cps h
theorem sset_str {es : List D} {xs : List Str} (h1 : es.Nodup) (h2 : ∀ d, d ∈ es ↔ d ∈ xs.map D.str) (h3 : es.Pairwise (fun a b => a.le b = true)) : ∃ ss : List Str, es = ss.map D.str ∧ asc ss ∧ (∀ n ∈ ss, n ∈ xs) ∧ ss.length ≤ xs.length := by
  obtain ⟨ns, rfl, hn⟩ := list_lift' (f := D.str) (P := fun n => n ∈ xs) (es := es) fun d hd => by simpa using (h2 d).mp hd
  have nd : ns.Nodup := by
    have h1 : List.Pairwise (· ≠ ·) _ := h1
    rw [List.pairwise_map] at h1
    exact h1.imp fun {a b} l z => l (congrArg D.str z)
  refine ⟨ns, rfl, ?_, hn, nodup_sub_len nd hn⟩
  rw [List.pairwise_map] at h3
  unfold asc
  refine (h3.and nd).imp fun {a b} ⟨p, q⟩ => ?_
  rw [le_str] at p
  have p : ¬ b.cps.toList < a.cps.toList := by simpa using p
  rcases List.le_iff_lt_or_eq.mp (List.not_lt.mp p) with l | l
  · exact l
  · exact absurd (str_ext l) q
theorem sorts_str {ns : List Str} : sortsD (ns.map D.str) := .inr (.inl ⟨ns, rfl⟩)
theorem flat_str {ns : List Str} : ∀ d ∈ ns.map D.str, flatD d = true := fun d hd => by
  obtain ⟨n, _, rfl⟩ := List.mem_map.mp hd; rfl
theorem flat_nat' {ns : List Nat} : ∀ d ∈ ns.map nD, flatD d = true := fun d hd => by
  obtain ⟨n, _, rfl⟩ := List.mem_map.mp hd; rfl
theorem kk56 : Keeps Gs N56 B56 5 G56 := by
  rintro ds R ⟨later, slots, tags, size, rfl, ⟨m1, m2, m3, m4, m5, m6, m7, m8, m9, m10⟩, ln, r⟩
  refine ⟨rfl, ?_⟩
  have sz := size_big
  simp [ρ0, gcs, B56, N56]
  refine call53s ln (by omega) fun k hk => ?_
  refine call53s m7 (by omega) fun t ht => ?_
  simp [strsD]
  refine ⟨by omega, ?_⟩
  refine call53t (by simp) (by simp; omega) fun d hd => ?_
  refine call52 (by omega) (by omega) fun n hn => ?_
  have hs : ∃ s : Str, d = .str s ∧ (s = "" ∨ s ∈ slots) := by
    simp at hd
    rcases hd with rfl | ⟨s, hs, rfl⟩
    · exact ⟨_, rfl, .inl rfl⟩
    · exact ⟨_, rfl, .inr hs⟩
  obtain ⟨s, rfl, hs⟩ := hs
  exact r (.fork k t s n) ⟨hk, m3 t ht, hs, by omega⟩
theorem zip_mem2 {α β : Type} : ∀ {xs : List α} {os : List β} {o : β}, os.length = xs.length → o ∈ os → ∃ x ∈ xs, (x, o) ∈ xs.zip os
  | [], [], _, _, h => by cases h
  | [], _ :: _, _, h, _ => by simp at h
  | _ :: _, [], _, _, h => by cases h
  | x :: xs, p :: os, o, l, h => by
    rcases List.mem_cons.mp h with rfl | h
    · exact ⟨x, List.mem_cons_self .., by simp⟩
    · obtain ⟨y, a, b⟩ := zip_mem2 (xs := xs) (os := os) (by simpa using l) h
      exact ⟨y, List.mem_cons_of_mem _ a, by rw [List.zip_cons_cons]; exact List.mem_cons_of_mem _ b⟩
theorem os_lift {α : Type} {f : α → D} {P : α → Prop} : ∀ {os : List (Option D)}, (∀ o ∈ os, ∃ q, P q ∧ o = some (f q)) → ∃ qs : List α, os.filterMap id = qs.map f ∧ qs.length = os.length ∧ ∀ q ∈ qs, P q
  | [], _ => ⟨[], rfl, rfl, fun q h => (by cases h)⟩
  | d :: es, h => by
    obtain ⟨q, a, rfl⟩ := h d (List.mem_cons_self ..)
    obtain ⟨qs, c, l, e⟩ := os_lift (os := es) fun d hd => h d (List.mem_cons_of_mem _ hd)
    exact ⟨q :: qs, by rw [List.map_cons, ← c]; rfl, by simp [l], fun x hx => by
      rcases List.mem_cons.mp hx with rfl | hx
      · exact a
      · exact e x hx⟩
/-- a comprehension whose items are all of a kind -/
theorem compW_kind {α β : Type} {tg : Tg} {own : List Nat} {cW : Rho → (Bool → Prop) → Prop} {eW : Rho → (D → Prop) → Prop} {ρ : Rho} (e : α → D) (f : β → D) (P : β → Prop) {xs : List α} {Q : List D → Prop}
    (h : ∀ x ∈ xs, ∀ Q : Option D → Prop, (∀ y, P y → Q (some (f y))) → bindT tg (e x) (wipeR ρ own) fun ρ' => cW ρ' fun b => if b = true then eW ρ' fun y => Q (some y) else Q none)
    (q : ∀ ys : List β, ys.length = xs.length → (∀ y ∈ ys, P y) → Q (ys.map f)) : compW tg own cW eW ρ (xs.map e) [] Q := by
  refine compW_all e (fun _ o => ∃ y, P y ∧ o = some (f y)) (fun x hx Q k => h x hx Q fun y py => k _ ⟨y, py, rfl⟩) fun os hl hp => ?_
  obtain ⟨ys, a, b, c⟩ := os_lift (f := f) (P := P) (os := os) fun o ho => by
    obtain ⟨x, _, z⟩ := zip_mem2 hl ho
    exact hp _ z
  rw [List.nil_append, a]
  exact q ys (b.trans hl) c
theorem names_lay : ∀ s ∈ names, PyData.canLay0 (.str s) = true := by decide +kernel
theorem okd_rows {rows : List WRow} (h : ∀ q ∈ rows, q.1 ∈ names) : (D.lst (rows.map WRow.d)).okd := okd_of (n := 2) (ok1_lst fun d hd => by
  obtain ⟨q, hq, rfl⟩ := List.mem_map.mp hd
  refine ok1_tup fun e he => ?_
  simp [nD] at he
  rcases he with rfl | rfl | rfl | rfl
  · exact ok1_str (names_lay _ (h q hq))
  · exact ok1_int
  · exact ok1_int
  · exact ok1_int) (by omega)
theorem rng0 {n : Nat} : rngD 0 n = (List.range n).map fun i : Nat => .int (0 + (i : Nat)) := rfl
theorem kk55 : Keeps Gs N55 B55 4 G55 := by
  rintro ds R ⟨later, slots, tags, size, rfl, ⟨m1, m2, m3, m4, m5, m6, m7, m8, m9, m10⟩, r⟩
  refine ⟨rfl, ?_⟩
  have sz := size_big
  simp [ρ0, gcs, B55, N55, isLD, strsD]
  refine forW_inv D.str (fun rest ρ => ∃ (acc : List WRow) (pre : List Str) (x : Slot), ρ = [some (false, .src), some (false, strsD slots), some (false, strsD tags), some (false, nD size), some (true, .lst (acc.map WRow.d)), x, none, none, none, none] ∧ pre ++ rest = slots ∧ (acc.map (·.1)).Sublist pre ∧ ∀ r ∈ acc, r.2.1 < size ∧ r.2.2.1 < size ∧ r.2.2.2 < size) (fun ρ hρ => ?_) (fun s rest ρ hI N hN => ?_) ⟨[], [], none, rfl, rfl, List.Sublist.refl _, fun r h => by cases h⟩
  · obtain ⟨acc, pre, x, rfl, e, sub, ok⟩ := hρ
    have rest : ∀ (pool : Option Nat) (non : Nat), (acc ≠ [] ∨ pool ≠ none) → (∀ q, pool = some q → q < size) → non < size → G52 [.src, .int 3] fun d => ∃ i, d = .int i ∧ -4611686018427387904 ≤ i ∧ i ≤ ↑sizeLine ∧ compW (.name 9) [9] (wpC Gs .no) (fun ρ' Q' => ∃ d, ρ'[0]? = some (some (false, d)) ∧ ∃ d_1, ρ'[2]? = some (some (false, d_1)) ∧ G53 [d, d_1] Q')
        [some (false, .src), some (false, strsD slots), some (false, strsD tags), some (false, nD size), some (true, .lst (acc.map WRow.d)), x, none, some (false, oD pool), some (false, .int non), none] (rngD 0 i.toNat) [] fun es => bltW .sset (.lst es) fun x => bltW .tuple x fun d => G52 [.src, .int 2] fun x => eqOk x (.int 0) ∧
          if x.eqd (.int 0) = true then R (.tup [.str "wait", .tup (acc.map WRow.d), oD pool, .int non, d]) else G52 [.src, nD size] fun d_1 => R (.tup [.str "poll", .tup (acc.map WRow.d), oD pool, .int non, d_1, d]) := fun pool non h1 h2 h3 => by
      refine call52 (by omega) (by omega) fun n hn => ⟨n, rfl, by omega, by omega, ?_⟩
      rw [rng0]
      refine compW_kind (fun i : Nat => .int (0 + (i : Nat))) D.str (fun s => s ∈ tags) (fun i hi Q q => ?_) fun ys yl yp => ?_
      · simp
        exact call53s m7 (by omega) q
      · simp at yl
        refine ⟨sorts_str, by rw [List.length_map]; omega, .inr flat_str, fun es e1 e2 e3 => ?_⟩
        obtain ⟨ss, rfl, s1, s2, s3⟩ := sset_str e1 e2 e3
        rw [b_tup_l]
        have sub' : (acc.map (·.1)).Sublist slots := by rw [← e, List.append_nil]; exact sub
        have ok' : ∀ lat : Option Nat, (∀ q, lat = some q → q < size) → InsOk later slots size (.wait acc pool non lat ss) := fun lat hl => ⟨sub', ok, h1, h2, h3, hl, fun s hs => m3 s (yp s (s2 s hs)), s1, by omega⟩
        refine call52 (by omega) (by omega) fun k hk => ?_
        simp
        by_cases k0 : k = 0
        · rw [if_pos k0]
          exact r (.wait acc pool non none ss) (ok' none fun q z => by cases z)
        · rw [if_neg k0]
          refine call52 (by omega) (by omega) fun l hl => ?_
          exact r (.wait acc pool non (some l) ss) (ok' (some l) fun q z => by cases z; omega)
    have an : ∀ q ∈ acc, q.1 ∈ names := fun q hq => m2 _ (by rw [← e, List.append_nil]; exact sub.subset (List.mem_map_of_mem hq))
    simp [nD]
    refine call52 (by omega) (by omega) fun n hn => ?_
    simp
    refine call52 (by omega) (by omega) fun non hnon => ?_
    refine ⟨.inr ⟨okd_rows an, okd_of (n := 1) (ok1_lst fun d h => by cases h) (by omega)⟩, rfl, ?_⟩
    by_cases n0 : n = 0
    · subst n0
      by_cases ae : acc = []
      · rw [if_pos (by rw [ae]; rfl)]
        rw [if_pos (by omega)]
        exact rest (some 0) non (.inr (by simp)) (fun q z => by cases z; omega) (by omega)
      · rw [if_neg (by cases acc with | nil => exact absurd rfl ae | cons a b => simp)]
        exact rest none non (.inl ae) (fun q z => by cases z) (by omega)
    · have ep : ((n : Int) - 1) = ((n - 1 : Nat) : Int) := by omega
      have g := rest (some (n - 1)) non (.inr (by simp)) (fun q z => by cases z; omega) (by omega)
      rw [ep]
      by_cases ae : acc = []
      · rw [if_pos (by rw [ae]; rfl)]
        rw [if_neg (by omega)]
        exact g
      · rw [if_neg (by cases acc with | nil => exact absurd rfl ae | cons a b => simp)]
        exact g
  · obtain ⟨acc, pre, x, rfl, e, sub, ok⟩ := hI
    simp
    refine call52 (by omega) (by omega) fun n hn => ?_
    simp [nD]
    by_cases n0 : 0 < n
    · rw [if_pos n0]
      have al : acc.length ≤ 2 := by
        have := sub.length_le
        have := congrArg List.length e
        simp at this
        simp at *
        omega
      refine ⟨by omega, ?_⟩
      refine call52 (by omega) (by omega) fun a ha => ?_
      refine call52 (by omega) (by omega) fun b hb => ?_
      refine call52 (by omega) (by omega) fun c hc => ?_
      refine hN _ ⟨acc ++ [(s, a, b, c)], pre ++ [s], some (false, .str s), ?_, by simpa using e, ?_, ?_⟩
      · rw [List.map_append]; rfl
      · rw [List.map_append]; exact sub.append (List.Sublist.refl _)
      · intro r hr
        rcases List.mem_append.mp hr with hr | hr
        · exact ok r hr
        · simp at hr; subst hr; show a < size ∧ b < size ∧ c < size; omega
    · rw [if_neg n0]
      exact hN _ ⟨acc, pre ++ [s], _, rfl, by simpa using e, sub.trans (List.sublist_append_left _ _), ok⟩
end Fy
end
section
/-! FyK24 -/
namespace Fy
open PySem PySem.Spec PyProof.Rows L2
theorem okd_strs {ss : List Str} (h : ∀ s ∈ ss, s ∈ names) : (strsD ss).okd := okd_of (n := 1) (ok1_tup fun d hd => by
  obtain ⟨q, hq, rfl⟩ := List.mem_map.mp hd
  exact ok1_str (names_lay _ (h q hq))) (by omega)
theorem okd_tnil : (D.tup []).okd := okd_of (n := 1) (ok1_tup fun d h => by cases h) (by omega)
@[simp] theorem eqd_strs {ss : List Str} : (strsD ss).eqd (.tup []) = ss.isEmpty := by cases ss <;> rfl
section
variable {Q : D → Prop}
theorem call55 {later slots tags : List Str} {size : Nat} (m : MakeOk later slots tags size) (q : ∀ i, InsOk later slots size i → Q i.d) : G55 [.src, strsD slots, strsD tags, nD size] Q := ⟨later, slots, tags, size, rfl, m, q⟩
theorem call56 {later slots tags : List Str} {size : Nat} (m : MakeOk later slots tags size) (h : later ≠ []) (q : ∀ i, InsOk later slots size i → Q i.d) : G56 [.src, strsD later, strsD slots, strsD tags, nD size] Q := ⟨later, slots, tags, size, rfl, m, h, q⟩
theorem call57 {later slots tags : List Str} {size : Nat} (m : MakeOk later slots tags size) (q : ∀ i, InsOk later slots size i → Q i.d) : G57 [.src, strsD later, strsD slots, strsD tags, nD size] Q := ⟨later, slots, tags, size, rfl, m, q⟩
end
theorem kk57 : Keeps Gs N57 B57 5 G57 := by
  rintro ds R ⟨later, slots, tags, size, rfl, M, r⟩
  obtain ⟨m1, m2, m3, m4, m5, m6, m7, m8, m9, m10⟩ := id M
  refine ⟨rfl, ?_⟩
  have sz := size_big
  have e1 : eqOk (strsD later) (.tup []) := .inr ⟨okd_strs m1, okd_tnil⟩
  have e2 : eqOk (strsD slots) (.tup []) := .inr ⟨okd_strs m2, okd_tnil⟩
  have tail : ∀ (word : Str), ((word = "go" ∨ word = "wait" ∨ word = "exit") ∨ (word = "fork" ∧ later ≠ []) ∨ ((word = "kill" ∨ word = "release") ∧ slots ≠ [])) → (fun d : D =>
        eqOk d (D.str "go") ∧
          if d.eqd (D.str "go") = true then
            G52 [D.src, nD size] fun d => G52 [D.src, nD size] fun d_1 => bltW Blt.sset (D.lst [d, d_1]) fun x => bltW Blt.tuple x fun d => R (D.tup [D.str "go", d])
          else
            eqOk d (D.str "fork") ∧
              if d.eqd (D.str "fork") = true then G56 [D.src, strsD later, strsD slots, strsD tags, nD size] R
              else
                eqOk d (D.str "exit") ∧
                  if d.eqd (D.str "exit") = true then G52 [D.src, D.int 2] fun d => R (D.tup [D.str "exit", d])
                  else
                    eqOk d (D.str "wait") ∧
                      if d.eqd (D.str "wait") = true then G55 [D.src, strsD slots, strsD tags, nD size] R
                      else G53 [D.src, strsD slots] fun d_1 => G52 [D.src, nD size] fun d_2 => R (D.tup [d, d_1, d_2])) (.str word) := fun word h => by
    rcases h with (rfl | rfl | rfl) | ⟨rfl, h⟩ | ⟨rfl | rfl, h⟩
    · simp (decide := true)
      refine call52 (by omega) (by omega) fun a ha => call52 (by omega) (by omega) fun b hb => ?_
      refine ⟨sorts_nat (ns := [a, b]), by simp, .inr (flat_nat' (ns := [a, b])), fun es e1 e2 e3 => ?_⟩
      obtain ⟨ns, rfl, n1, n2, n3, n4⟩ := sset_nat (xs := [a, b]) e1 e2 e3
      refine r (.go ns) ⟨fun z => ?_, n4, n1, fun t ht => ?_⟩
      · have := n3 a (by simp)
        rw [z] at this; cases this
      · have := n2 t ht
        simp at this
        omega
    · simp (decide := true)
      exact call55 M r
    · simp (decide := true)
      refine call52 (by omega) (by omega) fun a ha => ?_
      exact r (.exit a) (show a ≤ 1 by omega)
    · simp (decide := true)
      exact call56 M h r
    · simp (decide := true)
      refine call53s h (by omega) fun s hs => call52 (by omega) (by omega) fun a ha => ?_
      exact r (.kill s a) ⟨hs, by omega⟩
    · simp (decide := true)
      refine call53s h (by omega) fun s hs => call52 (by omega) (by omega) fun a ha => ?_
      exact r (.release s a) ⟨hs, by omega⟩
  simp [ρ0, gcs, B57, N57, e1, e2]
  have tg := tail "go" (.inl (.inl rfl))
  have tw := tail "wait" (.inl (.inr (.inl rfl)))
  have te := tail "exit" (.inl (.inr (.inr rfl)))
  by_cases l0 : later = []
  · rw [if_pos l0]
    by_cases s0 : slots = []
    · rw [if_pos s0]
      refine call53l (by simp) (by simp) ?_
      simp only [List.forall_mem_cons]
      exact ⟨tg, tw, tw, te, fun _ h => by cases h⟩
    · rw [if_neg s0]
      have tk := tail "kill" (.inr (.inr ⟨.inl rfl, s0⟩))
      have tr := tail "release" (.inr (.inr ⟨.inr rfl, s0⟩))
      refine call53l (by simp) (by simp) ?_
      simp only [List.forall_mem_cons]
      exact ⟨tg, tw, tw, te, tk, tr, fun _ h => by cases h⟩
  · rw [if_neg l0]
    have tf := tail "fork" (.inr (.inl ⟨rfl, l0⟩))
    by_cases s0 : slots = []
    · rw [if_pos s0]
      refine call53l (by simp) (by simp) ?_
      simp only [List.forall_mem_cons]
      exact ⟨tg, tw, tw, te, tf, tf, tf, tf, fun _ h => by cases h⟩
    · rw [if_neg s0]
      have tk := tail "kill" (.inr (.inr ⟨.inl rfl, s0⟩))
      have tr := tail "release" (.inr (.inr ⟨.inr rfl, s0⟩))
      refine call53l (by simp) (by simp) ?_
      simp only [List.forall_mem_cons]
      exact ⟨tg, tw, tw, te, tf, tf, tf, tf, tk, tr, fun _ h => by cases h⟩
end Fy
end
section
/-! FyK25 -/
namespace Fy
open PySem PySem.Spec PyProof.Rows L2
theorem ixN_nat {m n : Nat} (h : n < m) : ixN m (n : Int) = some n := by unfold ixN; simp; omega
theorem kk58 : Keeps Gs N58 B58 4 G58 := by
  rintro ds R ⟨name, later, tags, rfl, hn, hl, ll, ht, t0, tl, r⟩
  refine ⟨rfl, ?_⟩
  have sz := size_big
  have e1 : eqOk (strsD later) (.tup []) := .inr ⟨okd_strs hl, okd_tnil⟩
  have ret : ∀ (slots : List Str) (ys : List Ins) (size : Nat), MakeOk later slots tags size → ys.length = size → (∀ i ∈ ys, InsOk later slots size i) → R (.tup [.str name, strsD slots, .tup (ys.map Ins.d)]) := fun slots ys size M yl yp => by
    obtain ⟨m1, m2, m3, m4, m5, m6, m7, m8, m9, m10⟩ := M
    refine r ⟨name, slots, ys⟩ ⟨hn, m2, m4, m5, ?_, ?_, ?_⟩ rfl
    · intro z
      rw [show ys = [] from z] at yl
      simp at yl; omega
    · show ys.length ≤ 7; omega
    · intro i hi
      show InsOk later slots ys.length i
      rw [yl]; exact yp i hi
  have fin2 : ∀ (slots : List Str) (size : Nat) (ys : List Ins), MakeOk later slots tags size → ys.length = size → (∀ i ∈ ys, InsOk later slots size i) →
      if later = [] then R (.tup [.str name, strsD slots, .tup (ys.map Ins.d)])
      else G52 [.src, .int 4] fun x => cmpW Op.gt x (.int 0) fun k =>
        if k = true then G56 [.src, strsD later, strsD slots, strsD tags, .int size] fun y => ∃ x, ixN (ys.map Ins.d).length 0 = some x ∧ R (.tup [.str name, strsD slots, .tup ((ys.map Ins.d).set x y)])
        else R (.tup [.str name, strsD slots, .tup (ys.map Ins.d)]) := fun slots size ys M yl yp => by
    have r0 := ret slots ys size M yl yp
    by_cases l0 : later = []
    · rw [if_pos l0]; exact r0
    · rw [if_neg l0]
      refine call52 (by omega) (by omega) fun n hn => ?_
      rw [c_gt_i]
      by_cases n0 : (0 : Int) < n
      · rw [decide_eq_true n0, if_pos rfl]
        refine call56 M l0 fun i hi => ?_
        have y0 : 0 < ys.length := by rw [yl]; exact M.2.2.2.2.2.2.2.2.1
        refine ⟨0, ?_, ?_⟩
        · exact ixN_nat (n := 0) (by rw [List.length_map]; exact y0)
        · rw [← List.map_set]
          refine ret slots _ size M (by simp [yl]) fun j hj => ?_
          rcases List.mem_or_eq_of_mem_set hj with z | z
          · exact yp j z
          · rw [z]; exact hi
      · rw [decide_eq_false n0, if_neg (by simp)]
        exact r0
  have tail : ∀ (slots : List Str), (∀ s ∈ slots, s ∈ names) → asc slots → slots.length ≤ 2 → (fun d : D =>
    G52 [D.src, D.int 7] fun y =>
      addW (D.int 1) y fun d_1 =>
        ∃ i,
          d_1 = D.int i ∧
            -4611686018427387904 ≤ i ∧
              i ≤ ↑sizeLine ∧
                compW (Tg.name 7) [7] (wpC Gs EO.no)
                  (fun ρ' Q' =>
                    ∃ d,
                      ρ'[0]? = some (some (false, d)) ∧
                        ∃ d_2,
                          ρ'[2]? = some (some (false, d_2)) ∧
                            ∃ d_3,
                              ρ'[4]? = some (some (false, d_3)) ∧
                                ∃ d_4,
                                  ρ'[3]? = some (some (false, d_4)) ∧
                                    ∃ d_5, ρ'[5]? = some (some (false, d_5)) ∧ G57 [d, d_2, d_3, d_4, d_5] Q')
                  [some (false, D.src), some (false, D.str name), some (false, strsD later), some (false, strsD tags),
                    some (false, d), some (false, d_1), none, none]
                  (rngD 0 i.toNat) [] fun es =>
                  G52 [D.src, D.int 3] fun x =>
                    cmpW Op.gt x (D.int 0) fun k =>
                      if k = true then
                        G52 [D.src, D.int 2] fun d_2 =>
                          subW d_1 (D.int 1) fun x =>
                            ∃ n,
                              x = D.int n ∧
                                ∃ x,
                                  ixN es.length n = some x ∧
                                    if later = [] then
                                      R (D.tup [D.str name, d, D.tup (es.set x (D.tup [D.str "exit", d_2]))])
                                    else
                                      G52 [D.src, D.int 4] fun x_1 =>
                                        cmpW Op.gt x_1 (D.int 0) fun k =>
                                          if k = true then
                                            G56 [D.src, strsD later, d, strsD tags, d_1] fun y =>
                                              ∃ x_2,
                                                ixN es.length 0 = some x_2 ∧
                                                  R (D.tup [D.str name, d, D.tup ((es.set x (D.tup [D.str "exit", d_2])).set x_2 y)])
                                          else
                                            R (D.tup [D.str name, d, D.tup (es.set x (D.tup [D.str "exit", d_2]))])
                      else
                        if later = [] then R (D.tup [D.str name, d, D.tup es])
                        else
                          G52 [D.src, D.int 4] fun x =>
                            cmpW Op.gt x (D.int 0) fun k =>
                              if k = true then
                                G56 [D.src, strsD later, d, strsD tags, d_1] fun y =>
                                  ∃ x, ixN es.length 0 = some x ∧ R (D.tup [D.str name, d, D.tup (es.set x y)])
                              else R (D.tup [D.str name, d, D.tup es])) (strsD slots) := fun slots s1 s2 s3 => by
    refine call52 (by omega) (by omega) fun n hn => ?_
    have M : MakeOk later slots tags (1 + n) := ⟨hl, s1, ht, s2, s3, ll, t0, tl, by omega, by omega⟩
    rw [add_i]
    refine ⟨_, rfl, by omega, by omega, ?_⟩
    have en : (1 + (n : Int)) = ((1 + n : Nat) : Int) := by omega
    rw [en, Int.toNat_natCast, rng0]
    refine compW_kind (fun i : Nat => .int (0 + (i : Nat))) Ins.d (fun i => InsOk later slots (1 + n) i) (fun i hi Q q => ?_) fun ys yl yp => ?_
    · simp
      exact call57 M q
    · simp at yl
      have yl : ys.length = 1 + n := by omega
      refine call52 (by omega) (by omega) fun k hk => ?_
      rw [c_gt_i]
      by_cases k0 : (0 : Int) < k
      · rw [decide_eq_true k0, if_pos rfl]
        refine call52 (by omega) (by omega) fun c hc => ?_
        rw [sub_i]
        refine ⟨_, rfl, n, ?_, ?_⟩
        · rw [show (((1 + n : Nat) : Int) - 1) = (n : Int) from by omega]
          exact ixN_nat (by rw [List.length_map]; omega)
        · have e3 : (ys.map Ins.d).set n (D.tup [D.str "exit", D.int c]) = (ys.set n (.exit c)).map Ins.d := by rw [List.map_set]; rfl
          have f := fin2 slots (1 + n) (ys.set n (.exit c)) M (by simp [yl]) fun j hj => by
            rcases List.mem_or_eq_of_mem_set hj with z | z
            · exact yp j z
            · rw [z]; show c ≤ 1; omega
          rw [e3]
          rw [List.length_map, List.length_set, ← List.length_map (f := Ins.d)] at f
          exact f
      · rw [decide_eq_false k0, if_neg (by simp)]
        exact fin2 slots (1 + n) ys M yl yp
  simp [ρ0, gcs, B58, N58, e1, isLD]
  refine call53l (by simp) (by simp) ?_
  simp only [List.forall_mem_cons]
  have nl : ∀ ss : List Str, ss ∈ ([[], ["h"], ["wait"], ["a", "h"], ["b", "zz"]] : List (List Str)) → (∀ s ∈ ss, s ∈ names) ∧ asc ss ∧ ss.length ≤ 2 := by
    unfold asc
    decide +kernel
  have tl' : ∀ ss : List Str, ss ∈ ([[], ["h"], ["wait"], ["a", "h"], ["b", "zz"]] : List (List Str)) → _ := fun ss h => tail ss (nl ss h).1 (nl ss h).2.1 (nl ss h).2.2
  exact ⟨tl' [] (by simp), tl' [] (by simp), tl' ["h"] (by simp), tl' ["wait"] (by simp), tl' ["a", "h"] (by simp), tl' ["b", "zz"] (by simp), fun _ h => by cases h⟩
end Fy
end
section
/-! FyK26 -/
namespace Fy
open PySem PySem.Spec PyProof.Rows L2
def w0 : Sys := [⟨"main", ["h"], [.fork "lib" "l" "h" 1, .fork "work" "m" "" 2, .wait [("h", 3, 3, 3)] (some 4) 5 none ["m"], .wait [] (some 6) 5 none ["m"], .wait [("h", 6, 6, 6)] none 5 none ["l"], .exit 1, .exit 0]⟩,
  ⟨"work", [], [.fork "lib" "x" "" 1, .exit 0]⟩, ⟨"lib", [], [.exit 0]⟩]
def w1 : Sys := [⟨"p", ["a"], [.fork "c" "t" "a" 1, .kill "a" 2, .wait [("a", 3, 3, 3)] (some 2) 4 none ["t"], .wait [] (some 3) 4 none [], .exit 0]⟩,
  ⟨"c", ["b"], [.fork "w" "m" "b" 1, .fork "w" "m" "" 2, .exit 0]⟩, ⟨"w", [], [.exit 0]⟩]
def w2 : Sys := [⟨"p", [], [.fork "c" "u" "" 1, .wait [] (some 1) 2 none ["u"], .exit 0]⟩, ⟨"c", [], [.fork "w" "x" "" 1, .exit 0]⟩, ⟨"w", [], [.go [0, 1], .exit 1]⟩]
def w3 : Sys := [⟨"p", [], [.fork "w" "x" "" 1, .wait [] (some 2) 3 (some 1) [], .exit 0, .exit 1]⟩, ⟨"w", [], [.exit 0]⟩]
def w4 : Sys := [⟨"p", ["a"], [.fork "c" "u" "a" 1, .fork "c" "u" "a" 2, .wait [("a", 3, 3, 3)] (some 3) 4 none ["u"], .wait [] (some 3) 4 none [], .exit 0]⟩, ⟨"c", [], [.fork "w" "x" "" 1, .exit 0]⟩, ⟨"w", [], [.exit 0]⟩]
def w5 : Sys := [⟨"p", ["a", "b"], [.fork "q" "t" "a" 1, .fork "q" "u" "b" 2, .release "a" 3, .kill "b" 4, .wait [("a", 4, 4, 4), ("b", 4, 4, 5)] (some 4) 5 (some 4) ["t", "u"], .go [0, 6], .exit 1]⟩,
  ⟨"q", [], [.fork "c" "t" "" 1, .fork "c" "m" "" 2, .go [0, 3], .exit 1]⟩, ⟨"c", ["b"], [.fork "w" "m" "b" 1, .kill "b" 2, .wait [("b", 3, 3, 3)] none 3 none [], .exit 0]⟩, ⟨"w", [], [.exit 0]⟩]
theorem w0_ok : SysOk w0 := by
  simp (decide := true) [w0, SysOk, KdsOk, KdOk, InsOk, asc, names]
  repeat' (first | decide | (intro a b c d h1 h2 h3 h4; omega) | (intro a b c d h; rcases h with ⟨_, rfl, rfl, rfl⟩ | ⟨_, rfl, rfl, rfl⟩ <;> decide) | constructor)
theorem w1_ok : SysOk w1 := by
  simp (decide := true) [w1, SysOk, KdsOk, KdOk, InsOk, asc, names]
  repeat' (first | decide | (intro a b c d h1 h2 h3 h4; omega) | (intro a b c d h; rcases h with ⟨_, rfl, rfl, rfl⟩ | ⟨_, rfl, rfl, rfl⟩ <;> decide) | constructor)
theorem w2_ok : SysOk w2 := by
  simp (decide := true) [w2, SysOk, KdsOk, KdOk, InsOk, asc, names]
theorem w3_ok : SysOk w3 := by
  simp (decide := true) [w3, SysOk, KdsOk, KdOk, InsOk, asc, names]
theorem w4_ok : SysOk w4 := by
  simp (decide := true) [w4, SysOk, KdsOk, KdOk, InsOk, asc, names]
  repeat' (first | decide | (intro a b c d h1 h2 h3 h4; omega) | (intro a b c d h; rcases h with ⟨_, rfl, rfl, rfl⟩ | ⟨_, rfl, rfl, rfl⟩ <;> decide) | constructor)
theorem w5_ok : SysOk w5 := by
  simp (decide := true) [w5, SysOk, KdsOk, KdOk, InsOk, asc, names]
  repeat' (first | decide | (intro a b c d h1 h2 h3 h4; omega) | (intro a b c d h; rcases h with ⟨_, rfl, rfl, rfl⟩ | ⟨_, rfl, rfl, rfl⟩ <;> decide) | constructor)
theorem kk54 : Keeps Gs N54 B54 1 G54 := by
  rintro ds R ⟨rfl, r⟩
  refine ⟨rfl, ?_⟩
  simp [ρ0, gcs, B54, N54]
  refine call52 (by omega) (by omega) fun n hn => ?_
  have h : n = 0 ∨ n = 1 ∨ n = 2 ∨ n = 3 ∨ n = 4 ∨ n = 5 := by omega
  rcases h with rfl | rfl | rfl | rfl | rfl | rfl
  · simp
    exact r w0 w0_ok
  · simp
    exact r w1 w1_ok
  · simp
    exact r w2 w2_ok
  · simp
    exact r w3 w3_ok
  · simp
    exact r w4 w4_ok
  · simp
    exact r w5 w5_ok
end Fy
end
section
/-! FyK27 -/
namespace Fy
open PySem PySem.Spec PyProof.Rows L2
theorem kds_of {L : List Str} : ∀ {xs : List Str} {n : Nat} {os : List (Option D)}, L.drop n = xs → os.length = xs.length → (∀ q ∈ (xs.zipIdx n).zip os, ∃ k : Kd, q.2 = some k.d ∧ KdOk (L.drop (q.1.2 + 1)) k ∧ k.name = q.1.1) → ∃ ks : Sys, os.filterMap id = ks.map Kd.d ∧ ks.map (·.name) = xs ∧ KdsOk ks
  | [], n, [], _, _, _ => ⟨[], rfl, rfl, trivial⟩
  | [], n, _ :: _, _, h, _ => by simp at h
  | x :: xs, n, [], _, h, _ => by simp at h
  | x :: xs, n, o :: os, e, h, p => by
    have e' : L.drop (n + 1) = xs := by rw [← List.drop_drop, e]; rfl
    obtain ⟨k, k1, k2, k3⟩ := p ((x, n), o) (by rw [List.zipIdx_cons, List.zip_cons_cons]; exact List.mem_cons_self ..)
    obtain ⟨ks, a, b, c⟩ := kds_of (L := L) (xs := xs) (n := n + 1) (os := os) e' (by simpa using h) fun q hq => p q (by rw [List.zipIdx_cons, List.zip_cons_cons]; exact List.mem_cons_of_mem _ hq)
    have k1 : o = some k.d := k1
    subst k1
    refine ⟨k :: ks, by rw [List.map_cons, ← a]; rfl, by rw [List.map_cons, b]; exact congrArg (· :: xs) k3, ?_, c⟩
    rw [b, ← e']
    exact k2
theorem kk59 : Keeps Gs N59 B59 1 G54 := by
  rintro ds R ⟨rfl, r⟩
  refine ⟨rfl, ?_⟩
  have sz := size_big
  simp [ρ0, gcs, B59, N59]
  refine call52 (by omega) (by omega) fun n hn => ?_
  simp
  by_cases n0 : n = 0
  · rw [if_pos n0]
    exact ⟨rfl, r⟩
  · rw [if_neg n0]
    have tail2 : ∀ (L tags : List Str), L ≠ [] → L.length ≤ 4 → L.Nodup → (∀ s ∈ L, s ∈ names) → (∀ s ∈ tags, s ∈ names) → tags ≠ [] → tags.length ≤ 3 → (fun d_1 : D =>
                ∃ xs,
                  itemsD (strsD L) = some xs ∧
                    compW (Tg.tup [3, 4]) [3, 4] (wpC Gs EO.no)
                      (fun ρ' Q' =>
                        ∃ d,
                          ρ'[0]? = some (some (false, d)) ∧
                            ∃ d_2,
                              ρ'[4]? = some (some (false, d_2)) ∧
                                ∃ d_3,
                                  ρ'[1]? = some (some (false, d_3)) ∧
                                    ∃ d_4,
                                      ρ'[3]? = some (some (false, d_4)) ∧
                                        addW d_4 (D.int 1) fun d_5 =>
                                          ∃ i,
                                            d_5 = D.int i ∧
                                              slW d_3 (some i) none fun d_6 =>
                                                ∃ d_7, ρ'[2]? = some (some (false, d_7)) ∧ G58 [d, d_2, d_6, d_7] Q')
                      [some (false, D.src), some (false, strsD L), some (false, d_1), none, none] (enumD 0 xs) [] fun es =>
                      R (D.tup es)) (strsD tags) := fun L tags l0 l1 l2 l3 t1 t2 t3 => by
      refine ⟨_, rfl, ?_⟩
      rw [enumD_map]
      refine compW_all (fun q : Str × Nat => D.raw [.int q.2, .str q.1]) (fun q o => ∃ k : Kd, o = some k.d ∧ KdOk (L.drop (q.2 + 1)) k ∧ k.name = q.1) (fun q hq Q z => ?_) fun os hl hp => ?_
      · simp
        have e : ∀ {Q : D → Prop}, slW (strsD L) (some ((q.2 : Int) + 1)) none Q = Q (strsD (L.drop (q.2 + 1))) := fun {Q} => by
          show Q (.tup (cutD (L.map D.str) (some ((q.2 : Int) + 1)) none)) = _
          rw [cutF1, ← List.map_drop]; rfl
        rw [e]
        have m : q.1 ∈ L := by
          have := List.mem_zipIdx_iff_getElem?.mp hq
          exact List.mem_of_getElem? this
        refine ⟨q.1, L.drop (q.2 + 1), tags, rfl, l3 _ m, fun s hs => l3 s (List.drop_subset _ _ hs), ?_, t1, t2, t3, fun k k1 k2 => z _ ⟨k, rfl, k1, k2⟩⟩
        rw [List.length_drop]; omega
      · obtain ⟨ks, k1, k2, k3⟩ := kds_of (L := L) (xs := L) (n := 0) (os := os) rfl (by rw [hl, List.length_zipIdx]) hp
        rw [List.nil_append, k1]
        have kl : ks.length = L.length := by rw [← k2, List.length_map]
        refine r ks ⟨?_, by omega, by rw [k2]; exact l2, k3⟩
        intro z
        subst z
        exact l0 k2.symm
    have tail : ∀ (L : List Str), L.length = 4 → L.Nodup → (∀ s ∈ L, s ∈ names) → (fun x : D =>
    G52 [D.src, D.int 3] fun y =>
      addW (D.int 2) y fun d =>
        ∃ i,
          d = D.int i ∧
            slW x none (some i) fun d =>
              G53
                [D.src,
                  D.lst
                    [D.tup [D.str "l", D.str "m", D.str "x"],
                      D.tup [D.str "take", D.str "none", D.str "t"],
                      D.tup [D.str "abcdefgh", D.str "a", D.str "b"]]]
                fun d_1 =>
                ∃ xs,
                  itemsD d = some xs ∧
                    compW (Tg.tup [3, 4]) [3, 4] (wpC Gs EO.no)
                      (fun ρ' Q' =>
                        ∃ d,
                          ρ'[0]? = some (some (false, d)) ∧
                            ∃ d_2,
                              ρ'[4]? = some (some (false, d_2)) ∧
                                ∃ d_3,
                                  ρ'[1]? = some (some (false, d_3)) ∧
                                    ∃ d_4,
                                      ρ'[3]? = some (some (false, d_4)) ∧
                                        addW d_4 (D.int 1) fun d_5 =>
                                          ∃ i,
                                            d_5 = D.int i ∧
                                              slW d_3 (some i) none fun d_6 =>
                                                ∃ d_7, ρ'[2]? = some (some (false, d_7)) ∧ G58 [d, d_2, d_6, d_7] Q')
                      [some (false, D.src), some (false, d), some (false, d_1), none, none] (enumD 0 xs) [] fun es =>
                      R (D.tup es)) (strsD L) := fun L l1 l2 l3 => by
      refine call52 (by omega) (by omega) fun k hk => ?_
      rw [add_i]
      refine ⟨_, rfl, ?_⟩
      have e : ∀ {Q : D → Prop}, slW (strsD L) none (some (2 + (k : Int))) Q = Q (strsD (L.take (2 + k))) := fun {Q} => by
        show Q (.tup (cutD (L.map D.str) none (some (2 + (k : Int))))) = _
        rw [show (2 + (k : Int)) = ((2 + k : Nat) : Int) from by omega, cutT, ← List.map_take]; rfl
      rw [e]
      refine call53l (by simp) (by simp) ?_
      simp only [List.forall_mem_cons]
      have tl : (L.take (2 + k)).length = 2 + k := by rw [List.length_take]; omega
      have q1 : L.take (2 + k) ≠ [] := fun z => by rw [z] at tl; simp at tl; omega
      have q2 : (L.take (2 + k)).length ≤ 4 := by omega
      have q3 : (L.take (2 + k)).Nodup := l2.sublist (List.take_sublist _ _)
      have q4 : ∀ s ∈ L.take (2 + k), s ∈ names := fun s hs => l3 s (List.take_subset _ _ hs)
      exact ⟨tail2 _ ["l", "m", "x"] q1 q2 q3 q4 (by decide +kernel) (by simp) (by simp), tail2 _ ["take", "none", "t"] q1 q2 q3 q4 (by decide +kernel) (by simp) (by simp), tail2 _ ["abcdefgh", "a", "b"] q1 q2 q3 q4 (by decide +kernel) (by simp) (by simp), fun _ h => by cases h⟩
    refine call53l (by simp) (by simp) ?_
    simp only [List.forall_mem_cons]
    exact ⟨tail ["main", "work", "lib", "w"] rfl (by decide +kernel) (by decide +kernel), tail ["z", "y", "x", "a"] rfl (by decide +kernel) (by decide +kernel), tail ["go", "fork", "exit", "wait"] rfl (by decide +kernel) (by decide +kernel), fun _ h => by cases h⟩
end Fy
end
section
/-! FyK8 -/
namespace Fy
open PySem PySem.Spec PyProof.Rows L2
/-! ### an end, as the program does it -/
theorem kids_bound {w : Sys} {T : Folk} (h : TOk w T) (hl : T.length ≤ 25) {p : Nat} (hp : p < T.length) : (rwAt T p).kids.length ≤ 25 ∧ (rwAt T p).pool.length ≤ 25 := by
  have a := nodup_lt (h.row p hp).nd fun c hc => ((h.kid p hp c).mp hc).1
  have b : (rwAt T p).kids.length = ((rwAt T p).slots.filterMap id).length + (rwAt T p).pool.length := by unfold Rw.kids; rw [List.length_append]
  omega
theorem slots2 {w : Sys} {p : Nat} {r : Rw} (S : SysOk w) (o : RwOk w p r) : r.slots.length ≤ 2 := by rw [o.sl]; exact (S.kd o.k).2.2.2.1
section
variable {Q : D → Prop} {w : Sys} {T : Folk} {p : Nat} {r : Rw}
theorem call25 (h1 : r.slots.length ≤ 2) (h2 : r.pool.length ≤ 30) (q : Q (.lst (r.kids.map nD))) : G25 [r.row w p] Q := ⟨w, p, r, rfl, h1, h2, q⟩
theorem call26 (h1 : p < T.length) (h2 : (rwAt T p).here = true) (q : Q (.bl (rwAt T p).code.isSome)) : G26 [thereD w T, nD p] Q := ⟨w, T, p, rfl, h1, h2, q⟩
end
/-- the rows that an end sets -/
def endUps (T : Folk) (x code : Nat) : List (Nat × Rw) :=
  (x, { rwAt T x with slots := (rwAt T x).slots.map fun _ => none, pool := [], code := some code }) :: ((rwAt T x).kids.map fun c => (c, { rwAt T c with parent := (rwAt T x).parent })) ++
    (match (rwAt T x).parent with | none => [] | some q => [(q, { rwAt T q with pool := sortN ((rwAt T q).pool ++ (rwAt T x).kids) })])
theorem end_ups {w : Sys} {T : Folk} (h : TOk w T) {x code : Nat} (hx : x < T.length) (hh : (rwAt T x).here = true) : upT T (endUps T x code) = endedT T x code ∧ UpOk T (endUps T x code) := by
  have E := h.ended (code := code) hx hh
  have kx : ∀ {c : Nat}, c ∈ (rwAt T x).kids → c < T.length ∧ (rwAt T c).here = true ∧ x < c := fun {c} z => by
    obtain ⟨a, b, d⟩ := (h.kid x hx c).mp z
    exact ⟨a, b, h.parlt a b d⟩
  have px : ∀ {q : Nat}, (rwAt T x).parent = some q → q < x ∧ (rwAt T q).here = true := fun {q} e => ⟨h.parlt hx hh e, (h.parliv hx hh e).2.1⟩
  have key : (endUps T x code).map (·.1) = x :: (rwAt T x).kids ++ (rwAt T x).parent.toList := by
    unfold endUps
    cases (rwAt T x).parent <;> simp [List.map_map, Function.comp_def]
  have nd : ((endUps T x code).map (·.1)).Nodup := by
    rw [key]
    show (x :: ((rwAt T x).kids ++ (rwAt T x).parent.toList)).Nodup
    rw [List.nodup_cons]
    constructor
    · intro z
      rcases List.mem_append.mp z with z | z
      · have := (kx z).2.2; omega
      · have := (px (Option.mem_toList.mp z)).1; omega
    · rw [List.nodup_append]
      refine ⟨(h.row x hx).nd, by cases (rwAt T x).parent <;> simp, fun a ha b hb z => ?_⟩
      have := (kx ha).2.2
      have := (px (Option.mem_toList.mp hb)).1
      omega
  have mem : ∀ {u : Nat × Rw}, u ∈ endUps T x code → (u = (x, { rwAt T x with slots := (rwAt T x).slots.map fun _ => none, pool := [], code := some code })) ∨ (∃ c ∈ (rwAt T x).kids, u = (c, { rwAt T c with parent := (rwAt T x).parent })) ∨ ∃ q, (rwAt T x).parent = some q ∧ u = (q, { rwAt T q with pool := sortN ((rwAt T q).pool ++ (rwAt T x).kids) }) := fun {u} hu => by
    unfold endUps at hu
    rcases List.mem_append.mp hu with hu | hu
    · rcases List.mem_cons.mp hu with hu | hu
      · exact .inl hu
      · obtain ⟨c, hc, e⟩ := List.mem_map.mp hu
        exact .inr (.inl ⟨c, hc, e.symm⟩)
    · cases e : (rwAt T x).parent with
      | none => rw [e] at hu; cases hu
      | some q => rw [e] at hu; exact .inr (.inr ⟨q, rfl, by simpa using hu⟩)
  have lt : ∀ u ∈ endUps T x code, u.1 < T.length ∧ (rwAt T u.1).here = true ∧ u.2.here = true := fun u hu => by
    rcases mem hu with rfl | ⟨c, hc, rfl⟩ | ⟨q, hq, rfl⟩
    · exact ⟨hx, hh, hh⟩
    · exact ⟨(kx hc).1, (kx hc).2.1, (kx hc).2.1⟩
    · have := (px hq).1
      exact ⟨by show q < T.length; omega, (px hq).2, (px hq).2⟩
  obtain ⟨a, b, c⟩ := up_at nd fun u hu => (lt u hu).1
  refine ⟨folk_ext (a.trans E.len.symm) fun p hp => ?_, upok_of lt⟩
  rw [a] at hp
  by_cases hm : p ∈ (endUps T x code).map (·.1)
  · obtain ⟨u, hu, rfl⟩ := List.mem_map.mp hm
    rw [b u hu]
    rcases mem hu with rfl | ⟨c, hc, rfl⟩ | ⟨q, hq, rfl⟩
    · exact E.self.symm
    · exact (E.kid c hc).symm
    · exact (E.par q hq).symm
  · rw [c p fun u hu e => hm (List.mem_map.mpr ⟨u, hu, e⟩)]
    rw [key] at hm
    have m1 : p ≠ x := fun e => hm (by rw [e]; simp)
    have m2 : p ∉ (rwAt T x).kids := fun e => hm (by simp [e])
    have m3 : (rwAt T x).parent ≠ some p := fun e => hm (by rw [e]; simp)
    exact (E.oth p hp m1 m2 m3).symm
theorem kk32 : Keeps Gs N32 B32 3 G32 := by
  rintro ds R ⟨w, T, x, code, rfl, S, h, hl, hx, hh, r⟩
  refine ⟨rfl, ?_⟩
  have sz := size_big
  obtain ⟨b1, b2⟩ := kids_bound h hl hx
  obtain ⟨e1, e2⟩ := end_ups (code := code) h hx hh
  have R0 := h.row x hx
  have l2 := slots2 S R0
  simp [ρ0, B32, N32, gcs, nD, hx, hh]
  refine call25 l2 (by omega) ?_
  simp
  refine compW_map nD (fun c => Rw.row w c { rwAt T c with parent := (rwAt T x).parent }) (fun c hc Q q => ?_) ?_
  · obtain ⟨k1, k2, k3⟩ := (h.kid x hx c).mp hc
    simp [nD, k1, k2]
    exact q
  · rw [List.nil_append]
    refine ⟨by omega, ?_⟩
    have ul : (endUps T x code).length ≤ 30 := by
      unfold endUps
      cases (rwAt T x).parent <;> simp <;> omega
    rw [none_map]
    cases e : (rwAt T x).parent with
    | none =>
      rw [if_pos rfl]
      refine ⟨by rw [List.length_map]; omega, ?_⟩
      refine call27 (ups := endUps T x code) ?_ e2 (by omega) (by rw [e1]; exact r)
      unfold endUps
      simp [e, Rw.row, nD, Function.comp_def, oD, oi]
    | some q =>
      rw [if_neg (by simp)]
      obtain ⟨q1, q2, q3, q4⟩ := h.parliv hx hh e
      obtain ⟨c1, c2⟩ := kids_bound h hl q1
      have ex : ∀ {Q : D → Prop}, ixW (thereD w T) (oD (some q)) Q = Q ((rwAt T q).row w q) := fun {Q} => dx q1 q2
      rw [ex]
      refine call30 (by omega) (by omega) ?_
      refine ⟨by rw [List.length_map]; omega, ?_⟩
      refine call27 (ups := endUps T x code) ?_ e2 (by omega) (by rw [e1]; exact r)
      unfold endUps
      simp [e, Rw.row, nD, Function.comp_def, oD, oi]
end Fy
end
section
/-! FyK9 -/
namespace Fy
open PySem PySem.Spec PyProof.Rows L2
/-! ### waits and moves -/
section
variable {Q : D → Prop} {w : Sys} {T : Folk} {p : Nat} {r : Rw}
theorem call33 {rows : List WRow} {pool : Option Nat} {non : Nat} {lat : Option Nat} {meant : List Str} (S : SysOk w) (o : RwOk w p r) (h : ∀ q ∈ rows, q.1 ∈ (kdAt w r.k).slots) (q : Q (.lst ((seen w r rows).map nD))) : G33 [sysD w, r.row w p, (Ins.wait rows pool non lat meant).d] Q := ⟨w, p, r, rows, pool, non, lat, meant, rfl, S, o, h, q⟩
theorem call34 {rows : List WRow} {pool : Option Nat} {non : Nat} {lat : Option Nat} {meant : List Str} (S : SysOk w) (h : TOk w T) (hl : T.length ≤ 25) (hp : p < T.length) (hs : (rows.map (·.1)).Sublist (kdAt w (rwAt T p).k).slots) (q : Q (.lst ((waitMv w T (rwAt T p) rows pool lat).map mvD))) : G34 [sysD w, thereD w T, (rwAt T p).row w p, (Ins.wait rows pool non lat meant).d] Q := ⟨w, T, p, rows, pool, non, lat, meant, rfl, S, h, hl, hp, hs, q⟩
theorem call35 (S : SysOk w) (h : TOk w T) (hl : T.length ≤ 25) (hp : p < T.length) (q : Q (.lst ((movesT w T p).map mvD))) : G35 [sysD w, thereD w T, (rwAt T p).row w p] Q := ⟨w, T, p, rfl, S, h, hl, hp, q⟩
end
theorem kk33 : Keeps Gs N33 B33 3 G33 := by
  rintro ds R ⟨w, p, r', rows, pool, non, lat, meant, rfl, S, o, hs, r⟩
  refine ⟨rfl, ?_⟩
  simp [ρ0, B33, N33, gcs]
  refine compW_map WRow.d (fun q => oD (r'.slots.getD (slotIx w r' q.1) none)) (fun q hq Q h => ?_) ?_
  · simp
    refine call24 S o (hs q hq) ?_
    rw [nD, sx (by rw [o.sl]; exact List.idxOf_lt_length_of_mem (hs q hq))]
    exact h
  · rw [List.nil_append]
    refine compW_fm (fun q : WRow => oD (r'.slots.getD (slotIx w r' q.1) none)) (fun q => (r'.slots.getD (slotIx w r' q.1) none).map nD) (fun q hq Q h => ?_) ?_
    · cases e : r'.slots.getD (slotIx w r' q.1) none with
      | none => rw [e] at h; simp [gcs, oD, oi] at h ⊢; exact h
      | some c => rw [e] at h; simp [gcs, oD, oi] at h ⊢; exact h
    · unfold seen at r
      rw [List.map_filterMap] at r
      exact r
theorem take_list {T : Folk} (xs : List Nat) : xs.filterMap (fun c => if (rwAt T c).code.isSome = true then some (mvD (.take c)) else none) = ((xs.filter fun c => (rwAt T c).code.isSome).map Mv.take).map mvD := by
  induction xs with
  | nil => rfl
  | cons x xs ih =>
    rw [List.filterMap_cons, List.filter_cons]
    by_cases h : (rwAt T x).code.isSome = true
    · simp only [h, if_true, ih, List.map_cons]
    · simp only [h, ih]; simp
theorem kk34 : Keeps Gs N34 B34 4 G34 := by
  rintro ds R ⟨w, T, p, rows, pool, non, lat, meant, rfl, S, h, hl, hp, hs, r⟩
  refine ⟨rfl, ?_⟩
  have sz := size_big
  have R0 := h.row p hp
  obtain ⟨b1, b2⟩ := kids_bound h hl hp
  have ls := (looked_sub (pool := pool) S R0 hs).length_le
  have hk : ∀ c ∈ (if pool.isSome = true then seen w (rwAt T p) rows ++ (rwAt T p).pool else seen w (rwAt T p) rows), c < T.length ∧ (rwAt T c).here = true := fun c hc => by
    have := (looked_sub (pool := pool) S R0 hs).subset hc
    obtain ⟨x, y, z⟩ := (h.kid p hp c).mp this
    exact ⟨x, y⟩
  simp [ρ0, B34, N34, gcs]
  refine call33 S R0 (fun q hq => hs.subset (List.mem_map_of_mem hq)) ?_
  have turn : ∀ (c : Nat) (Q : Option D → Prop), Q (if (rwAt T c).code.isSome = true then some (mvD (.take c)) else none) → if (rwAt T c).code.isSome = true then Q (some (D.tup [D.str "take", D.int ↑c])) else Q none := fun c Q q => by
    by_cases hc : (rwAt T c).code.isSome = true
    · rw [if_pos hc] at q ⊢; exact q
    · rw [if_neg hc] at q ⊢; exact q
  unfold waitMv at r
  have fin : ∀ (looked near : List Nat), looked.length ≤ 30 → R (.lst (((looked.filter fun c => (rwAt T c).code.isSome).map Mv.take ++ (if near = [] then [Mv.non] else if lat.isSome = true then [Mv.later] else [])).map mvD)) →
      if near = [] then (((looked.filter fun c => (rwAt T c).code.isSome).map Mv.take).map mvD).length < sizeLine ∧ R (.lst (((looked.filter fun c => (rwAt T c).code.isSome).map Mv.take).map mvD ++ [.tup [.str "none", .int (-1)]]))
      else if (Ins.wait rows pool non lat meant).word = "poll" then (((looked.filter fun c => (rwAt T c).code.isSome).map Mv.take).map mvD).length < sizeLine ∧ R (.lst (((looked.filter fun c => (rwAt T c).code.isSome).map Mv.take).map mvD ++ [.tup [.str "later", .int (-1)]]))
      else R (.lst (((looked.filter fun c => (rwAt T c).code.isSome).map Mv.take).map mvD)) := fun looked near l r => by
    have ll : (((looked.filter fun c => (rwAt T c).code.isSome).map Mv.take).map mvD).length < sizeLine := by
      rw [List.length_map, List.length_map]
      exact Nat.lt_of_le_of_lt (List.length_filter_le _ _) (by omega)
    rw [List.map_append] at r
    by_cases e : near = []
    · rw [if_pos e] at r ⊢
      exact ⟨ll, r⟩
    · rw [if_neg e] at r ⊢
      cases lat with
      | none =>
        rw [if_neg (by simp (decide := true) [Ins.word])]
        simpa using r
      | some l =>
        rw [if_pos (by simp (decide := true) [Ins.word])]
        rw [if_pos (show (some l).isSome = true from rfl)] at r
        exact ⟨ll, r⟩
  cases pool with
  | none =>
    simp [isLD] at ls hk ⊢
    refine compW_fm nD (fun c => if (rwAt T c).code.isSome = true then some (mvD (.take c)) else none) (fun c hc Q q => ?_) ?_
    · simp [nD]
      refine call26 (hk c hc).1 (hk c hc).2 ?_
      simp
      exact turn c Q q
    · rw [List.nil_append, take_list]
      exact fin (seen w (rwAt T p) rows) (seen w (rwAt T p) rows) (by omega) (by simpa using r)
  | some g =>
    simp [isLD] at ls hk ⊢
    rw [← List.map_append]
    refine ⟨by omega, ?_⟩
    refine compW_fm nD (fun c => if (rwAt T c).code.isSome = true then some (mvD (.take c)) else none) (fun c hc Q q => ?_) ?_
    · have hc := List.mem_append.mp hc
      simp [nD]
      refine call26 (hk c hc).1 (hk c hc).2 ?_
      simp
      exact turn c Q q
    · rw [List.nil_append, take_list]
      refine call25 (slots2 S R0) (by omega) ?_
      have e : (((rwAt T p).kids.length : Int) = 0) = ((rwAt T p).kids = []) := by
        apply propext
        rw [← List.length_eq_zero_iff]; omega
      simp only [b_len_l, eqOk_i, true_and, eqd_i, decide_eq_true_eq, List.length_map (f := nD), e]
      exact fin (seen w (rwAt T p) rows ++ (rwAt T p).pool) (rwAt T p).kids (by rw [List.length_append]; omega) (by simpa using r)
theorem kk35 : Keeps Gs N35 B35 3 G35 := by
  rintro ds R ⟨w, T, p, rfl, S, h, hl, hp, r⟩
  refine ⟨rfl, ?_⟩
  have R0 := h.row p hp
  have I := S.ins R0
  simp [ρ0, B35, N35, gcs]
  refine call23 S R0 ?_
  unfold movesT at r
  generalize insAt w (rwAt T p) = i at r I
  cases i with
  | go ts =>
    simp (decide := true) [Ins.word, wpM, patW, Ins.d]
    refine compW_map nD (fun t => mvD (.go t)) (fun t ht Q q => ?_) ?_
    · simp; exact q
    · simp at r ⊢; exact r
  | wait rows pool non lat meant =>
    cases lat with
    | none =>
      simp (decide := true) [Ins.word, wpM, patW]
      exact call34 S h hl hp I.1 r
    | some l =>
      simp (decide := true) [Ins.word, wpM, patW]
      exact call34 S h hl hp I.1 r
  | _ =>
    simp (decide := true) [Ins.word, wpM, patW]
    exact r
end Fy
end
section
/-! FyK10 -/
namespace Fy
open PySem PySem.Spec PyProof.Rows L2
/-! ### all steps; a step's fault -/
theorem its_there {w : Sys} {T : Folk} : itsD (keysT T) (rowsT w T) = (hereFrom 0 T).map fun q => .raw [.int q.1, q.2.row w q.1] := by
  unfold keysT rowsT
  induction hereFrom 0 T with
  | nil => rfl
  | cons q L ih => simp only [List.map_cons, itsD, ih]
theorem flat_bound {α β : Type} (f : α → List β) (k : Nat) : ∀ {xs : List α}, (∀ x ∈ xs, (f x).length ≤ k) → (xs.flatMap f).length ≤ k * xs.length
  | [], _ => by simp
  | x :: xs, h => by
    have a := h x (List.mem_cons_self ..)
    have b := flat_bound f k (xs := xs) fun y hy => h y (List.mem_cons_of_mem _ hy)
    simp only [List.flatMap_cons, List.length_append, List.length_cons, Nat.mul_succ]
    omega
theorem kk36 : Keeps Gs N36 B36 2 G36 := by
  rintro ds R ⟨w, T, rfl, S, h, hl, r⟩
  refine ⟨rfl, ?_⟩
  have sz := size_big
  have rl := rowsT_len (w := w) (T := T)
  simp [ρ0, B36, N36, gcs, treeD, thereD_eq, fixKs]
  refine ⟨_, _, ⟨rfl, rfl⟩, ⟨rowsT_fixed, by omega⟩, ?_⟩
  rw [its_there]
  refine compW_fm (fun q : Nat × Rw => .raw [.int q.1, q.2.row w q.1]) (fun q => if q.2.code = none then some (q.2.row w q.1) else none) (fun q hq Q z => ?_) ?_
  · simp [keepR, gcs]
    by_cases e : q.2.code = none
    · rw [if_pos e] at z ⊢; exact z
    · rw [if_neg e] at z ⊢; exact z
  · have e1 : (hereFrom 0 T).filterMap (fun q => if q.2.code = none then some (q.2.row w q.1) else none) = ((hereFrom 0 T).filter fun q => q.2.code.isNone).map fun q => q.2.row w q.1 := by
      induction hereFrom 0 T with
      | nil => rfl
      | cons q L ih =>
        rw [List.filterMap_cons, List.filter_cons]
        by_cases e : q.2.code = none
        · simp [e, ih]
        · have : q.2.code.isNone = false := by cases h : q.2.code <;> simp_all
          simp [e, ih, this]
    rw [List.nil_append, e1]
    have inL : ∀ q ∈ (hereFrom 0 T).filter fun q => q.2.code.isNone, q.1 < T.length ∧ q.2 = rwAt T q.1 ∧ (rwAt T q.1).here = true ∧ (rwAt T q.1).code = none := fun q hq => by
      obtain ⟨a, b⟩ := List.mem_filter.mp hq
      obtain ⟨x, y, z⟩ := here_mem0.mp a
      exact ⟨x, y, y ▸ z, by rw [← y]; simpa using b⟩
    have fb : (((hereFrom 0 T).filter fun q => q.2.code.isNone).flatMap fun q => movesT w T q.1).length ≤ 27 * 25 := by
      refine Nat.le_trans (flat_bound _ 27 fun q hq => ?_) (Nat.mul_le_mul_left 27 ?_)
      · obtain ⟨a, b, c, d⟩ := inL q hq
        have := (moves_nd S h a).2
        have := (kids_bound h hl a).1
        omega
      · have := List.length_filter_le (fun q : Nat × Rw => q.2.code.isNone) (hereFrom 0 T)
        have := here_len (T := T) (n := 0)
        omega
    refine comp2W_map (fun q : Nat × Rw => q.2.row w q.1) (fun q => movesT w T q.1) (fun q m => stepD q.1 m) (by simp only [List.length_nil]; omega) (fun q hq acc Q l z => ?_) ?_
    · obtain ⟨a, b, c, d⟩ := inL q hq
      rw [b]
      simp
      refine call35 S h hl a ?_
      simp
      refine compI_map mvD (fun m => stepD q.1 m) l (fun m hm Q z => ?_) z
      simp [mvD]
      exact z
    · rw [List.nil_append]
      have e2 : (((hereFrom 0 T).filter fun q => q.2.code.isNone).flatMap fun q => (movesT w T q.1).map fun m => stepD q.1 m) = (((hereFrom 0 T).filter fun q => q.2.code.isNone).flatMap fun q => (movesT w T q.1).map fun m => ((q.1 : Int), m.word, m.num)).map fun t => .tup [.int t.1, .str t.2.1, .int t.2.2] := by
        rw [List.map_flatMap]
        simp only [List.map_map]
        rfl
      refine ⟨.inr (.inr ⟨_, e2⟩), fun es e _ => ?_⟩
      refine r es fun d => ?_
      rw [e.mem_iff, List.mem_flatMap, List.mem_map]
      constructor
      · rintro ⟨q, hq, hd⟩
        obtain ⟨m, hm, rfl⟩ := List.mem_map.mp hd
        obtain ⟨a, b, c, d⟩ := inL q hq
        exact ⟨(q.1, m), mem_all.mpr ⟨a, c, d, hm⟩, rfl⟩
      · rintro ⟨q, hq, rfl⟩
        obtain ⟨a, b, c, d⟩ := mem_all.mp hq
        exact ⟨(q.1, rwAt T q.1), List.mem_filter.mpr ⟨here_mem0.mpr ⟨a, rfl, b⟩, by simp [c]⟩, List.mem_map.mpr ⟨q.2, d, rfl⟩⟩
theorem words_of {i : Ins} : ∃ ws, wordsD i.word = some ws ∧ ∀ (w : Sys) (T : Folk) (p : Nat) (m : Mv), insAt w (rwAt T p) = i → m ∈ movesT w T p → m.word ∈ ws := by
  cases i with
  | wait rows pool non lat meant =>
    have key : ∀ (w : Sys) (T : Folk) (p : Nat) (m : Mv), insAt w (rwAt T p) = .wait rows pool non lat meant → m ∈ movesT w T p → m.word ∈ (["take", "none"] : List Str) ∨ (m.word = "later" ∧ lat.isSome = true) := fun w T p m e hm => by
      unfold movesT at hm
      rw [e] at hm
      rcases mem_wait hm with ⟨c, rfl, _, _⟩ | rfl | ⟨rfl, h⟩
      · exact .inl (by simp [Mv.word])
      · exact .inl (by simp [Mv.word])
      · exact .inr ⟨rfl, h⟩
    cases lat with
    | none =>
      refine ⟨["take", "none"], show wordsD "wait" = _ from by decide, fun w T p m e hm => ?_⟩
      rcases key w T p m e hm with h | ⟨_, h⟩
      · exact h
      · cases h
    | some l =>
      refine ⟨["take", "none", "later"], show wordsD "poll" = _ from by decide, fun w T p m e hm => ?_⟩
      rcases key w T p m e hm with h | ⟨h, _⟩
      · simp at h ⊢; rcases h with h | h <;> simp [h]
      · simp [h]
  | go ts =>
    refine ⟨["go"], show wordsD "go" = _ from by decide, fun w T p m e hm => ?_⟩
    unfold movesT at hm
    rw [e] at hm
    obtain ⟨t, _, rfl⟩ := List.mem_map.mp hm
    simp [Mv.word]
  | fork k t s g =>
    refine ⟨["fork"], show wordsD "fork" = _ from by decide, fun w T p m e hm => ?_⟩
    unfold movesT at hm
    rw [e] at hm
    simp at hm; subst hm; simp [Mv.word]
  | kill s g =>
    refine ⟨["kill"], show wordsD "kill" = _ from by decide, fun w T p m e hm => ?_⟩
    unfold movesT at hm
    rw [e] at hm
    simp at hm; subst hm; simp [Mv.word]
  | release s g =>
    refine ⟨["release"], show wordsD "release" = _ from by decide, fun w T p m e hm => ?_⟩
    unfold movesT at hm
    rw [e] at hm
    simp at hm; subst hm; simp [Mv.word]
  | exit c =>
    refine ⟨["exit"], show wordsD "exit" = _ from by decide, fun w T p m e hm => ?_⟩
    unfold movesT at hm
    rw [e] at hm
    simp at hm; subst hm; simp [Mv.word]
theorem nin_there {w : Sys} {T : Folk} {p : Nat} {Q : Bool → Prop} (hp : p < T.length) (hh : (rwAt T p).here = true) : cmpW .notin (.int p) (thereD w T) Q = Q false := by
  rw [thereD_eq, c_nin_d, decide_eq_true (keysT_mem.mpr ⟨hp, hh⟩)]; rfl
theorem kk37 : Keeps Gs N37 B37 3 G37 := by
  rintro ds R ⟨w, T, p, m, rfl, S, h, hl, ⟨hp, hh, hn, hm⟩, r⟩
  refine ⟨rfl, ?_⟩
  have sz := size_big
  obtain ⟨ws, w1, w2⟩ := words_of (i := insAt w (rwAt T p))
  have w3 := w2 w T p m rfl hm
  simp [ρ0, B37, N37, gcs, treeD]
  refine ⟨p, m, rfl, ?_⟩
  simp [stepD]
  rw [nD, nin_there hp hh]
  simp
  refine call26 hp hh ?_
  simp [hn, hp, hh]
  refine call23 S (h.row p hp) ?_
  simp
  refine ⟨_, w1, ?_⟩
  rw [if_neg (fun z => z _ w3 rfl)]
  refine call35 S h hl hp ?_
  rw [c_in_lt]
  refine ⟨.inr ⟨okd_of (ok1_mv (m := m)) (by omega), okd_of (ok1_lst fun d hd => ?_) (n := 2) (by omega)⟩, ?_⟩
  · obtain ⟨n, _, rfl⟩ := List.mem_map.mp hd
    exact ok1_mv
  · have := any_mv (m := m) (ms := movesT w T p)
    unfold mvD at this ⊢
    rw [this, decide_eq_true hm]
    exact r
end Fy
end
section
/-! FyK11 -/
namespace Fy
open PySem PySem.Spec PyProof.Rows L2
/-! ### a fork -/
theorem sortN_self {xs : List Nat} (h : xs.Pairwise (· < ·)) : sortN xs = xs :=
  List.Perm.eq_of_pairwise (le := (· ≤ ·)) (fun a b _ _ p q => Nat.le_antisymm p q) sortN_le (h.imp fun {a b} l => Nat.le_of_lt l) sortN_perm
section
variable {Q : D → Prop} {w : Sys} {T : Folk} {p : Nat} {r : Rw}
theorem call21 {i n : Nat} {tag : Str} {par : Option Nat} (S : SysOk w) (h : i < w.length) (q : Q ((newbornT w i tag par none).row w n)) : G21 [sysD w, nD n, .str (kdAt w i).name, .str tag, oD par] Q := ⟨w, n, i, tag, par, rfl, S, h, q⟩
theorem call21n {i n : Nat} {tag name : Str} {par : Option Nat} (S : SysOk w) (h : i < w.length) (e : (kdAt w i).name = name) (q : Q ((newbornT w i tag par none).row w n)) : G21 [sysD w, nD n, .str name, .str tag, oD par] Q := by subst e; exact call21 S h q
theorem call28 {g : Nat} (q : Q (Rw.row w p { r with place := g })) : G28 [r.row w p, nD g] Q := ⟨w, p, r, g, rfl, q⟩
theorem call31 {j : Nat} (h1 : j < r.slots.length) (h2 : r.slots.length ≤ 2) (h3 : r.pool.length ≤ 30) (q : Q (Rw.row w p (relRow r j))) : G31 [r.row w p, nD j] Q := ⟨w, p, r, j, rfl, h1, h2, h3, q⟩
theorem call32 {x code : Nat} (S : SysOk w) (h : TOk w T) (hl : T.length ≤ 25) (hx : x < T.length) (hh : (rwAt T x).here = true) (q : Q (thereD w (endedT T x code))) : G32 [thereD w T, nD x, nD code] Q := ⟨w, T, x, code, rfl, S, h, hl, hx, hh, q⟩
theorem call27_1 {r' : Rw} (hl : T.length ≤ 30) (hp : p < T.length) (hh : (rwAt T p).here = true) (hr : r'.here = true) (q : Q (thereD w (T.set p r'))) : starG G27 [thereD w T, r'.row w p] Q := by
  refine call27 (ups := [(p, r')]) rfl ⟨.inl ⟨hp, hh⟩, hr, trivial⟩ (by simp; omega) ?_
  show Q (thereD w (up1 T p r'))
  rw [show up1 T p r' = T.set p r' from if_pos hp]
  exact q
theorem len_born : bltW .len (bornD w T) Q = Q (.int T.length) := by unfold bornD; simp
end
theorem rel_set {r : Rw} {j n : Nat} (hj : j < r.slots.length) (hp : r.pool.Pairwise (· < ·)) : ({ relRow r j with slots := (relRow r j).slots.set j (some n) } : Rw) = { r with slots := r.slots.set j (some n), pool := sortN (r.pool ++ (r.slots.getD j none).toList) } := by
  unfold relRow
  cases e : r.slots.getD j none with
  | none => simp [sortN_self hp]
  | some c => simp [List.set_set]
theorem rel_len {r : Rw} {j : Nat} : (relRow r j).slots.length = r.slots.length := by
  unfold relRow
  split <;> simp
theorem rel_here {r : Rw} {j : Nat} : (relRow r j).here = r.here := by
  unfold relRow
  split <;> rfl
theorem fork_eq {w : Sys} {T : Folk} {p g : Nat} {kind tag slot : Str} (hp : p < T.length) (R0 : RwOk w p (rwAt T p)) (hs : slot = "" ∨ slot ∈ (kdAt w (rwAt T p).k).slots) {late : Rw}
    (hl : late = if slot = "" then { rwAt T p with pool := sortN ((rwAt T p).pool ++ [T.length]) } else { relRow (rwAt T p) (slotIx w (rwAt T p) slot) with slots := (relRow (rwAt T p) (slotIx w (rwAt T p) slot)).slots.set (slotIx w (rwAt T p) slot) (some T.length) }) :
    goesT (forkedT w T p kind tag slot) p g = T.set p { late with place := g } ++ [newbornT w ((w.map (·.name)).idxOf kind) tag (some p) (some (rwAt T p).place)] := by
  generalize hnb : newbornT w ((w.map (·.name)).idxOf kind) tag (some p) (some (rwAt T p).place) = b
  have t1 : rwAt (T ++ [b]) p = rwAt T p := by rw [rwAt_app, if_neg (by omega)]
  have sa : ∀ r : Rw, (T ++ [b]).set p r = T.set p r ++ [b] := fun r => by rw [List.set_append_left _ _ hp]
  unfold forkedT
  simp only [hnb]
  by_cases e : slot = ""
  · rw [if_pos e] at hl ⊢
    unfold goesT pooledT putT
    rw [t1]
    rw [rwAt_set (by simp; omega), if_pos rfl, List.set_set, sa]
    rw [hl]
  · rw [if_neg e] at hl ⊢
    have hs : slot ∈ (kdAt w (rwAt T p).k).slots := hs.resolve_left e
    have hj : slotIx w (rwAt T p) slot < (rwAt T p).slots.length := by rw [R0.sl]; exact List.idxOf_lt_length_of_mem hs
    rw [rel_set hj R0.pa] at hl
    unfold goesT slottedT pooledT putT
    rw [t1]
    rw [rwAt_set (by simp; omega), if_pos rfl, List.set_set, rwAt_set (by simp; omega), if_pos rfl, List.set_set, sa]
    rw [hl]
theorem up_fork {T : Folk} {p : Nat} {a b : Rw} (hp : p < T.length) : upT T [(p, a), (T.length, b)] = T.set p a ++ [b] := by
  show up1 (up1 T p a) T.length b = _
  rw [show up1 T p a = T.set p a from if_pos hp]
  exact if_neg (by simp)
theorem born_set {w : Sys} {T : Folk} {p : Nat} {r : Rw} (h : p < T.length → r.born w = (rwAt T p).born w) : (T.set p r).map (Rw.born w) = T.map (Rw.born w) := by
  apply List.ext_getElem? fun i => ?_
  rw [List.getElem?_map, List.getElem?_map, List.getElem?_set]
  by_cases e : p = i
  · subst e
    by_cases l : p < T.length
    · rw [if_pos rfl, if_pos l, rwAt_get l]
      exact congrArg some (h l)
    · rw [if_pos rfl, if_neg l, List.getElem?_eq_none (by omega)]
  · rw [if_neg e]
theorem kk38 : Keeps Gs N38 B38 4 G38 := by
  rintro ds R ⟨w, T, p, kind, tag, slot, g, rfl, S, h, hl, ⟨hp, hh, hn, hm⟩, hi, r⟩
  refine ⟨rfl, ?_⟩
  have sz := size_big
  have R0 := h.row p hp
  have I := S.ins R0
  rw [hi] at I
  obtain ⟨ik, it, is, ig⟩ := I
  obtain ⟨n1, n2⟩ := SysOk.named (SysOk.later ik)
  obtain ⟨b1, b2⟩ := kids_bound h hl hp
  have l2 := slots2 S R0
  have fin : ∀ late : Rw, late = (if slot = "" then { rwAt T p with pool := sortN ((rwAt T p).pool ++ [T.length]) } else { relRow (rwAt T p) (slotIx w (rwAt T p) slot) with slots := (relRow (rwAt T p) (slotIx w (rwAt T p) slot)).slots.set (slotIx w (rwAt T p) slot) (some T.length) }) →
      late.born w = (rwAt T p).born w → late.here = true → starG G27 [thereD w T, Rw.row w p { late with place := g }, (newbornT w ((w.map (·.name)).idxOf kind) tag (some p) none).row w T.length] fun d => R (.tup [d, .tup (T.map (Rw.born w) ++ [.tup [.str kind, .str tag, nD p, nD (rwAt T p).place]])]) := fun late e eb eh => by
    refine call27 (ups := [(p, { late with place := g }), (T.length, newbornT w ((w.map (·.name)).idxOf kind) tag (some p) (some (rwAt T p).place))]) rfl ⟨.inl ⟨hp, hh⟩, eh, .inr ?_, rfl, trivial⟩ (by simp; omega) ?_
    · show T.length = (up1 T p _).length
      rw [show up1 T p { late with place := g } = T.set p { late with place := g } from if_pos hp]
      simp
    · rw [up_fork hp, ← fork_eq (kind := kind) (tag := tag) hp R0 is e]
      have e2 : stepT w T p .fork = goesT (forkedT w T p kind tag slot) p g := by unfold stepT; simp only [hi]
      rw [e2] at r
      have e3 : bornD w (goesT (forkedT w T p kind tag slot) p g) = .tup (T.map (Rw.born w) ++ [.tup [.str kind, .str tag, nD p, nD (rwAt T p).place]]) := by
        rw [fork_eq (kind := kind) (tag := tag) hp R0 is e]
        unfold bornD
        rw [List.map_append, born_set (p := p) (r := { late with place := g }) fun _ => eb]
        simp only [List.map_cons, List.map_nil, Rw.born, newbornT, n2]
        rfl
      unfold treeD at r
      rw [e3] at r
      exact r
  simp [ρ0, B38, N38, gcs, treeD, Ins.d, len_born]
  have lq : ∀ d, R (.tup [d, .tup (T.map (Rw.born w) ++ [.tup [.str kind, .str tag, nD p, nD (rwAt T p).place]])]) → ∃ xs, itemsD (bornD w T) = some xs ∧ xs.length + 1 ≤ sizeLine ∧ R (.tup [d, .tup (xs ++ [.tup [.str kind, .str tag, .int p, .int (rwAt T p).place]])]) := fun d q => ⟨_, rfl, by simp; omega, q⟩
  by_cases e : slot = ""
  · rw [if_pos e]
    refine call30 (cs := [T.length]) (by omega) (by simp) (call28 (call21n (par := some p) S n1 n2 ?_))
    exact mono_gs 27 _ _ _ lq (fin { rwAt T p with pool := sortN ((rwAt T p).pool ++ [T.length]) } (by rw [if_pos e]) rfl hh)
  · rw [if_neg e]
    have is := is.resolve_left e
    have hj : slotIx w (rwAt T p) slot < (rwAt T p).slots.length := by rw [R0.sl]; exact List.idxOf_lt_length_of_mem is
    refine call24 S R0 is (call31 hj l2 (by omega) (call29 (c := some T.length) (by rw [rel_len]; exact hj) (by rw [rel_len]; exact l2) (call28 (call21n (par := some p) S n1 n2 ?_))))
    refine mono_gs 27 _ _ _ lq (fin _ (by rw [if_neg e]) ?_ ?_)
    · unfold relRow; split <;> rfl
    · exact rel_here.trans hh
end Fy
end
section
/-! FyK12 -/
namespace Fy
open PySem PySem.Spec PyProof.Rows L2
/-! ### a take, as the program does it -/
theorem dcW_fm {α : Type} {tg : Tg} {own : List Nat} {cW : Rho → (Bool → Prop) → Prop} {kW vW : Rho → (D → Prop) → Prop} {ρ : Rho} (e : α → D) (f : α → Option (Int × D)) : ∀ {xs : List α} {ks : List Int} {ds : List D} {Q : List Int → List D → Prop}, (ks ++ (xs.filterMap f).map (·.1)).Nodup →
    (∀ x ∈ xs, ∀ Q : Option (Int × D) → Prop, Q (f x) → bindT tg (e x) (wipeR ρ own) fun ρ' => cW ρ' fun b => if b = true then kW ρ' fun k => vW ρ' fun v => ∃ i, k = .int i ∧ Q (some (i, v)) else Q none) →
    Q (ks ++ (xs.filterMap f).map (·.1)) (ds ++ (xs.filterMap f).map (·.2)) → dcW tg own cW kW vW ρ (xs.map e) ks ds Q
  | [], ks, ds, Q, _, _, q => by simpa [dcW] using q
  | x :: xs, ks, ds, Q, nd, h, q => by
    refine h x (List.mem_cons_self ..) (fun o => match o with | some kv => dcW tg own cW kW vW ρ (xs.map e) (dput ks ds kv.1 kv.2).1 (dput ks ds kv.1 kv.2).2 Q | none => dcW tg own cW kW vW ρ (xs.map e) ks ds Q) ?_
    cases hf : f x with
    | none =>
      simp only [List.filterMap_cons, hf] at nd q
      exact dcW_fm e f nd (fun y m => h y (List.mem_cons_of_mem _ m)) q
    | some kv =>
      simp only [List.filterMap_cons, hf, List.map_cons] at nd q
      have nk : kv.1 ∉ ks := fun z => (List.nodup_append.mp nd).2.2 kv.1 z kv.1 (List.mem_cons_self ..) rfl
      show dcW tg own cW kW vW ρ (xs.map e) (dput ks ds kv.1 kv.2).1 (dput ks ds kv.1 kv.2).2 Q
      rw [dput_new nk]
      exact dcW_fm e f (by simpa using nd) (fun y m => h y (List.mem_cons_of_mem _ m)) (by simpa using q)
theorem left_eq {w : Sys} {T : Folk} {c : Nat} (hc : c < T.length) : thereD w (putT T c fun r => { r with here := false }) = .dic (((hereFrom 0 T).filterMap fun q => if q.1 ≠ c then some ((q.1 : Int), q.2.row w q.1) else none).map (·.1)) (((hereFrom 0 T).filterMap fun q => if q.1 ≠ c then some ((q.1 : Int), q.2.row w q.1) else none).map (·.2)) := by
  have e := here_out (n := 0) (r := { rwAt T c with here := false }) hc rfl
  rw [thereD_eq]
  unfold keysT rowsT putT
  rw [e]
  have g : ∀ L : List (Nat × Rw), (L.filterMap fun q => if q.1 ≠ c then some ((q.1 : Int), q.2.row w q.1) else none) = (L.filter fun q => decide (q.1 ≠ 0 + c)).map fun q => ((q.1 : Int), q.2.row w q.1) := fun L => by
    induction L with
    | nil => rfl
    | cons q L ih =>
      rw [List.filterMap_cons, List.filter_cons]
      by_cases z : q.1 = c
      · rw [if_neg (by simpa using z), if_neg (by simpa using z)]
        exact ih
      · rw [if_pos z, if_pos (by simpa using z), List.map_cons]
        exact congrArg _ ih
  rw [g, List.map_map, List.map_map]
  rfl
theorem left_nd {w : Sys} {T : Folk} {c : Nat} (hc : c < T.length) : (((hereFrom 0 T).filterMap fun q => if q.1 ≠ c then some ((q.1 : Int), q.2.row w q.1) else none).map (·.1)).Nodup := by
  have e := left_eq (w := w) hc
  rw [thereD_eq] at e
  injection e with e1 e2
  rw [← e1]
  exact keysT_nd
theorem oi_inj {a b : Option Nat} (h : oi a = oi b) : a = b := by
  cases a with
  | none => cases b with
    | none => rfl
    | some n =>
      have h : (-1 : Int) = n := h
      omega
  | some m => cases b with
    | none =>
      have h : (m : Int) = -1 := h
      omega
    | some n =>
      have h : (m : Int) = n := h
      exact congrArg some (by omega)
theorem slots_ix {sl : List (Option Nat)} {c j : Nat} {Q : D → Prop} (h : sl[j]? = some (some c)) (hi : sl.idxOf (some c) = j) (q : Q (.int j)) : idxW (.tup (sl.map oD)) (.int c) Q := by
  refine ⟨sl.map oi, by rw [List.map_map]; rfl, j, by rw [List.getElem?_map, h]; rfl, fun m hm e => ?_, q⟩
  rw [List.getElem?_map] at e
  cases hs : sl[m]? with
  | none => rw [hs] at e; cases e
  | some o =>
    rw [hs] at e
    have e : oi o = (c : Int) := by simpa using e
    have := oi_inj (b := some c) e
    subst this
    have := List.not_of_lt_findIdx (p := (· == some c)) (xs := sl) (i := m) (by rw [← hi] at hm; exact hm)
    have l := List.getElem?_eq_some_iff.mp hs
    simp [l.2] at this
theorem str_ix {ss : List Str} {j : Nat} {s : Str} {Q : D → Prop} (h : ss[j]? = some s) (q : Q (.str s)) : ixW (strsD ss) (.int j) Q := ⟨_, at_map h, q⟩
theorem head_fm {α : Type} {rows : List α} {c : α → Bool} {f : α → D} {q : α} (h : (rows.filter c).head? = some q) : atI (rows.filterMap fun z => if c z = true then some (f z) else none) 0 = some (f q) := by
  have e : rows.filterMap (fun z => if c z = true then some (f z) else none) = (rows.filter c).map f := by
    clear h
    induction rows with
    | nil => rfl
    | cons x rows ih =>
      rw [List.filterMap_cons, List.filter_cons]
      by_cases z : c x = true
      · simp [z, ih]
      · simp [z, ih]
  rw [e]
  cases hf : rows.filter c with
  | nil => rw [hf] at h; cases h
  | cons x r => rw [hf] at h; cases h; simp
theorem put_goes {U : Folk} {p g : Nat} {f : Rw → Rw} (hp : p < U.length) : goesT (putT U p f) p g = U.set p { f (rwAt U p) with place := g } := by
  unfold goesT putT
  rw [rwAt_set hp, if_pos rfl, List.set_set]
theorem kk39 : Keeps Gs N39 B39 5 G39 := by
  rintro ds R ⟨w, T, p, c, rows, pool, non, lat, meant, rfl, S, h, hl, ⟨hp, hh, hn, hm⟩, hi, r⟩
  refine ⟨rfl, ?_⟩
  have sz := size_big
  have R0 := h.row p hp
  have I := S.ins R0
  rw [hi] at I
  obtain ⟨sub, a2, a3, a4, a5, a6, a7, a8, a9⟩ := I
  have l2 := slots2 S R0
  unfold movesT at hm
  rw [hi] at hm
  rcases mem_wait hm with ⟨c', e, hc1, hc2⟩ | e | ⟨e, _⟩
  rotate_left
  · cases e
  · cases e
  cases e
  have ck := (looked_sub S R0 sub).subset hc1
  obtain ⟨hcl, hch, hcp⟩ := (h.kid p hp c).mp ck
  have hpc := h.parlt hcl hch hcp
  have b2 := (kids_bound h hl hp).2
  have es : stepT w T p (.take c) = takenT w T p c rows pool := by unfold stepT; simp only [hi]
  rw [es] at r
  have rl := rowsT_len (w := w) (T := T)
  have ip : rwAt (putT T c fun r => { r with here := false }) p = rwAt T p := by rw [rwAt_put hcl, if_neg (by omega)]
  simp [ρ0, B39, N39, gcs, thereD_eq, fixKs, nD, D.fixed]
  refine ⟨_, _, ⟨rfl, rfl⟩, ⟨rowsT_fixed, by omega⟩, ?_⟩
  rw [its_there]
  refine dcW_fm (fun q : Nat × Rw => .raw [.int q.1, q.2.row w q.1]) (fun q => if q.1 ≠ c then some ((q.1 : Int), q.2.row w q.1) else none) (left_nd hcl) (fun q hq Q z => ?_) ?_
  · simp [keepR]
    by_cases e : q.1 = c
    · rw [if_neg (by simpa using e)] at z
      simp [e]
      exact z
    · rw [if_pos e] at z
      have e' : ¬ (q.1 : Int) = c := by omega
      simp [e']
      exact z
  simp only [List.nil_append]
  rw [← left_eq hcl]
  have t1 : p < (putT T c fun r => { r with here := false }).length := by rw [len_put]; exact hp
  refine ⟨.inl ⟨rfl, List.all_eq_true.mpr fun d hd => ?_⟩, ?_⟩
  · obtain ⟨n, _, rfl⟩ := List.mem_map.mp hd; rfl
  by_cases m : c ∈ (rwAt T p).pool
  · rw [if_pos ⟨c, m, rfl⟩]
    have hps : ∃ g, pool = some g := by
      cases pool with
      | some g => exact ⟨g, rfl⟩
      | none =>
        have hc1 : c ∈ seen w (rwAt T p) rows := by simpa using hc1
        obtain ⟨q, _, h2⟩ := seen_at hc1
        exact absurd rfl ((List.nodup_append.mp R0.nd).2.2 c (mem_slots.mpr (List.mem_of_getElem? h2)) c m)
    obtain ⟨g, rfl⟩ := hps
    refine compW_fm nD (fun x => if x ≠ c then some (nD x) else none) (fun x hx Q z => ?_) ?_
    · by_cases e : x = c
      · rw [if_neg (by simpa using e)] at z
        simp [e, nD]
        exact z
      · rw [if_pos e] at z
        have e' : ¬ (x : Int) = c := by omega
        simp [e', nD]
        exact z
    · have e : (rwAt T p).pool.filterMap (fun x => if x ≠ c then some (nD x) else none) = ((rwAt T p).pool.filter (· ≠ c)).map nD := by
        induction (rwAt T p).pool with
        | nil => rfl
        | cons x xs ih =>
          rw [List.filterMap_cons, List.filter_cons]
          by_cases z : x = c
          · rw [if_neg (by simpa using z), if_neg (by simpa using z)]; exact ih
          · rw [if_pos z, if_pos (by simpa using z), List.map_cons]; exact congrArg _ ih
      rw [List.nil_append, e]
      refine ⟨w, p, { rwAt T p with pool := (rwAt T p).pool.filter (· ≠ c) }, g, rfl, ?_⟩
      refine call27_1 (by rw [len_put]; omega) t1 (by rw [ip]; exact hh) hh ?_
      have eT : takenT w T p c rows (some g) = (putT T c fun r => { r with here := false }).set p { rwAt T p with pool := (rwAt T p).pool.filter (· ≠ c), place := g } := by
        unfold takenT
        simp only [if_pos m]
        rw [put_goes t1, ip]
        rfl
      rw [eT] at r
      exact r
  · rw [if_neg (fun ⟨x, h1, h2⟩ => m (by have : x = c := (by omega); exact this ▸ h1))]
    have hcs : c ∈ seen w (rwAt T p) rows := by
      split at hc1
      · exact (List.mem_append.mp hc1).resolve_right m
      · exact hc1
    obtain ⟨j, q, A⟩ := take_at h hp hcs fun q hq => sub.subset (List.mem_map_of_mem hq)
    have hj : j < (rwAt T p).slots.length := (List.getElem?_eq_some_iff.mp A.at').1
    refine slots_ix A.at' A.ix (call20 S R0.k ?_)
    rw [kd1]
    refine str_ix A.name ?_
    refine compW_fm WRow.d (fun z => if decide (z.1 = (kdAt w (rwAt T p).k).slots.getD j default) = true then some (.tup [nD z.2.1, nD z.2.2.1, nD z.2.2.2]) else none) (fun z hz Q y => ?_) ?_
    · have en : (kdAt w (rwAt T p).k).slots.getD j default = q.1 := by rw [List.getD_eq_getElem?_getD, A.name]; rfl
      rw [en] at y
      by_cases e : z.1 = q.1
      · rw [if_pos (by simpa using e)] at y
        simp [e]
        simp [WRow.d]
        exact y
      · rw [if_neg (by simpa using e)] at y
        simp [e]
        exact y
    · rw [List.nil_append]
      refine ⟨_, head_fm A.hd, ?_⟩
      refine call29 (c := none) hj l2 ?_
      refine ⟨_, dget_there hcl hch, ?_⟩
      rw [rx4]
      obtain ⟨k, hk⟩ := Option.isSome_iff_exists.mp hc2
      have k2 := (h.row c hcl).cd k hk
      have fin : ∀ tgt : Nat, (match (rwAt T c).code with | some 0 => q.2.1 | some 1 => q.2.2.1 | _ => q.2.2.2) = tgt → G28 [Rw.row w p { rwAt T p with slots := (rwAt T p).slots.set j none }, nD tgt] fun d => starG G27 [thereD w (putT T c fun r => { r with here := false }), d] R := fun tgt et => by
        refine ⟨w, p, { rwAt T p with slots := (rwAt T p).slots.set j none }, tgt, rfl, ?_⟩
        refine call27_1 (by rw [len_put]; omega) t1 (by rw [ip]; exact hh) hh ?_
        have eT : takenT w T p c rows pool = (putT T c fun r => { r with here := false }).set p { rwAt T p with slots := (rwAt T p).slots.set j none, place := tgt } := by
          unfold takenT
          simp only [if_neg m, A.ix]
          rw [List.headD_eq_head?_getD, A.hd]
          show goesT _ p (match (rwAt T c).code with | some 0 => q.2.1 | some 1 => q.2.2.1 | _ => q.2.2.2) = _
          rw [et]
          unfold slottedT
          rw [put_goes t1, ip]
        rw [eT] at r
        exact r
      rw [hk]
      have k3 : k = 0 ∨ k = 1 ∨ k = 2 := by omega
      rcases k3 with rfl | rfl | rfl
      · exact ⟨_, at0, fin q.2.1 (by rw [hk]; rfl)⟩
      · exact ⟨_, at1, fin q.2.2.1 (by rw [hk]; rfl)⟩
      · exact ⟨_, at2, fin q.2.2.2 (by rw [hk]; rfl)⟩
end Fy
end
section
/-! FyK13 -/
namespace Fy
open PySem PySem.Spec PyProof.Rows L2
/-! ### a kill; a step -/
section
variable {w : Sys}
theorem born_put {T : Folk} {p : Nat} {f : Rw → Rw} (h : ∀ r, (f r).born w = r.born w) : (putT T p f).map (Rw.born w) = T.map (Rw.born w) := born_set fun _ => h _
theorem born_handed {o : Option Nat} : ∀ {cs : List Nat} {T : Folk}, (handedT T o cs).map (Rw.born w) = T.map (Rw.born w)
  | [], T => rfl
  | c :: cs, T => (born_handed (cs := cs) (T := putT T c fun r => { r with parent := o })).trans (born_put fun _ => rfl)
theorem born_goes {T : Folk} {p g : Nat} : (goesT T p g).map (Rw.born w) = T.map (Rw.born w) := born_put fun _ => rfl
theorem born_pooled {T : Folk} {p : Nat} {cs : List Nat} : (pooledT T p cs).map (Rw.born w) = T.map (Rw.born w) := born_put (f := fun r => { r with pool := sortN (r.pool ++ cs) }) fun _ => rfl
theorem born_slotted {T : Folk} {p j : Nat} {o : Option Nat} : (slottedT T p j o).map (Rw.born w) = T.map (Rw.born w) := born_put (f := fun r => { r with slots := r.slots.set j o }) fun _ => rfl
theorem born_ended {T : Folk} {x code : Nat} : (endedT T x code).map (Rw.born w) = T.map (Rw.born w) := by
  unfold endedT
  simp only []
  rw [born_put (f := fun r => { r with slots := r.slots.map fun _ => none, pool := [], code := some code }) fun _ => rfl]
  split
  · rw [born_pooled, born_handed]
  · rw [born_handed]
theorem born_taken {T : Folk} {p c : Nat} {rows : List WRow} {pool : Option Nat} : (takenT w T p c rows pool).map (Rw.born w) = T.map (Rw.born w) := by
  unfold takenT
  simp only []
  by_cases m : c ∈ (rwAt T p).pool
  · rw [if_pos m, born_goes, born_put (f := fun r => { r with pool := r.pool.filter (· ≠ c) }) fun _ => rfl, born_put (f := fun r => { r with here := false }) fun _ => rfl]
  · rw [if_neg m, born_goes, born_slotted, born_put (f := fun r => { r with here := false }) fun _ => rfl]
theorem born_step {T : Folk} {p : Nat} {m : Mv} (hm : m ≠ .fork) : bornD w (stepT w T p m) = bornD w T := by
  unfold bornD
  refine congrArg _ ?_
  unfold stepT
  simp only []
  split <;> first
    | exact born_goes
    | exact born_taken
    | exact born_ended
    | exact absurd rfl hm
    | rfl
    | skip
  · split
    · split
      · exact born_goes
      · rw [born_goes, born_ended]
    · exact born_goes
  · split
    · rw [born_goes, born_slotted, born_pooled]
    · exact born_goes
end
theorem goes_set {T : Folk} {p g : Nat} : goesT T p g = T.set p { rwAt T p with place := g } := rfl
theorem kk40 : Keeps Gs N40 B40 4 G40 := by
  rintro ds R ⟨w, T, p, s, g, rfl, S, h, hl, ⟨hp, hh, hn, hm⟩, hi, r⟩
  refine ⟨rfl, ?_⟩
  have R0 := h.row p hp
  have I := S.ins R0
  rw [hi] at I
  have hj : slotIx w (rwAt T p) s < (rwAt T p).slots.length := by rw [R0.sl]; exact List.idxOf_lt_length_of_mem I.1
  unfold stepT at r
  simp only [hi] at r
  simp [ρ0, B40, N40, gcs, Ins.d]
  refine call24 S R0 I.1 ?_
  rw [nD, sx hj]
  generalize e : (rwAt T p).slots.getD (slotIx w (rwAt T p) s) none = o at r ⊢
  cases o with
  | none =>
    simp [hp, hh]
    exact call28 (Q := fun d => starG G27 [thereD w T, d] R) (call27_1 (by omega) hp hh (r' := { rwAt T p with place := g }) hh r)
  | some c =>
    obtain ⟨c1, c2, c3⟩ := (h.kid p hp c).mp (getD_kid e)
    simp [hp, hh, oD, oi]
    refine call26 c1 c2 ?_
    simp only [] at r
    by_cases z : (rwAt T c).code.isSome = true
    · rw [if_pos z] at r
      simp [z, hp, hh]
      exact call28 (Q := fun d => starG G27 [thereD w T, d] R) (call27_1 (by omega) hp hh (r' := { rwAt T p with place := g }) hh r)
    · rw [if_neg z] at r
      have z' : (rwAt T c).code = none := by simpa using z
      simp [z']
      refine call32 (code := 2) S h hl c1 c2 ?_
      have E := h.ended (code := 2) c1 c2
      have up : (rwAt (endedT T c 2) p).here = true := by rw [E.par p c3]; exact hh
      have lp : p < (endedT T c 2).length := by rw [E.len]; exact hp
      simp [lp, up]
      exact call28 (Q := fun d => starG G27 [thereD w (endedT T c 2), d] R) (call27_1 (by rw [E.len]; omega) lp up (r' := { rwAt (endedT T c 2) p with place := g }) up r)
end Fy
end
section
/-! FyK14 -/
namespace Fy
open PySem PySem.Spec PyProof.Rows L2
theorem kk41 : Keeps Gs N41 B41 3 G41 := by
  rintro ds R ⟨w, T, p, m, rfl, S, h, hl, ⟨hp, hh, hn, hm⟩, r⟩
  refine ⟨rfl, ?_⟩
  have C : Can w T p m := ⟨hp, hh, hn, hm⟩
  have R0 := h.row p hp
  have I := S.ins R0
  have b2 := (kids_bound h hl hp).2
  have l2 := slots2 S R0
  simp [ρ0, B41, N41, gcs, treeD, stepD, nD, hp, hh]
  refine call23 S R0 ?_
  have bs : m ≠ .fork → treeD w (stepT w T p m) = .tup [thereD w (stepT w T p m), bornD w T] := fun z => by rw [← born_step z]; rfl
  have hm' := hm
  unfold movesT at hm'
  generalize hi : insAt w (rwAt T p) = i at hm' I ⊢
  cases i with
  | go ts =>
    obtain ⟨t, ht, rfl⟩ := List.mem_map.mp hm'
    rw [bs (by simp)] at r
    unfold stepT at r
    simp only [hi] at r
    simp (decide := true) [Mv.word, wpM, patW, Mv.num]
    exact call28 (Q := fun d => starG G27 [thereD w T, d] _) (call27_1 (by omega) hp hh (r' := { rwAt T p with place := t }) hh r)
  | fork kind tag slot g =>
    simp at hm'; subst hm'
    simp (decide := true) [Mv.word, wpM, patW, Mv.num]
    exact ⟨w, T, p, kind, tag, slot, g, rfl, S, h, hl, C, hi, r⟩
  | exit c =>
    simp at hm'; subst hm'
    rw [bs (by simp)] at r
    unfold stepT at r
    simp only [hi] at r
    simp (decide := true) [Mv.word, wpM, patW, Mv.num, Ins.d]
    exact call32 S h hl hp hh r
  | kill s g =>
    simp at hm'; subst hm'
    rw [bs (by simp)] at r
    simp (decide := true) [Mv.word, wpM, patW, Mv.num]
    exact ⟨w, T, p, s, g, rfl, S, h, hl, C, hi, r⟩
  | release s g =>
    simp at hm'; subst hm'
    rw [bs (by simp)] at r
    unfold stepT at r
    simp only [hi] at r
    have hj : slotIx w (rwAt T p) s < (rwAt T p).slots.length := by rw [R0.sl]; exact List.idxOf_lt_length_of_mem I.1
    simp (decide := true) [Mv.word, wpM, patW, Mv.num, Ins.d]
    refine call24 S R0 I.1 (call31 hj l2 (by omega) ?_)
    refine call28 (Q := fun d => starG G27 [thereD w T, d] _) (call27_1 (by omega) hp hh (r' := { relRow (rwAt T p) (slotIx w (rwAt T p) s) with place := g }) (rel_here.trans hh) ?_)
    have e : T.set p { relRow (rwAt T p) (slotIx w (rwAt T p) s) with place := g } = (match (rwAt T p).slots.getD (slotIx w (rwAt T p) s) none with | some c => goesT (slottedT (pooledT T p [c]) p (slotIx w (rwAt T p) s) none) p g | none => goesT T p g) := by
      unfold relRow
      cases (rwAt T p).slots.getD (slotIx w (rwAt T p) s) none with
      | none => rfl
      | some c =>
        simp only []
        unfold slottedT
        rw [put_goes (by simp [pooledT]; exact hp)]
        unfold pooledT
        rw [rwAt_put hp, if_pos rfl]
        unfold putT
        rw [List.set_set]
    rw [e]
    exact r
  | wait rows pool non lat meant =>
    rcases mem_wait hm' with ⟨c, rfl, _, _⟩ | rfl | ⟨rfl, hs⟩
    · rw [bs (by simp)] at r
      simp (decide := true) [Mv.word, wpM, patW, Mv.num]
      exact ⟨w, T, p, c, rows, pool, non, lat, meant, rfl, S, h, hl, C, hi, r⟩
    · rw [bs (by simp)] at r
      unfold stepT at r
      simp only [hi] at r
      simp (decide := true) [Mv.word, wpM, patW, Mv.num]
      exact call28 (Q := fun d => starG G27 [thereD w T, d] _) (call27_1 (by omega) hp hh (r' := { rwAt T p with place := non }) hh r)
    · rw [bs (by simp)] at r
      obtain ⟨g, rfl⟩ := Option.isSome_iff_exists.mp hs
      unfold stepT at r
      simp only [hi] at r
      simp (decide := true) [Mv.word, wpM, patW, Mv.num]
      exact call28 (Q := fun d => starG G27 [thereD w T, d] _) (call27_1 (by omega) hp hh (r' := { rwAt T p with place := g }) hh r)
end Fy
end
section
/-! FyK15 -/
namespace Fy
open PySem PySem.Spec PyProof.Rows L2
/-! ### runs, rows, families -/
theorem Good.ok {w : Sys} {ms : List (Nat × Mv)} (g : Good w ms) : TOk w (lastT w ms) ∧ (lastT w ms).length ≤ 21 := by
  obtain ⟨a, b⟩ := run_ok g.1 (first_ok g.1) g.2.1
  have := g.2.2
  refine ⟨a, ?_⟩
  unfold lastT
  simp [firstT] at b ⊢
  omega
section
variable {Q : D → Prop} {w : Sys} {ms : List (Nat × Mv)}
theorem call44 (g : Good w ms) (q : Q (treeD w (lastT w ms))) : G44 [sysD w, stepsD ms] Q := ⟨w, ms, rfl, g, q⟩
end
theorem kk42 : Keeps Gs N42 B42 2 G42 := by
  rintro ds R ⟨w, ms, rfl, ⟨S, c, l⟩, r⟩
  refine ⟨rfl, ?_⟩
  simp [ρ0, B42, N42, gcs]
  refine ⟨w, rfl, S, ?_⟩
  simp [stepsD]
  rw [enumD_map]
  refine forW_inv (fun q : (Nat × Mv) × Nat => .raw [.int q.2, stD q.1]) (fun rest ρ => ∃ T' a b c, ρ = [some (false, sysD w), some (false, stepsD ms), some (false, treeD w T'), a, b, c] ∧ TOk w T' ∧ T'.length + rest.length ≤ 25 ∧ Runs w T' (rest.map (·.1)) ∧ runT w T' (rest.map (·.1)) = lastT w ms) (fun ρ hρ => ?_) (fun x rest ρ hI N hN => ?_) ⟨firstT w, none, none, none, rfl, first_ok S, by simp [firstT]; omega, by simpa using c, by simp [lastT]⟩
  · obtain ⟨T', a, b, d, rfl, _, _, _, e⟩ := hρ
    simp [runT] at e ⊢
    subst e
    exact r
  · obtain ⟨T', a, b, d, rfl, h, hl, hr, e⟩ := hI
    obtain ⟨cn, hr⟩ := hr
    simp at hl
    obtain ⟨s1, s2⟩ := step_ok S h cn
    have s2 : (stepT w T' x.1.1 x.1.2).length ≤ T'.length + 1 := s2
    simp
    refine ⟨w, T', x.1.1, x.1.2, rfl, S, h, by omega, cn, ?_⟩
    simp
    refine ⟨w, T', x.1.1, x.1.2, rfl, S, h, by omega, cn, ?_⟩
    exact hN _ ⟨stepT w T' x.1.1 x.1.2, _, _, _, rfl, s1, by omega, hr, e⟩
theorem kk43 : Keeps Gs N43 B43 1 G43 := by
  rintro ds R ⟨w, rfl, S, r⟩
  refine ⟨rfl, ?_⟩
  simp [ρ0, B43, N43, gcs]
  exact ⟨w, rfl, S, by simpa using r⟩
theorem kk44 : Keeps Gs N44 B44 2 G44 := by
  rintro ds R ⟨w, ms, rfl, g, r⟩
  refine ⟨rfl, ?_⟩
  simp [ρ0, B44, N44, gcs]
  refine ⟨w, rfl, g.1, ?_⟩
  simp [stepsD]
  refine ⟨w, ms, rfl, g, ?_⟩
  simp
  exact ⟨rfl, r⟩
theorem kk45 : Keeps Gs N45 B45 1 G45 := by
  rintro ds R ⟨rfl, r⟩
  refine ⟨rfl, ?_⟩
  simp [ρ0, B45, N45, gcs]
  exact r
theorem kk46 : Keeps Gs N46 B46 1 G46 := by
  rintro ds R ⟨w, T, rfl, r⟩
  refine ⟨rfl, ?_⟩
  simp [ρ0, B46, N46, gcs, treeD, thereD_eq]
  refine ⟨.inl ⟨_, rfl⟩, fun es e1 e2 => ?_⟩
  have pw : (keysT T).Pairwise (· ≤ ·) := by
    have h := here_lt (T := T) (n := 0)
    unfold keysT
    have e : (hereFrom 0 T).map (fun q => (q.1 : Int)) = ((hereFrom 0 T).map (·.1)).map fun n : Nat => (n : Int) := by rw [List.map_map]; rfl
    rw [e, List.pairwise_map]
    exact h.imp fun {a b} l => by omega
  rw [sorted_eq e1 e2 pw]
  have e3 : (keysT T).map D.int = (hereFrom 0 T).map fun q => .int (q.1 : Int) := by unfold keysT; rw [List.map_map]; rfl
  rw [e3]
  refine compW_map (fun q : Nat × Rw => .int (q.1 : Int)) (fun q => q.2.row w q.1) (fun q hq Q z => ?_) ?_
  · obtain ⟨a, b, c⟩ := here_mem0.mp hq
    simp
    refine ⟨_, dget_there a (b ▸ c), ?_⟩
    rw [← b]; exact z
  · exact r
theorem kk47 : Keeps Gs N47 B47 2 G47 := by
  rintro ds R ⟨w, ms, rfl, g, r⟩
  refine ⟨rfl, ?_⟩
  simp [ρ0, B47, N47, gcs]
  exact call44 g ⟨w, _, rfl, r⟩
theorem kk48 : Keeps Gs N48 B48 2 G48 := by
  rintro ds R ⟨w, ms, rfl, g, r⟩
  refine ⟨rfl, ?_⟩
  simp [ρ0, B48, N48, gcs]
  obtain ⟨a, b⟩ := g.ok
  exact call44 g ⟨w, _, rfl, g.1, a, by omega, r⟩
theorem kk49 : Keeps Gs N49 B49 3 G49 := by
  rintro ds R ⟨w, ms, p, rfl, g, h, r⟩
  refine ⟨rfl, ?_⟩
  simp [ρ0, B49, N49, gcs]
  refine call44 g ?_
  simp [treeD, len_born, nD]
  refine ⟨?_, r⟩
  simpa using h
theorem rngD_nat {k n : Nat} : rngD (k : Int) n = (List.range' k n).map nD := by
  unfold rngD
  rw [List.range'_eq_map_range, List.map_map]
  apply List.map_congr_left
  intro i _
  simp [nD]
theorem bx {w : Sys} {T : Folk} {c : Nat} {Q : D → Prop} (h : c < T.length) : ixW (bornD w T) (.int c) Q = Q ((rwAt T c).born w) :=
  propext ⟨fun ⟨d, e, q⟩ => by rw [at_map (rwAt_get h)] at e; cases e; exact q, fun q => ⟨_, at_map (rwAt_get h), q⟩⟩
@[simp] theorem bx2 {w : Sys} {r : Rw} {Q : D → Prop} : ixW (r.born w) (.int 2) Q = Q (oD r.forker) := by unfold Rw.born; simp
theorem any_oD {o : Option Nat} {xs : List Nat} : ((xs.map nD).any fun z => z.eqd (oD o)) = true ↔ ∃ f, o = some f ∧ f ∈ xs := by
  rw [List.any_map, List.any_eq_true]
  constructor
  · rintro ⟨x, hx, e⟩
    cases o with
    | none =>
      simp [nD, oD, oi] at e
    | some f =>
      simp [nD, oD, oi] at e
      exact ⟨f, rfl, by have : x = f := (by omega); exact this ▸ hx⟩
  · rintro ⟨f, rfl, hf⟩
    exact ⟨f, hf, by simp [nD, oD, oi]⟩
theorem kk50 : Keeps Gs N50 B50 3 G50 := by
  rintro ds R ⟨w, ms, p, rfl, g, h, r⟩
  refine ⟨rfl, ?_⟩
  obtain ⟨a, b⟩ := g.ok
  have sz := size_big
  simp [ρ0, B50, N50, gcs, isLD]
  refine ⟨w, ms, p, rfl, g, h, ?_⟩
  simp [len_born, nD]
  generalize lastT w ms = T at *
  refine ⟨by omega, by omega, by omega, ?_⟩
  rw [show ((T.length : Int) - ((p : Int) + 1)).toNat = T.length - (p + 1) from by omega, show ((p : Int) + 1) = ((p + 1 : Nat) : Int) from by simp, rngD_nat]
  have dn := a.down
  refine forW_inv nD (fun rest ρ => ∃ k xs x, ρ = [some (false, sysD w), some (false, stepsD ms), some (false, .int p), some (false, bornD w T), some (true, .lst (xs.map nD)), x] ∧ rest = List.range' k (T.length - k) ∧ p < k ∧ k ≤ T.length ∧ xs.length ≤ k ∧ ∀ c, c ∈ xs ↔ c = p ∨ c < k ∧ Anc (fks T) p c) (fun ρ hρ => ?_) (fun x rest ρ hI N hN => ?_) ⟨p + 1, [p], none, rfl, rfl, by omega, by omega, by simp, fun c => ?_⟩
  · obtain ⟨k, xs, x, rfl, e, h1, h2, h3, h4⟩ := hρ
    simp
    refine r xs fun c => ?_
    have : k = T.length := by
      have := congrArg List.length e
      simp at this
      omega
    subst this
    exact h4 c
  · obtain ⟨k, xs, y, rfl, e, h1, h2, h3, h4⟩ := hI
    have kl : k < T.length := by
      apply Classical.byContradiction
      intro z
      rw [show T.length - k = 0 from by omega] at e
      cases e
    rw [show T.length - k = (T.length - (k + 1)) + 1 from by omega, List.range'_succ] at e
    obtain ⟨rfl, e⟩ := List.cons.inj e
    simp [nD, bx kl]
    have io : cmpW .isin (oD (rwAt T x).forker) (.lst (xs.map nD)) = fun Q => inOk (oD (rwAt T x).forker) (xs.map nD) (.lst (xs.map nD)) ∧ Q ((xs.map nD).any fun z => z.eqd (oD (rwAt T x).forker)) := by
      unfold oD; rfl
    rw [io]
    refine ⟨.inl ⟨rfl, List.all_eq_true.mpr fun d hd => ?_⟩, ?_⟩
    · obtain ⟨n, _, rfl⟩ := List.mem_map.mp hd; rfl
    have anc : (∃ f, (rwAt T x).forker = some f ∧ f ∈ xs) ↔ Anc (fks T) p x := by
      constructor
      · rintro ⟨f, e1, e2⟩
        have e3 : (fks T)[x]? = some (some f) := by rw [fks_get kl, e1]
        rcases (h4 f).mp e2 with rfl | ⟨_, z⟩
        · exact .base e3
        · exact .step e3 z
      · intro z
        cases z with
        | base e3 =>
          rw [fks_get kl] at e3
          exact ⟨p, Option.some.inj e3, (h4 p).mpr (.inl rfl)⟩
        | step e3 z =>
          have lt := dn _ _ e3
          rw [fks_get kl] at e3
          exact ⟨_, Option.some.inj e3, (h4 _).mpr (.inr ⟨lt, z⟩)⟩
    by_cases z : Anc (fks T) p x
    · rw [any_oD.mpr (anc.mpr z)]
      simp [D.fixed]
      refine ⟨by omega, ?_⟩
      refine hN _ ⟨x + 1, xs ++ [x], some (false, .int x), by simp [nD], e, by omega, by omega, by simp; omega, fun c => ?_⟩
      rw [List.mem_append, h4 c]
      simp
      constructor
      · rintro ((q | ⟨q1, q2⟩) | q)
        · exact .inl q
        · exact .inr ⟨by omega, q2⟩
        · exact .inr ⟨by omega, q ▸ z⟩
      · rintro (q | ⟨q1, q2⟩)
        · exact .inl (.inl q)
        · by_cases cx : c = x
          · exact .inr cx
          · exact .inl (.inr ⟨by omega, q2⟩)
    · have nf : ((xs.map nD).any fun z => z.eqd (oD (rwAt T x).forker)) = false := by
        apply Bool.eq_false_iff.mpr
        intro y
        exact z (anc.mp (any_oD.mp y))
      rw [nf]
      simp [D.fixed]
      refine hN _ ⟨x + 1, xs, _, rfl, e, by omega, by omega, by omega, fun c => ?_⟩
      rw [h4 c]
      constructor
      · rintro (q | ⟨q1, q2⟩)
        · exact .inl q
        · exact .inr ⟨by omega, q2⟩
      · rintro (q | ⟨q1, q2⟩)
        · exact .inl q
        · by_cases cx : c = x
          · subst cx; exact absurd q2 z
          · exact .inr ⟨by omega, q2⟩
  · simp
    intro h1 h2
    have := h2.lt dn
    omega
end Fy
end
section
/-! FyK17 -/
namespace Fy
open PySem PySem.Spec PyProof.Rows L2
/-! ### the law's rows -/
def lawL (r : Rw) : List D := [nD r.k, .str r.tag, oD r.forker, oD r.parent, oD r.code, nD r.place, .tup (r.slots.map oD), .tup (r.pool.map nD), .bl r.here]
section
variable {Q : D → Prop} {T : Folk} {p : Nat}
theorem call62 {s : Nat} {v : D} (f : Rw → Rw) (hp : p < T.length) (hl : T.length ≤ 30) (hs : s < 9) (h : (f (rwAt T p)).law = .tup ((lawL (rwAt T p)).set s v)) (q : Q (folkD (putT T p f))) : G62 [folkD T, nD p, nD s, v] Q := by
  refine ⟨T.map Rw.law, lawL (rwAt T p), p, s, v, rfl, ?_, hs, by simp; omega, by show 9 ≤ 1000; omega, ?_⟩
  · rw [List.getElem?_map, rwAt_get hp]; rfl
  · rw [← h, ← List.map_set]
    exact q
end
theorem kk60 : Keeps Gs N60 B60 4 G60 := by
  rintro ds R ⟨w, i, tag, par, fp, rfl, S, h, r⟩
  refine ⟨rfl, ?_⟩
  have l2 := (S.kd h).2.2.2.1
  simp [ρ0, gcs, B60, N60, nD, h, strsD]
  refine ⟨by omega, ?_⟩
  rw [none_map]
  exact r
theorem kk61 : Keeps Gs N61 B61 1 G61 := by
  rintro ds R ⟨w, rfl, S, r⟩
  refine ⟨rfl, ?_⟩
  have h : 0 < w.length := List.length_pos_iff.mpr S.1
  simp [ρ0, gcs, B61, N61]
  exact ⟨w, 0, "", none, none, rfl, S, h, r⟩
theorem kk62 : Keeps Gs N62 B62 4 G62 := by
  rintro ds R ⟨rows, fs, p, s, v, rfl, h1, h2, h3, h4, r⟩
  refine ⟨rfl, ?_⟩
  have sz := size_big
  have hp : p < rows.length := (List.getElem?_eq_some_iff.mp h1).1
  simp [ρ0, gcs, B62, N62, nD, atI_nat hp, h1, cutT, cutF1]
  refine ⟨by omega, by omega, by omega, by omega, ?_⟩
  rw [take_set_drop h2, take_set_drop hp]
  exact r
theorem perm_same {es : List D} {ns : List Nat} (h1 : es.Nodup) (h2 : ∀ d, d ∈ es ↔ d ∈ ns.map nD) (h3 : ns.Nodup) : es.Perm (ns.map nD) := by
  refine (List.perm_ext_iff_of_nodup h1 ?_).mpr h2
  show List.Pairwise (· ≠ ·) _
  rw [List.pairwise_map]
  exact h3.imp fun {a b} l z => l (by
    have z : (a : Int) = b := by injection z
    omega)
theorem flat_nat {ns : List Nat} : ∀ d ∈ ns.map nD, flatD d = true := fun d hd => by
  obtain ⟨n, _, rfl⟩ := List.mem_map.mp hd; rfl
theorem kk63 : Keeps Gs N63 B63 3 G63 := by
  rintro ds R ⟨T, p, cs, rfl, hp, hl, nd, h60, r⟩
  refine ⟨rfl, ?_⟩
  have sz := size_big
  simp [ρ0, gcs, B63, N63, nD, hp]
  simp at h60
  rw [← List.map_append]
  refine ⟨by omega, sorts_nat, by simpa using h60, .inr flat_nat, fun es e1 e2 e3 => ?_⟩
  rw [sorted_nat (perm_same e1 e2 nd) e3]
  exact call62 (s := 7) (fun r => { r with pool := sortN (r.pool ++ cs) }) hp hl (by omega) rfl r
theorem kk64 : Keeps Gs N64 B64 4 G64 := by
  rintro ds R ⟨T, p, j, c, rfl, hp, hl, hj, h2, r⟩
  refine ⟨rfl, ?_⟩
  have sz := size_big
  simp [ρ0, gcs, B64, N64, nD, hp, cutT, cutF1]
  refine ⟨by omega, by omega, ?_⟩
  rw [take_set_drop (by simpa using hj), ← List.map_set]
  exact call62 (s := 6) (fun r => { r with slots := r.slots.set j c }) hp hl (by omega) rfl r
theorem kk66 : Keeps Gs N66 B66 3 G66 := by
  rintro ds R ⟨w, T, p, rfl, S, h, hp, r⟩
  refine ⟨rfl, ?_⟩
  have R0 := h.row p hp
  simp [ρ0, gcs, B66, N66, nD, hp, R0.k]
  exact ⟨_, at_i R0.pl, r⟩
theorem put_put {T : Folk} {p : Nat} {f g : Rw → Rw} (hp : p < T.length) : putT (putT T p f) p g = putT T p fun r => g (f r) := by
  unfold putT
  rw [rwAt_set hp, if_pos rfl, List.set_set]
section
variable {Q : D → Prop} {T : Folk} {p : Nat}
theorem call63 {cs : List Nat} (hp : p < T.length) (hl : T.length ≤ 30) (nd : ((rwAt T p).pool ++ cs).Nodup) (h60 : ((rwAt T p).pool ++ cs).length < 60) (q : Q (folkD (pooledT T p cs))) : G63 [folkD T, nD p, .lst (List.map nD cs)] Q := ⟨T, p, cs, rfl, hp, hl, nd, h60, q⟩
theorem call64 {j : Nat} {c : Option Nat} (hp : p < T.length) (hl : T.length ≤ 30) (hj : j < (rwAt T p).slots.length) (h2 : (rwAt T p).slots.length ≤ 2) (q : Q (folkD (slottedT T p j c))) : G64 [folkD T, nD p, nD j, oD c] Q := ⟨T, p, j, c, rfl, hp, hl, hj, h2, q⟩
theorem call66 {w : Sys} (S : SysOk w) (h : TOk w T) (hp : p < T.length) (q : Q (insAt w (rwAt T p)).d) : G66 [sysD w, folkD T, nD p] Q := ⟨w, T, p, rfl, S, h, hp, q⟩
end
theorem ge_oD {o : Option Nat} {Q : Bool → Prop} : cmpW .ge (oD o) (.int 0) Q = Q o.isSome := by
  unfold oD
  rw [c_ge_i]
  cases o with
  | none => simp [oi]
  | some n => simp [oi]
theorem kk65 : Keeps Gs N65 B65 3 G65 := by
  rintro ds R ⟨w, T, x, code, rfl, S, h, hl, hx, hh, r⟩
  refine ⟨rfl, ?_⟩
  have sz := size_big
  obtain ⟨b1, b2⟩ := kids_bound h hl hx
  have R0 := h.row x hx
  have l2 := slots2 S R0
  simp [ρ0, gcs, B65, N65, nD, hx]
  refine compW_fm oD (fun o => o.map nD) (fun o ho Q q => ?_) ?_
  · simp [ge_oD]
    cases o with
    | none => exact q
    | some n => exact q
  · have e : (rwAt T x).slots.filterMap (fun o => o.map nD) = ((rwAt T x).slots.filterMap id).map nD := by rw [List.map_filterMap]; rfl
    have e2 : ((rwAt T x).slots.filterMap id).map nD ++ (rwAt T x).pool.map nD = (rwAt T x).kids.map nD := by unfold Rw.kids; rw [List.map_append]
    rw [List.nil_append, e]
    simp
    rw [e2]
    have kx : ∀ {c : Nat}, c ∈ (rwAt T x).kids → c < T.length ∧ x < c := fun {c} z => by
      obtain ⟨a, b, d⟩ := (h.kid x hx c).mp z
      exact ⟨a, h.parlt a b d⟩
    have xk : x ∉ (rwAt T x).kids := fun z => by have := (kx z).2; omega
    have fl : ((rwAt T x).slots.filterMap id).length ≤ (rwAt T x).slots.length := List.length_filterMap_le ..
    refine ⟨by omega, ?_⟩
    have hd := fun q => rwAt_handed (o := (rwAt T x).parent) (q := q) (cs := (rwAt T x).kids) (T := T) fun c hc => (kx hc).1
    refine forW_inv nD (fun rest ρ => ∃ U y, ρ = [some (false, folkD U), some (false, D.int x), some (false, D.int code), y, some (false, D.lst (List.map nD (rwAt T x).kids)), some (false, oD (rwAt T x).parent)] ∧ handedT U (rwAt T x).parent rest = handedT T (rwAt T x).parent (rwAt T x).kids ∧ U.length = T.length ∧ ∀ c ∈ rest, c < T.length) (fun ρ hρ => ?_) (fun c rest ρ hI N hN => ?_) ⟨T, none, rfl, rfl, rfl, fun c hc => (kx hc).1⟩
    · obtain ⟨U, y, rfl, e3, ul, _⟩ := hρ
      have e3 : U = handedT T (rwAt T x).parent (rwAt T x).kids := e3
      unfold endedT at r
      simp only [] at r
      rw [← e3] at r
      have ux : rwAt U x = rwAt T x := by rw [e3, (hd x).2, if_neg xk]
      have hxu : x < U.length := by omega
      have comp : ∀ T2 : Folk, T2.length = T.length → R (folkD (putT T2 x fun r => { r with slots := r.slots.map fun _ => none, pool := [], code := some code })) →
          G62 [folkD T2, .int x, .int 6, .tup (List.replicate (rwAt T2 x).slots.length (.int (-1)))] fun d => G62 [d, .int x, .int 7, .tup []] fun d => G62 [d, .int x, .int 4, .int code] R := fun T2 l z => by
        rw [none_map]
        have x2 : x < T2.length := by omega
        refine call62 (s := 6) (fun r => { r with slots := r.slots.map fun _ => none }) x2 (by omega) (by omega) rfl ?_
        refine call62 (s := 7) (fun r => { r with pool := [] }) (by simp; exact x2) (by simp; omega) (by omega) rfl ?_
        refine call62 (s := 4) (fun r => { r with code := some code }) (by simp; exact x2) (by simp; omega) (by omega) rfl ?_
        rw [put_put x2, put_put x2]
        exact z
      simp [ge_oD]
      cases hpar : (rwAt T x).parent with
      | none =>
        rw [hpar] at r
        simp [hxu]
        exact ⟨by rw [ux]; omega, comp U ul r⟩
      | some q =>
        rw [hpar] at r
        have hq := h.parlt hx hh hpar
        have qk : q ∉ (rwAt T x).kids := fun z => by have := (kx z).2; omega
        have uq : rwAt U q = rwAt T q := by rw [e3, (hd q).2, if_neg qk]
        obtain ⟨q1, q2, q3, q4⟩ := h.parliv hx hh hpar
        obtain ⟨c1, c2⟩ := kids_bound h hl q1
        have np : ((rwAt T q).pool ++ (rwAt T x).kids).Nodup := by
          rw [List.nodup_append]
          refine ⟨(List.nodup_append.mp (h.row q q1).nd).2.1, R0.nd, fun a ha b hb z => ?_⟩
          subst z
          have p1 := ((h.kid q q1 a).mp (List.mem_append_right _ ha)).2.2
          have p2 := ((h.kid x hx a).mp hb).2.2
          rw [p1] at p2
          injection p2 with p2
          omega
        have pl : (pooledT U q (rwAt T x).kids).length = T.length := by simp [pooledT, ul]
        have px : rwAt (pooledT U q (rwAt T x).kids) x = rwAt T x := by
          unfold pooledT
          rw [rwAt_put (by omega), if_neg (by omega), ux]
        simp
        refine call63 (p := q) (by omega) (by omega) (by rw [uq]; exact np) (by rw [uq, List.length_append]; omega) ?_
        simp [show x < (pooledT U q (rwAt T x).kids).length from by omega]
        refine ⟨by rw [px]; omega, comp _ pl r⟩
    · obtain ⟨U, y, rfl, e3, ul, hc⟩ := hI
      simp
      have cl : c < U.length := by rw [ul]; exact hc c (List.mem_cons_self ..)
      refine call62 (s := 3) (fun r => { r with parent := (rwAt T x).parent }) cl (by omega) (by omega) rfl ?_
      exact hN _ ⟨_, _, rfl, e3, by simp [ul], fun d hd => hc d (List.mem_cons_of_mem _ hd)⟩
end Fy
end
section
/-! FyK18 -/
namespace Fy
open PySem PySem.Spec PyProof.Rows L2
/-! ### the law's steps -/
theorem str_idx {ss : List Str} {s : Str} {Q : D → Prop} (h : s ∈ ss) (q : Q (.int (ss.idxOf s : Nat))) : idxW (strsD ss) (.str s) Q := ⟨ss, rfl, ss.idxOf s, idxOf_get h, fun m hm => idxOf_first hm, q⟩
theorem strs_tl {ss : List Str} : ∃ ds, strsD ss = .tup ds ∨ strsD ss = .lst ds := ⟨_, .inl rfl⟩
@[simp] theorem eqd_lst_nil {ds : List D} : (D.lst ds).eqd (.lst []) = ds.isEmpty := by cases ds <;> simp
theorem okd_nil : (D.lst []).okd := okd_of (n := 1) (ok1_lst fun d h => by cases h) (by omega)
theorem okd_nats {ns : List Nat} : (D.lst (ns.map nD)).okd := okd_of (n := 1) (ok1_lst fun d h => by
  obtain ⟨n, _, rfl⟩ := List.mem_map.mp h
  exact ok1_int) (by omega)
@[simp] theorem eqOk_nats {ns : List Nat} : eqOk (.lst (ns.map nD)) (.lst []) := .inr ⟨okd_nats, okd_nil⟩
theorem kk67 : Keeps Gs N67 B67 3 G67 := by
  rintro ds R ⟨w, T, p, rows, pool, non, lat, meant, rfl, S, h, hp, hi, r⟩
  refine ⟨rfl, ?_⟩
  have sz := size_big
  have R0 := h.row p hp
  have I := S.ins R0
  rw [hi] at I
  have l2 := slots2 S R0
  have rl : rows.length ≤ 2 := by
    have a := I.1.length_le
    have b := (S.kd R0.k).2.2.2.1
    simp at a
    omega
  simp [ρ0, gcs, B67, N67, nD, hp, R0.k, isLD]
  refine call66 S h hp ?_
  rw [hi]
  simp
  refine forW_inv WRow.d (fun rest ρ => ∃ acc y z, ρ = [some (false, sysD w), some (false, folkD T), some (false, .int p), y, some (false, strsD (kdAt w (rwAt T p).k).slots), some (true, .lst (acc.map nD)), z] ∧ acc ++ seen w (rwAt T p) rest = seen w (rwAt T p) rows ∧ acc.length + rest.length ≤ 2 ∧ ∀ q ∈ rest, q.1 ∈ (kdAt w (rwAt T p).k).slots) (fun ρ hρ => ?_) (fun q rest ρ hI N hN => ?_) ⟨[], none, none, rfl, rfl, by simpa using rl, fun q hq => I.1.subset (List.mem_map_of_mem hq)⟩
  · obtain ⟨acc, y, z, rfl, e, _⟩ := hρ
    have e : acc = seen w (rwAt T p) rows := by simpa [seen] using e
    subst e
    simp
    exact r
  · obtain ⟨acc, y, z, rfl, e, l, hs⟩ := hI
    have hq := hs q (List.mem_cons_self ..)
    have hj : slotIx w (rwAt T p) q.1 < (rwAt T p).slots.length := by rw [R0.sl]; exact List.idxOf_lt_length_of_mem hq
    have es : seen w (rwAt T p) (q :: rest) = ((rwAt T p).slots.getD (slotIx w (rwAt T p) q.1) none).toList ++ seen w (rwAt T p) rest := by
      unfold seen
      rw [List.filterMap_cons]
      cases (rwAt T p).slots.getD (slotIx w (rwAt T p) q.1) none <;> rfl
    rw [es] at e
    simp at l
    simp [hp]
    refine ⟨strs_tl, str_idx hq ?_⟩
    rw [show ((kdAt w (rwAt T p).k).slots.idxOf q.1 : Nat) = slotIx w (rwAt T p) q.1 from rfl]
    refine ⟨_, at_s hj, ?_⟩
    generalize (rwAt T p).slots.getD (slotIx w (rwAt T p) q.1) none = o at e ⊢
    simp [ge_oD]
    cases o with
    | none => exact hN _ ⟨acc, _, _, rfl, by simpa using e, by omega, fun q hq => hs q (List.mem_cons_of_mem _ hq)⟩
    | some c =>
      simp
      refine ⟨by omega, ?_⟩
      exact hN _ ⟨acc ++ [c], some (false, WRow.d q), some (false, oD (some c)), by simp; rfl, by simpa using e, by simp; omega, fun q hq => hs q (List.mem_cons_of_mem _ hq)⟩
section
variable {Q : D → Prop} {w : Sys} {T : Folk} {p : Nat}
theorem call67 {rows : List WRow} {pool : Option Nat} {non : Nat} {lat : Option Nat} {meant : List Str} (S : SysOk w) (h : TOk w T) (hp : p < T.length) (hi : insAt w (rwAt T p) = .wait rows pool non lat meant) (q : Q (.lst ((seen w (rwAt T p) rows).map nD))) : G67 [sysD w, folkD T, nD p] Q := ⟨w, T, p, rows, pool, non, lat, meant, rfl, S, h, hp, hi, q⟩
theorem call68 (S : SysOk w) (h : TOk w T) (hl : T.length ≤ 25) (hp : p < T.length) (q : Q (.lst ((movesT w T p).map (stepD p)))) : G68 [sysD w, folkD T, nD p] Q := ⟨w, T, p, rfl, S, h, hl, hp, q⟩
end
theorem take_listS {T : Folk} {p : Nat} (xs : List Nat) : xs.filterMap (fun c => if (rwAt T c).code.isSome = true then some (stepD p (.take c)) else none) = ((xs.filter fun c => (rwAt T c).code.isSome).map Mv.take).map (stepD p) := by
  induction xs with
  | nil => rfl
  | cons x xs ih =>
    rw [List.filterMap_cons, List.filter_cons]
    by_cases h : (rwAt T x).code.isSome = true
    · simp only [h, if_true, ih, List.map_cons]
    · simp only [h, ih]; simp
theorem kk68 : Keeps Gs N68 B68 3 G68 := by
  rintro ds R ⟨w, T, p, rfl, S, h, hl, hp, r⟩
  refine ⟨rfl, ?_⟩
  have sz := size_big
  have R0 := h.row p hp
  have I := S.ins R0
  obtain ⟨b1, b2⟩ := kids_bound h hl hp
  simp [ρ0, gcs, B68, N68, nD]
  refine call66 S h hp ?_
  unfold movesT at r
  generalize hi : insAt w (rwAt T p) = i at r I
  cases i with
  | go ts =>
    simp (decide := true) [Ins.word, Ins.d]
    refine compW_map nD (fun t => stepD p (.go t)) (fun t ht Q q => ?_) ?_
    · simp; exact q
    · simp at r ⊢; exact r
  | wait rows pool non lat meant =>
    have ls := (looked_sub (pool := pool) S R0 I.1).length_le
    have hk : ∀ c ∈ (if pool.isSome = true then seen w (rwAt T p) rows ++ (rwAt T p).pool else seen w (rwAt T p) rows), c < T.length := fun c hc => by
      have := (looked_sub (pool := pool) S R0 I.1).subset hc
      exact ((h.kid p hp c).mp this).1
    have wd : (Ins.wait rows pool non lat meant).word = "wait" ∨ (Ins.wait rows pool non lat meant).word = "poll" := by cases lat; exact .inl rfl; exact .inr rfl
    have ng : ¬ (Ins.wait rows pool non lat meant).word = "go" := by cases lat <;> simp (decide := true) [Ins.word]
    have nw : ¬ (¬ ("wait" : Str) = (Ins.wait rows pool non lat meant).word ∧ ¬ ("poll" : Str) = (Ins.wait rows pool non lat meant).word) := fun z => by
      rcases wd with e | e
      · exact z.1 e.symm
      · exact z.2 e.symm
    simp (decide := true) [ng]
    rw [if_neg nw]
    refine call67 S h hp hi ?_
    simp only [waitMv] at r
    have fin : ∀ (looked near : List Nat), looked.length ≤ 30 → R (.lst (((looked.filter fun c => (rwAt T c).code.isSome).map Mv.take ++ (if near = [] then [Mv.non] else if lat.isSome = true then [Mv.later] else [])).map (stepD p))) →
        if near = [] then (((looked.filter fun c => (rwAt T c).code.isSome).map Mv.take).map (stepD p)).length < sizeLine ∧ R (.lst (((looked.filter fun c => (rwAt T c).code.isSome).map Mv.take).map (stepD p) ++ [.tup [.int p, .str "none", .int (-1)]]))
        else if (Ins.wait rows pool non lat meant).word = "poll" then (((looked.filter fun c => (rwAt T c).code.isSome).map Mv.take).map (stepD p)).length < sizeLine ∧ R (.lst (((looked.filter fun c => (rwAt T c).code.isSome).map Mv.take).map (stepD p) ++ [.tup [.int p, .str "later", .int (-1)]]))
        else R (.lst (((looked.filter fun c => (rwAt T c).code.isSome).map Mv.take).map (stepD p))) := fun looked near l r => by
      have ll : (((looked.filter fun c => (rwAt T c).code.isSome).map Mv.take).map (stepD p)).length < sizeLine := by
        rw [List.length_map, List.length_map]
        exact Nat.lt_of_le_of_lt (List.length_filter_le _ _) (by omega)
      rw [List.map_append] at r
      by_cases e : near = []
      · rw [if_pos e] at r ⊢
        exact ⟨ll, r⟩
      · rw [if_neg e] at r ⊢
        cases lat with
        | none =>
          rw [if_neg (by simp (decide := true) [Ins.word])]
          simpa using r
        | some l =>
          rw [if_pos (by simp (decide := true) [Ins.word])]
          rw [if_pos (show (some l).isSome = true from rfl)] at r
          exact ⟨ll, r⟩
    have turn : ∀ (c : Nat) (Q : Option D → Prop), Q (if (rwAt T c).code.isSome = true then some (stepD p (.take c)) else none) → if (rwAt T c).code.isSome = true then Q (some (D.tup [.int p, D.str "take", D.int ↑c])) else Q none := fun c Q q => by
      by_cases hc : (rwAt T c).code.isSome = true
      · rw [if_pos hc] at q ⊢; exact q
      · rw [if_neg hc] at q ⊢; exact q
    cases pool with
    | none =>
      simp at ls hk ⊢
      refine compW_fm nD (fun c => if (rwAt T c).code.isSome = true then some (stepD p (.take c)) else none) (fun c hc Q q => ?_) ?_
      · simp [nD, hk c hc, ge_oD]
        exact turn c Q q
      · rw [List.nil_append, take_listS]
        simp only [eqd_lst_nil, List.isEmpty_iff, List.map_eq_nil_iff, isLD, true_and]
        exact fin (seen w (rwAt T p) rows) (seen w (rwAt T p) rows) (by omega) (by simpa using r)
    | some g =>
      simp [hp] at ls hk ⊢
      rw [← List.map_append]
      refine ⟨by omega, ?_⟩
      refine compW_fm nD (fun c => if (rwAt T c).code.isSome = true then some (stepD p (.take c)) else none) (fun c hc Q q => ?_) ?_
      · have hc := List.mem_append.mp hc
        simp [nD, hk c hc, ge_oD]
        exact turn c Q q
      · rw [List.nil_append, take_listS]
        refine ⟨rfl, ?_⟩
        refine compW_fm oD (fun o => o.map nD) (fun o ho Q q => ?_) ?_
        · simp [ge_oD]
          cases o with
          | none => exact q
          | some n => exact q
        · have e : (rwAt T p).slots.filterMap (fun o => o.map nD) = ((rwAt T p).slots.filterMap id).map nD := by rw [List.map_filterMap]; rfl
          rw [List.nil_append, e]
          rw [← List.map_append]
          have kl : ((rwAt T p).slots.filterMap id).length + (rwAt T p).pool.length = (rwAt T p).kids.length := by unfold Rw.kids; rw [List.length_append]
          have ec : (((rwAt T p).slots.filterMap id).map nD = [] ∧ (rwAt T p).pool = []) = ((rwAt T p).kids = []) := by unfold Rw.kids; rw [List.map_eq_nil_iff, List.append_eq_nil_iff]
          refine ⟨by rw [List.length_map]; omega, eqOk_nats, ?_⟩
          simp only [ec]
          exact fin (seen w (rwAt T p) rows ++ (rwAt T p).pool) (rwAt T p).kids (by rw [List.length_append]; omega) (by simpa using r)
  | _ => simp (decide := true) [Ins.word]; exact r
end Fy
end
section
/-! FyK19 -/
namespace Fy
open PySem PySem.Spec PyProof.Rows L2
/-! ### all steps by the law; forks -/
theorem stD_inj {a b : Nat × Mv} (h : stD a = stD b) : a = b := by
  unfold stD stepD at h
  simp [nD] at h
  have e1 : a.1 = b.1 := by omega
  have e2 : a.2 = b.2 := mv_ext h.2.1 h.2.2
  exact Prod.ext e1 e2
theorem list_lift {α : Type} {f : α → D} {P : α → Prop} : ∀ {es : List D}, (∀ d ∈ es, ∃ q, P q ∧ f q = d) → ∃ qs : List α, es = qs.map f ∧ ∀ q ∈ qs, P q
  | [], _ => ⟨[], rfl, fun q h => (by cases h)⟩
  | d :: es, h => by
    obtain ⟨q, a, b⟩ := h d (List.mem_cons_self ..)
    obtain ⟨qs, c, e⟩ := list_lift (es := es) fun d hd => h d (List.mem_cons_of_mem _ hd)
    exact ⟨q :: qs, by rw [List.map_cons, b, c], fun x hx => by
      rcases List.mem_cons.mp hx with rfl | hx
      · exact a
      · exact e x hx⟩
theorem kk69 : Keeps Gs N69 B69 2 G69 := by
  rintro ds R ⟨w, T, rfl, S, h, hl, r⟩
  refine ⟨rfl, ?_⟩
  have sz := size_big
  obtain ⟨a1, a2⟩ := all_len S h hl
  let f : Nat → List (Nat × Mv) := fun p => if living T p = true then (movesT w T p).map fun m => (p, m) else []
  have ef : T.zipIdx.flatMap (fun q => f q.2) = allMv w T := by
    unfold allMv
    rw [List.range_eq_range', ← List.zipIdx_map_snd, List.flatMap_map]
  simp [ρ0, gcs, B69, N69, folkD]
  rw [enumD_map]
  refine forW_inv (fun q : Rw × Nat => .raw [.int q.2, q.1.law]) (fun rest ρ => ∃ acc a b, ρ = [some (false, sysD w), some (false, folkD T), some (false, .lst (List.map stD acc)), a, b] ∧ acc ++ rest.flatMap (fun q => f q.2) = allMv w T ∧ ∀ q ∈ rest, q.2 < T.length ∧ q.1 = rwAt T q.2) (fun ρ hρ => ?_) (fun x rest ρ hI N hN => ?_) ⟨[], none, none, rfl, ef, fun q hq => ?_⟩
  · obtain ⟨acc, a, b, rfl, e, _⟩ := hρ
    have e : acc = allMv w T := by simpa using e
    subst e
    simp
    refine ⟨.inr (.inr ⟨(allMv w T).map fun q => ((q.1 : Int), q.2.word, q.2.num), by rw [List.map_map]; rfl⟩), by rw [List.length_map]; exact a2, .inl ?_, fun es e1 e2 _ => ?_⟩
    · show List.Pairwise (· ≠ ·) _
      rw [List.pairwise_map]
      exact a1.imp fun {a b} l z => l (stD_inj z)
    · obtain ⟨qs, q1, q2⟩ := list_lift (f := stD) (P := fun q => q ∈ allMv w T) (es := es) fun d hd => by
        have := (e2 d).mp hd
        simpa using this
      have pl : es.length ≤ (allMv w T).length := by
        have nd2 : ((allMv w T).map stD).Nodup := by
          show List.Pairwise (· ≠ ·) _
          rw [List.pairwise_map]
          exact a1.imp fun {a b} l z => l (stD_inj z)
        have := ((List.perm_ext_iff_of_nodup e1 nd2).mpr fun d => e2 d).length_eq
        rw [List.length_map] at this
        omega
      rw [q1]
      refine r qs (fun q hq => mem_all.mp (q2 q hq)) ?_
      have := congrArg List.length q1
      rw [List.length_map] at this
      omega
  · obtain ⟨acc, a, b, rfl, e, hq⟩ := hI
    obtain ⟨x1, x2⟩ := hq x (List.mem_cons_self ..)
    have al : acc.length + (f x.2).length ≤ 60 := by
      have := congrArg List.length e
      simp only [List.flatMap_cons, List.length_append] at this
      omega
    simp [x2]
    rw [List.flatMap_cons] at e
    have rest' : ∀ q ∈ rest, q.2 < T.length ∧ q.1 = rwAt T q.2 := fun q z => hq q (List.mem_cons_of_mem _ z)
    by_cases hh : (rwAt T x.2).here = true
    · rw [if_pos hh]
      by_cases hc : (rwAt T x.2).code = none
      · rw [if_pos hc]
        have ef : f x.2 = (movesT w T x.2).map fun m => (x.2, m) := if_pos (by simp [living, hh, hc])
        rw [ef] at e al
        refine call68 S h (by omega) x1 ?_
        simp at al ⊢
        refine ⟨by omega, ?_⟩
        refine hN _ ⟨acc ++ (movesT w T x.2).map fun m => (x.2, m), some (false, .int x.2), some (false, (rwAt T x.2).law), ?_, by rw [List.append_assoc]; exact e, rest'⟩
        rw [List.map_append, List.map_map]
        rfl
      · rw [if_neg hc]
        have ef : f x.2 = [] := if_neg (by simp [living, hc])
        rw [ef] at e
        exact hN _ ⟨acc, _, _, rfl, e, rest'⟩
    · rw [if_neg hh]
      have ef : f x.2 = [] := if_neg (by simp [living, hh])
      rw [ef] at e
      exact hN _ ⟨acc, _, _, rfl, e, rest'⟩
  · have := List.mem_zipIdx_iff_getElem?.mp hq
    have l := (List.getElem?_eq_some_iff.mp this).1
    rw [rwAt_get l] at this
    exact ⟨l, (Option.some.inj this).symm⟩
section
variable {Q : D → Prop} {w : Sys} {T : Folk} {p : Nat}
theorem call60 {i : Nat} {tag : Str} {par fp : Option Nat} (S : SysOk w) (h : i < w.length) (q : Q (newbornT w i tag par fp).law) : G60 [sysD w, nD i, .str tag, oD par] Q := ⟨w, i, tag, par, fp, rfl, S, h, q⟩
theorem pool_nd (h : TOk w T) (hp : p < T.length) {o : Option Nat} {j : Nat} (ho : (rwAt T p).slots[j]? = some o) : ((rwAt T p).pool ++ o.toList).Nodup := by
  have nd := (h.row p hp).nd
  rw [List.nodup_append]
  refine ⟨(List.nodup_append.mp nd).2.1, by cases o <;> simp, fun a ha b hb z => ?_⟩
  subst z
  cases o with
  | none => cases hb
  | some c =>
    simp at hb; subst hb
    exact (List.nodup_append.mp nd).2.2 a (mem_slots.mpr (List.mem_of_getElem? ho)) a ha rfl
theorem pool_new (h : TOk w T) (hp : p < T.length) : ((rwAt T p).pool ++ [T.length]).Nodup := by
  have nd := (h.row p hp).nd
  rw [List.nodup_append]
  refine ⟨(List.nodup_append.mp nd).2.1, by simp, fun a ha b hb z => ?_⟩
  subst z
  simp at hb; subst hb
  have := ((h.kid p hp _).mp (List.mem_append_right _ ha)).1
  omega
end
theorem len_folk {T : Folk} {Q : D → Prop} : bltW .len (folkD T) Q = Q (.int T.length) := by unfold folkD; simp
theorem items_sys {w : Sys} : itemsD (sysD w) = some (w.map Kd.d) := rfl
theorem add_folk {T : Folk} {nb : Rw} {Q : D → Prop} : addW (folkD T) (.tup [nb.law]) Q = (T.length + 1 ≤ sizeLine ∧ Q (folkD (T ++ [nb]))) := by unfold folkD; simp
theorem name_idx {w : Sys} {x : Str} {Q : D → Prop} (h : x ∈ w.map (·.name)) (q : Q (.int ((w.map (·.name)).idxOf x : Nat))) : idxW (.lst (w.map fun k => .str k.name)) (.str x) Q := ⟨w.map (·.name), by rw [List.map_map]; rfl, (w.map (·.name)).idxOf x, idxOf_get h, fun m hm => idxOf_first hm, q⟩
theorem kk70 : Keeps Gs N70 B70 4 G70 := by
  rintro ds R ⟨w, T, p, kind, tag, slot, g, rfl, S, h, hl, ⟨hp, hh, hn, hm⟩, hi, r⟩
  refine ⟨rfl, ?_⟩
  have sz := size_big
  have R0 := h.row p hp
  have I := S.ins R0
  rw [hi] at I
  obtain ⟨ik, it, is, ig⟩ := I
  obtain ⟨n1, n2⟩ := SysOk.named (SysOk.later ik)
  obtain ⟨b1, b2⟩ := kids_bound h hl hp
  have l2 := slots2 S R0
  simp [ρ0, gcs, B70, N70, Ins.d, len_folk, items_sys]
  refine compW_map Kd.d (fun k => .str k.name) (fun x hx Q q => ?_) ?_
  · simp; exact q
  · rw [List.nil_append]
    refine name_idx (SysOk.later ik) ?_
    refine call60 (par := some p) (fp := some (rwAt T p).place) S n1 ?_
    simp [add_folk]
    refine ⟨by omega, ?_⟩
    unfold forkedT at r
    simp only [] at r
    generalize hb : newbornT w ((w.map (·.name)).idxOf kind) tag (some p) (some (rwAt T p).place) = b at r ⊢
    have lt : p < (T ++ [b]).length := by simp; omega
    have ll : (T ++ [b]).length ≤ 30 := by simp; omega
    have t1 : rwAt (T ++ [b]) p = rwAt T p := by rw [rwAt_app, if_neg (by omega)]
    by_cases e : slot = ""
    · rw [if_pos e] at r ⊢
      exact call63 (cs := [T.length]) lt ll (by rw [t1]; exact pool_new h hp) (by rw [t1]; simp; omega) r
    · rw [if_neg e] at r ⊢
      have is := is.resolve_left e
      have hj : slotIx w (rwAt T p) slot < (rwAt T p).slots.length := by rw [R0.sl]; exact List.idxOf_lt_length_of_mem is
      rw [nD, fx' lt, t1, lx0, kx R0.k, kd1]
      refine ⟨strs_tl, str_idx is ?_⟩
      rw [show (((kdAt w (rwAt T p).k).slots.idxOf slot : Nat) : Int) = ((slotIx w (rwAt T p) slot : Nat) : Int) from rfl, fx' lt, t1, lx6, sx hj, ge_oD]
      have nd := pool_nd h hp (slot_get hj)
      generalize (rwAt T p).slots.getD (slotIx w (rwAt T p) slot) none = o at r nd ⊢
      have fin : ∀ cs : List Nat, cs = o.toList → G63 [folkD (T ++ [b]), nD p, .lst (cs.map nD)] fun d => G64 [d, nD p, nD (slotIx w (rwAt T p) slot), oD (some T.length)] R := fun cs ec => by
        subst ec
        have lo : o.toList.length ≤ 1 := by cases o <;> simp
        refine call63 lt ll (by rw [t1]; exact nd) (by rw [t1, List.length_append]; omega) ?_
        have l2' : p < (pooledT (T ++ [b]) p o.toList).length := by unfold pooledT; rw [len_put]; exact lt
        have sp : (rwAt (pooledT (T ++ [b]) p o.toList) p).slots = (rwAt T p).slots := by
          unfold pooledT
          rw [rwAt_put lt, if_pos rfl, t1]
        exact call64 l2' (by unfold pooledT; rw [len_put]; exact ll) (by rw [sp]; exact hj) (by rw [sp]; exact l2) r
      cases o with
      | none => exact fin [] rfl
      | some c => exact fin [c] rfl
theorem kk71 : Keeps Gs N71 B71 5 G71 := by
  rintro ds R ⟨w, T, p, c, rows, pool, non, lat, meant, rfl, S, h, hl, ⟨hp, hh, hn, hm⟩, hi, r⟩
  refine ⟨rfl, ?_⟩
  have sz := size_big
  have R0 := h.row p hp
  have I := S.ins R0
  rw [hi] at I
  obtain ⟨sub, a2, a3, a4, a5, a6, a7, a8, a9⟩ := I
  have l2 := slots2 S R0
  unfold movesT at hm
  rw [hi] at hm
  rcases mem_wait hm with ⟨c', e, hc1, hc2⟩ | e | ⟨e, _⟩
  rotate_left
  · cases e
  · cases e
  cases e
  have ck := (looked_sub S R0 sub).subset hc1
  obtain ⟨hcl, hch, hcp⟩ := (h.kid p hp c).mp ck
  have hpc := h.parlt hcl hch hcp
  have b2 := (kids_bound h hl hp).2
  have es : stepT w T p (.take c) = takenT w T p c rows pool := by unfold stepT; simp only [hi]
  rw [es] at r
  have ip : rwAt (putT T c fun r => { r with here := false }) p = rwAt T p := by rw [rwAt_put hcl, if_neg (by omega)]
  have t1 : p < (putT T c fun r => { r with here := false }).length := by rw [len_put]; exact hp
  have tl : (putT T c fun r => { r with here := false }).length ≤ 30 := by rw [len_put]; omega
  simp [ρ0, gcs, B71, N71]
  refine call62 (s := 8) (fun r => { r with here := false }) hcl (by omega) (by omega) rfl ?_
  simp [nD, hp]
  refine ⟨.inl ⟨rfl, List.all_eq_true.mpr fun d hd => ?_⟩, ?_⟩
  · obtain ⟨n, _, rfl⟩ := List.mem_map.mp hd; rfl
  by_cases m : c ∈ (rwAt T p).pool
  · rw [if_pos ⟨c, m, rfl⟩]
    have hps : ∃ g, pool = some g := by
      cases pool with
      | some g => exact ⟨g, rfl⟩
      | none =>
        have hc1 : c ∈ seen w (rwAt T p) rows := by simpa using hc1
        obtain ⟨q, _, h2⟩ := seen_at hc1
        exact absurd rfl ((List.nodup_append.mp R0.nd).2.2 c (mem_slots.mpr (List.mem_of_getElem? h2)) c m)
    obtain ⟨g, rfl⟩ := hps
    refine compW_fm nD (fun x => if x ≠ c then some (nD x) else none) (fun x hx Q z => ?_) ?_
    · by_cases e : x = c
      · rw [if_neg (by simpa using e)] at z
        simp [e, nD]
        exact z
      · rw [if_pos e] at z
        have e' : ¬ (x : Int) = c := by omega
        simp [e', nD]
        exact z
    · have e : (rwAt T p).pool.filterMap (fun x => if x ≠ c then some (nD x) else none) = ((rwAt T p).pool.filter (· ≠ c)).map nD := by
        induction (rwAt T p).pool with
        | nil => rfl
        | cons x xs ih =>
          rw [List.filterMap_cons, List.filter_cons]
          by_cases z : x = c
          · rw [if_neg (by simpa using z), if_neg (by simpa using z)]; exact ih
          · rw [if_pos z, if_pos (by simpa using z), List.map_cons]; exact congrArg _ ih
      rw [List.nil_append, e]
      refine call62 (s := 7) (fun r => { r with pool := (rwAt T p).pool.filter (· ≠ c) }) t1 tl (by omega) rfl ?_
      refine call62 (s := 5) (fun r => { r with place := g }) (by rw [len_put]; exact t1) (by rw [len_put]; exact tl) (by omega) rfl ?_
      have eT : takenT w T p c rows (some g) = putT (putT (putT T c fun r => { r with here := false }) p fun r => { r with pool := (rwAt T p).pool.filter (· ≠ c) }) p fun r => { r with place := g } := by
        unfold takenT
        simp only [if_pos m]
        unfold goesT
        have : (putT (putT T c fun r => { r with here := false }) p fun r => { r with pool := r.pool.filter (· ≠ c) }) = (putT (putT T c fun r => { r with here := false }) p fun r => { r with pool := (rwAt T p).pool.filter (· ≠ c) }) := by
          generalize (putT T c fun r => { r with here := false }) = U at ip ⊢
          unfold putT
          rw [ip]
        rw [this]
        rfl
      rw [eT] at r
      exact r
  · rw [if_neg (fun ⟨x, h1, h2⟩ => m (by have : x = c := (by omega); exact this ▸ h1))]
    have hcs : c ∈ seen w (rwAt T p) rows := by
      split at hc1
      · exact (List.mem_append.mp hc1).resolve_right m
      · exact hc1
    obtain ⟨j, q, A⟩ := take_at h hp hcs fun q hq => sub.subset (List.mem_map_of_mem hq)
    have hj : j < (rwAt T p).slots.length := (List.getElem?_eq_some_iff.mp A.at').1
    refine slots_ix A.at' A.ix ?_
    refine compW_fm WRow.d (fun z => if decide (z.1 = (kdAt w (rwAt T p).k).slots.getD j default) = true then some (WRow.d z) else none) (fun z hz Q y => ?_) ?_
    · have en : (kdAt w (rwAt T p).k).slots.getD j default = q.1 := by rw [List.getD_eq_getElem?_getD, A.name]; rfl
      rw [en] at y
      simp [hp, R0.k]
      refine str_ix A.name ?_
      by_cases e : z.1 = q.1
      · rw [if_pos (by simpa using e)] at y
        simp [e]
        exact y
      · rw [if_neg (by simpa using e)] at y
        simp [e]
        exact y
    · rw [List.nil_append]
      refine ⟨_, head_fm A.hd, ?_⟩
      refine call64 (c := none) t1 tl (by rw [ip]; exact hj) (by rw [ip]; exact l2) ?_
      simp [hcl]
      obtain ⟨k, hk⟩ := Option.isSome_iff_exists.mp hc2
      have k2 := (h.row c hcl).cd k hk
      have t2 : p < (slottedT (putT T c fun r => { r with here := false }) p j none).length := by unfold slottedT; rw [len_put]; exact t1
      have fin : ∀ tgt : Nat, (match (rwAt T c).code with | some 0 => q.2.1 | some 1 => q.2.2.1 | _ => q.2.2.2) = tgt → G62 [folkD (slottedT (putT T c fun r => { r with here := false }) p j none), .int p, .int 5, nD tgt] R := fun tgt et => by
        refine call62 (s := 5) (fun r => { r with place := tgt }) t2 (by unfold slottedT; rw [len_put]; exact tl) (by omega) rfl ?_
        have eT : takenT w T p c rows pool = putT (slottedT (putT T c fun r => { r with here := false }) p j none) p fun r => { r with place := tgt } := by
          unfold takenT
          simp only [if_neg m, A.ix]
          rw [List.headD_eq_head?_getD, A.hd]
          show goesT _ p (match (rwAt T c).code with | some 0 => q.2.1 | some 1 => q.2.2.1 | _ => q.2.2.2) = _
          rw [et]
          rfl
        rw [eT] at r
        exact r
      rw [hk]
      have k3 : k = 0 ∨ k = 1 ∨ k = 2 := by omega
      rcases k3 with rfl | rfl | rfl
      · exact ⟨_, at1, fin q.2.1 (by rw [hk]; rfl)⟩
      · exact ⟨_, at2, fin q.2.2.1 (by rw [hk]; rfl)⟩
      · exact ⟨_, at3, fin q.2.2.2 (by rw [hk]; rfl)⟩
end Fy
end
section
/-! FyK20 -/
namespace Fy
open PySem PySem.Spec PyProof.Rows L2
section
variable {Q : D → Prop} {w : Sys} {T : Folk} {p : Nat}
theorem call62g {v : Nat} (hp : p < T.length) (hl : T.length ≤ 30) (q : Q (folkD (goesT T p v))) : G62 [folkD T, .int p, .int 5, .int v] Q :=
  call62 (s := 5) (v := nD v) (fun r => { r with place := v }) hp hl (by omega) rfl q
theorem call65 {x code : Nat} (S : SysOk w) (h : TOk w T) (hl : T.length ≤ 25) (hx : x < T.length) (hh : (rwAt T x).here = true) (q : Q (folkD (endedT T x code))) : G65 [folkD T, .int x, .int code] Q := ⟨w, T, x, code, rfl, S, h, hl, hx, hh, q⟩
end
theorem kk72 : Keeps Gs N72 B72 3 G72 := by
  rintro ds R ⟨w, T, p, m, rfl, S, h, hl, ⟨hp, hh, hn, hm⟩, r⟩
  refine ⟨rfl, ?_⟩
  have C : Can w T p m := ⟨hp, hh, hn, hm⟩
  have R0 := h.row p hp
  have I := S.ins R0
  have b2 := (kids_bound h hl hp).2
  have l2 := slots2 S R0
  simp [ρ0, B72, N72, gcs, stepD, nD]
  refine call66 S h hp ?_
  have hm' := hm
  unfold movesT at hm'
  generalize hi : insAt w (rwAt T p) = i at hm' I ⊢
  cases i with
  | go ts =>
    obtain ⟨t, ht, rfl⟩ := List.mem_map.mp hm'
    unfold stepT at r
    simp only [hi] at r
    simp (decide := true) [Mv.word, Mv.num]
    exact call62g hp (by omega) r
  | fork kind tag slot g =>
    simp at hm'; subst hm'
    have f := h.forkOk S (tag := tag) hp hh hn (SysOk.later I.1) I.2.2.1
    have e2 : stepT w T p .fork = goesT (forkedT w T p kind tag slot) p g := by unfold stepT; simp only [hi]
    rw [e2] at r
    simp (decide := true) [Mv.word, Mv.num]
    refine ⟨w, T, p, kind, tag, slot, g, rfl, S, h, hl, C, hi, ?_⟩
    simp (decide := true) [Ins.d, nD]
    exact call62g (by omega) (by omega) r
  | exit c =>
    simp at hm'; subst hm'
    unfold stepT at r
    simp only [hi] at r
    simp (decide := true) [Mv.word, Mv.num, Ins.d, nD]
    exact call65 S h hl hp hh r
  | kill s g =>
    simp at hm'; subst hm'
    have hj : slotIx w (rwAt T p) s < (rwAt T p).slots.length := by rw [R0.sl]; exact List.idxOf_lt_length_of_mem I.1
    unfold stepT at r
    simp only [hi] at r
    simp (decide := true) [Mv.word, Mv.num, Ins.d, nD, hp, R0.k, strs_tl]
    refine str_idx I.1 ?_
    rw [show (((kdAt w (rwAt T p).k).slots.idxOf s : Nat) : Int) = ((slotIx w (rwAt T p) s : Nat) : Int) from rfl]
    refine ⟨_, at_s hj, ?_⟩
    generalize e : (rwAt T p).slots.getD (slotIx w (rwAt T p) s) none = o at r ⊢
    simp [ge_oD]
    cases o with
    | none =>
      simp
      exact call62g hp (by omega) r
    | some c =>
      obtain ⟨c1, c2, c3⟩ := (h.kid p hp c).mp (getD_kid e)
      simp only [] at r
      cases hc : (rwAt T c).code with
      | some k =>
        rw [hc] at r
        simp [oD, oi, c1, hc]
        exact call62g hp (by omega) (by simpa using r)
      | none =>
        rw [hc] at r
        simp [oD, oi, c1, hc]
        have E := h.ended (code := 2) c1 c2
        refine call65 S h hl c1 c2 ?_
        exact call62g (by rw [E.len]; exact hp) (by rw [E.len]; omega) (by simpa using r)
  | release s g =>
    simp at hm'; subst hm'
    have hj : slotIx w (rwAt T p) s < (rwAt T p).slots.length := by rw [R0.sl]; exact List.idxOf_lt_length_of_mem I.1
    unfold stepT at r
    simp only [hi] at r
    have nd := pool_nd h hp (slot_get hj)
    simp (decide := true) [Mv.word, Mv.num, Ins.d, nD, hp, R0.k, strs_tl]
    refine str_idx I.1 ?_
    rw [show (((kdAt w (rwAt T p).k).slots.idxOf s : Nat) : Int) = ((slotIx w (rwAt T p) s : Nat) : Int) from rfl]
    refine ⟨_, at_s hj, ?_⟩
    generalize e : (rwAt T p).slots.getD (slotIx w (rwAt T p) s) none = o at r nd ⊢
    simp [ge_oD]
    cases o with
    | none =>
      simp
      exact call62g hp (by omega) r
    | some c =>
      simp only [] at r
      have pl : (pooledT T p [c]).length = T.length := by simp [pooledT]
      have sp : (rwAt (pooledT T p [c]) p).slots = (rwAt T p).slots := by
        unfold pooledT
        rw [rwAt_put hp, if_pos rfl]
      simp [oD, oi]
      refine call63 (cs := [c]) hp (by omega) nd (by simp; omega) ?_
      refine call64 (c := none) (by rw [pl]; exact hp) (by rw [pl]; omega) (by rw [sp]; exact hj) (by rw [sp]; exact l2) ?_
      refine call62g ?_ ?_ r
      · unfold slottedT; rw [len_put, pl]; exact hp
      · unfold slottedT; rw [len_put, pl]; omega
  | wait rows pool non lat meant =>
    rcases mem_wait hm' with ⟨c, rfl, _, _⟩ | rfl | ⟨rfl, hs⟩
    · simp (decide := true) [Mv.word, Mv.num]
      exact ⟨w, T, p, c, rows, pool, non, lat, meant, rfl, S, h, hl, C, hi, r⟩
    · unfold stepT at r
      simp only [hi] at r
      simp (decide := true) [Mv.word, Mv.num]
      exact call62g hp (by omega) r
    · obtain ⟨g, rfl⟩ := Option.isSome_iff_exists.mp hs
      unfold stepT at r
      simp only [hi] at r
      simp (decide := true) [Mv.word, Mv.num]
      exact call62g hp (by omega) r
end Fy
end
section
/-! FyK21 -/
namespace Fy
open PySem PySem.Spec PyProof.Rows L2
/-! ### the law's runs -/
theorem fixed_law {r : Rw} : r.law.fixed = true := by
  unfold Rw.law
  show (fixeds _) = true
  simp only [fixeds, D.fixed, fixed_nD, fixed_oD, fixeds_map (fun x => fixed_oD), fixeds_map (fun x => fixed_nD), Bool.and_self]
theorem fixed_folk {T : Folk} : (folkD T).fixed = true := fixeds_map (fun x => fixed_law) T
theorem fixed_st {q : Nat × Mv} : (stD q).fixed = true := rfl
theorem at_l {xs : List D} {a : D} {n : Nat} (h : n = xs.length) : atI (xs ++ [a]) (n : Int) = some a := by
  subst h
  rw [atI_nat (by simp)]
  simp
theorem states_add {w : Sys} {ms : List (Nat × Mv)} {q : Nat × Mv} : (List.range ((ms ++ [q]).length + 1)).map (fun k => folkD (lastT w ((ms ++ [q]).take k))) = (List.range (ms.length + 1)).map (fun k => folkD (lastT w (ms.take k))) ++ [folkD (lastT w (ms ++ [q]))] := by
  have e : (ms ++ [q]).length + 1 = (ms.length + 1) + 1 := by simp
  rw [e, List.range_succ, List.map_append]
  congr 1
  · apply List.map_congr_left
    intro k hk
    have := List.mem_range.mp hk
    rw [List.take_append_of_le_length (by omega)]
  · simp only [List.map_cons, List.map_nil]
    rw [List.take_of_length_le (by simp)]
theorem states_last {w : Sys} {ms : List (Nat × Mv)} : (List.range (ms.length + 1)).map (fun k => folkD (lastT w (ms.take k))) = (List.range ms.length).map (fun k => folkD (lastT w (ms.take k))) ++ [folkD (lastT w ms)] := by
  rw [List.range_succ, List.map_append]
  congr 1
  simp only [List.map_cons, List.map_nil]
  rw [List.take_of_length_le (Nat.le_refl _)]
theorem okd_sts {qs : List (Nat × Mv)} : (D.lst (qs.map stD)).okd := okd_of (n := 2) (ok1_lst fun d h => by
  obtain ⟨n, _, rfl⟩ := List.mem_map.mp h
  exact ok1_st) (by omega)
theorem kk73 : Keeps Gs N73 B73 3 G73 := by
  rintro ds R ⟨w, rfl, S, r⟩
  refine ⟨rfl, ?_⟩
  have sz := size_big
  simp [ρ0, gcs, B73, N73, isLD]
  refine ⟨w, rfl, S, ?_⟩
  simp
  refine ⟨by omega, ?_⟩
  have fin : ∀ (ms : List (Nat × Mv)) (y z : Slot), Good w ms → wpSL Gs (.cons (.ret (.tup (.cons (.blt .tuple (.var 4)) (.cons (.var 5) .nil)))) .nil) { nx := fun x => R .non, rt := R } [some (false, .src), some (false, sysD w), some (false, .int 20), y, some (true, .lst (ms.map stD)), some (true, .lst ((List.range (ms.length + 1)).map fun k => folkD (lastT w (ms.take k)))), z] := fun ms y z g => by
    simp
    exact r ms g
  refine forW_inv (fun i : Nat => .int (0 + (i : Nat))) (fun rest ρ => ∃ (ms : List (Nat × Mv)) (y z : Slot), ρ = [some (false, .src), some (false, sysD w), some (false, .int 20), y, some (true, .lst (ms.map stD)), some (true, .lst ((List.range (ms.length + 1)).map fun k => folkD (lastT w (ms.take k)))), z] ∧ Runs w (firstT w) ms ∧ ms.length + rest.length = 20) (fun ρ hρ => ?_) (fun x rest ρ hI N hN => ?_) ⟨[], none, none, rfl, trivial, by simp⟩
  · obtain ⟨ms, y, z, rfl, a, b⟩ := hρ
    exact fin ms y z ⟨S, a, by simp at b; omega⟩
  · obtain ⟨ms, y, z, rfl, a, b⟩ := hI
    simp at b
    obtain ⟨h1, h2⟩ := run_ok S (first_ok S) a
    have h1 : TOk w (lastT w ms) := h1
    have h2 : (lastT w ms).length ≤ 1 + ms.length := h2
    rw [states_last]
    simp
    refine ⟨folkD (lastT w ms), at_l (by simp), fixed_folk, ?_⟩
    refine ⟨w, lastT w ms, rfl, S, h1, by omega, fun qs q1 q2 => ?_⟩
    simp
    refine ⟨.inr ⟨okd_sts, okd_nil⟩, ?_⟩
    by_cases e : qs = []
    · rw [if_pos e]
      have := fin ms (some (false, .int x)) (some (false, .lst (qs.map stD))) ⟨S, a, by omega⟩
      rw [states_last] at this
      simpa using this
    · rw [if_neg e]
      refine ⟨by omega, ?_⟩
      refine ⟨qs.map stD, .inr rfl, by simpa using e, by rw [List.length_map]; omega, fun d hd => ?_⟩
      obtain ⟨q, hq, rfl⟩ := List.mem_map.mp hd
      have cq := q1 q hq
      refine ⟨by omega, ?_⟩
      refine ⟨folkD (lastT w ms), at_l (by simp), fixed_folk, stD q, at_l (by simp), fixed_st, ?_⟩
      refine ⟨w, lastT w ms, q.1, q.2, rfl, S, h1, by omega, cq, ?_⟩
      have el : lastT w (ms ++ [q]) = stepT w (lastT w ms) q.1 q.2 := by unfold lastT; rw [runT_app]; rfl
      refine hN _ ⟨ms ++ [q], some (false, .int x), some (false, .lst (qs.map stD)), ?_, runs_app.mpr ⟨a, cq, trivial⟩, by simp; omega⟩
      rw [states_add, states_last, el]
      simp
end Fy
end
section
/-! FyK22 -/
namespace Fy
open PySem PySem.Spec PyProof.Rows L2
/-! ### what is asked behind each beginning -/
theorem here_zip : ∀ {T : Folk} {n : Nat}, hereFrom n T = (T.zipIdx n).filterMap fun q => if q.1.here = true then some (q.2, q.1) else none
  | [], n => rfl
  | x :: T, n => by
    have ih := here_zip (T := T) (n := n + 1)
    rw [List.zipIdx_cons, List.filterMap_cons]
    unfold hereFrom
    by_cases h : x.here = true
    · simp only [h, if_true, ih]
    · simp only [h, ih]; simp
theorem eqd_refl_nats : ∀ {ns : List Int}, (D.lst (ns.map D.int)).eqd (.lst (ns.map D.int)) = true
  | [] => rfl
  | n :: ns => by rw [List.map_cons, eqd_lcons, eqd_refl_nats (ns := ns)]; simp
@[simp] theorem eqd_b {a b : Bool} : (D.bl a).eqd (.bl b) = (a == b) := by simp [D.eqd, D.toP, PyData.eqv]
@[simp] theorem eqOk_b {a b : Bool} : eqOk (.bl a) (.bl b) := .inl rfl
theorem okd_ints {ns : List Int} : (D.lst (ns.map D.int)).okd := okd_of (n := 1) (ok1_lst fun d h => by
  obtain ⟨n, _, rfl⟩ := List.mem_map.mp h
  exact ok1_int) (by omega)
theorem st_eqd {a b : Nat × Mv} : (stD a).eqd (stD b) = decide (a = b) := by
  unfold stD stepD
  simp [nD]
  by_cases h : a = b
  · subst h; simp
  · have : ¬ (a.1 = b.1 ∧ a.2.word = b.2.word ∧ a.2.num = b.2.num) := fun z => h (Prod.ext z.1 (mv_ext z.2.1 z.2.2))
    simp [h]
    intro x y z
    exact this ⟨by omega, y, z⟩
theorem any_st {es : List D} {qs : List (Nat × Mv)} {q : Nat × Mv} (h : ∀ d, d ∈ es ↔ d ∈ qs.map stD) : (es.any fun z => z.eqd (stD q)) = decide (q ∈ qs) := by
  by_cases hq : q ∈ qs
  · rw [decide_eq_true hq, List.any_eq_true]
    exact ⟨stD q, (h _).mpr (List.mem_map.mpr ⟨q, hq, rfl⟩), by rw [st_eqd]; simp⟩
  · rw [decide_eq_false hq]
    apply Bool.eq_false_iff.mpr
    intro z
    obtain ⟨d, hd, e⟩ := List.any_eq_true.mp z
    obtain ⟨x, hx, rfl⟩ := List.mem_map.mp ((h d).mp hd)
    rw [st_eqd] at e
    have := of_decide_eq_true e
    subst this
    exact hq hx
theorem okd_tsts {es : List D} {qs : List (Nat × Mv)} (h : ∀ d, d ∈ es ↔ d ∈ qs.map stD) : (D.tup es).okd := okd_of (n := 2) (ok1_tup fun d hd => by
  obtain ⟨n, _, rfl⟩ := List.mem_map.mp ((h d).mp hd)
  exact ok1_st) (by omega)
theorem kk74 : Keeps Gs N74 B74 3 G74 := by
  rintro ds R ⟨w, ms, rfl, g, r⟩
  refine ⟨rfl, ?_⟩
  have sz := size_big
  obtain ⟨h, hl⟩ := g.ok
  have S := g.1
  simp [ρ0, gcs, B74, N74]
  refine ⟨w, ms, rfl, g, fun es he => ?_⟩
  refine ⟨w, ms, rfl, g, ?_⟩
  generalize hT : lastT w ms = T at *
  simp [rowsD]
  refine compW_map (fun q : Nat × Rw => q.2.row w q.1) (fun q => .int (q.1 : Int)) (fun q hq Q z => ?_) ?_
  · simp; exact z
  · rw [List.nil_append, show itemsD (folkD T) = some (T.map Rw.law) from rfl]
    simp
    rw [enumD_map]
    refine compW_fm (fun q : Rw × Nat => .raw [.int q.2, q.1.law]) (fun q => if q.1.here = true then some (.int (q.2 : Int)) else none) (fun q hq Q z => ?_) ?_
    · simp
      by_cases e : q.1.here = true
      · rw [if_pos e] at z ⊢; exact z
      · rw [if_neg e] at z ⊢; exact z
    · have e1 : T.zipIdx.filterMap (fun q => if q.1.here = true then some (D.int (q.2 : Int)) else none) = (hereFrom 0 T).map fun q => .int (q.1 : Int) := by
        rw [here_zip, List.map_filterMap]
        congr 1
        funext q
        by_cases e : q.1.here = true
        · simp [e]
        · simp [e]
      rw [List.nil_append, e1]
      have e2 : ((hereFrom 0 T).map fun q => D.int (q.1 : Int)) = (keysT T).map D.int := by unfold keysT; rw [List.map_map]; rfl
      rw [e2]
      refine ⟨.inr ⟨okd_ints, okd_ints⟩, ?_⟩
      rw [eqd_refl_nats]
      simp
      refine forW_inv (fun q : Nat × Rw => q.2.row w q.1) (fun rest ρ => (∀ q ∈ rest, q ∈ hereFrom 0 T) ∧ ∃ x4 x7 x8 x9 x10, ρ = [some (false, sysD w), some (false, stepsD ms), some (false, folkD T), some (false, D.lst (List.map D.int (keysT T))), x4, some (false, D.tup es), some (false, D.tup (List.map (fun q => Rw.row w q.fst q.snd) (hereFrom 0 T))), x7, x8, x9, x10]) (fun ρ hρ => ?_) (fun x rest ρ hI N hN => ?_) ⟨fun q hq => hq, none, none, none, none, none, rfl⟩
      · obtain ⟨_, x4, x7, x8, x9, x10, rfl⟩ := hρ
        simp
        exact r
      · obtain ⟨hq, x4, x7, x8, x9, x10, rfl⟩ := hI
        obtain ⟨hp, hx, hh⟩ := here_mem0.mp (hq x (List.mem_cons_self ..))
        have hr : ∀ q ∈ rest, q ∈ hereFrom 0 T := fun q z => hq q (List.mem_cons_of_mem _ z)
        obtain ⟨p, r'⟩ := x
        simp only [] at hp hx hh
        subst hx
        have go := fun a b c d e => hN _ ⟨hr, a, b, c, d, e, rfl⟩
        simp
        refine call66 S h hp ?_
        simp
        cases hc : (rwAt T p).code with
        | some k =>
          simp
          exact go _ _ _ _ _
        | none =>
          simp
          generalize hi : insAt w (rwAt T p) = i
          cases i with
          | wait rows pool non lat meant =>
            cases pool with
            | none => cases lat <;> simp (decide := true) [Ins.word] <;> exact go _ _ _ _ _
            | some gg =>
              have wd : ("wait" : Str) = (Ins.wait rows (some gg) non lat meant).word ∨ ("poll" : Str) = (Ins.wait rows (some gg) non lat meant).word := by cases lat; exact .inl rfl; exact .inr rfl
              simp
              rw [if_pos wd]
              refine ⟨w, ms, p, rfl, g, by rw [hT]; exact hp, fun xs hx => ?_⟩
              rw [hT] at hx
              simp
              refine compW_fm nD (fun c => if c ≠ p ∧ c < T.length ∧ (rwAt T c).here = true then some (nD c) else none) (fun c hcx Q z => ?_) ?_
              · simp [nD]
                by_cases e : c = p
                · rw [if_neg (fun y => y.1 e)] at z
                  simp [e]
                  exact z
                · have e' : ¬ (c : Int) = p := by omega
                  simp [e']
                  refine ⟨.inl ⟨rfl, by simp [List.all_map, flatD]⟩, ?_⟩
                  by_cases k : c < T.length ∧ (rwAt T c).here = true
                  · rw [if_pos ⟨e, k⟩] at z
                    rw [if_pos (keysT_mem.mpr k)]
                    exact z
                  · rw [if_neg (fun y => k y.2)] at z
                    rw [if_neg (fun y => k (keysT_mem.mp y))]
                    exact z
              · have ef : xs.filterMap (fun c => if c ≠ p ∧ c < T.length ∧ (rwAt T c).here = true then some (nD c) else none) = (xs.filter fun c => decide (c ≠ p ∧ c < T.length ∧ (rwAt T c).here = true)).map nD := by
                  clear hx
                  induction xs with
                  | nil => rfl
                  | cons x xs ih =>
                    rw [List.filterMap_cons, List.filter_cons]
                    by_cases z : x ≠ p ∧ x < T.length ∧ (rwAt T x).here = true
                    · rw [if_pos z, if_pos (by simpa using z), List.map_cons]; exact congrArg _ ih
                    · rw [if_neg z, if_neg (by simpa using z)]; exact ih
                have left : (xs.filter fun c => decide (c ≠ p ∧ c < T.length ∧ (rwAt T c).here = true)) = [] ↔ (rwAt T p).kids = [] := by
                  rw [h.whole hp hh hc, List.filter_eq_nil_iff]
                  constructor
                  · intro z c c1 c2 c3
                    have lt := c3.lt h.down
                    exact z c ((hx c).mpr (.inr ⟨c1, c3⟩)) (by simpa using ⟨by omega, c1, c2⟩)
                  · intro z c c1 c2
                    obtain ⟨c3, c4, c5⟩ := of_decide_eq_true c2
                    rcases (hx c).mp c1 with e | ⟨_, e⟩
                    · exact c3 e
                    · exact z c c4 c5 e
                have n1 : (es.any fun z => z.eqd (.tup [.int p, .str "none", .int (-1)])) = decide ((rwAt T p).kids = []) := by
                  refine (any_st (q := (p, Mv.non)) he).trans ?_
                  refine decide_eq_decide.mpr ?_
                  rw [mem_all, ← (non_iff hi).1]
                  exact ⟨fun z => z.2.2.2, fun z => ⟨hp, hh, hc, z⟩⟩
                have n2 : (es.any fun z => z.eqd (.tup [.int p, .str "later", .int (-1)])) = decide ((rwAt T p).kids ≠ [] ∧ lat.isSome = true) := by
                  refine (any_st (q := (p, Mv.later)) he).trans ?_
                  refine decide_eq_decide.mpr ?_
                  rw [mem_all, ← (non_iff hi).2]
                  exact ⟨fun z => z.2.2.2, fun z => ⟨hp, hh, hc, z⟩⟩
                have o1 : ∀ m : Mv, (D.tup [.int p, .str m.word, .int m.num]).okd := fun m => okd_of (ok1_st (q := (p, m))) (by omega)
                rw [List.nil_append, ef]
                refine ⟨.inr ⟨o1 .non, okd_tsts he⟩, eqOk_nats, ?_⟩
                rw [n1]
                generalize (xs.filter fun c => decide (c ≠ p ∧ c < T.length ∧ (rwAt T c).here = true)) = lf at left
                have ie : (lf.map nD).isEmpty = decide ((rwAt T p).kids = []) := by
                  by_cases z : lf = []
                  · rw [decide_eq_true (left.mp z), z]; rfl
                  · rw [decide_eq_false (fun y => z (left.mpr y))]
                    cases lf with
                    | nil => exact absurd rfl z
                    | cons a b => rfl
                rw [ie, if_pos rfl]
                refine ⟨.inr ⟨o1 .later, okd_tsts he⟩, eqOk_nats, ?_⟩
                have me : (lf.map nD = []) = ((rwAt T p).kids = []) := by rw [List.map_eq_nil_iff]; exact propext left
                simp only [me]
                by_cases k : (rwAt T p).kids = []
                · rw [if_pos k, if_neg]
                  · exact go _ _ _ _ _
                  · intro z
                    have y := List.any_eq_true.mpr z
                    rw [n2] at y
                    exact (of_decide_eq_true y).1 k
                · rw [if_neg k, n2, if_pos]
                  · exact go _ _ _ _ _
                  · refine decide_eq_decide.mpr ?_
                    cases lat with
                    | none => simp (decide := true) [Ins.word]
                    | some l => simp (decide := true) [Ins.word, k]
          | _ => simp (decide := true) [Ins.word]; exact go _ _ _ _ _
end Fy
end
section
/-! FyAll -/
namespace Fy
open PySem PySem.Spec PyProof.Rows L2
theorem allK : AllK Gs G27 where
  k0 := kk0 mono_gs
  k1 := kk1 mono_gs rfl
  k2 := kk2 mono_gs
  k3 := kk3 mono_gs
  k4 := kk4 mono_gs rfl rfl
  k5 := kk5 mono_gs rfl
  k6 := kk6 mono_gs
  k7 := kk7 mono_gs rfl
  k8 := kk8 mono_gs rfl rfl rfl
  k9 := kk9 mono_gs rfl rfl
  k10 := kk10 mono_gs rfl rfl rfl rfl
  k11 := kk11 mono_gs rfl rfl
  k12 := kk12 mono_gs rfl rfl rfl rfl rfl rfl
  k13 := kk13
  k14 := kk14
  k15 := kk15
  k16 := kk16
  k17 := kk17
  k18 := kk18
  k19 := kk19
  k20 := kk20
  k21 := kk21
  k22 := kk22
  k23 := kk23
  k24 := kk24
  k25 := kk25
  k26 := kk26
  k27 := kk27
  s27 := rfl
  k28 := kk28
  k29 := kk29
  k30 := kk30
  k31 := kk31
  k32 := kk32
  k33 := kk33
  k34 := kk34
  k35 := kk35
  k36 := kk36
  k37 := kk37
  k38 := kk38
  k39 := kk39
  k40 := kk40
  k41 := kk41
  k42 := kk42
  k43 := kk43
  k44 := kk44
  k45 := kk45
  k46 := kk46
  k47 := kk47
  k48 := kk48
  k49 := kk49
  k50 := kk50
  k53 := kk53
  k54 := kk54
  k55 := kk55
  k56 := kk56
  k57 := kk57
  k58 := kk58
  k59 := kk59
  k60 := kk60
  k61 := kk61
  k62 := kk62
  k63 := kk63
  k64 := kk64
  k65 := kk65
  k66 := kk66
  k67 := kk67
  k68 := kk68
  k69 := kk69
  k70 := kk70
  k71 := kk71
  k72 := kk72
  k73 := kk73
  k74 := kk74
end Fy
end
section
/-! FyP52 -/
namespace Fy
open PySem PySem.Spec PyProof.Rows L2
open C8 (scC fnScope_by)
/-! ### _law_pick, by hand -/
def N52 : List Str := ["_law_source_here", "_law_many", "_law_digit", "_law_cells", "_law_spot", "_law_cell", "_law_value"]
theorem S52 : FnScope N52 ["_law_source_here", "_law_many"] (defScope (top 73)) := fnScope_by (by decide +kernel)
section
variable {H : Hp} {a L : Addr} {sp re co : Int}
theorem dg_count (h : H a = some (.dK (srcKvs L sp re co))) : DGet H a (.str "count") (some (.int co)) := DGet.k (k := .inr "count") h
theorem dg_rest (h : H a = some (.dK (srcKvs L sp re co))) : DGet H a (.str "rest") (some (.int re)) := DGet.k (k := .inr "rest") h
theorem dg_spot (h : H a = some (.dK (srcKvs L sp re co))) : DGet H a (.str "spot") (some (.int sp)) := DGet.k (k := .inr "spot") h
theorem dg_cells (h : H a = some (.dK (srcKvs L sp re co))) : DGet H a (.str "cells") (some (.ref L)) := DGet.k (k := .inr "cells") h
theorem dp_count {x : Int} (h : H a = some (.dK (srcKvs L sp re co))) : DPut H a (.str "count") (.int x) (upd H a (.dK (srcKvs L sp re x))) := DPut.k (k := .inr "count") h (by show 4 < sizeLine; decide)
theorem dp_rest {x : Int} (h : H a = some (.dK (srcKvs L sp re co))) : DPut H a (.str "rest") (.int x) (upd H a (.dK (srcKvs L sp x co))) := DPut.k (k := .inr "rest") h (by show 4 < sizeLine; decide)
theorem dp_spot {x : Int} (h : H a = some (.dK (srcKvs L sp re co))) : DPut H a (.str "spot") (.int x) (upd H a (.dK (srcKvs L x re co))) := DPut.k (k := .inr "spot") h (by show 4 < sizeLine; decide)
end
theorem fmod_range {i m : Int} (h : 0 < m) : 0 ≤ i.fmod m ∧ i.fmod m < m := by
  have e := Int.fmod_eq_emod_of_nonneg i (Int.le_of_lt h)
  rw [e]
  exact ⟨Int.emod_nonneg _ (by omega), Int.emod_lt_of_pos _ h⟩
theorem dpAll_ints {K : PySem.W.Frag} {H : Hp} : ∀ cs : List Int, DpAll K H (cs.map V.int) (toPs (cs.map D.int))
  | [] => .nil
  | c :: cs => .cons (.int c) (dpAll_ints cs)
theorem ext_put {S : Sr} {H G : Hp} {o : HO} (e : Ext S H G) : Ext S H (upd G S.d o) := fun a u n h => by rw [upd_ne n]; exact e a u n h
theorem ext_new {S : Sr} {H G : Hp} {o : HO} {l : Addr} (e : Ext S H G) (h : G l = none) : Ext S H (upd G l o) := e.trans (Ext.new h)
section
variable {P : Program} {w : World} {K : PySem.W.Frag} {mg : Str → Option Value} {base : Heap}
theorem fn52 (M : Mdl K w mg) {f : Addr} {fd : FuncData} (F : FnP K "_law_pick" (top 73) f fd) {k : Nat} : FnOk P w K mg base CX0 (k + 1) f fd ["_law_source_here", "_law_many"] (spOf K G52) := by
  have mInt : mg "int" = none := M.free _ (by simp [bltNames])
  have mLen : mg "len" = none := M.free _ (by simp [bltNames])
  refine F.ok S52 (fun vs H Q E sp => ?_) fun cdv A outer s H vs Q E hr sp => ?_
  · obtain ⟨S, V, ds, R, At, l, ⟨m, rfl, _⟩, _⟩ := sp
    exact l.len
  · obtain ⟨S, V, ds, R, a0, l, ⟨m, rfl, m0, m1, g⟩, q⟩ := sp
    have hu := hu_of hr
    refine ⟨_, pss_cons (ps_dput hu (pv 0) pe_str (pe_op op_add (pe_dget hu (pv 0) pe_str (fun _ _ => rfl)) pe_int) rfl)
      (pss_cons (ps_if (pt_cmpR op_gt (pe_dget hu (pv 0) pe_str (fun _ _ => rfl)) pe_int (nomark _))
        (pss_cons (ps_set (i := 2) S52.nd rfl (.inl rfl) (pe_op op_modN (pe_callTy call_int1 (by rfl) mInt (by decide +kernel) (pa_cons (pe_dget hu (pv 0) pe_str (fun _ _ => rfl)) pa_nil)) (pv 1)))
        (pss_cons (ps_dput hu (pv 0) pe_str (pe_op op_fdivN (pe_callTy call_int1 (by rfl) mInt (by decide +kernel) (pa_cons (pe_dget hu (pv 0) pe_str (fun _ _ => rfl)) pa_nil)) (pv 1)) rfl)
        (pss_one (ps_ret (pv 2))))) pss_nil)
      (pss_cons (ps_set (i := 3) S52.nd rfl (.inl rfl) (pe_dget hu (pv 0) pe_str (fun _ _ => rfl)))
      (pss_cons (ps_if (pt_cmpR (op_eqD hr.units) (pv 3) (pe_lst pa_nil) (nomark _))
        (pss_one (ps_ret (pe_op op_modN (pe_callTy call_int1 (by rfl) mInt (by decide +kernel) (pa_cons (pe_op op_fdivN (pe_op op_mul (pe_dget hu (pv 0) pe_str (fun _ _ => rfl)) pe_int) pe_int) pa_nil)) (pv 1)))) pss_nil)
      (pss_cons (ps_set (i := 4) S52.nd rfl (.inl rfl) (pe_dget hu (pv 0) pe_str (fun _ _ => rfl)))
      (pss_cons (ps_dput hu (pv 0) pe_str (pe_op op_add (pv 4) pe_int) rfl)
      (pss_cons (ps_set (i := 5) S52.nd rfl (.inl rfl) (pe_ix ix_list (pv 3) (pe_op op_modN (pe_callTy call_int1 (by rfl) mInt (by decide +kernel) (pa_cons (pv 4) pa_nil)) (pe_callB call_len_seq (by rfl) mLen PySem.boot_len (pa_cons (pv 3) pa_nil))) (fun _ _ => rfl)))
      (pss_cons (ps_if (PW.pt (pw_and (pt_cmpR op_ge (pv 5) (pe_op op_pow pe_int pe_int) (nomark _)) (pw_and1 (pt_cmpR op_lt (pv 4) (pe_callB call_len_seq (by rfl) mLen PySem.boot_len (pa_cons (pv 3) pa_nil)) (nomark _)))))
        (pss_cons (ps_dput hu (pv 0) pe_str (pe_op op_fdivN (pe_callTy call_int1 (by rfl) mInt (by decide +kernel) (pa_cons (pv 5) pa_nil)) (pv 1)) rfl)
        (pss_one (ps_ret (pe_op op_modN (pe_callTy call_int1 (by rfl) mInt (by decide +kernel) (pa_cons (pv 5) pa_nil)) (pv 1))))) pss_nil)
      (pss_cons (ps_set (i := 6) S52.nd rfl (.inl rfl) (pe_op op_modN (pe_callTy call_int1 (by rfl) mInt (by decide +kernel) (pa_cons (pe_op op_add (pe_op op_add (pe_op op_modN (pe_callTy call_int1 (by rfl) mInt (by decide +kernel) (pa_cons (pv 5) pa_nil)) pe_int) (pe_op op_mul pe_int (pe_dget hu (pv 0) pe_str (fun _ _ => rfl)))) pe_int) pa_nil)) pe_int))
      (pss_cons (ps_set (i := 6) S52.nd rfl (.inl rfl) (pe_op op_modN (pe_callTy call_int1 (by rfl) mInt (by decide +kernel) (pa_cons (pe_op op_add (pe_op op_add (pe_op op_pow (pv 6) pe_int) (pe_op op_mul pe_int (pe_dget hu (pv 0) pe_str (fun _ _ => rfl)))) pe_int) pa_nil)) pe_int))
      (pss_cons (ps_set (i := 6) S52.nd rfl (.inl rfl) (pe_op op_modN (pe_callTy call_int1 (by rfl) mInt (by decide +kernel) (pa_cons (pe_op op_add (pe_op op_pow (pv 6) pe_int) (pe_op op_mul pe_int (pv 6))) pa_nil)) pe_int))
      (pss_one (ps_ret (pe_op op_modN (pe_callTy call_int1 (by rfl) mInt (by decide +kernel) (pa_cons (pe_op op_fdivN (pv 6) pe_int) pa_nil)) (pv 1)))))))))))))), ?_⟩
    obtain ⟨v0, r0, rfl, i0, l⟩ : ∃ v0 r0, vs = v0 :: r0 ∧ Is K S (hide V H) .src v0 ∧ IsL K S (hide V H) [.int m] r0 := by unfold IsL at l; exact l
    obtain ⟨v1, r1, rfl, i1, l⟩ : ∃ v0 r1, r0 = v0 :: r1 ∧ Is K S (hide V H) (.int m) v0 ∧ IsL K S (hide V H) [] r1 := by unfold IsL at l; exact l
    obtain rfl : r1 = [] := by unfold IsL at l; exact l
    obtain rfl := is_src.mp i0
    obtain rfl := is_int.mp i1
    obtain ⟨cs, sp, re, co, nl, hd, hl⟩ := a0.src
    have mm : m ≠ 0 := by omega
    have mb : m.natAbs < 1073741824 := by omega
    have fin : ∀ (x : Int) (G : Hp) (sp re co : Int), Ext S H G → G S.d = some (.dK (srcKvs S.l sp re co)) → G S.l = some (.lst (cs.map L2.V.int)) → Q (.int (x.fmod m)) G := fun x G sp re co e h1 h2 => by
      obtain ⟨r1, r2⟩ := fmod_range (i := x) m0
      exact q _ (g _ r1 r2) _ _ e ⟨cs, sp, re, co, nl, h1, h2⟩ (is_int.mpr rfl)
    have pw : ∀ {v : Int}, 0 ≤ v ∧ v < 2147483563 → CPow v 3 := fun {v} h => ⟨by decide, by decide, by omega⟩
    have pw2 : ∀ {v : Int}, 0 ≤ v ∧ v < 2147483549 → CPow v 3 := fun {v} h => ⟨by decide, by decide, by omega⟩
    have nu : 4 < sizeLine := by decide
    -- the count
    refine ⟨.ref S.d, rfl, S.d, .int co, rfl, dg_count hd, co, 1, rfl, rfl, .ref S.d, rfl, S.d, _, rfl, dp_count hd, ?_⟩
    have x1 : Ext S H (upd H S.d (.dK (srcKvs S.l sp re (co + 1)))) := ext_put Ext.refl
    have d1 : (upd H S.d (.dK (srcKvs S.l sp re (co + 1)))) S.d = some (.dK (srcKvs S.l sp re (co + 1))) := upd_same
    have l1 : (upd H S.d (.dK (srcKvs S.l sp re (co + 1)))) S.l = some (.lst (cs.map L2.V.int)) := by rw [upd_ne nl]; exact hl
    generalize upd H S.d (.dK (srcKvs S.l sp re (co + 1))) = G1 at x1 d1 l1 ⊢
    -- the rest
    refine ⟨.ref S.d, rfl, S.d, .int re, rfl, dg_rest d1, re, 0, rfl, rfl, _, rfl, ite2 (fun e => ?_) (fun e => ?_)⟩
    · refine ⟨.ref S.d, rfl, S.d, .int re, rfl, dg_rest d1, .inl ⟨re, rfl, .int m, rfl, re, m, rfl, rfl, mm, ?_⟩⟩
      refine ⟨.ref S.d, rfl, S.d, .int re, rfl, dg_rest d1, .inl ⟨re, rfl, .int m, rfl, re, m, rfl, rfl, ⟨mm, mb⟩, ?_⟩⟩
      refine ⟨.ref S.d, rfl, S.d, _, rfl, dp_rest d1, ?_⟩
      exact ⟨.int (re.fmod m), rfl, fin _ _ _ _ _ (ext_put x1) upd_same (by rw [upd_ne nl]; exact l1)⟩
    · -- the cells
      refine ⟨.ref S.d, rfl, S.d, .ref S.l, rfl, dg_cells d1, ?_⟩
      refine ⟨.ref S.l, rfl, Nat.zero_le _, fun p np => ?_⟩
      have pd : p ≠ S.d := fun z => by rw [z, d1] at np; cases np
      have pl : p ≠ S.l := fun z => by rw [z, l1] at np; cases np
      have x2 : Ext S H (upd G1 p (.lst [])) := ext_new x1 np
      have d2 : (upd G1 p (.lst [])) S.d = some (.dK (srcKvs S.l sp re (co + 1))) := by rw [upd_ne pd.symm]; exact d1
      have l2 : (upd G1 p (.lst [])) S.l = some (.lst (cs.map L2.V.int)) := by rw [upd_ne pl.symm]; exact l1
      have e2 : (upd G1 p (.lst [])) p = some (.lst []) := upd_same
      generalize upd G1 p (.lst []) = G2 at x2 d2 l2 e2 ⊢
      refine ⟨.list (toPs (cs.map D.int)), .list [], .lst (.inl (.inl l2)) (dpAll_ints cs), .lst (.inl (.inl e2)) .nil, (okd_ints (ns := cs)).2, okd_nil.2, _, rfl, ite2 (fun e => ?_) (fun e => ?_)⟩
      · refine ⟨.ref S.d, rfl, S.d, .int (co + 1), rfl, dg_count d2, co + 1, 13, rfl, rfl, .inr ⟨by decide, by decide⟩, _, 4, rfl, rfl, ⟨by decide, by decide⟩, .inl ⟨_, rfl, .int m, rfl, _, m, rfl, rfl, mm, ?_⟩⟩
        exact fin _ _ _ _ _ x2 d2 l2
      · have c0 : cs ≠ [] := fun z => by
          subst z
          exact e rfl
        have cl : 0 < cs.length := List.length_pos_iff.mpr c0
        -- the spot
        refine ⟨.ref S.d, rfl, S.d, .int sp, rfl, dg_spot d2, ?_⟩
        refine ⟨.int sp, rfl, sp, 1, rfl, rfl, .ref S.d, rfl, S.d, _, rfl, dp_spot d2, ?_⟩
        have x3 : Ext S H (upd G2 S.d (.dK (srcKvs S.l (sp + 1) re (co + 1)))) := ext_put x2
        have d3 : (upd G2 S.d (.dK (srcKvs S.l (sp + 1) re (co + 1)))) S.d = some (.dK (srcKvs S.l (sp + 1) re (co + 1))) := upd_same
        have l3 : (upd G2 S.d (.dK (srcKvs S.l (sp + 1) re (co + 1)))) S.l = some (.lst (cs.map L2.V.int)) := by rw [upd_ne nl]; exact l2
        generalize upd G2 S.d (.dK (srcKvs S.l (sp + 1) re (co + 1))) = G3 at x3 d3 l3 ⊢
        have ml : ((cs.map L2.V.int).length : Int) = cs.length := by rw [List.length_map]
        obtain ⟨f1, f2⟩ := fmod_range (i := sp) (m := ((cs.map L2.V.int).length : Int)) (by rw [ml]; omega)
        obtain ⟨n, hn⟩ := Int.eq_ofNat_of_zero_le f1
        have hn' : n < cs.length := by omega
        have at' : atI (cs.map L2.V.int) (sp.fmod ((cs.map L2.V.int).length : Int)) = some (.int cs[n]) := by
          rw [hn, atI_nat (by rw [List.length_map]; exact hn'), List.getElem?_map, List.getElem?_eq_getElem hn']
          rfl
        refine ⟨.ref S.l, rfl, .int sp, rfl, .inl ⟨sp, rfl, .ref S.l, rfl, S.l, _, rfl, .inl (.inl (.inl l3)), sp, _, rfl, rfl, by rw [ml]; omega, S.l, _, _, _, rfl, rfl, .inl (.inl l3), at', ?_⟩⟩
        generalize cs[n] = c
        -- the digits
        refine ⟨.int c, rfl, 10, 18, rfl, rfl, ⟨by decide, by decide, by decide⟩, c, _, rfl, rfl, _, rfl, ?_⟩
        refine ite2 (fun e => ?_) (fun e => ite2 (fun z => nomatch z) (fun _ => ?_))
        · refine ⟨.int sp, rfl, .ref S.l, rfl, S.l, _, rfl, .inl (.inl (.inl l3)), sp, _, rfl, rfl, _, rfl, ite2 (fun e => ?_) (fun e => ?_)⟩
          · refine ⟨.int c, rfl, .inl ⟨c, rfl, .int m, rfl, c, m, rfl, rfl, ⟨mm, mb⟩, .ref S.d, rfl, S.d, _, rfl, dp_rest d3, ?_⟩⟩
            exact ⟨.int c, rfl, .inl ⟨c, rfl, .int m, rfl, c, m, rfl, rfl, mm, fin _ _ _ _ _ (ext_put x3) upd_same (by rw [upd_ne nl]; exact l3)⟩⟩
          · refine ⟨.int c, rfl, .inl ⟨c, rfl, c, 999999937, rfl, rfl, (show (999999937 : Int) ≠ 0 by decide), .ref S.d, rfl, S.d, .int (co + 1), rfl, dg_count d3, 70003, co + 1, rfl, rfl, .inl ⟨by decide, by decide⟩, _, _, rfl, rfl, _, 57, rfl, rfl, .inl ⟨_, rfl, _, 2147483563, rfl, rfl, (show (2147483563 : Int) ≠ 0 by decide), ?_⟩⟩⟩
            refine ⟨_, rfl, _, 3, rfl, rfl, pw (fmod_range (by decide)), .ref S.d, rfl, S.d, .int (co + 1), rfl, dg_count d3, 5300009, co + 1, rfl, rfl, .inl ⟨by decide, by decide⟩, _, _, rfl, rfl, _, 41, rfl, rfl, .inl ⟨_, rfl, _, 2147483549, rfl, rfl, (show (2147483549 : Int) ≠ 0 by decide), ?_⟩⟩
            refine ⟨_, rfl, _, 3, rfl, rfl, pw2 (fmod_range (by decide)), _, rfl, 733, _, rfl, rfl, .inl ⟨by decide, by decide⟩, _, _, rfl, rfl, .inl ⟨_, rfl, _, 2147483543, rfl, rfl, (show (2147483543 : Int) ≠ 0 by decide), ?_⟩⟩
            exact ⟨_, rfl, _, 64, rfl, rfl, ⟨by decide, by decide⟩, .inl ⟨_, rfl, .int m, rfl, _, m, rfl, rfl, mm, fin _ _ _ _ _ x3 d3 l3⟩⟩
        · refine ⟨.int c, rfl, .inl ⟨c, rfl, c, 999999937, rfl, rfl, (show (999999937 : Int) ≠ 0 by decide), .ref S.d, rfl, S.d, .int (co + 1), rfl, dg_count d3, 70003, co + 1, rfl, rfl, .inl ⟨by decide, by decide⟩, _, _, rfl, rfl, _, 57, rfl, rfl, .inl ⟨_, rfl, _, 2147483563, rfl, rfl, (show (2147483563 : Int) ≠ 0 by decide), ?_⟩⟩⟩
          refine ⟨_, rfl, _, 3, rfl, rfl, pw (fmod_range (by decide)), .ref S.d, rfl, S.d, .int (co + 1), rfl, dg_count d3, 5300009, co + 1, rfl, rfl, .inl ⟨by decide, by decide⟩, _, _, rfl, rfl, _, 41, rfl, rfl, .inl ⟨_, rfl, _, 2147483549, rfl, rfl, (show (2147483549 : Int) ≠ 0 by decide), ?_⟩⟩
          refine ⟨_, rfl, _, 3, rfl, rfl, pw2 (fmod_range (by decide)), _, rfl, 733, _, rfl, rfl, .inl ⟨by decide, by decide⟩, _, _, rfl, rfl, .inl ⟨_, rfl, _, 2147483543, rfl, rfl, (show (2147483543 : Int) ≠ 0 by decide), ?_⟩⟩
          exact ⟨_, rfl, _, 64, rfl, rfl, ⟨by decide, by decide⟩, .inl ⟨_, rfl, .int m, rfl, _, m, rfl, rfl, mm, fin _ _ _ _ _ x3 d3 l3⟩⟩
end
end Fy
end
section
/-! FyP51 -/
namespace Fy
open PySem PySem.Spec PyProof.Rows L2
open C8 (scC fnScope_by)
/-! ### _law_source, by hand -/
def N51 : List Str := ["_law_script", "_law_cell"]
theorem S51 : FnScope N51 ["_law_script"] (defScope (top 72)) := fnScope_by (by decide +kernel)
def sp51 (K : PySem.W.Frag) : Sp := fun vs H Q _ => ∃ (a : Addr) (ns : List Int), vs = [.ref a] ∧ SqL K H a (ns.map V.int) ∧ ∀ S H', SrcOk S H' → Q (.ref S.d) H'
theorem cut63 (ns : List Int) : ∃ ms : List Int, cutV (ns.map V.int) none (some 63) = ms.map V.int ∧ ms.length ≤ 63 := by
  refine ⟨ns.take (min 63 ns.length), ?_, by rw [List.length_take]; omega⟩
  unfold cutV
  rw [HT.sIx_none, List.length_map, show HT.sIx ns.length ns.length (some 63) = min 63 ns.length from HT.sIx_nat _ _ 63, List.map_take]
  simp
section
variable {P : Program} {w : World} {K : PySem.W.Frag} {mg : Str → Option Value} {base : Heap}
theorem fn51 (M : Mdl K w mg) {f : Addr} {fd : FuncData} (F : FnP K "_law_source" (top 72) f fd) {k : Nat} : FnOk P w K mg base CX0 (k + 1) f fd ["_law_script"] (sp51 K) := by
  have mInt : mg "int" = none := M.free _ (by simp [bltNames])
  refine F.ok S51 (fun vs H Q E sp => ?_) fun cdv A outer s H vs Q E hr sp => ?_
  · obtain ⟨a, ns, rfl, _⟩ := sp
    rfl
  · obtain ⟨a, ns, rfl, hS, q⟩ := sp
    have hu := hu_of hr
    refine ⟨_, pss_one (ps_ret (pe_disp (pps_cons pe_str (pe_lc (own := [("_law_cell", 1)]) (g := gName 1) (by rfl) S51.nd (pi_list (pe_slice sl_list (pv 0) po_none (po_some pe_int)))
        (blkOk_by (own := [("_law_cell", 1)]) (N := N51) (sc := defScope (top 72)) (by decide +kernel)) (fun _ _ _ _ _ => pg_name (i := 1) S51.nd rfl (Or.inl rfl)) (fun _ _ _ _ _ => pts_nil)
        (fun _ _ _ _ _ => pe_callTy call_int1 (by rfl) mInt (by decide +kernel) (pa_cons (pv 1) pa_nil)))
      (pps_cons pe_str pe_int (pps_cons pe_str pe_int (pps_cons pe_str pe_int pps_nil)))) (by rfl) (by rfl) (fun z => by cases z) (by decide))), ?_⟩
    obtain ⟨ms, em, lm⟩ := cut63 ns
    refine fun p np => ?_
    have sm : Same H (upd H p (.dK [])) := fun b x e => by rw [upd_ne (ne_of_none e np)]; exact e
    have s1 : SqL K (upd H p (.dK [])) a (ns.map V.int) := sm.seq hS
    refine ⟨.ref a, rfl, 63, rfl, a, _, rfl, s1, fun c nc => ?_⟩
    have hp1 : (upd H p (.dK [])) p = some (.dK []) := upd_same
    have cp : p ≠ c := ne_of_none hp1 nc
    rw [em]
    refine ⟨c, rfl, ⟨_, .inl (.inl upd_same)⟩, fun D nD => ?_⟩
    have hc2 : (upd (upd H p (.dK [])) c (.lst (ms.map V.int))) c = some (.lst (ms.map V.int)) := upd_same
    have hp2 : (upd (upd H p (.dK [])) c (.lst (ms.map V.int))) p = some (.dK []) := by rw [upd_ne cp]; exact hp1
    generalize upd (upd H p (.dK [])) c (.lst (ms.map V.int)) = G at nD hc2 hp2 ⊢
    have Dc : c ≠ D := ne_of_none hc2 nD
    have Dp : p ≠ D := ne_of_none hp2 nD
    refine lc_list (K := K) (a := c) (xs := ms.map V.int) (fun i H => H c = some (.lst (ms.map V.int)) ∧ H D = some (.lst ((ms.take i).map V.int)) ∧ H p = some (.dK [])) ⟨by rw [upd_ne Dc]; exact hc2, by rw [upd_same]; rfl, by rw [upd_ne Dp]; exact hp2⟩ (fun i H _ h => .inl (.inl h.1)) (fun i x H hx h => ?_) (fun H h => ?_)
    · obtain ⟨h1, h2, h3⟩ := h
      rw [List.getElem?_map] at hx
      cases hm : ms[i]? with
      | none => rw [hm] at hx; cases hx
      | some n =>
        rw [hm] at hx
        obtain rfl : V.int n = x := by simpa using hx
        have li : i < ms.length := (List.getElem?_eq_some_iff.mp hm).1
        refine ⟨rfl, .int n, rfl, .inl ⟨n, rfl, _, h2, ?_, by rw [upd_ne Dc]; exact h1, ?_, by rw [upd_ne Dp]; exact h3⟩⟩
        · have := size_big
          rw [List.length_map, List.length_take]
          omega
        · rw [upd_same, List.take_add_one, hm, List.map_append]
          rfl
    · obtain ⟨h1, h2, h3⟩ := h
      rw [List.length_map, List.take_length] at h2
      refine ⟨h3, [(.inr "cells", .ref D), (.inr "spot", .int 0), (.inr "rest", .int 0), (.inr "count", .int 0)], rfl, by simp, ?_⟩
      exact q ⟨p, D⟩ _ ⟨ms, 0, 0, 0, Dp.symm, upd_same, by
        show (upd H p _) D = _
        rw [upd_ne Dp.symm]; exact h2⟩
end
end Fy
end
section
/-! FyLaw -/
namespace Fy
open PySem PySem.Spec PyProof.Rows L2
open C8 (scC fnScope_by)
/-! ### the law's own def -/
def N75 : List Str := ["_law_script", "_law_source_here", "_law_turn", "_law_whole", "_law_steps_now", "_law_folks", "_law_k"]
theorem S75 : FnScope N75 ["_law_script"] (defScope (top 96)) := fnScope_by (by decide +kernel)
def B75 : SL := .cons (.for (.name 2) (.rng (.cst (.int 3))) (.cons (.asg 3 (.call 59 (.cons (.var 1) .nil))) (.cons (.unp [4, 5] (.call 73 (.cons (.var 1) (.cons (.var 3) (.cons (.cst (.int 20)) .nil)))))
  (.cons (.for (.name 6) (.rng (.blt .len (.var 5))) (.cons (.ite (.nt (.call 74 (.cons (.var 3) (.cons (.sl (.var 4) .no (.so (.var 6))) (.cons (.ix (.var 5) (.var 6)) .nil))))) (.cons (.ret (.cst (.bl false))) .nil) .nil) .nil)) .nil))))
  (.cons (.ret (.cst (.bl true))) .nil)
theorem ck75 : chkSL N75 (fnms.take 75) (defScope (top 96)) B75 (defBody (top 96)).tail = true := by decide +kernel
theorem kk75 : wpSL Gs B75 { nx := fun _ => False, rt := fun d => d = .bl true } [none, some (false, .src), none, none, none, none, none] := by
  have sz := size_big
  simp [B75]
  refine ⟨by omega, ?_⟩
  rw [rng0]
  refine forW_inv (fun i : Nat => .int (0 + (i : Nat))) (fun rest ρ => ∃ a b c d e, ρ = [none, some (false, D.src), a, b, c, d, e]) (fun ρ hρ => ?_) (fun i rest ρ hI N hN => ?_) ⟨none, none, none, none, none, rfl⟩
  · obtain ⟨a, b, c, d, e, rfl⟩ := hρ
    simp
  · obtain ⟨a, b, c, d, e, rfl⟩ := hI
    simp
    refine ⟨rfl, fun w S => ?_⟩
    refine ⟨w, rfl, S, fun ms g => ?_⟩
    have ml := g.2.2
    simp [statesD]
    refine ⟨by omega, by omega, ?_⟩
    rw [rng0]
    refine forW_inv (fun i : Nat => .int (0 + (i : Nat))) (fun rest ρ => (∀ k ∈ rest, k ≤ ms.length) ∧ ∃ e, ρ = [none, some (false, D.src), some (false, .int i), some (false, sysD w), some (false, stepsD ms), some (false, .lst ((List.range (ms.length + 1)).map fun k => folkD (lastT w (ms.take k)))), e]) (fun ρ hρ => ?_) (fun k rest ρ hI N' hN' => ?_) ⟨fun k hk => by have := List.mem_range.mp hk; omega, e, rfl⟩
    · obtain ⟨_, e, rfl⟩ := hρ
      exact hN _ ⟨_, _, _, _, _, rfl⟩
    · obtain ⟨hk, e, rfl⟩ := hI
      have k1 := hk k (List.mem_cons_self ..)
      simp
      have es : ∀ {Q : D → Prop}, slW (stepsD ms) none (some (k : Int)) Q = Q (stepsD (ms.take k)) := fun {Q} => by
        show Q (.tup (cutD (ms.map stD) none (some (k : Int)))) = _
        rw [cutT, ← List.map_take]; rfl
      rw [es]
      refine ⟨folkD (lastT w (ms.take k)), at_map (f := fun k => folkD (lastT w (ms.take k))) (by rw [List.getElem?_range (by omega)]), ?_⟩
      refine ⟨w, ms.take k, rfl, ⟨S, runs_take g.2.1 k, by rw [List.length_take]; omega⟩, ?_⟩
      simp
      exact hN' _ ⟨fun k hk' => hk k (List.mem_cons_of_mem _ hk'), _, rfl⟩
theorem srcOnly' (i : Nat) (b : Bool) (d : D) (h : ([none, some (false, .src), none, none, none, none, none] : Rho)[i]? = some (some (b, d))) : (i = 1 ∧ d = .src) ∧ b = false := by
  match i, h with
  | 0, h => simp at h
  | 1, h => simp at h; exact ⟨⟨rfl, h.2.symm⟩, h.1⟩
  | 2, h => simp at h
  | 3, h => simp at h
  | 4, h => simp at h
  | 5, h => simp at h
  | 6, h => simp at h
  | n + 7, h => simp at h
theorem srcOnly (i : Nat) (b : Bool) (d : D) (h : ([none, some (false, .src), none, none, none, none, none] : Rho)[i]? = some (some (b, d))) : i = 1 ∧ d = .src := (srcOnly' i b d h).1
theorem head_tail96 : ∃ s0 rest, defBody (top 96) = s0 :: rest := ⟨_, _, rfl⟩
theorem lawOk : LawOk := by
  intro P w K mg base h fa fd X G c F
  have M := mdl_of X G c
  obtain ⟨d51, F51⟩ := c.t.d.def_ 51 (d := FyH.defD "_law_source" 72) rfl
  obtain ⟨d52, F52⟩ := c.t.d.def_ 52 (d := FyH.defD "_law_pick" 73) rfl
  have g51 := He.glo_ok X G (c.t.d.fact 51 (f := .glo "_law_source") rfl)
  have g52 := He.glo_ok X G (c.t.d.fact 52 (f := .glo "_law_pick") rfl)
  have hh : Has P w K mg base Gs 75 := has_all ssetOk allK X G c
    (fun _ => fnr_of (st := top 72) (ps := ["_law_script"]) F51 (F51.ok S51 (fun vs H Q E sp => by obtain ⟨_, _, _, _, _, _, z, _⟩ := sp; exact z.elim) (fun cdv A outer s H vs Q E hr sp => by obtain ⟨_, _, _, _, _, _, z, _⟩ := sp; exact z.elim)) g51 fun _ _ _ _ _ _ us hl => match us, hl with | [_], _ => rfl)
    (fun _ => fnr_of (st := top 73) F52 (fn52 M F52) g52 fun _ _ _ _ _ _ us hl => match us, hl with | [_, _], _ => rfl)
  have b51 := L2.FunD.bindsN (ps := ["_law_script"]) F51 fun _ _ _ _ _ _ us hl => match us, hl with | [_], _ => rfl
  have G51 : FnOk P w K mg base CX0 75 _ d51 ["_law_script"] (sp51 K) := fn51 M F51
  refine F.ok S75 (fun vs H Q E sp => ?_) fun cdv A outer s H vs Q E hr sp => ?_
  · obtain ⟨a, ns, rfl, _⟩ := sp
    rfl
  · obtain ⟨a, ns, rfl, hS, q⟩ := sp
    have B := bs_of (N := N75) (x := "law") (sc := defScope (top 96)) (f := fa) (cdv := cdv) (A := A) (outer := outer) (s := s) (H := H) (E := E) M hh S75.nd hr
    have Fx := fx_of (P := P) (w := w) (K := K) (mg := mg) (base := base) (N := N75) (x := "law") (sc := defScope (top 96)) (f := fa) (cdv := cdv) (A := A) (outer := outer) (s := s) (H := H) (E := E) S75.kind
    have t2 := soundSL ssetOk B Fx B75 ck75
    refine ⟨_, (pss_cons (ps_set (i := 1) S75.nd rfl (.inl rfl) (pe_call G51 hr (by rfl) g51 F51.kp b51 .nil pass0 (pa_cons (pv 0) pa_nil))) t2).nox, ?_⟩
    refine ⟨.ref a, rfl, a, ns, rfl, hS, fun S' H' src => ?_⟩
    refine ⟨S', [], H', [], [], _, _, ⟨⟨src, by simp, by simp, fun a ha => by simp at ha, fun a ha => by simp at ha, fun a ha => by simp at ha, rfl, fun i d e => ?_, fun i d e => ?_, fun i j d e a n e1 => ?_⟩, Ext.refl, fun a ha => by simp at ha, fun a ha => by simp at ha⟩, kk75, fun OA H σ ρ n z => z.elim, fun OA H σ ρ n z => z.elim, fun d v H1 e r s i => ?_⟩
    · obtain ⟨rfl, rfl⟩ := srcOnly i false d e
      exact ⟨.ref S'.d, rfl, is_src.mpr rfl⟩
    · obtain ⟨_, z⟩ := srcOnly' i true d e
      cases z
    · obtain ⟨_, z⟩ := srcOnly' i true d e1
      cases z
    · subst e
      obtain rfl := is_bl.mp i
      exact q _
end Fy
end
theorem PySem.Challenge.cw_forkyields_k29_whole_none_with_a_pool_holds : PySem.Challenge.rw_forkyields_k29_whole_none_with_a_pool.Holds := by
  exact Fy.end_of Fy.lawOk
