import PyProof.Rows.All
import Wide.All
import OpenK.AllK
import Wide.FinOn
import KE.KStateDown
import KE.KNest
import HandS.ForMost
import HandS.Exc
import HandS.WordsExc
import HandS.Defaults
import HandS.Head0
import HandS.Head1
import HandS.Head2
import HandS.HeadEnd
import HandS.HeadHook1
import HandS.HeadHook2
import HandS.GenYield
import HandS.AnyAll
import KE.GoesMore
import KE.KDictDisplayH
import HandS.Deep
import HandS.Strs
import HandS.SetFor
import HandS.Style
import HandS.Conv
import HandS.TupAny
import HandS.IsInst
import HandS.HeadWalk
import HandS.HeadHook4
import PySem.Challenge.RW_toldwhat_k04_whole_reasons
section
set_option Elab.async false
set_option linter.all false
set_option maxRecDepth 100000
set_option maxHeartbeats 0
namespace TW
open PySem PySem.Spec PyProof.Rows L2
/-! ### the text by places -/
abbrev tyP : Program := PySem.Challenge.pw_toldwhat_k04_whole_reasons
def top (i : Nat) : Stmt := tyP.main.body.getD i (.Pass ⟨0, 0, 0, 0⟩)
abbrev s_is_number : Stmt := top 8
abbrev s_are_steps : Stmt := top 9
abbrev s_need_question : Stmt := top 10
abbrev s_led : Stmt := top 11
abbrev s_parted : Stmt := top 12
abbrev s_shrunk : Stmt := top 13
abbrev s_least_of : Stmt := top 14
abbrev s_then : Stmt := top 15
abbrev s_letter_maps : Stmt := top 16
abbrev s_need_world : Stmt := top 19
abbrev s_are_one_to_one : Stmt := top 23
abbrev s_do_commute : Stmt := top 24
abbrev s_can : Stmt := top 25
abbrev s_texts_to : Stmt := top 28
abbrev s_parting : Stmt := top 29
abbrev s_order_reason : Stmt := top 30
abbrev s_merge_reason : Stmt := top 31
abbrev s_why_not : Stmt := top 32
abbrev s_reason : Stmt := top 33
abbrev s_is_text : Stmt := top 34
abbrev s_is_order : Stmt := top 35
abbrev s_is_merge : Stmt := top 36
abbrev s_shows_reason : Stmt := top 37
abbrev s_law_taken : Stmt := top 39
abbrev s_law_pick : Stmt := top 40
abbrev s_law_question : Stmt := top 41
abbrev s_law_world : Stmt := top 42
abbrev s_law_unlike : Stmt := top 43
abbrev s_law_least : Stmt := top 44
abbrev s_law_row : Stmt := top 45
abbrev s_law_can : Stmt := top 46
abbrev s_law_text : Stmt := top 47
abbrev s_law_led : Stmt := top 48
abbrev s_law_shows : Stmt := top 49
abbrev s_law_alike : Stmt := top 50
abbrev s_law : Stmt := top 51
def d_is_number : He.DefD := ⟨("is_number", none), "is_number", "is_number", defArgs s_is_number, defBody s_is_number, defScope s_is_number, [], []⟩
def d_are_steps : He.DefD := ⟨("are_steps", none), "are_steps", "are_steps", defArgs s_are_steps, defBody s_are_steps, defScope s_are_steps, [], []⟩
def d_need_question : He.DefD := ⟨("need_question", none), "need_question", "need_question", defArgs s_need_question, defBody s_need_question, defScope s_need_question, [], []⟩
def d_led : He.DefD := ⟨("led", none), "led", "led", defArgs s_led, defBody s_led, defScope s_led, [], []⟩
def d_parted : He.DefD := ⟨("parted", none), "parted", "parted", defArgs s_parted, defBody s_parted, defScope s_parted, [], []⟩
def d_shrunk : He.DefD := ⟨("shrunk", none), "shrunk", "shrunk", defArgs s_shrunk, defBody s_shrunk, defScope s_shrunk, [], []⟩
def d_least_of : He.DefD := ⟨("least_of", none), "least_of", "least_of", defArgs s_least_of, defBody s_least_of, defScope s_least_of, [], []⟩
def d_then : He.DefD := ⟨("then", none), "then", "then", defArgs s_then, defBody s_then, defScope s_then, [], []⟩
def d_letter_maps : He.DefD := ⟨("letter_maps", none), "letter_maps", "letter_maps", defArgs s_letter_maps, defBody s_letter_maps, defScope s_letter_maps, [], []⟩
def d_need_world : He.DefD := ⟨("need_world", none), "need_world", "need_world", defArgs s_need_world, defBody s_need_world, defScope s_need_world, [], []⟩
def d_are_one_to_one : He.DefD := ⟨("are_one_to_one", none), "are_one_to_one", "are_one_to_one", defArgs s_are_one_to_one, defBody s_are_one_to_one, defScope s_are_one_to_one, [], []⟩
def d_do_commute : He.DefD := ⟨("do_commute", none), "do_commute", "do_commute", defArgs s_do_commute, defBody s_do_commute, defScope s_do_commute, [], []⟩
def d_can : He.DefD := ⟨("can", none), "can", "can", defArgs s_can, defBody s_can, defScope s_can, [], []⟩
def d_texts_to : He.DefD := ⟨("texts_to", none), "texts_to", "texts_to", defArgs s_texts_to, defBody s_texts_to, defScope s_texts_to, [], []⟩
def d_parting : He.DefD := ⟨("parting", none), "parting", "parting", defArgs s_parting, defBody s_parting, defScope s_parting, [], []⟩
def d_order_reason : He.DefD := ⟨("order_reason", none), "order_reason", "order_reason", defArgs s_order_reason, defBody s_order_reason, defScope s_order_reason, [], []⟩
def d_merge_reason : He.DefD := ⟨("merge_reason", none), "merge_reason", "merge_reason", defArgs s_merge_reason, defBody s_merge_reason, defScope s_merge_reason, [], []⟩
def d_why_not : He.DefD := ⟨("why_not", none), "why_not", "why_not", defArgs s_why_not, defBody s_why_not, defScope s_why_not, [], []⟩
def d_reason : He.DefD := ⟨("reason", none), "reason", "reason", defArgs s_reason, defBody s_reason, defScope s_reason, [], []⟩
def d_is_text : He.DefD := ⟨("is_text", none), "is_text", "is_text", defArgs s_is_text, defBody s_is_text, defScope s_is_text, [], []⟩
def d_is_order : He.DefD := ⟨("is_order", none), "is_order", "is_order", defArgs s_is_order, defBody s_is_order, defScope s_is_order, [], []⟩
def d_is_merge : He.DefD := ⟨("is_merge", none), "is_merge", "is_merge", defArgs s_is_merge, defBody s_is_merge, defScope s_is_merge, [], []⟩
def d_shows_reason : He.DefD := ⟨("shows_reason", none), "shows_reason", "shows_reason", defArgs s_shows_reason, defBody s_shows_reason, defScope s_shows_reason, [], []⟩
def d_law_taken : He.DefD := ⟨("_law_taken", none), "_law_taken", "_law_taken", defArgs s_law_taken, defBody s_law_taken, defScope s_law_taken, [], []⟩
def d_law_pick : He.DefD := ⟨("_law_pick", none), "_law_pick", "_law_pick", defArgs s_law_pick, defBody s_law_pick, defScope s_law_pick, [], []⟩
def d_law_question : He.DefD := ⟨("_law_question", none), "_law_question", "_law_question", defArgs s_law_question, defBody s_law_question, defScope s_law_question, [], []⟩
def d_law_world : He.DefD := ⟨("_law_world", none), "_law_world", "_law_world", defArgs s_law_world, defBody s_law_world, defScope s_law_world, [], []⟩
def d_law_unlike : He.DefD := ⟨("_law_unlike", none), "_law_unlike", "_law_unlike", defArgs s_law_unlike, defBody s_law_unlike, defScope s_law_unlike, [], []⟩
def d_law_least : He.DefD := ⟨("_law_least", none), "_law_least", "_law_least", defArgs s_law_least, defBody s_law_least, defScope s_law_least, [], []⟩
def d_law_row : He.DefD := ⟨("_law_row", none), "_law_row", "_law_row", defArgs s_law_row, defBody s_law_row, defScope s_law_row, [], []⟩
def d_law_can : He.DefD := ⟨("_law_can", none), "_law_can", "_law_can", defArgs s_law_can, defBody s_law_can, defScope s_law_can, [], []⟩
def d_law_text : He.DefD := ⟨("_law_text", none), "_law_text", "_law_text", defArgs s_law_text, defBody s_law_text, defScope s_law_text, [], []⟩
def d_law_led : He.DefD := ⟨("_law_led", none), "_law_led", "_law_led", defArgs s_law_led, defBody s_law_led, defScope s_law_led, [], []⟩
def d_law_shows : He.DefD := ⟨("_law_shows", none), "_law_shows", "_law_shows", defArgs s_law_shows, defBody s_law_shows, defScope s_law_shows, [], []⟩
def d_law_alike : He.DefD := ⟨("_law_alike", none), "_law_alike", "_law_alike", defArgs s_law_alike, defBody s_law_alike, defScope s_law_alike, [], []⟩
def d_law : He.DefD := ⟨("law", none), "law", "law", defArgs s_law, defBody s_law, defScope s_law, [], []⟩
def fnL : List He.DefD := [d_is_number, d_are_steps, d_need_question, d_led, d_parted, d_shrunk, d_least_of, d_then, d_letter_maps, d_need_world, d_are_one_to_one, d_do_commute, d_can, d_texts_to, d_parting, d_order_reason, d_merge_reason, d_why_not, d_reason, d_is_text, d_is_order, d_is_merge, d_shows_reason, d_law_taken, d_law_pick, d_law_question, d_law_world, d_law_unlike, d_law_least, d_law_row, d_law_can, d_law_text, d_law_led, d_law_shows, d_law_alike, d_law]
def faL : List He.Fa := [.glo "is_number", .glo "are_steps", .glo "need_question", .glo "led", .glo "parted", .glo "shrunk", .glo "least_of", .glo "then", .glo "letter_maps", .glo "need_world", .glo "are_one_to_one", .glo "do_commute", .glo "can", .glo "texts_to", .glo "parting", .glo "order_reason", .glo "merge_reason", .glo "why_not", .glo "reason", .glo "is_text", .glo "is_order", .glo "is_merge", .glo "shows_reason", .glo "_law_taken", .glo "_law_pick", .glo "_law_question", .glo "_law_world", .glo "_law_unlike", .glo "_law_least", .glo "_law_row", .glo "_law_can", .glo "_law_text", .glo "_law_led", .glo "_law_shows", .glo "_law_alike", .glo "law", .glo "WORLDS", .glo "ONE_TO_ONE", .glo "ORDERLESS", .int "MOST_LETTERS" 3, .int "MOST_STATES" 40, .int "MOST_ANSWER" 3, .int "MOST_REASON" 160, .free "isinstance", .free "int", .free "bool", .free "tuple", .free "str", .free "len", .free "all", .free "list", .free "range", .free "set", .free "enumerate", .free "min", .free "sorted"]
def tuL : List (Str × List He.Dv) := [("WORLDS", [.str "end", .str "ends", .str "stack", .str "deque", .str "in", .str "inout", .str "relabel", .str "reverse"]), ("ONE_TO_ONE", [.str "stack", .str "deque", .str "inout"]), ("ORDERLESS", [.str "in", .str "inout"])]
def geL : List Str := ["are_steps", "need_question", "are_one_to_one", "do_commute", "is_text", "is_merge"]
def loA : List Str := ["KeeperError", "BadQuestion", "BadWorld", "MOST_LETTERS", "MOST_STATES", "MOST_ANSWER", "is_number", "are_steps", "need_question", "led", "parted", "shrunk", "least_of", "then", "letter_maps", "WORLDS", "need_world", "ONE_TO_ONE", "ORDERLESS", "are_one_to_one", "do_commute", "can"]
def loB : List Str := ["MOST_REASON", "texts_to", "parting", "order_reason", "merge_reason", "why_not", "reason", "is_text", "is_order", "is_merge", "shows_reason", "_law_taken", "_law_pick", "_law_question", "_law_world", "_law_unlike", "_law_least", "_law_row", "_law_can", "_law_text", "_law_led", "_law_shows", "_law_alike"]
/-! ### the head's facts: defs, constants, and the tables of the defs that hold a generator expression -/
/-- the table of a def's code is empty and stands beside the written part -/
def tabB (g : Addr → Option Obj) (K : PySem.W.Frag) (x : Str) : Bool := match K.lookup (He.ga K x) with
  | some ⟨_, _, .func fd, _⟩ => (match fd.code with
    | .ref c => (match K.lookup c with
      | some ⟨.type ty, _, .fields vs, _⟩ => (match (vs[11]? : Option Value), vs.getD 11 .none, vs.getD 18 .none, vs.getD 7 .none, vs.getD 9 .none, vs.getD 10 .none with
        | some (Value.ref P), .ref P', .str _ _, .int _ _, .bool _, .int _ _ => decide (ty = "code") && (decide (P = P') && (!decide (c = P) && ((K.lookup P).isNone && (match g P with
          | some ⟨.none, none, .fields ws, sl⟩ => ws.isEmpty && sl.isEmpty
          | _ => false))))
        | _, _, _, _, _, _ => false)
      | _ => false)
    | _ => false)
  | _ => false
/-- what it says -/
def TabF (h : Heap) (K : PySem.W.Frag) (x : Str) : Prop := ∃ (c P : Addr) (o : Obj) (fd : FuncData), K.lookup (He.ga K x) = some o ∧ o.data = .func fd ∧ fd.code = .ref c ∧ K.lookup P = none ∧ PySem.W.CodeHd h c P ∧ h.get? P = some { cls := .none, data := .fields #[] }
theorem tabB_ok {h : Heap} {K : PySem.W.Frag} (X : K.In h) {x : Str} (e : tabB h.get? K x = true) : TabF h K x := by
  unfold tabB at e
  split at e
  · rename_i oc od fd osl q1
    split at e
    · rename_i c q2
      split at e
      · rename_i ty od2 vs sl2 q3
        split at e
        · rename_i P P' f1 f2 i1 i2 b1 j1 j2 w1 w2 w3 w4 w5 w6
          obtain ⟨a1, e1⟩ := He.ba e
          obtain ⟨a2, e2⟩ := He.ba e1
          obtain ⟨a3, e3⟩ := He.ba e2
          obtain ⟨a4, e4⟩ := He.ba e3
          have b1' := of_decide_eq_true a1
          have b2' := of_decide_eq_true a2
          clear e e1 e2 e3 a1 a2
          subst b1' b2'
          split at e4
          · rename_i ws sl3 q4
            obtain ⟨a5, a6⟩ := He.ba e4
            have a5 := Array.isEmpty_iff.mp a5
            have a6 := Array.isEmpty_iff.mp a6
            subst a5 a6
            have hc : c ≠ P := by
              intro z
              rw [decide_eq_true z] at a3
              cases a3
            exact ⟨c, P, _, fd, q1, rfl, q2, Option.isNone_iff_eq_none.mp a4, ⟨_, vs, f1, f2, i1, i2, b1, j1, j2, X _ _ q3, rfl, rfl, w1, w2, w3, w4, w5, w6, hc⟩, q4⟩
          · cases e4
        · cases e
      · cases e
    · cases e
  · cases e
abbrev AlX : Type := He.AlD × Bool
def xB (g : Addr → Option Obj) (K : PySem.W.Frag) : Bool := (tuL.all fun p => He.tupB K p.1 p.2) && geL.all fun x => tabB g K x
def SaysX (h : Heap) (K : PySem.W.Frag) : Prop := He.SaysD faL fnL K ∧ (∀ p ∈ tuL, He.tupB K p.1 p.2 = true) ∧ ∀ x ∈ geL, TabF h K x
def obsX (g : Addr → Option Obj) : AlX := (He.obsDG 2 faL fnL g, xB g (He.frG g (He.asD g 2)))
def hookX : PySem.W.Hook where
  α := AlX
  obs := fun s => obsX s.heap.get?
  val := fun _ => (He.valD fnL, true)
  says := fun _ h => ∃ K : PySem.W.Frag, K.In h ∧ SaysX h K
  of := fun _ s e => by
    have e1 := congrArg (fun z : AlX => z.1) e
    have e2 := congrArg (fun z : AlX => z.2) e
    obtain ⟨h1, h2⟩ := He.ba (show (tuL.all _ && geL.all _) = true from e2)
    exact ⟨_, He.frG_in, e1, fun p hp => List.all_eq_true.mp h1 p hp, fun x hx => tabB_ok He.frG_in (List.all_eq_true.mp h2 x hx)⟩
  keeps := fun _ h h' ⟨K, hK, c1, c2, c3⟩ k => ⟨K, PySem.W.Frag.In.keeps hK k, c1, c2, fun x hx => by
    obtain ⟨c, P, o, fd, a1, a2, a3, a4, a5, a6⟩ := c3 x hx
    exact ⟨c, P, o, fd, a1, a2, a3, a4, a5.keeps k, k _ _ a6⟩⟩
abbrev Rr : PySem.W.OpenRow := PySem.W.OpenLaw.row PySem.Challenge.rw_toldwhat_k04_whole_reasons
def obT (s : PySem.W.SharedT) : AlX := obsX (HandSHeadRun.getT s)
theorem obT_eq (s : PySem.W.SharedT) : obT s = hookX.obs s.abs := by
  have e : HandSHeadRun.getT s = s.abs.heap.get? := funext fun a => HandSHeadRun.getT_eq s a
  unfold obT
  rw [e] <;> rfl
def loL : List Str := loA ++ loB
theorem headRun (w : World) : HandSHeadRun.RunEq Rr (PySem.W.view Rr.prog [51]) hookX obT 20000 loL w := by
  intro os
  kernel_rfl
end TW
end

section
set_option Elab.async false
set_option linter.all false
set_option maxRecDepth 100000
set_option maxHeartbeats 4000000
/-! all(<generator expression>) whose element may call own defs: the generator's frame as a context of its own. -/
namespace TW
open PySem PySem.Spec PyProof.Rows L2 GenW

/-! ### a code object's table, whatever it holds -/
def TabX (P : Addr) : HO := .ext fun h => ∃ ps : Array Value, h.get? P = some { cls := .none, data := .fields ps } ∧ TriplesOk ps.toList
theorem tabX_eq {H : Hp} {P : Addr} (h : H P = some (TabX P)) : upd H P (TabX P) = H := by
  funext b
  unfold upd
  split
  · rename_i e; rw [e, h]
  · rfl
section
variable {X : Cx} {pins : List (Addr × Obj)} {σ : L2.St} {H : Hp} {s : Shared}
theorem tabX_get (I : Inv X pins σ H s) {P : Addr} (hP : H P = some (TabX P)) : ∃ ps : Array Value, s.heap.get? P = some { cls := .none, data := .fields ps } ∧ TriplesOk ps.toList :=
  (I.hok P _ hP).1
/-- the table has grown; all else is kept -/
theorem inv_tabX {P : Addr} {ps : Array Value} {h' : Heap} {g' : Array GenState} {d' : Drawn} {t' : Nat} (I : Inv X pins σ H s) (hP : H P = some (TabX P)) (k : ∀ b o, b ≠ P → s.heap.get? b = some o → h'.get? b = some o)
    (hm : h'.get? P = some { cls := .none, data := .fields ps }) (ht : TriplesOk ps.toList) (hg : AllBare g') :
    Inv X pins σ H { s with heap := h', gens := g', drawn := d', toks := t' } := by
  have nN : ∀ b, H b = none → b ≠ P := fun b e z => by
    rw [z, hP] at e
    cases e
  refine I.step (g' := g') (d' := d') (ch := []) (fun b hb => absurd hb (by simp)) (fun b o _ _ _ e n => k b o (nN b n) e) (fun b o _ _ _ e n => ⟨o.slots, k b o (nN b n) e⟩)
    (fun b o _ e n => n) (fun b o _ e => ?_) (fun b xs e => e) (fun b o u e => e) (fun b qs e => ⟨#[], by rw [e]; simp⟩) (fun m hn => ?_) (fun b u e => ?_) hg
  · by_cases hb : b = P
    · rw [hb]; exact ⟨_, hm⟩
    · exact ⟨o, k b o hb e⟩
  · obtain ⟨ob, es, ep, ho, r⟩ := hn
    exact ⟨ob, es, ep, k _ ob (nN _ I.free) ho, r⟩
  · by_cases hb2 : b = P
    · rw [hb2, hP] at e
      cases e
      rw [hb2]
      refine ⟨⟨ps, hm, ht⟩, ⟨_, hm⟩, fun h1 h2 p1 p2 => ?_⟩
      obtain ⟨qs, e1, e2⟩ := p1
      exact ⟨qs, p2 _ e1, e2⟩
    · refine (I.hok b u e).stay (fun d v hd q => k d v ?_ q) (fun d q => q) fun d xs q => q
      rcases hd with z | z
      · rw [z]; exact hb2
      · intro y
        rw [y, hP] at z
        cases z
end

/-! ### the arm -/
theorem eval_gen_any (elt target iter : Expr) (more : List Comprehension) (scope : Scope) (pos : Pos) (env : Env) (hco : scope.isCoroutine = false) :
    eval (.GeneratorExp elt (⟨target, iter, [], 0⟩ :: more) scope pos) env = (do
      let x ← eval iter env
      standAt iter.pos
      let x ← genFold iter env x
      let it ← holding [x] (pyIter x)
      enterFrame
      let cl ← closureFor scope env
      let code ← genexprCode env pos (env.qual ++ "<genexpr>") scope
      let bi ← builtinsFor env.globals env.builtins
      let cenv ← newFunctionEnv scope env.globals cl [(".0", it)] (env.qual ++ "<genexpr>.") none code none bi
      newGenerator (.compStart (.GeneratorExp elt (⟨target, iter, [], 0⟩ :: more) scope pos) 0 it .none cenv) "<genexpr>" (env.qual ++ "<genexpr>")) := by
  rw [arm_eval_GeneratorExp]
  simp only [hco, Bool.false_eq_true, if_false]
  cases iter <;> rfl
section
variable {M : Model} {A : Around} {E : Value → Shared → Prop} {s : Shared}
theorem gen_made {env : Env} {elt target iter : Expr} {more : List Comprehension} {scope : Scope} {cl : List (Str × Addr)} {pos : Pos} {Q : Value → Shared → Prop}
    (hco : scope.isCoroutine = false) (hclos : closureFor scope env = pure cl) (hcell : ∀ y ∈ scope.names, y.2 ≠ .cell) (h0 : scope.names.lookup (".0" : Str) = some NameKind.local) (hkind : scope.kind = .function)
    (hroom : A.depth < recursionLimit)
    (h : wpAny M A (eval iter env) (fun xv s₁ => wpAny M A (pyIter xv) (fun it s₂ => s₂.heap.NoLimit ∧
      wpAny M A (genexprCode env pos (env.qual ++ "<genexpr>") scope) (fun code s₃ => wpAny M A (builtinsFor env.globals env.builtins) (fun bi s₄ =>
        ∀ h' m, h'.Ns s₄.heap.objs.size m → Heap.SameBut s₄.heap.objs.size (s₄.heap.push { cls := .type "frame", data := .dict #[] }) h' →
          Q (.ref h'.objs.size) { s₄ with
            gens := s₄.gens.push (.fresh (.compStart (.GeneratorExp elt (⟨target, iter, [], 0⟩ :: more) scope pos) 0 it .none (genEnv scope cl s₄.heap.objs.size code bi env))),
            toks := s₄.toks + 1 + 1 + 1,
            heap := h'.push { cls := .type "generator", data := .fields #[.int s₄.gens.size 0, .str "<genexpr>" (s₄.toks + 1), .str (env.qual ++ "<genexpr>") (s₄.toks + 1 + 1)] } }) E s₃) E s₂) E s₁) E s)
    (hs : ∀ x, genFold iter env x = pure x) :
    wpAny M A (eval (.GeneratorExp elt (⟨target, iter, [], 0⟩ :: more) scope pos) env) Q E s := by
  rw [eval_gen_any _ _ _ _ _ _ _ hco, hclos]
  refine wpAny_bind (wpAny_mono h (fun xv s₁ h₁ => ?_) fun _ _ e => e)
  refine wpAny_bind (wpAny_standAt ?_)
  refine wpAny_bind (wpAny_of_eq (hs xv) ?_)
  refine wpAny_bind (wpAny_holding (wpAny_mono h₁ (fun it s₂ h₂ => ?_) fun _ _ e => e))
  refine wpAny_bind (wpAny_enterFrame h₂.1 hroom ?_)
  refine wpAny_bind (wpAny_pure ?_)
  refine wpAny_bind (wpAny_mono h₂.2 (fun code s₃ h₃ => ?_) fun _ _ e => e)
  refine wpAny_bind (wpAny_mono h₃ (fun bi s₄ h₄ => ?_) fun _ _ e => e)
  have hbinds : ∀ y ∈ ([((".0" : Str), it)] : List (Str × Value)), scope.names.lookup y.1 = some NameKind.local := by
    intro y hy
    rcases List.mem_cons.mp hy with rfl | hy
    · exact h0
    · cases hy
  refine wpAny_bind (wpAny_newFunctionEnv hcell hbinds (fun h' hn' hs' => ?_) hkind)
  simp only [newGenerator, newFields]
  refine wpAny_bind (wpAny_newGen (wpAny_bind (wpAny_mkText (wpAny_bind (wpAny_mkText (wpAny_newObj_type ?_ (by size_fits)))))))
  exact h₄ h' _ hn' hs'
end

/-! ### the generator's context -/
abbrev gnX (X : Cx) (A' : Around) (s : Shared) (H : Hp) (ce : Env) (fp : List Addr) : Cx :=
  { X with A := A'.deeper ce, s_0 := s, H_0 := H, env := ce, outer := X.stack, stack := ce :: X.stack, ex := fp, fn := fun _ => false, pn := [], xe := fun _ _ => False }
section
variable {X : Cx} {pins : List (Addr × Obj)} {σ : L2.St} {H : Hp} {s : Shared}
theorem gen_start {scope : Scope} {own : List (Str × Nat)} {fp : List Addr} {A' : Around} {code : Value} {h' : Heap} {m : Str → Option Value} {go fr : Obj} {gst : GenState} {tk : Nat}
    (I : Inv X pins σ H s) (ok : BlkOk X.N X.env.scope scope own) (hcell : ∀ y ∈ scope.names, y.2 ≠ .cell) (hN : X.N.Nodup) (hfp : ∀ b ∈ fp, FpOk X pins H b ∧ b < s.heap.objs.size)
    (hA : A'.frames = some X.stack) (hh : X.calm = true → A'.handled = none) (hn : h'.Ns s.heap.objs.size m) (hsb : Heap.SameBut s.heap.objs.size (s.heap.push fr) h') (hgo : ∀ v, go.data ≠ .cell v) (hgb : gst.bare = true)
    (hgp : (h'.push go).get? h'.objs.size = some go) :
    Inv (gnX X A' s H (genEnv scope (cloFrom X.env.cells scope.names []) s.heap.objs.size code builtinsNs X.env) fp) [(h'.objs.size, go)] (wipe σ (own.map (·.2))) H { s with gens := s.gens.push gst, toks := tk, heap := h'.push go } := by
  have hfree : ∀ y ∈ scope.names, y.2 = .free → ∃ c, X.env.cells.lookup y.1 = some c := fun y hy e => by
    rcases ok.free y hy e with k | k
    · exact I.ok.has _ (.inl k)
    · exact I.ok.has _ (.inr k)
  have hsz : h'.objs.size = s.heap.objs.size + 1 := by rw [hsb.1, Heap.size_push]
  have kp0 : ∀ b o, s.heap.get? b = some o → h'.get? b = some o := fun b o e => hsb.extBut b o (Nat.ne_of_lt (Heap.lt_size e)) (Heap.get?_push_of_some _ e)
  have kp : ∀ b o, s.heap.get? b = some o → (h'.push go).get? b = some o := fun b o e => Heap.get?_push_of_some _ (kp0 b o e)
  have cm : ∀ {y c}, (cloFrom X.env.cells scope.names []).lookup y = some c → X.env.cells.lookup y = some c ∧ c < s.heap.objs.size ∧ scope.names.lookup y = some .free := fun {y c} e => by
    rcases cloFrom_mem (PySem.mem_of_lookup e) with hm | ⟨h1, rfl⟩
    · cases hm
    · obtain ⟨c, hc⟩ := hfree _ h1 rfl
      rw [hc]
      obtain ⟨w, z⟩ := I.cell _ _ hc
      exact ⟨rfl, z.lt, ok.uniq _ h1⟩
  have look : ∀ {y}, scope.names.lookup y = some .free → ∃ c, (cloFrom X.env.cells scope.names []).lookup y = some c ∧ X.env.cells.lookup y = some c := fun {y} hl => by
    obtain ⟨c', e'⟩ := mem_lookup (cloFrom_has (cells := X.env.cells) (acc := []) (PySem.mem_of_lookup hl))
    exact ⟨c', e', (cm e').1⟩
  have okG : (gnX X A' s H (genEnv scope (cloFrom X.env.cells scope.names []) s.heap.objs.size code builtinsNs X.env) fp).Ok := by
    refine ⟨I.ok.mod, ok.kind, I.ok.glob, rfl, Nat.le_refl _, fun y z c e1 e2 => I.ok.inj y z c (cm e1).1 (cm e2).1, fun y hy => ?_, fun y c z => (by cases z), hh, Around.frames_deeper hA, .inr ⟨rfl, rfl⟩, fun b hb => ⟨?_, fun y c e z => ?_⟩,
      I.bs, Nat.le_trans I.ok.bsz I.sz, fun b o e hb => ?_, fun b hb z => ?_, I.stack, I.stkFree⟩
    · rcases hy with hy | hy
      · exact absurd rfl (hcell _ (PySem.mem_of_lookup (show scope.names.lookup y = some .cell from hy)))
      · obtain ⟨c, h1, _⟩ := look (show scope.names.lookup y = some .free from hy)
        exact ⟨c, h1⟩
    · exact Nat.ne_of_lt (hfp b hb).2
    · exact (hfp b hb).1.2.2.2.2.1 y c (cm e).1 z
    · rcases (hfp b hb).1.2.2.2.1 with z | z
      · exact I.ok.noex b o e z
      · exact absurd (Nat.lt_of_lt_of_le (Heap.lt_size e) (Nat.le_trans I.ok.bsz z)) (Nat.lt_irrefl _)
    · rcases List.mem_cons.mp (I.stkSub b z) with z | z
      · exact (hfp b hb).1.2.1 z
      · exact (hfp b hb).1.2.2.1 z
  refine ⟨okG, rfl, I.bare.push hgb, Un.kept kp, ⟨m, hn.push _, fun i y av e1 e2 e3 => ?_⟩, fun y c e => ?_, I.hok.fresh (Nat.le_refl _), fun y c e => I.freeC y c (cm e).1, fun p hp => ?_, I.hok.kept kp, by rw [wipe_length]; exact I.len⟩
  · obtain ⟨e2, hne⟩ := wipe_some e2
    have hk : ∀ k, scope.names.lookup y = some k → k = .local ∨ k = .cell ∨ k = .free → scope.names.lookup y = some .free := fun k hk hk' => by
      have no : ¬ (k = .local ∨ k = .cell) := fun hh => by
        rcases ok.own _ (PySem.mem_of_lookup hk) hh with e' | e'
        · obtain ⟨p, hp, hpy⟩ := List.mem_map.mp e'
          have e3 := ok.ix p hp
          have hpy' : p.1 = y := hpy
          rw [hpy'] at e3
          exact hne (List.mem_map.mpr ⟨p, hp, nodup_ix hN e3 e1⟩)
        · exact e' (List.mem_of_getElem? e1)
      rcases hk' with rfl | rfl | rfl
      · exact absurd (.inl rfl) no
      · exact absurd (.inr rfl) no
      · exact hk
    have hfr : scope.names.lookup y = some .free := by
      have e3 : Vis scope y := e3
      rcases e3 with e3 | e3 | e3
      · exact hk _ e3 (.inl rfl)
      · exact hk _ e3 (.inr (.inl rfl))
      · exact e3
    obtain ⟨m0, hn0, hl⟩ := I.loc
    have hvis : Vis X.env.scope y := (ok.free _ (PySem.mem_of_lookup hfr) rfl).elim (fun k => .inr (.inl k)) (fun k => .inr (.inr k))
    obtain ⟨w, r, q⟩ := hl i y av e1 e2 hvis
    obtain ⟨c, h1, h2⟩ := look hfr
    refine ⟨w, r, .inr ⟨.inr hfr, c, h1, ?_⟩⟩
    rcases q with ⟨k, _⟩ | ⟨_, c', e', z⟩
    · have k : X.env.scope.names.lookup y = some .local := k
      rcases ok.free _ (PySem.mem_of_lookup hfr) rfl with k' | k' <;> rw [show X.env.scope.names.lookup y = _ from k'] at k <;> cases k
    · rw [h2] at e'; cases e'
      exact z.keeps kp
  · obtain ⟨w, z⟩ := I.cell y c (cm e).1
    exact ⟨w, z.keeps kp⟩
  · have hp' : p = (h'.objs.size, go) := by simpa using hp
    rw [hp']
    have le : s.heap.objs.size ≤ h'.objs.size := by rw [hsz]; exact Nat.le_succ _
    refine ⟨hgp, I.hok.fresh le, ?_, fun z => ?_, hgo⟩
    · show h'.objs.size ≠ s.heap.objs.size
      rw [hsz]; exact Nat.succ_ne_self _
    · rcases List.mem_cons.mp (I.stkSub _ z) with z | z
      · have hlt := I.lt
        rw [← z] at hlt
        exact absurd (Nat.lt_of_lt_of_le hlt le) (Nat.lt_irrefl _)
      · exact I.nofs le z
end
theorem over_gen {A : Around} {elt : Expr} {gens : List Comprehension} {scope : Scope} {pos : Pos} {it acc : Value} {env : Env} : A.over (.compLoop (.GeneratorExp elt gens scope pos) 0 it acc env) [] = A.deeper env := by
  first
    | rfl
    | (obtain ⟨hd, d, fr, gs, u⟩ := A; simp [Around.over, Around.deeper, marksOver, frameCount, unitsOf, envsOf, guardsOf, pushEnvs, pushGuards, Code.envs, Code.env?, Code.isFrame, Code.guards, Code.isGuard, Code.weight, Code.frames, Code.isCreation, Code.isCaller, Code.cUnits])
theorem over_gen0 {A : Around} {elt : Expr} {gens : List Comprehension} {scope : Scope} {pos : Pos} {it acc : Value} {env : Env} : A.over (.compStart (.GeneratorExp elt gens scope pos) 0 it acc env) [] = A.deeper env := by
  first
    | rfl
    | (obtain ⟨hd, d, fr, gs, u⟩ := A; simp [Around.over, Around.deeper, marksOver, frameCount, unitsOf, envsOf, guardsOf, pushEnvs, pushGuards, Code.envs, Code.env?, Code.isFrame, Code.guards, Code.isGuard, Code.weight, Code.frames, Code.isCreation, Code.isCaller, Code.cUnits])
end TW
end

section
set_option Elab.async false
set_option linter.all false
set_option maxRecDepth 100000
set_option maxHeartbeats 4000000
namespace TW
open PySem PySem.Spec PyProof.Rows L2 GenW

/-! ### the protocol between all and the generator -/
structure Woke (s s' : Shared) : Prop where
  heap : s'.heap = s.heap
  os : s'.os = s.os
  bare : AllBare s'.gens
theorem inv_woke {X : Cx} {pins : List (Addr × Obj)} {σ : L2.St} {H : Hp} {s s' : Shared} (I : Inv X pins σ H s) (w : Woke s s') : Inv X pins σ H s' := by
  obtain ⟨h, g, d, t, o⟩ := s'
  obtain ⟨h1, h2, h3⟩ := w
  have h1 : h = s.heap := h1
  have h2 : o = s.os := h2
  subst h1 h2
  exact ⟨I.ok, I.os, h3, I.base, I.loc, I.cell, I.free, I.freeC, I.pin, I.hok, I.len⟩
/-- σ2 holds all that σ holds -/
def Wk (σ2 σ : L2.St) : Prop := σ2.length = σ.length ∧ ∀ (j : Nat) (v : V), σ[j]? = some (some v) → σ2[j]? = some (some v)
theorem Inv.wk {X : Cx} {pins : List (Addr × Obj)} {σ σ2 : L2.St} {H : Hp} {s : Shared} (I : Inv X pins σ2 H s) (h : Wk σ2 σ) : Inv X pins σ H s := I.weak h.1.symm h.2
def YA (X : Cx) (pins : List (Addr × Obj)) (σ : L2.St) (Qf : Hp → Prop) : Protocol := fun _ _ v s kap => ∃ b H, v = Value.bool b ∧ Inv X pins σ H s ∧ (b = true → ∀ s', Woke s s' → kap (.send .none) s') ∧ (b = false → Qf H)
def EA (X : Cx) (pins : List (Addr × Obj)) (σ : L2.St) (Qt : Hp → Prop) : Nat → Shared → Shared → Prop := fun _ _ s => ∃ H, Inv X pins σ H s ∧ Qt H
abbrev RA (X : Cx) (pins : List (Addr × Obj)) (σ : L2.St) (Qt : Hp → Prop) : GenEnd := fun n s₀ r s => r = .ok .next ∧ EA X pins σ Qt n s₀ s

theorem compTurn_one (elt t0 i0 : Expr) (scope : Scope) (pos : Pos) (it acc : Value) (env : Env) :
    compTurn (.GeneratorExp elt [⟨t0, i0, [], 0⟩] scope pos) 0 it acc env = (do
      standAt i0.pos
      match ← pyNext it with
      | none => pure (.done .next)
      | some v =>
        letOwnedTupleGo t0 it v
        assign t0 env v
        (do let v ← eval elt env; standAt elt.pos; let _ ← yieldOut env v)
        again (.compLoop (.GeneratorExp elt [⟨t0, i0, [], 0⟩] scope pos) 0 it acc env)) := by rfl

section
variable {X : Cx} {A' : Around} {s1 : Shared} {H1 : Hp} {ce : Env} {fp : List Addr} {pg0 : List (Addr × Obj)} {σg : L2.St}
/-- the iterator's objects stay the generator's own -/
theorem gn_stat {pins : List (Addr × Obj)} {σ' : L2.St} {H' : Hp} {s' : Shared} (I : Inv (gnX X A' s1 H1 ce fp) pins σ' H' s') (hp : ∀ b ∈ fp, ∀ p ∈ pins, p.1 ≠ b) (hn : ∀ b ∈ fp, H' b = none) : ∀ b ∈ fp, FpOk (gnX X A' s1 H1 ce fp) pins H' b := fun b hb =>
  ⟨hn b hb, (I.ok.exf b hb).1, I.ok.exfs b hb, .inl hb, fun x c e => (I.ok.exf b hb).2 x c e, fun p hq => hp b hb p hq⟩
/-- the loop of the one clause -/
theorem seg_one {elt t0 i0 : Expr} {scope : Scope} {pos : Pos} {it : Addr} {J : It} {tn : Nat → Heap → Prop} {g : TG} {te : TE} {W : Nat → Nat → Hp → Prop} {Qt Qf : Hp → Prop}
    (hc : X.calm = true) (T : Turn X.prog X.w X.K t0 J fp it tn) (pg : PG (gnX X A' s1 H1 ce fp) t0 g) (pe : PE (gnX X A' s1 H1 ce fp) elt te) (hco : ce.scope.isCoroutine = false) (hpf : ∀ b ∈ fp, ∀ p ∈ pg0, p.1 ≠ b)
    (turn : ∀ i m H, W i m H → (J.stop i H ∧ Qt H) ∨ ∃ m', m = m' + 1 ∧ J.go i H ∧ ∀ x H', J.yld i H x H' → g x σg H' fun σ2 H2 => Wk σ2 σg ∧ te σ2 H2 fun y H3 => ∃ b, y = .bl b ∧ (b = true → W (i + 1) m' H3) ∧ (b = false → Qf H3)) :
    ∀ (m i : Nat) (s₀ s : Shared) (H : Hp), W i m H → Inv (gnX X A' s1 H1 ce fp) pg0 σg H s → tn i s.heap → (∀ b ∈ fp, H b = none) →
      Seg (model X.prog X.w) A' (RA (gnX X A' s1 H1 ce fp) pg0 σg Qt) (YA (gnX X A' s1 H1 ce fp) pg0 σg Qf) m s₀ (.compLoop (.GeneratorExp elt [⟨t0, i0, [], 0⟩] scope pos) 0 (.ref it) .none ce)
        ((model X.prog X.w).den (.compLoop (.GeneratorExp elt [⟨t0, i0, [], 0⟩] scope pos) 0 (.ref it) .none ce)) [] s := by
  have hy : ∀ v, yieldOut ce v = yieldValue v := fun v => by simp only [yieldOut, hco, Bool.false_eq_true, if_false]
  intro m
  induction m with
  | zero =>
    intro i s₀ s H w I st fn
    rcases turn i 0 H w with ⟨stop, q⟩ | ⟨m', e, _⟩
    · show Seg _ A' _ _ _ s₀ _ ((compTurn (.GeneratorExp elt [⟨t0, i0, [], 0⟩] scope pos) 0 (.ref it) .none ce).onRaise (leaving ce)) [] s
      rw [compTurn_one, Sem.onRaise_eq_wrap]
      refine seg_bind_wrap (wpAny_standAt ?_)
      refine seg_bind_wrap ?_
      rw [over_gen]
      have td := T.done (gnX X A' s1 H1 ce fp) rfl rfl rfl hc i pg0 s σg H (fun _ _ => False) I (gn_stat I hpf fn) st stop
      refine wpAny_mono td (fun r s6 ⟨hr, I6⟩ => ?_) fun _ _ z => z.elim
      subst hr
      exact seg_end (.ok .next) ⟨rfl, H, I6, q⟩
    · omega
  | succ m ih =>
    intro i s₀ s H w I st fn
    rcases turn i (m + 1) H w with ⟨stop, q⟩ | ⟨m', e, go, step⟩
    · show Seg _ A' _ _ _ s₀ _ ((compTurn (.GeneratorExp elt [⟨t0, i0, [], 0⟩] scope pos) 0 (.ref it) .none ce).onRaise (leaving ce)) [] s
      rw [compTurn_one, Sem.onRaise_eq_wrap]
      refine seg_bind_wrap (wpAny_standAt ?_)
      refine seg_bind_wrap ?_
      rw [over_gen]
      have td := T.done (gnX X A' s1 H1 ce fp) rfl rfl rfl hc i pg0 s σg H (fun _ _ => False) I (gn_stat I hpf fn) st stop
      refine wpAny_mono td (fun r s6 ⟨hr, I6⟩ => ?_) fun _ _ z => z.elim
      subst hr
      exact seg_end (.ok .next) ⟨rfl, H, I6, q⟩
    · obtain rfl : m' = m := by omega
      show Seg _ A' _ _ _ s₀ _ ((compTurn (.GeneratorExp elt [⟨t0, i0, [], 0⟩] scope pos) 0 (.ref it) .none ce).onRaise (leaving ce)) [] s
      rw [compTurn_one, Sem.onRaise_eq_wrap]
      refine seg_bind_wrap (wpAny_standAt ?_)
      refine seg_bind_wrap ?_
      rw [over_gen]
      have ti := T.item (gnX X A' s1 H1 ce fp) rfl rfl rfl hc i pg0 s σg H (fun _ _ => False) I (gn_stat I hpf fn) st go
      refine wpAny_mono ti (fun r s6 ⟨u, hr, h6⟩ => ?_) fun _ _ z => z.elim
      subst hr
      refine seg_bind_wrap ?_
      rw [over_gen]
      refine wpAny_mono h6 (fun _ s7 ⟨x, H7, I7, r7, y7, st7, n7⟩ => ?_) fun _ _ z => z.elim
      have I7' := I7.pinned (gn_stat I7 hpf n7) (T.obj _ _ st7)
      refine seg_bind_wrap ?_
      rw [over_gen]
      refine wpAny_mono (pg.run _ s7 σg H7 x u _ I7' r7 (step x H7 y7)) (fun _ s8 ⟨σ8, H8, I8, hw8, q8⟩ => ?_) fun _ _ z => z.elim
      simp only [hy]
      rw [Sem.bind_eq_wrap', Sem.bind_eq_wrap', Sem.wrap_wrap, Sem.wrap_wrap]
      refine seg_wrap ?_
      rw [over_gen]
      refine wpAny_mono (pe.run _ s8 σ8 H8 _ I8 q8) (fun z s9 ⟨yv, H9, I9, r9, b, hb, qt, qf⟩ => ?_) fun _ _ z => z.elim
      subst hb
      obtain rfl : z = Value.bool b := r9
      have pin' : ∀ c ∈ fp, ∀ o, s7.heap.get? c = some o → s9.heap.get? c = some o ∧ H9 c = none := fun c hc' o e =>
        let z := I9.pin (c, o) (List.mem_append_right _ (List.mem_append_right _ (mem_pinsAt hc' e)))
        ⟨z.1, z.2.1⟩
      have I10 : Inv (gnX X A' s1 H1 ce fp) pg0 σg H9 s9 := Inv.wk I9.unpinned hw8
      refine seg_at (seg_yield rfl rfl rfl ⟨b, H9, rfl, I10, fun hb s'' wk => ?_, qf⟩)
      refine seg_again rfl (ih (i + 1) s'' s'' H9 (qt hb) (inv_woke I10 wk) ?_ fun c hc' => ?_)
      · rw [wk.heap]
        exact T.keep _ _ _ st7 fun c hc' o e => (pin' c hc' o e).1
      · obtain ⟨o, e, _⟩ := T.obj _ _ st7 c hc'
        exact (pin' c hc' o e).2
/-- its start -/
theorem seg_one0 {elt t0 i0 : Expr} {more : List Comprehension} {scope : Scope} {pos : Pos} {it : Addr} {J : It} {tn : Nat → Heap → Prop} {i m : Nat} {R : GenEnd} {Y : Protocol} {s₀ s : Shared}
    (T : Turn X.prog X.w X.K t0 J fp it tn) (st : tn i s.heap)
    (loop : Seg (model X.prog X.w) A' R Y m s₀ (.compLoop (.GeneratorExp elt (⟨t0, i0, [], 0⟩ :: more) scope pos) 0 (.ref it) .none ce) ((model X.prog X.w).den (.compLoop (.GeneratorExp elt (⟨t0, i0, [], 0⟩ :: more) scope pos) 0 (.ref it) .none ce)) [] s) :
    Seg (model X.prog X.w) A' R Y m s₀ (.compStart (.GeneratorExp elt (⟨t0, i0, [], 0⟩ :: more) scope pos) 0 (.ref it) .none ce) ((model X.prog X.w).den (.compStart (.GeneratorExp elt (⟨t0, i0, [], 0⟩ :: more) scope pos) 0 (.ref it) .none ce)) [] s := by
  show Seg _ A' _ _ _ s₀ _ ((compStart (.GeneratorExp elt (⟨t0, i0, [], 0⟩ :: more) scope pos) 0 (.ref it) .none ce).onRaise (leaving ce)) [] s
  unfold compStart
  rw [Sem.onRaise_eq_wrap]
  show Seg _ A' _ _ _ s₀ _ ((ask >>= _).wrap _ _ _ _) [] s
  refine seg_bind_wrap (wpAny_askSetting ?_)
  split
  · exact seg_again rfl loop
  · first
      | exact seg_bind_wrap (wpAny_rule (seg_bind_wrap (wpAny_standAt (seg_bind_wrap (T.self _ i s _ _ st (seg_again rfl loop))))))
      | (refine seg_bind_wrap (wpAny_rule ?_); show Seg _ A' _ _ _ s₀ _ ((standAt i0.pos >>= _).wrap _ _ _ _) [] s; exact seg_bind_wrap (wpAny_standAt (seg_bind_wrap (T.self _ i s _ _ st (seg_again rfl loop)))))
end

/-! ### all over a generator -/
theorem bare_set {gens : Array GenState} {g : Nat} {x : GenState} (h : AllBare gens) (hx : x.bare = true) : AllBare (gens.setIfInBounds g x) := fun y hy => by
  rcases Array.mem_or_eq_of_mem_setIfInBounds hy with z | z
  · exact h y z
  · rw [z]; exact hx
/-- the loop of all: J m says that the generator may be woken -/
theorem all_loop_own {prog : Program} {w : World} {A : Around} {a : Addr} {R : Result → Shared → Prop} (J : Nat → Shared → Prop)
    (hJ : ∀ m s, J m s → wpAny (model prog w) A.in1 (pyNext (.ref a)) (fun r s' => match r with
      | none => R (.ok (.ret (.bool true))) s'
      | some v => ∃ b, v = Value.bool b ∧ (b = true → ∃ m', m' < m ∧ J m' s') ∧ (b = false → R (.ok (.ret (.bool false))) s')) (fun _ _ => False) s) :
    ∀ m s, J m s → codeAny (model prog w) A (.builtin "all.loop" ⟨[.ref a], []⟩) R s := by
  intro m
  induction m using Nat.strongRecOn with
  | ind m ih =>
    intro s h
    refine codeAny_builtin F.entry_all_loop ?_
    rw [Around.under_plainId F.plain_all_loop _]
    show wpAny _ A.in1 (pyNext (.ref a) >>= _) _ _ s
    refine wpAny_bind (wpAny_mono (hJ m s h) (fun r s' hr => ?_) fun _ _ z => z.elim)
    cases r with
    | none => exact wpAny_bind (wpAny_rule (wpAny_pure hr))
    | some v =>
      obtain ⟨b, rfl, ht, hf⟩ := hr
      refine wpAny_bind (wpAny_holding (wpAny_truthy_bool ?_))
      refine wpAny_bind (wpAny_letGo ?_)
      cases b with
      | true =>
        simp only [if_true]
        obtain ⟨m', lt, hj⟩ := ht rfl
        exact wpAny_pure ⟨plainId_quiet F.plain_all_loop _, ih m' lt _ hj⟩
      | false =>
        simp only [Bool.false_eq_true, if_false]
        exact wpAny_bind (wpAny_rule (wpAny_pure (hf rfl)))
section
variable {X : Cx} {pins : List (Addr × Obj)} {σ : L2.St} {H : Hp} {s : Shared} {E : Value → Shared → Prop}
/-- all(g), g a generator that has not begun -/
theorem call_all_gen {XG : Cx} {pg0 : List (Addr × Obj)} {σg : L2.St} {Qt Qf : Hp → Prop} {c : Code} {m g : Nat} {a : Addr} {Q : Value → Shared → Prop} (hh : X.A.handled = none) (hroom : X.A.depth < recursionLimit)
    (hin : ∃ H, Inv XG pg0 σg H s) (hgp : ∀ H s, Inv XG pg0 σg H s → s.heap.IsGen a g)
    (hg : s.gens[g]? = some (.fresh c)) (hb : AllBare s.gens)
    (hseg : ∀ s', Woke s s' → Seg (model X.prog X.w) X.A.in1.in1 (RA XG pg0 σg Qt) (YA XG pg0 σg Qf) m s' c ((model X.prog X.w).den c) [] s')
    (hQt : ∀ H s', Inv XG pg0 σg H s' → Qt H → Q (.bool true) s') (hQf : ∀ H s', Inv XG pg0 σg H s' → Qf H → Q (.bool false) s') :
    wpAny (model X.prog X.w) X.A (call (.builtin "all") [.ref a]) Q E s := by
  refine call_function_tree F.kind_all F.plain_all F.entry_all (F.args_all1 _) ?_
  unfold Builtin.«all»
  refine wpAny_bind (m := oneArg "all" _) (wpAny_pure ?_)
  obtain ⟨H0, I0⟩ := hin
  refine wpAny_bind (wpAny_pyIter_gen (hgp _ _ I0) ?_)
  refine wpAny_pure ⟨plainId_quiet F.plain_all_loop _, ?_⟩
  refine all_loop_own (fun m s => (∃ H, Inv XG pg0 σg H s) ∧ ∃ gs, s.gens[g]? = some gs ∧ ∀ s', Woke s s' → gs.Goes (model X.prog X.w) X.A.in1.in1 (RA XG pg0 σg Qt) (YA XG pg0 σg Qf) m (.send .none) s') (fun n s2 hj => ?_) m s ⟨⟨H0, I0⟩, _, hg, fun s' wk => ⟨rfl, hseg s' wk⟩⟩
  obtain ⟨⟨H2, I2⟩, gs, hgs, hgo⟩ := hj
  have wk0 : Woke s2 (s2.setGen g .running) := ⟨rfl, rfl, bare_set I2.bare rfl⟩
  have hg2 : g < s2.gens.size := (Array.getElem?_eq_some_iff.mp hgs).1
  refine wpAny_gsz (n := g + 1) hg2 (wpAny_mono (E := fun _ _ => False) ?_ (fun _ _ z => z) fun _ _ z => z.elim)
  refine wpAny_pyNext_genexpQ (A := X.A.in1) (P := EA XG pg0 σg Qt) (Y := YA XG pg0 σg Qf) hh I2.nolimit hroom (hgp _ _ I2) hgs (hgo _ wk0) (fun v s3 gs' hbare hv hsz => ?_) (fun s3 hp h' hk _ => ?_)
  · obtain ⟨b, H3, rfl, I3, kt, kf⟩ := hv
    have I4 : Inv XG pg0 σg H3 (s3.setGen g gs') := inv_woke I3 ⟨rfl, rfl, bare_set I3.bare hbare⟩
    have hlt : g < s3.gens.size := by
      have z : g + 1 ≤ s3.gens.size := by simpa [Shared.setGen] using hsz
      omega
    refine ⟨b, rfl, fun hb => ?_, fun hb => hQf H3 _ I4 (kf hb)⟩
    cases n with
    | zero => exact (kt hb s3 ⟨rfl, rfl, I3.bare⟩).elim
    | succ n =>
      refine ⟨n, Nat.lt_succ_self n, ⟨H3, I4⟩, gs', ?_, fun s' wk => ?_⟩
      · simp [Shared.setGen, hlt]
      · exact kt hb s' ⟨wk.heap, wk.os, wk.bare⟩
  · obtain ⟨H3, I3, q⟩ := hp
    refine hQt H3 _ ?_ q
    have I4 : Inv XG pg0 σg H3 (s3.setGen g .finished) := inv_woke I3 ⟨rfl, rfl, bare_set I3.bare rfl⟩
    exact I4.kept (t' := s3.toks) hk
end

/-! ### THE RULE -/
def tAllG (P : Addr) (wi : TI) (g : TG) (te : TE) (vs : List Nat) : TE := fun σ H Q => wi σ H fun J H1 => H1 P = some (TabX P) ∧ ∃ W : Nat → Nat → Hp → Prop, (∃ m, W 0 m H1) ∧ ∀ i m H, W i m H →
  (J.stop i H ∧ Q (.bl true) H) ∨ ∃ m', m = m' + 1 ∧ J.go i H ∧ ∀ x H', J.yld i H x H' → g x (wipe σ vs) H' fun σ2 H2 => Wk σ2 (wipe σ vs) ∧ te σ2 H2 fun y H3 => ∃ b, y = .bl b ∧ (b = true → W (i + 1) m' H3) ∧ (b = false → Q (.bl false) H3)
/-- behind the iterator: the generator is made, its context -/
theorem gen_enter {X : Cx} {pins : List (Addr × Obj)} {σ : L2.St} {s : Shared} {elt t0 i0 : Expr} {more : List Comprehension} {scope : Scope} {own : List (Str × Nat)} {gpos : Pos} {wi : TI} {σH : Hp} {R : It → Hp → Prop} {c P : Addr} {k : Nat} {Q' : Value → Shared → Prop}
    (hr : Room (k + 1) X.A) (TB : GxR.TabB X.base X.mg c P) (hcode : X.env.code = .ref c) (hN : X.N.Nodup) (ok : BlkOk X.N X.env.scope scope own) (hcell : ∀ y ∈ scope.names, y.2 ≠ .cell) (hco : scope.isCoroutine = false) (h0 : scope.names.lookup (".0" : Str) = some NameKind.local)
    (hi : PI X t0 i0 wi) (hs : ∀ v, genFold i0 X.env v = pure v) (I : Inv X pins σ σH s) (h : wi σ σH R) (hTab : ∀ J H1, R J H1 → H1 P = some (TabX P))
    (hQ : ∀ (it : Addr) (fp : List Addr) (tn : Nat → Heap → Prop) (J : It) (H1 : Hp) (s1 s2 : Shared) (code : Value) (a : Addr) (go : Obj) (g : Nat), R J H1 → Turn X.prog X.w X.K t0 J fp it tn → tn 0 s2.heap → (∀ b ∈ fp, H1 b = none) →
      Inv X pins σ H1 s1 → (∀ b ∈ fp, FpOk X pins H1 b) → (∀ b ∈ fp, a ≠ b) → (∀ h : Heap, h.get? a = some go → h.IsGen a g) →
      s2.gens[g]? = some (.fresh (.compStart (.GeneratorExp elt (⟨t0, i0, [], 0⟩ :: more) scope gpos) 0 (.ref it) .none (genEnv scope (cloFrom X.env.cells scope.names []) s1.heap.objs.size code builtinsNs X.env))) →
      Inv (gnX X X.A.in1.in1 s1 H1 (genEnv scope (cloFrom X.env.cells scope.names []) s1.heap.objs.size code builtinsNs X.env) fp) [(a, go)] (wipe σ (own.map (·.2))) H1 s2 → Q' (.ref a) s2) :
    wpAny (model X.prog X.w) X.A (eval (.GeneratorExp elt (⟨t0, i0, [], 0⟩ :: more) scope gpos) X.env) Q' X.xe s := by
  have hfree : ∀ y ∈ scope.names, y.2 = .free → ∃ c, X.env.cells.lookup y.1 = some c := fun y hy e => by
    rcases ok.free y hy e with k | k
    · exact I.ok.has _ (.inl k)
    · exact I.ok.has _ (.inr k)
  refine gen_made hco (closure_ok hfree) hcell h0 ok.kind (by have := hr.dp; omega) ?_ hs
  refine thn (hi.run pins s σ σH _ I h) fun xv s1 hx => thn hx fun itv s2 h2 => ?_
  obtain ⟨it, fp, tn, J, H2, e, I2, T, st2, f2, q⟩ := h2
  subst e
  have hP := hTab J H2 q
  obtain ⟨ps, hps, htr⟩ := tabX_get I2 hP
  have cd : PySem.W.CodeHd s2.heap c P := TB.code.keeps fun b u e => I2.bk b u e
  have nP : ∀ b ∈ fp, b ≠ P := fun b hb z => by
    have y := (f2 b hb).1
    rw [z, hP] at y
    cases y
  refine ⟨I2.nolimit, ?_⟩
  have cont : ∀ (code : Value) (h3 : Heap) (tk : Nat) (ps' : Array Value), Heap.ExtBut P s2.heap h3 → h3.get? P = some { cls := .none, data := .fields ps' } → TriplesOk ps'.toList →
      wpAny (model X.prog X.w) X.A (builtinsFor X.env.globals X.env.builtins) (fun bi s₄ =>
        ∀ h' m, h'.Ns s₄.heap.objs.size m → Heap.SameBut s₄.heap.objs.size (s₄.heap.push { cls := .type "frame", data := .dict #[] }) h' →
          Q' (.ref h'.objs.size) { s₄ with
            gens := s₄.gens.push (.fresh (.compStart (.GeneratorExp elt (⟨t0, i0, [], 0⟩ :: more) scope gpos) 0 (.ref it) .none (genEnv scope (cloFrom X.env.cells scope.names []) s₄.heap.objs.size code bi X.env))),
            toks := s₄.toks + 1 + 1 + 1,
            heap := h'.push { cls := .type "generator", data := .fields #[.int s₄.gens.size 0, .str "<genexpr>" (s₄.toks + 1), .str (X.env.qual ++ "<genexpr>") (s₄.toks + 1 + 1)] } }) X.xe { s2 with heap := h3, toks := tk } := by
    intro code h3 tk ps' hx3 hP3 ht3
    obtain ⟨bm, ob, e1, e2, e3, e4, e5, e6, e7, e8⟩ := TB.bm
    have k3 : ∀ b o, b ≠ P → s2.heap.get? b = some o → h3.get? b = some o := fun b o hb e => hx3 b o hb e
    have I3 : Inv X pins σ H2 { s2 with heap := h3, toks := tk } := inv_tabX (g' := s2.gens) (d' := s2.drawn) I2 hP k3 hP3 ht3 I2.bare
    refine wpAny_builtinsFor (m := X.mg) (by rw [I2.ok.glob]; exact (I3.mod.glob.keeps I3.bk)) e1 e2 (k3 _ _ e4 (I2.bk _ _ e5)) e6 e7 e8 ?_
    intro h' m hn' hs'
    have st3 : tn 0 h3 := T.keep _ _ _ st2 fun b hb o e => k3 b o (nP b hb) e
    have f3 : ∀ b ∈ fp, FpOk X pins H2 b ∧ b < h3.objs.size := fun b hb => by
      obtain ⟨o, e, _⟩ := T.obj _ _ st3 b hb
      exact ⟨f2 b hb, Heap.lt_size e⟩
    have hsz : h'.objs.size = h3.objs.size + 1 := by rw [hs'.1, Heap.size_push]
    have kp0 : ∀ b o, h3.get? b = some o → h'.get? b = some o := fun b o e => hs'.extBut b o (Nat.ne_of_lt (Heap.lt_size e)) (Heap.get?_push_of_some _ e)
    refine hQ it fp tn J H2 { s2 with heap := h3, toks := tk } _ code h'.objs.size { cls := .type "generator", data := .fields #[.int s2.gens.size 0, .str "<genexpr>" (tk + 1), .str (X.env.qual ++ "<genexpr>") (tk + 1 + 1)] } s2.gens.size q T ?_ (fun b hb => (f2 b hb).1) I3 f2 (fun b hb => ?_) (fun hh eh => ⟨_, _, _, eh, rfl, rfl, rfl⟩) (Array.getElem?_push_size ..) ?_
    · exact T.keep _ _ _ st3 fun b hb o e => Heap.get?_push_of_some _ (kp0 b o e)
    · have := (f3 b hb).2
      intro z
      rw [← z, hsz] at this
      exact absurd (Nat.lt_of_succ_lt this) (Nat.lt_irrefl _)
    · exact gen_start I3 ok hcell hN f3 I2.ok.frames I2.ok.hd hn' hs' (fun v z => by cases z) rfl (Heap.get?_push_size _ rfl)
  cases hf : codeAmong gpos ps.toList with
  | none =>
    refine wpAny_genexprCodeX hcode (cd.code hps htr) (cd.tab hps) hf fun c' h' tk hx hge hlt hco' _ htab' _ => ?_
    obtain ⟨o1, vs, f1, tf, fl, tg, inF, tx, tt, op, _, _, _, _, _, _, _, _, _, htr', _⟩ := hco'
    exact cont _ h' tk _ hx htab'.2 htr'
  | some cv =>
    refine wpAny_genexprCode_hit hcode (cd.code hps htr) hf ?_
    exact cont cv s2.heap s2.toks ps (Heap.ExtBut.refl _ _) hps htr
theorem pe_all1 {X : Cx} {elt t0 i0 : Expr} {scope : Scope} {own : List (Str × Nat)} {p pos gpos : Pos} {wi : TI} {g : TG} {te : TE} {c P : Addr} {k : Nat}
    (hr : Room (k + 1) X.A) (hc : X.calm = true) (hg : Gl X "all") (hm : X.mg "all" = none) (hb : bootBuiltins "all" = some (.builtin "all")) (TB : GxR.TabB X.base X.mg c P) (hcode : X.env.code = .ref c) (hN : X.N.Nodup) (ok : BlkOk X.N X.env.scope scope own)
    (hcell : ∀ y ∈ scope.names, y.2 ≠ .cell) (hco : scope.isCoroutine = false) (h0 : scope.names.lookup (".0" : Str) = some NameKind.local) (hi : PI X t0 i0 wi)
    (hg2 : ∀ (s : Shared) (H : Hp) (ce : Env) (fp : List Addr), ce.scope = scope → ce.globals = X.env.globals → PG (gnX X X.A.in1.in1 s H ce fp) t0 g) (he : ∀ (s : Shared) (H : Hp) (ce : Env) (fp : List Addr), ce.scope = scope → Room k (X.A.in1.in1.deeper ce) → PE (gnX X X.A.in1.in1 s H ce fp) elt te)
    (hs : ∀ v, genFold i0 X.env v = pure v)
    (hst : starEach [.GeneratorExp elt [⟨t0, i0, [], 0⟩] scope gpos] X.env = (false, eval (.GeneratorExp elt [⟨t0, i0, [], 0⟩] scope gpos) X.env) :: starEach [] X.env := by rfl) :
    PE X (.Call (.Name "all" p) [.GeneratorExp elt [⟨t0, i0, [], 0⟩] scope gpos] [] pos) (tAllG P wi g te (own.map (·.2))) := by
  refine ⟨fun pins s σ H Q I h => ?_⟩
  refine wpAny_Call_Name_kw (ld_blt I hg hm hb ?_)
  refine PyProof.Rows.callWith_builtin1 ?_ hst (by rfl)
  rw [hst]
  show wpAny _ _ (spliced ((false, eval (.GeneratorExp elt [⟨t0, i0, [], 0⟩] scope gpos) X.env) :: backTo pos (starEach [] X.env))) _ _ s
  refine Calls.spliced_cons (gen_enter (k := k) hr TB hcode hN ok hcell hco h0 hi hs I h (fun _ _ q => q.1) fun it fp tn J H1 s1 s2 code a go gi hR T st fn I1 f1 hne hgen hfresh IG => ?_)
  obtain ⟨_, W, ⟨m0, w0⟩, turn⟩ := hR
  refine Calls.spliced_nil ?_
  have hrk : Room k (X.A.in1.in1.deeper (genEnv scope (cloFrom X.env.cells scope.names []) s1.heap.objs.size code builtinsNs X.env)) :=
    ⟨hr.hd, by have := hr.dp; show X.A.depth + 1 + 3 * k + 5 < _; omega, by have := hr.un; show X.A.units + 1 + 1 + 3 + 16 * k + 200 < _; omega⟩
  have back : ∀ H' s', Inv (gnX X X.A.in1.in1 s1 H1 (genEnv scope (cloFrom X.env.cells scope.names []) s1.heap.objs.size code builtinsNs X.env) fp) [(a, go)] (wipe σ (own.map (·.2))) H' s' → Inv X pins σ H' s' := fun H' s' J' =>
    I1.call' (ch := fp) J'.os J'.base J'.hok J'.bare fun b hb => ⟨(f1 b hb).2.2.2.1, (f1 b hb).2.1, (f1 b hb).2.2.2.2.1, (f1 b hb).2.2.2.2.2⟩
  have hpf : ∀ b ∈ fp, ∀ p ∈ ([(a, go)] : List (Addr × Obj)), p.1 ≠ b := fun b hb p hp => by
    rw [List.mem_singleton.mp hp]; exact hne b hb
  refine call_all_gen (XG := gnX X X.A.in1.in1 s1 H1 (genEnv scope (cloFrom X.env.cells scope.names []) s1.heap.objs.size code builtinsNs X.env) fp) (pg0 := [(a, go)]) (σg := wipe σ (own.map (·.2))) (Qt := fun H => Q (.bl true) H) (Qf := fun H => Q (.bl false) H) (m := m0) (g := gi)
    hr.hd (by have := hr.dp; omega) ⟨H1, IG⟩ (fun H' s' J' => hgen _ (J'.pin (a, go) (by simp)).1) hfresh IG.bare (fun s' wk => ?_) (fun H' s' J' q => ⟨.bl true, H', back H' s' J', rfl, q⟩) (fun H' s' J' q => ⟨.bl false, H', back H' s' J', rfl, q⟩)
  have st' : tn 0 s'.heap := by rw [wk.heap]; exact st
  exact seg_one0 T st' (seg_one (W := W) hc T (hg2 s1 H1 (genEnv scope (cloFrom X.env.cells scope.names []) s1.heap.objs.size code builtinsNs X.env) fp rfl rfl) (he s1 H1 (genEnv scope (cloFrom X.env.cells scope.names []) s1.heap.objs.size code builtinsNs X.env) fp rfl hrk) hco hpf turn m0 0 s' s' H1 w0 (inv_woke IG wk) st' fn)
end TW
end

section
set_option Elab.async false
set_option linter.all false
set_option maxRecDepth 100000
set_option maxHeartbeats 4000000
namespace TW
open PySem PySem.Spec PyProof.Rows L2 GenW

abbrev gen2 (elt t0 i0 t1 i1 : Expr) (scope : Scope) (pos : Pos) : Expr := .GeneratorExp elt [⟨t0, i0, [], 0⟩, ⟨t1, i1, [], 0⟩] scope pos
theorem compTurn_out (elt t0 i0 t1 i1 : Expr) (scope : Scope) (pos : Pos) (it acc : Value) (env : Env) :
    compTurn (gen2 elt t0 i0 t1 i1 scope pos) 0 it acc env = (do
      standAt i0.pos
      match ← pyNext it with
      | none => pure (.done .next)
      | some v =>
        letOwnedTupleGo t0 it v
        assign t0 env v
        (do
          let x ← eval i1 env
          standAt i1.pos
          let x ← foldedSetIterable i1 env x
          let it1 ← holding [x] (pyIter x)
          let _ ← runOwn (.compStart (gen2 elt t0 i0 t1 i1 scope pos) 1 it1 acc env) env
          again (.compLoop (gen2 elt t0 i0 t1 i1 scope pos) 0 it acc env))) := by rfl
theorem compTurn_in (elt t0 i0 t1 i1 : Expr) (scope : Scope) (pos : Pos) (it acc : Value) (env : Env) :
    compTurn (gen2 elt t0 i0 t1 i1 scope pos) 1 it acc env = (do
      standAt i1.pos
      match ← pyNext it with
      | none => pure (.done .next)
      | some v =>
        letOwnedTupleGo t1 it v
        assign t1 env v
        (do let v ← eval elt env; standAt elt.pos; let _ ← yieldOut env v)
        again (.compLoop (gen2 elt t0 i0 t1 i1 scope pos) 1 it acc env)) := by rfl

section
variable {X : Cx} {A' : Around} {s1 : Shared} {H1 : Hp} {ce : Env} {fp : List Addr} {pg0 : List (Addr × Obj)} {σg : L2.St}
/-- the loop of the second clause, over the frame of the first -/
theorem seg_in {elt t0 i0 t1 i1 : Expr} {scope : Scope} {pos p : Pos} {it it1 : Addr} {J1 : It} {fp1 : List Addr} {tn1 : Nat → Heap → Prop} {g1 : TG} {te : TE} {W1 : Nat → Nat → Hp → Prop} {N : Nat → Hp → Prop} {Qt Qf : Hp → Prop} {pins : List (Addr × Obj)} {σ1 : L2.St}
    {kk : Result → Sem PySem.Fin} {lv : List Value}
    (hc : X.calm = true) (T : Turn X.prog X.w X.K t1 J1 fp1 it1 tn1) (pg : PG (gnX X A' s1 H1 ce fp) t1 g1) (pe : PE (gnX X A' s1 H1 ce fp) elt te) (hco : ce.scope.isCoroutine = false)
    (hst : ∀ (H : Hp) (s : Shared), Inv (gnX X A' s1 H1 ce fp) pins σ1 H s → (∀ b ∈ fp1, H b = none) → ∀ b ∈ fp1, FpOk (gnX X A' s1 H1 ce fp) pins H b)
    (hcv : ∀ (H : Hp) (s : Shared), Inv (gnX X A' s1 H1 ce fp) pins σ1 H s → Inv (gnX X A' s1 H1 ce fp) pg0 σg H s)
    (hk : ∀ (m : Nat) (s₀ s : Shared) (H : Hp), N m H → Inv (gnX X A' s1 H1 ce fp) pins σ1 H s → Seg (model X.prog X.w) A' (RA (gnX X A' s1 H1 ce fp) pg0 σg Qt) (YA (gnX X A' s1 H1 ce fp) pg0 σg Qf) m s₀ (.compLoop (gen2 elt t0 i0 t1 i1 scope pos) 0 (.ref it) .none ce) (kk (.ok .next)) [] s)
    (turn : ∀ i m H, W1 i m H → (J1.stop i H ∧ N m H) ∨ ∃ m', m = m' + 1 ∧ J1.go i H ∧ ∀ x H', J1.yld i H x H' → g1 x σ1 H' fun σ2 H2 => Wk σ2 σ1 ∧ te σ2 H2 fun y H3 => ∃ b, y = .bl b ∧ (b = true → W1 (i + 1) m' H3) ∧ (b = false → Qf H3)) :
    ∀ (m i : Nat) (s₀ s : Shared) (H : Hp), W1 i m H → Inv (gnX X A' s1 H1 ce fp) pins σ1 H s → tn1 i s.heap → (∀ b ∈ fp1, H b = none) →
      Seg (model X.prog X.w) A' (RA (gnX X A' s1 H1 ce fp) pg0 σg Qt) (YA (gnX X A' s1 H1 ce fp) pg0 σg Qf) m s₀ (.compLoop (gen2 elt t0 i0 t1 i1 scope pos) 1 (.ref it1) .none ce)
        ((model X.prog X.w).den (.compLoop (gen2 elt t0 i0 t1 i1 scope pos) 1 (.ref it1) .none ce)) [.ret kk none false lv (.compLoop (gen2 elt t0 i0 t1 i1 scope pos) 0 (.ref it) .none ce) p []] s := by
  have hy : ∀ v, yieldOut ce v = yieldValue v := fun v => by simp only [yieldOut, hco, Bool.false_eq_true, if_false]
  have ov : A'.over (.compLoop (gen2 elt t0 i0 t1 i1 scope pos) 1 (.ref it1) .none ce) [.ret kk none false lv (.compLoop (gen2 elt t0 i0 t1 i1 scope pos) 0 (.ref it) .none ce) p []] = A'.deeper ce := (over_loop rfl rfl).trans over_gen
  intro m
  induction m with
  | zero =>
    intro i s₀ s H w I st fn
    rcases turn i 0 H w with ⟨stop, q⟩ | ⟨m', e, _⟩
    · show Seg _ A' _ _ _ s₀ _ ((compTurn (gen2 elt t0 i0 t1 i1 scope pos) 1 (.ref it1) .none ce).onRaise (fun x => do noteFrame x ce; theTreesLotGoes x)) _ s
      rw [compTurn_in, Sem.onRaise_eq_wrap]
      refine seg_bind_wrap (wpAny_standAt ?_)
      refine seg_bind_wrap ?_
      rw [ov]
      have td := T.done (gnX X A' s1 H1 ce fp) rfl rfl rfl hc i pins s σ1 H (fun _ _ => False) I (hst H s I fn) st stop
      refine wpAny_mono td (fun r s6 ⟨hr, I6⟩ => ?_) fun _ _ z => z.elim
      subst hr
      exact seg_leaf (.ok .next) (hk 0 s₀ s6 H q I6)
    · omega
  | succ m ih =>
    intro i s₀ s H w I st fn
    rcases turn i (m + 1) H w with ⟨stop, q⟩ | ⟨m', e, go, step⟩
    · show Seg _ A' _ _ _ s₀ _ ((compTurn (gen2 elt t0 i0 t1 i1 scope pos) 1 (.ref it1) .none ce).onRaise (fun x => do noteFrame x ce; theTreesLotGoes x)) _ s
      rw [compTurn_in, Sem.onRaise_eq_wrap]
      refine seg_bind_wrap (wpAny_standAt ?_)
      refine seg_bind_wrap ?_
      rw [ov]
      have td := T.done (gnX X A' s1 H1 ce fp) rfl rfl rfl hc i pins s σ1 H (fun _ _ => False) I (hst H s I fn) st stop
      refine wpAny_mono td (fun r s6 ⟨hr, I6⟩ => ?_) fun _ _ z => z.elim
      subst hr
      exact seg_leaf (.ok .next) (hk (m + 1) s₀ s6 H q I6)
    · obtain rfl : m' = m := by omega
      show Seg _ A' _ _ _ s₀ _ ((compTurn (gen2 elt t0 i0 t1 i1 scope pos) 1 (.ref it1) .none ce).onRaise (fun x => do noteFrame x ce; theTreesLotGoes x)) _ s
      rw [compTurn_in, Sem.onRaise_eq_wrap]
      refine seg_bind_wrap (wpAny_standAt ?_)
      refine seg_bind_wrap ?_
      rw [ov]
      have ti := T.item (gnX X A' s1 H1 ce fp) rfl rfl rfl hc i pins s σ1 H (fun _ _ => False) I (hst H s I fn) st go
      refine wpAny_mono ti (fun r s6 ⟨u, hr, h6⟩ => ?_) fun _ _ z => z.elim
      subst hr
      refine seg_bind_wrap ?_
      rw [ov]
      refine wpAny_mono h6 (fun _ s7 ⟨x, H7, I7, r7, y7, st7, n7⟩ => ?_) fun _ _ z => z.elim
      have I7' := I7.pinned (hst H7 s7 I7 n7) (T.obj _ _ st7)
      refine seg_bind_wrap ?_
      rw [ov]
      refine wpAny_mono (pg.run _ s7 σ1 H7 x u _ I7' r7 (step x H7 y7)) (fun _ s8 ⟨σ8, H8, I8, hw8, q8⟩ => ?_) fun _ _ z => z.elim
      simp only [hy]
      rw [Sem.bind_eq_wrap', Sem.bind_eq_wrap', Sem.wrap_wrap, Sem.wrap_wrap]
      refine seg_wrap ?_
      rw [ov]
      refine wpAny_mono (pe.run _ s8 σ8 H8 _ I8 q8) (fun z s9 ⟨yv, H9, I9, r9, b, hb, qt, qf⟩ => ?_) fun _ _ z => z.elim
      subst hb
      obtain rfl : z = Value.bool b := r9
      have pin' : ∀ c ∈ fp1, ∀ o, s7.heap.get? c = some o → s9.heap.get? c = some o ∧ H9 c = none := fun c hc' o e =>
        let z := I9.pin (c, o) (List.mem_append_right _ (List.mem_append_right _ (mem_pinsAt hc' e)))
        ⟨z.1, z.2.1⟩
      have I10 : Inv (gnX X A' s1 H1 ce fp) pins σ1 H9 s9 := Inv.wk I9.unpinned hw8
      refine seg_at (seg_yield rfl rfl rfl ⟨b, H9, rfl, hcv _ _ I10, fun hb s'' wk => ?_, qf⟩)
      refine seg_again rfl (ih (i + 1) s'' s'' H9 (qt hb) (inv_woke I10 wk) ?_ fun c hc' => ?_)
      · rw [wk.heap]
        exact T.keep _ _ _ st7 fun c hc' o e => (pin' c hc' o e).1
      · obtain ⟨o, e, _⟩ := T.obj _ _ st7 c hc'
        exact (pin' c hc' o e).2
/-- its start -/
theorem seg_in0 {elt t0 i0 t1 i1 : Expr} {scope : Scope} {pos : Pos} {it1 : Addr} {J1 : It} {fp1 : List Addr} {tn1 : Nat → Heap → Prop} {R : GenEnd} {Y : Protocol} {m i : Nat} {s₀ s : Shared} {fs : List Frame}
    (T : Turn X.prog X.w X.K t1 J1 fp1 it1 tn1) (st : tn1 i s.heap)
    (loop : Seg (model X.prog X.w) A' R Y m s₀ (.compLoop (gen2 elt t0 i0 t1 i1 scope pos) 1 (.ref it1) .none ce) ((model X.prog X.w).den (.compLoop (gen2 elt t0 i0 t1 i1 scope pos) 1 (.ref it1) .none ce)) fs s) :
    Seg (model X.prog X.w) A' R Y m s₀ (.compStart (gen2 elt t0 i0 t1 i1 scope pos) 1 (.ref it1) .none ce) ((model X.prog X.w).den (.compStart (gen2 elt t0 i0 t1 i1 scope pos) 1 (.ref it1) .none ce)) fs s := by
  show Seg _ A' _ _ _ s₀ _ ((compStart (gen2 elt t0 i0 t1 i1 scope pos) 1 (.ref it1) .none ce).onRaise (fun x => do noteFrame x ce; standAt theWindowsPlace)) fs s
  unfold compStart
  rw [Sem.onRaise_eq_wrap]
  show Seg _ A' _ _ _ s₀ _ ((ask >>= _).wrap _ _ _ _) fs s
  refine seg_bind_wrap (wpAny_askSetting ?_)
  split
  · exact seg_again rfl loop
  · first
      | exact seg_bind_wrap (wpAny_rule (seg_bind_wrap (wpAny_standAt (seg_bind_wrap (T.self _ i s _ _ st (seg_again rfl loop))))))
      | (refine seg_bind_wrap (wpAny_rule ?_); show Seg _ A' _ _ _ s₀ _ ((standAt i1.pos >>= _).wrap _ _ _ _) fs s; exact seg_bind_wrap (wpAny_standAt (seg_bind_wrap (T.self _ i s _ _ st (seg_again rfl loop)))))
/-- the loop of the first clause -/
theorem seg_out {elt t0 i0 t1 i1 : Expr} {scope : Scope} {pos : Pos} {it : Addr} {J : It} {tn : Nat → Heap → Prop} {g g1 : TG} {te : TE} {wi1 : TI} {W : Nat → Nat → Nat → Hp → Prop} {Qt Qf : Hp → Prop}
    (hc : X.calm = true) (T : Turn X.prog X.w X.K t0 J fp it tn) (pg : PG (gnX X A' s1 H1 ce fp) t0 g) (pg1 : PG (gnX X A' s1 H1 ce fp) t1 g1) (pi1 : PI (gnX X A' s1 H1 ce fp) t1 i1 wi1) (pe : PE (gnX X A' s1 H1 ce fp) elt te) (hco : ce.scope.isCoroutine = false) (hpf : ∀ b ∈ fp, ∀ p ∈ pg0, p.1 ≠ b)
    (hf1 : ∀ x, foldedSetIterable i1 ce x = pure x)
    (turn : ∀ i k m H, W i k m H → (J.stop i H ∧ Qt H) ∨ ∃ k', k = k' + 1 ∧ J.go i H ∧ ∀ x H', J.yld i H x H' → g x σg H' fun σ1 H2 => Wk σ1 σg ∧ wi1 σ1 H2 fun J1 H3 => ∃ W1 : Nat → Nat → Hp → Prop, W1 0 m H3 ∧ ∀ i1 m1 H, W1 i1 m1 H → (J1.stop i1 H ∧ W (i + 1) k' m1 H) ∨
      ∃ m', m1 = m' + 1 ∧ J1.go i1 H ∧ ∀ x H', J1.yld i1 H x H' → g1 x σ1 H' fun σ2 H2 => Wk σ2 σ1 ∧ te σ2 H2 fun y H3 => ∃ b, y = .bl b ∧ (b = true → W1 (i1 + 1) m' H3) ∧ (b = false → Qf H3)) :
    ∀ (k m i : Nat) (s₀ s : Shared) (H : Hp), W i k m H → Inv (gnX X A' s1 H1 ce fp) pg0 σg H s → tn i s.heap → (∀ b ∈ fp, H b = none) →
      Seg (model X.prog X.w) A' (RA (gnX X A' s1 H1 ce fp) pg0 σg Qt) (YA (gnX X A' s1 H1 ce fp) pg0 σg Qf) m s₀ (.compLoop (gen2 elt t0 i0 t1 i1 scope pos) 0 (.ref it) .none ce)
        ((model X.prog X.w).den (.compLoop (gen2 elt t0 i0 t1 i1 scope pos) 0 (.ref it) .none ce)) [] s := by
  intro k
  induction k with
  | zero =>
    intro m i s₀ s H w I st fn
    rcases turn i 0 m H w with ⟨stop, q⟩ | ⟨m', e, _⟩
    · show Seg _ A' _ _ _ s₀ _ ((compTurn (gen2 elt t0 i0 t1 i1 scope pos) 0 (.ref it) .none ce).onRaise (leaving ce)) [] s
      rw [compTurn_out, Sem.onRaise_eq_wrap]
      refine seg_bind_wrap (wpAny_standAt ?_)
      refine seg_bind_wrap ?_
      rw [over_gen]
      have td := T.done (gnX X A' s1 H1 ce fp) rfl rfl rfl hc i pg0 s σg H (fun _ _ => False) I (gn_stat I hpf fn) st stop
      refine wpAny_mono td (fun r s6 ⟨hr, I6⟩ => ?_) fun _ _ z => z.elim
      subst hr
      exact seg_end (.ok .next) ⟨rfl, H, I6, q⟩
    · omega
  | succ k ih =>
    intro m i s₀ s H w I st fn
    rcases turn i (k + 1) m H w with ⟨stop, q⟩ | ⟨k', e, go, step⟩
    · show Seg _ A' _ _ _ s₀ _ ((compTurn (gen2 elt t0 i0 t1 i1 scope pos) 0 (.ref it) .none ce).onRaise (leaving ce)) [] s
      rw [compTurn_out, Sem.onRaise_eq_wrap]
      refine seg_bind_wrap (wpAny_standAt ?_)
      refine seg_bind_wrap ?_
      rw [over_gen]
      have td := T.done (gnX X A' s1 H1 ce fp) rfl rfl rfl hc i pg0 s σg H (fun _ _ => False) I (gn_stat I hpf fn) st stop
      refine wpAny_mono td (fun r s6 ⟨hr, I6⟩ => ?_) fun _ _ z => z.elim
      subst hr
      exact seg_end (.ok .next) ⟨rfl, H, I6, q⟩
    · obtain rfl : k' = k := by omega
      show Seg _ A' _ _ _ s₀ _ ((compTurn (gen2 elt t0 i0 t1 i1 scope pos) 0 (.ref it) .none ce).onRaise (leaving ce)) [] s
      rw [compTurn_out, Sem.onRaise_eq_wrap]
      refine seg_bind_wrap (wpAny_standAt ?_)
      refine seg_bind_wrap ?_
      rw [over_gen]
      have ti := T.item (gnX X A' s1 H1 ce fp) rfl rfl rfl hc i pg0 s σg H (fun _ _ => False) I (gn_stat I hpf fn) st go
      refine wpAny_mono ti (fun r s6 ⟨u, hr, h6⟩ => ?_) fun _ _ z => z.elim
      subst hr
      refine seg_bind_wrap ?_
      rw [over_gen]
      refine wpAny_mono h6 (fun _ s7 ⟨x, H7, I7, r7, y7, st7, n7⟩ => ?_) fun _ _ z => z.elim
      have I7' := I7.pinned (gn_stat I7 hpf n7) (T.obj _ _ st7)
      refine seg_bind_wrap ?_
      rw [over_gen]
      refine wpAny_mono (pg.run _ s7 σg H7 x u _ I7' r7 (step x H7 y7)) (fun _ s8 ⟨σ8, H8, I8, hw8, q8⟩ => ?_) fun _ _ z => z.elim
      refine seg_bind_wrap ?_
      rw [over_gen]
      refine wpAny_mono (pi1.run _ s8 σ8 H8 _ I8 q8) (fun xv s9 h9 => ?_) fun _ _ z => z.elim
      refine seg_bind_wrap (wpAny_standAt ?_)
      refine seg_bind_wrap (wpAny_of_eq (hf1 xv) ?_)
      refine seg_bind_wrap (wpAny_holding ?_)
      rw [over_gen]
      refine wpAny_mono h9 (fun itv s10 h10 => ?_) fun _ _ z => z.elim
      obtain ⟨it1, fp1, tn1, J1, H10, e10, I10, T1, st10, f10, W1, w1, turn1⟩ := h10
      subst e10
      have pin' : ∀ {H' : Hp} {s' : Shared}, Inv (gnX X A' s1 H1 ce fp) (pg0 ++ pinsAt fp s7.heap) σ8 H' s' → tn (i + 1) s'.heap ∧ ∀ b ∈ fp, H' b = none := fun {H' s'} J' => by
        have z : ∀ c ∈ fp, ∀ o, s7.heap.get? c = some o → s'.heap.get? c = some o ∧ H' c = none := fun c hc' o e =>
          let z := J'.pin (c, o) (List.mem_append_right _ (List.mem_append_right _ (mem_pinsAt hc' e)))
          ⟨z.1, z.2.1⟩
        refine ⟨T.keep _ _ _ st7 fun c hc' o e => (z c hc' o e).1, fun c hc' => ?_⟩
        obtain ⟨o, e, _⟩ := T.obj _ _ st7 c hc'
        exact (z c hc' o e).2
      refine seg_call fun p => ?_
      refine seg_in0 T1 st10 (seg_in (W1 := W1) (N := fun m H => W (i + 1) k' m H) (pins := pg0 ++ pinsAt fp s7.heap) (σ1 := σ8) hc T1 pg1 pe hco (fun H' s' J' hn b hb => ⟨hn b hb, (f10 b hb).2⟩) (fun H' s' J' => Inv.wk J'.unpinned hw8)
        (fun m' s₀' s' H' hN J' => ?_) turn1 m 0 s₀ s10 H10 w1 I10 st10 (fun b hb => (f10 b hb).1))
      obtain ⟨st', fn'⟩ := pin' J'
      exact seg_again rfl (ih m' (i + 1) s₀' s' H' hN (Inv.wk J'.unpinned hw8) st' fn')
end
/-- all(elt for t0 in i0 for t1 in i1) -/
def tAllG2 (P : Addr) (wi : TI) (g : TG) (wi1 : TI) (g1 : TG) (te : TE) (vs : List Nat) : TE := fun σ H Q => wi σ H fun J H1 => H1 P = some (TabX P) ∧ ∃ W : Nat → Nat → Nat → Hp → Prop, (∃ k m, W 0 k m H1) ∧
  ∀ i k m H, W i k m H → (J.stop i H ∧ Q (.bl true) H) ∨ ∃ k', k = k' + 1 ∧ J.go i H ∧ ∀ x H', J.yld i H x H' → g x (wipe σ vs) H' fun σ1 H2 => Wk σ1 (wipe σ vs) ∧ wi1 σ1 H2 fun J1 H3 => ∃ W1 : Nat → Nat → Hp → Prop, W1 0 m H3 ∧ ∀ i1 m1 H, W1 i1 m1 H → (J1.stop i1 H ∧ W (i + 1) k' m1 H) ∨
      ∃ m', m1 = m' + 1 ∧ J1.go i1 H ∧ ∀ x H', J1.yld i1 H x H' → g1 x σ1 H' fun σ2 H2 => Wk σ2 σ1 ∧ te σ2 H2 fun y H3 => ∃ b, y = .bl b ∧ (b = true → W1 (i1 + 1) m' H3) ∧ (b = false → Q (.bl false) H3)
theorem pe_all2 {X : Cx} {elt t0 i0 t1 i1 : Expr} {scope : Scope} {own : List (Str × Nat)} {p pos gpos : Pos} {wi wi1 : TI} {g g1 : TG} {te : TE} {c P : Addr} {k : Nat}
    (hr : Room (k + 1) X.A) (hc : X.calm = true) (hg : Gl X "all") (hm : X.mg "all" = none) (hb : bootBuiltins "all" = some (.builtin "all")) (TB : GxR.TabB X.base X.mg c P) (hcode : X.env.code = .ref c) (hN : X.N.Nodup) (ok : BlkOk X.N X.env.scope scope own)
    (hcell : ∀ y ∈ scope.names, y.2 ≠ .cell) (hco : scope.isCoroutine = false) (h0 : scope.names.lookup (".0" : Str) = some NameKind.local) (hi : PI X t0 i0 wi)
    (hg2 : ∀ (s : Shared) (H : Hp) (ce : Env) (fp : List Addr), ce.scope = scope → PG (gnX X X.A.in1.in1 s H ce fp) t0 g) (hg3 : ∀ (s : Shared) (H : Hp) (ce : Env) (fp : List Addr), ce.scope = scope → PG (gnX X X.A.in1.in1 s H ce fp) t1 g1)
    (hi1 : ∀ (s : Shared) (H : Hp) (ce : Env) (fp : List Addr), ce.scope = scope → PI (gnX X X.A.in1.in1 s H ce fp) t1 i1 wi1)
    (he : ∀ (s : Shared) (H : Hp) (ce : Env) (fp : List Addr), ce.scope = scope → Room k (X.A.in1.in1.deeper ce) → PE (gnX X X.A.in1.in1 s H ce fp) elt te)
    (hs : ∀ v, genFold i0 X.env v = pure v) (hf1 : ∀ ce x, foldedSetIterable i1 ce x = pure x)
    (hst : starEach [gen2 elt t0 i0 t1 i1 scope gpos] X.env = (false, eval (gen2 elt t0 i0 t1 i1 scope gpos) X.env) :: starEach [] X.env := by rfl) :
    PE X (.Call (.Name "all" p) [gen2 elt t0 i0 t1 i1 scope gpos] [] pos) (tAllG2 P wi g wi1 g1 te (own.map (·.2))) := by
  refine ⟨fun pins s σ H Q I h => ?_⟩
  refine wpAny_Call_Name_kw (ld_blt I hg hm hb ?_)
  refine PyProof.Rows.callWith_builtin1 ?_ hst (by rfl)
  rw [hst]
  show wpAny _ _ (spliced ((false, eval (gen2 elt t0 i0 t1 i1 scope gpos) X.env) :: backTo pos (starEach [] X.env))) _ _ s
  refine Calls.spliced_cons (gen_enter (k := k) hr TB hcode hN ok hcell hco h0 hi hs I h (fun _ _ q => q.1) fun it fp tn J H1 s1 s2 code a go gi hR T st fn I1 f1 hne hgen hfresh IG => ?_)
  obtain ⟨_, W, ⟨k0, m0, w0⟩, turn⟩ := hR
  refine Calls.spliced_nil ?_
  have hrk : Room k (X.A.in1.in1.deeper (genEnv scope (cloFrom X.env.cells scope.names []) s1.heap.objs.size code builtinsNs X.env)) :=
    ⟨hr.hd, by have := hr.dp; show X.A.depth + 1 + 3 * k + 5 < _; omega, by have := hr.un; show X.A.units + 1 + 1 + 3 + 16 * k + 200 < _; omega⟩
  have back : ∀ H' s', Inv (gnX X X.A.in1.in1 s1 H1 (genEnv scope (cloFrom X.env.cells scope.names []) s1.heap.objs.size code builtinsNs X.env) fp) [(a, go)] (wipe σ (own.map (·.2))) H' s' → Inv X pins σ H' s' := fun H' s' J' =>
    I1.call' (ch := fp) J'.os J'.base J'.hok J'.bare fun b hb => ⟨(f1 b hb).2.2.2.1, (f1 b hb).2.1, (f1 b hb).2.2.2.2.1, (f1 b hb).2.2.2.2.2⟩
  have hpf : ∀ b ∈ fp, ∀ p ∈ ([(a, go)] : List (Addr × Obj)), p.1 ≠ b := fun b hb p hp => by
    rw [List.mem_singleton.mp hp]; exact hne b hb
  refine call_all_gen (XG := gnX X X.A.in1.in1 s1 H1 (genEnv scope (cloFrom X.env.cells scope.names []) s1.heap.objs.size code builtinsNs X.env) fp) (pg0 := [(a, go)]) (σg := wipe σ (own.map (·.2))) (Qt := fun H => Q (.bl true) H) (Qf := fun H => Q (.bl false) H) (m := m0) (g := gi)
    hr.hd (by have := hr.dp; omega) ⟨H1, IG⟩ (fun H' s' J' => hgen _ (J'.pin (a, go) (by simp)).1) hfresh IG.bare (fun s' wk => ?_) (fun H' s' J' q => ⟨.bl true, H', back H' s' J', rfl, q⟩) (fun H' s' J' q => ⟨.bl false, H', back H' s' J', rfl, q⟩)
  have st' : tn 0 s'.heap := by rw [wk.heap]; exact st
  exact seg_one0 T st' (seg_out (W := W) hc T (hg2 s1 H1 (genEnv scope (cloFrom X.env.cells scope.names []) s1.heap.objs.size code builtinsNs X.env) fp rfl) (hg3 s1 H1 (genEnv scope (cloFrom X.env.cells scope.names []) s1.heap.objs.size code builtinsNs X.env) fp rfl)
    (hi1 s1 H1 (genEnv scope (cloFrom X.env.cells scope.names []) s1.heap.objs.size code builtinsNs X.env) fp rfl) (he s1 H1 (genEnv scope (cloFrom X.env.cells scope.names []) s1.heap.objs.size code builtinsNs X.env) fp rfl hrk) hco hpf (hf1 _) turn k0 m0 0 s' s' H1 w0 (inv_woke IG wk) st' fn)
end TW
end

section
set_option Elab.async false
set_option linter.all false
set_option maxRecDepth 100000
set_option maxHeartbeats 4000000
/-! Rules that the layer lacks: {(a, b): v}, enumerate(tuple), tuple.index of ints, len(set(tuple of ints)). -/
namespace TW
open PySem PySem.Spec PyProof.Rows L2

/-! ### {k: v}, k a tuple of ints -/
def tDispT (tk tv : TE) : TE := fun σ H Q => ∀ p, H p = none → tk σ (upd H p (.dT [])) fun x H1 => tv σ H1 fun y H2 => ∃ b ks, x = .ref b ∧ H2 p = some (.dT []) ∧ H2 b = some (.tup (List.map kV ks)) ∧ Q (.ref p) (upd H2 p (.dT [(ks, y)]))
theorem pe_dispT {X : Cx} {pos : Pos} {k v : Expr} {tk tv : TE} (hu : X.A.units + 1 < cLine) (hk : PE X k tk) (hv : PE X v tv) : PE X (.Dict [some k] [v] pos) (tDispT tk tv) := by
  refine ⟨fun pins s σ H Q I q => ?_⟩
  have hn := I.hok.fresh (Nat.le_refl s.heap.objs.size)
  have I1 := I.laid (a := s.heap.objs.size) (o := .dT []) (h' := s.heap.push { cls := .type "dict", data := .dict #[] }) (t' := s.toks) (fun _ _ q => Heap.get?_push_of_some _ q) (Nat.le_refl _) (dt_empty s.heap I.big)
  rw [arm_eval_Dict, zip_pairTrees [some k] [v] X.env pos rfl rfl, dictDisplay_pairs (pairTrees [some k] [v] X.env pos) (by intro z; cases z) (by show 1 < _; omega)]
  refine wpAny_bind (wpAny_standAt (wpAny_bind (wpAny_subDictH (knd := tupleKind (mixKind X.prog X.w)) (Q := fun d s' => wpAny (model X.prog X.w) X.A (pure (Value.ref d)) (EP X pins σ Q) X.xe s') (show X.A.units < cLine by omega) (by show 1 ≤ 15; decide) ?_)))
  refine pairTrees_cons_walk (thn (hk.run pins _ σ _ _ I1 (q _ hn)) fun ku s1 ⟨x, H1, I2, rx, q1⟩ => thn (hv.run pins s1 σ H1 _ I2 q1) fun vu s2 ⟨y, H2, I3, ry, q2⟩ => pairTrees_nil_walk ?_)
  obtain ⟨b, ks, rfl, hp, hb, q3⟩ := q2
  obtain rfl : ku = Value.ref b := rx
  obtain ⟨z, hd, xs, r0, dd⟩ := dt_of I3.hok hp
  cases r0
  refine ⟨[(ks, b, vu)], ⟨rfl, rfl, key_of I3.hok hb, True.intro⟩, dd, fun h' tk dd' hs => wpAny_pure ⟨.ref s.heap.objs.size, _, ?_, rfl, q3⟩⟩
  obtain ⟨o, es, ep, hq, h2, h3, h4, _, h5⟩ := dd'
  have e1 : storedAllH ([] : List (List Key × Addr × Value)) [(ks, b, vu)] = [(ks, b, vu)] := by rfl
  rw [e1] at h4 h5
  refine d_write I3 (by rw [hp]; exact True.intro) hs ⟨o, hq⟩ ⟨by show 1 ≤ sizeLine; decide, hd, [(ks, b, vu)], .cons ⟨rfl, ?_, ry⟩ .nil, o, es, ep, hq, h2, h3, h4, h5⟩
  rw [upd_ne (ne_of hb hp (fun z => nomatch z))]
  exact hb

/-! ### enumerate(t), t a tuple -/
def IteT (K : PySem.W.Frag) (a : Addr) : It :=
  ⟨fun i H => ∃ (xs : List V) (x : V), SqT K H a xs ∧ xs[i]? = some x, fun i H v H' => ∃ T x, v = .ref T ∧ H T = none ∧ H' = upd H T (.tup [.int (i : Nat), x]) ∧ ∀ xs, SqT K H a xs → xs[i]? = some x, fun i H => ∃ xs : List V, SqT K H a xs ∧ xs.length = i⟩
theorem turn_enumT {P : Program} {w : World} {K : PySem.W.Frag} {elts : List Expr} {kk : Nat} {tpos : Pos} (a e it : Addr) :
    Turn P w K (.Tuple elts kk tpos) (IteT K a) [e, it] e (fun i h => (∃ old, IsEnum h e it ((i : Nat) : Int) old) ∧ h.IsTupleIter it a i ∧ e ≠ it) where
  mem := by simp
  obj := fun i h st b hb => by
    obtain ⟨⟨old, he⟩, ⟨o, ho, hc, hd⟩, _⟩ := st
    have e' : b = e ∨ b = it := by simpa using hb
    rcases e' with z | z
    · rw [z]; exact ⟨_, he, fun v q => nomatch q⟩
    · rw [z]; exact ⟨o, ho, fun v q => by rw [hd] at q; cases q⟩
  keep := fun i h h' st k => let ⟨⟨old, he⟩, hi, hne⟩ := st; ⟨⟨old, k e (by simp) _ he⟩, hi.at fun o q => k it (by simp) o q, hne⟩
  item := by
    intro X hP hw hK hc i pins s σ H E I hf st hg
    subst hP hw hK
    obtain ⟨⟨old, he⟩, hit, hne⟩ := st
    obtain ⟨xs, x, hq, hx⟩ := hg
    obtain ⟨its, rv, p, hz⟩ := I.tuple hq
    obtain ⟨u, hu, ru⟩ := rv.get hx
    have hel : e < s.heap.objs.size := Heap.lt_size he
    have hil : it < s.heap.objs.size := by obtain ⟨_, q, _⟩ := hit; exact Heap.lt_size q
    have hal : a < s.heap.objs.size := p.lt
    have hai : a ≠ it := by
      intro z
      obtain ⟨o1, q1, c1, _⟩ := id hit
      obtain ⟨o2, q2, c2, _⟩ := p
      rw [z, q1] at q2
      cases q2
      rw [c1] at c2
      exact absurd c2 (by decide)
    have hae : a ≠ e := by
      intro z
      obtain ⟨o2, q2, c2, _⟩ := p
      have he' : s.heap.get? e = some _ := he
      rw [z, he'] at q2
      cases q2
      have c3 : Value.type "enumerate" = Value.type "tuple" := c2
      exact absurd c3 (by decide)
    have hlt : i < its.toArray.size := by
      have h1 := (List.getElem?_eq_some_iff.mp hx).1
      have h2 := rv.length
      rw [List.size_toArray]; omega
    refine wpAny_pyNext_enum_itemD (Draws.tuple (A := X.A.in1) (I.ok.hd hc) it a hai its.toArray) he ⟨hit, show s.heap.IsTuple a its.toArray from p⟩ hlt hne (by intro z; rcases List.mem_cons.mp z with z | z; exact hne z; exact hae (List.mem_singleton.mp z).symm) fun y h' tk hy ho hit' hT hsz hk => ?_
    have hyu : y = u := by
      have hu2 : its.toArray[i]? = some u := by simpa using hu
      rw [hu2] at hy
      exact (Option.some.inj hy).symm
    subst hyu
    refine ⟨_, rfl, wpAny_letOwnedTupleGo_enum (s := { s with heap := h', toks := tk + 1 }) ho fun h'' he' sb => ?_⟩
    have hT2 : h''.get? s.heap.objs.size = some { cls := .type "tuple", data := .seq #[.int i tk, y] } := (sb.2 _ (Nat.ne_of_gt hel)).trans hT
    have new : ObjOk X.prog X.w (upd H s.heap.objs.size (.tup [.int (i : Nat), x])) h'' s.heap.objs.size (.tup [.int (i : Nat), x]) :=
      ⟨by show 2 ≤ sizeLine; decide, [.int i tk, y], .cons ⟨_, rfl⟩ (.cons ru .nil), ⟨_, hT2, rfl, _, rfl⟩⟩
    have I1 : Inv X pins σ (upd H s.heap.objs.size (.tup [.int (i : Nat), x])) { s with heap := h'', toks := tk + 1 } :=
      I.turnedNew (ch := [e, it]) (fun b ob hb q => (sb.2 b (fun z => hb (by simp [z]))).trans (hk b ob (fun z => hb (by simp [z])) (fun z => hb (by simp [z])) q)) hf (Nat.le_refl _) new
    refine ⟨.ref s.heap.objs.size, _, I1, rfl, ⟨_, x, rfl, I.hok.fresh (Nat.le_refl _), rfl, fun ys hy => by rw [I.tuple_inj hy hq]; exact hx⟩, ⟨⟨y, ?_⟩, hit'.1.at fun o q => (sb.2 it (Ne.symm hne)).trans q, hne⟩, fun b hb => ?_⟩
    · have e1 : ((i + 1 : Nat) : Int) = (i : Int) + 1 := by omega
      rw [e1]; exact he'
    · have hb' : b < s.heap.objs.size := by
        have e' : b = e ∨ b = it := by simpa using hb
        rcases e' with z | z
        · rw [z]; exact hel
        · rw [z]; exact hil
      rw [upd_ne (Nat.ne_of_lt hb')]
      exact (hf b hb).1
  done := by
    intro X hP hw hK hc i pins s σ H E I hf st hg
    subst hP hw hK
    obtain ⟨⟨old, he⟩, hit, hne⟩ := st
    obtain ⟨xs, hq, hx⟩ := hg
    obtain ⟨its, rv, p, hz⟩ := I.tuple hq
    obtain ⟨f0, f1, f2, f3, f4, f5⟩ := hf it (by simp)
    have hl := rv.length
    have hai : a ≠ it := by
      intro z
      obtain ⟨o1, q1, c1, _⟩ := id hit
      obtain ⟨o2, q2, c2, _⟩ := p
      rw [z, q1] at q2
      cases q2
      rw [c1] at c2
      exact absurd c2 (by decide)
    have hsz : its.toArray.size = i := by rw [List.size_toArray]; omega
    have D := Draws.tuple (prog := X.prog) (w := X.w) (A := X.A.in1) (I.ok.hd hc) it a hai its.toArray
    have st' : s.heap.IsTupleIter it a its.toArray.size ∧ s.heap.IsTuple a its.toArray := ⟨by rw [hsz]; exact hit, p⟩
    exact wpAny_pyNext_enum_endD D he st' fun h' eb => ⟨rfl, I.turned (t' := s.toks) (fun b o hb q => eb b o hb q) f0 f1 f3 f4 f5⟩
  self := fun A i s Q E st h => let ⟨⟨_, he⟩, _⟩ := st; wpAny_pyIter_enum he h

def iEnumT (K : PySem.W.Frag) (ta : TA) : TI := fun σ H R => ta σ H fun vs H1 => ∃ a xs, vs = [.ref a] ∧ SqT K H1 a xs ∧ R (IteT K a) H1
theorem begin_enumT (t : Addr) (items : Array Value) (n : Nat) (dct : Option Addr) (sl : Array (Option Value)) :
    PySem.Meets (Builtin.«enumerate.__new__» ⟨[.type "enumerate", .ref t], []⟩) (fun _ R s => s.heap.get? t = some { cls := .type "tuple", dict := dct, data := .seq items n, slots := sl } ∧
      R (.ok (.ret (.ref (s.heap.push { cls := .type "tuple_iterator", data := .fields #[.ref t, .int 0 0] }).objs.size)))
        { s with heap := (s.heap.push { cls := .type "tuple_iterator", data := .fields #[.ref t, .int 0 0] }).push { cls := .type "enumerate", data := .fields #[.none, .bool false, .ref s.heap.objs.size, rawInt 0, .none, .none] } }) :=
  .of_wp fun prog w A R s h => by
    obtain ⟨hp, g, d, tk, os⟩ := s; obtain ⟨hl, h⟩ := h
    have hsub := sub_enumerate
    have hL : Heap.IsTuple (Shared.heap ⟨hp, g, d, tk, os⟩) t items := ⟨_, hl, rfl, n, rfl⟩
    wp_walk using AutoSeq1.wpAny_loadPart' hl
    refine wpAny_stack_any fun st => wpAny_pure ?_
    split
    · rename_i c _ _ _ _ _
      cases (c == Value.type "enumerate")
      · wp_walk using AutoSeq1.wpAny_loadPart' hl, wpAny_pyIter_tuple hL
        exact ⟨_, rfl, h⟩
      · wp_walk using AutoSeq1.wpAny_loadPart' hl, wpAny_pyIter_tuple hL
        exact ⟨_, rfl, h⟩
    · wp_walk using AutoSeq1.wpAny_loadPart' hl, wpAny_pyIter_tuple hL
      exact ⟨_, rfl, h⟩
theorem call_enumT {prog : Program} {w : World} {A : Around} {E : Value → Shared → Prop} {s : Shared} {l : Addr} {items : Array Value} {Q : Value → Shared → Prop} (hL : IsTup s.heap l items)
    (h : ∀ h', IsEnum h' (s.heap.objs.size + 1) s.heap.objs.size 0 .none → h'.IsTupleIter s.heap.objs.size l 0 → h'.objs.size = s.heap.objs.size + 2 →
      (∀ b o, s.heap.get? b = some o → h'.get? b = some o) → Q (.ref (s.heap.objs.size + 1)) { s with heap := h' }) :
    wpAny (model prog w) A (call (.type "enumerate") [.ref l]) Q E s := by
  obtain ⟨⟨c, dct, dt, sl⟩, hl, hc, n, hd⟩ := hL
  replace hc : c = .type "tuple" := hc
  replace hd : dt = .seq items n := hd
  subst hc hd
  refine callType_new F.called_enumerate (by decide) (F.typeCall_enumerate_1 _) (F.newCall_enumerate_1 _) (fun obj => F.args_object_init_2 obj _) F.entry_enumerate_new
    (begin_enumT l items n dct sl) ⟨hl, ?_⟩
  have hz : (s.heap.push { cls := .type "tuple_iterator", data := .fields #[.ref l, .int 0 0] }).objs.size = s.heap.objs.size + 1 := Heap.size_push ..
  show _ ∧ _
  rw [hz]
  have he : IsEnum ((s.heap.push { cls := .type "tuple_iterator", data := .fields #[.ref l, .int 0 0] }).push
      { cls := .type "enumerate", data := .fields #[.none, .bool false, .ref s.heap.objs.size, rawInt 0, .none, .none] }) (s.heap.objs.size + 1) s.heap.objs.size 0 .none := by
    have := Heap.get?_push_size (s.heap.push { cls := .type "tuple_iterator", data := .fields #[.ref l, .int 0 0] })
      (o := { cls := .type "enumerate", data := .fields #[.none, .bool false, .ref s.heap.objs.size, rawInt 0, .none, .none] }) rfl
    rw [hz] at this; exact this
  exact ⟨⟨_, he, rfl⟩, h _ he ⟨_, Heap.get?_push_of_some _ (Heap.get?_push_size _ rfl), rfl, rfl⟩ (by rw [Heap.size_push, hz]) fun b o x => Heap.get?_push_of_some _ (Heap.get?_push_of_some _ x)⟩
theorem pi_enumT {X : Cx} {e : Expr} {ta : TA} {p pos tpos : Pos} {elts : List Expr} {kk : Nat} (hg : Gl X "enumerate") (hm : X.mg "enumerate" = none) (ha : PA X [e] ta) (hs : starEach [e] X.env = [(false, eval e X.env)] := by rfl) :
    PI X (.Tuple elts kk tpos) (.Call (.Name "enumerate" p) [e] [] pos) (iEnumT X.K ta) := by
  refine ⟨fun pins s σ H R I h => ?_⟩
  refine Call_ (ld_blt I hg hm boot_enumerate (PyProof.Rows.callWith_type1 (thn (ha.run pos pins s σ H _ I h) fun us s1 ⟨vs, H1, I1, r1, q1⟩ => ?_) hs rfl))
  obtain ⟨a, xs, ex, hq, q⟩ := q1
  subst ex
  cases r1 with
  | cons r rr =>
    cases rr
    cases r
    obtain ⟨its, rv, p', hz⟩ := I1.tuple hq
    refine call_enumT p' fun h' he hit hsz hk => wpAny_pyIter_enum he ?_
    have I2 : Inv X pins σ H1 { s1 with heap := h' } := I1.kept (t' := s1.toks) hk
    refine ⟨s1.heap.objs.size + 1, [s1.heap.objs.size + 1, s1.heap.objs.size], _, _, H1, rfl, I2, turn_enumT a (s1.heap.objs.size + 1) s1.heap.objs.size, ⟨⟨.none, he⟩, hit, Nat.succ_ne_self _⟩, fun b hb => ?_, q⟩
    have hb' : s1.heap.objs.size ≤ b := by
      have e' : b = s1.heap.objs.size + 1 ∨ b = s1.heap.objs.size := by simpa using hb
      rcases e' with z | z
      · rw [z]; exact Nat.le_succ _
      · rw [z]; exact Nat.le_refl _
    exact I1.fpOk hb' (I1.hok.fresh hb') 
/-! ### t.index(k), t a tuple of ints -/
theorem mt_tup_indexI {X : Cx} : MtR X "tuple.index" (fun x xs H Q => ∃ p, ∃ ns : List Int, ∃ k j, x = .ref p ∧ xs = [.int k] ∧ SqT X.K H p (ns.map V.int) ∧ ns[j]? = some k ∧ (∀ m, m < j → ns[m]? ≠ some k) ∧ Q (.int (j : Nat)) H) := by
  intro pins s σ H x xs v us Q I rx rs h
  obtain ⟨p, ns, z, j, rfl, rfl, hq, hy, hno, q⟩ := h
  cases rx
  obtain ⟨u, rfl, t, rfl⟩ := vals1 rs
  obtain ⟨its, r, pl, hz⟩ := I.tuple hq
  obtain ⟨⟨cls, dd, dt, sl⟩, ho, hc, n, hd⟩ := pl
  simp only at hc hd
  subst hc
  subst hd
  have hl : its.toArray.size = ns.length := by rw [List.size_toArray, ← r.length, List.length_map]
  have hj : j < its.toArray.size := by rw [hl]; exact (List.getElem?_eq_some_iff.mp hy).1
  have at' : ∀ (m : Nat) (hm : m < its.toArray.size), ∃ y t', ns[m]? = some y ∧ its.toArray[m] = Value.int y t' := fun m hm => by
    have hm' : m < ns.length := by rw [← hl]; exact hm
    obtain ⟨w, hw, t', hw'⟩ := r.get (i := m) (x := .int ns[m]) (by simp [hm'])
    refine ⟨ns[m], t', List.getElem?_eq_getElem hm', ?_⟩
    have e := (List.getElem?_eq_some_iff.mp hw).2
    rw [← hw', ← e]
    simp
  have hfl : (ns.map V.int).all flatV = true := by
    rw [List.all_map]
    exact List.all_eq_true.mpr fun _ _ => rfl
  refine call_meets PySem.F.slot_tuple_index ⟨_, ho, rfl⟩ PySem.F.entry_tuple_index (PySem.F.args_tuple_index_2 _ _) (TI.tuple_indexAt p its.toArray n dd sl (.int z t) (eqU (.int z)) j hj ?_ ?_)
    ⟨ho, fun w hw => mem_eqAt (x := .int z) ⟨t, rfl⟩ rfl r hfl w (by simpa using hw), ⟨.int (j : Nat), H, I.tok _, ⟨_, rfl⟩, q⟩⟩
  · obtain ⟨y, t', h1, h2⟩ := at' j hj
    rw [hy] at h1
    cases h1
    rw [h2]
    show (z == z) = true
    exact beq_self_eq_true z
  · intro m hm hmj
    obtain ⟨y, t', h1, h2⟩ := at' m hm
    rw [h2]
    show (y == z) = false
    refine beq_eq_false_iff_ne.mpr fun e => hno m hmj ?_
    rw [h1, e]
/-! ### len(set(t)), t a tuple of ints -/
def tLenSetT (K : PySem.W.Frag) (ta : TE) : TE := fun σ H Q => ta σ H fun x H1 => ∃ (l : Addr) (ns : List Int), x = .ref l ∧ SqT K H1 l (ns.map V.int) ∧ ns.length ≤ 1000 ∧ ∀ ks : List Int, ks.Nodup → (∀ k, k ∈ ks ↔ k ∈ ns) → Q (.int (ks.length : Nat)) H1
theorem pe_lenSetT {X : Cx} {a : Expr} {ta : TE} {p p2 q pos : Pos} (hg : Gl X "len") (hm : X.mg "len" = none) (hg2 : Gl X "set") (hm2 : X.mg "set" = none) (ha : PE X a ta) (hc : X.calm = true := by rfl)
    (na : starEach [a] X.env = (false, eval a X.env) :: starEach [] X.env := by rfl) : PE X (.Call (.Name "len" p) [.Call (.Name "set" p2) [a] [] q] [] pos) (tLenSetT X.K ta) := by
  refine ⟨fun pins s σ H Q I h => ?_⟩
  refine Call_ (ld_blt I hg hm boot_len ?_)
  refine PyProof.Rows.callWith_builtin1 (PyProof.Rows.args_cons ?_ rfl) rfl rfl
  refine Call_ (ld_blt I hg2 hm2 boot_set ?_)
  refine PyProof.Rows.callWith_type1 (PyProof.Rows.args_cons (thn (ha.run pins s σ H _ I h) fun v s1 ⟨x, H1, I1, r1, q1⟩ => PyProof.Rows.args_nil ?_) na) na rfl
  obtain ⟨l, ns, rfl, hq, hl, q1⟩ := q1
  cases r1
  obtain ⟨its, r, pl, hz⟩ := I1.tuple hq
  refine call_set_tupI ns (I1.ok.hd hc) (show s1.heap.IsTuple l its.toArray from pl) (by simpa using intsAre_of r) (by unfold scanBound; omega) fun h' tk c hS hcl hk => ?_
  refine PyProof.Rows.args_nil ?_
  obtain ⟨o, es, ep, t, ho, hex, hd, _, hnd, hmem, hlt, hf, hn, _, _⟩ := hS
  have I2 : Inv X pins σ H1 { s1 with heap := h', toks := tk } := I1.kept fun b o e => hk b o e
  have hel : es.size = (es.toList.map keyOf).length := by rw [List.length_map, Array.length_toList]
  refine call_len_set ho hex hd hf (by rw [hn] <;> omega) ⟨.int (es.toList.map keyOf).length, H1, I2.tok _, ⟨_, by rw [hel]⟩, q1 (es.toList.map keyOf) hnd fun k => ?_⟩
  rw [← hmem k]
  simp
end TW
end

section
set_option Elab.async false
set_option linter.all false
set_option maxRecDepth 100000
set_option maxHeartbeats 4000000
/-! Abstract states: what a def computes, by data, with no heap in sight. -/
namespace TW
open PySem PySem.Spec PyProof.Rows L2

/-! ### heaps that grow -/
def Xt (H H' : Hp) : Prop := ∀ a o, H a = some o → H' a = some o
theorem Xt.rfl' {H : Hp} : Xt H H := fun _ _ e => e
theorem Xt.tr {H H1 H2 : Hp} (e : Xt H H1) (f : Xt H1 H2) : Xt H H2 := fun a o q => f a o (e a o q)
theorem Xt.new {H : Hp} {p : Addr} {o : HO} (h : H p = none) : Xt H (upd H p o) := fun a u q => by rw [upd_ne (ne_of_none q h)]; exact q
theorem Xt.rd {H H' : Hp} {a : Addr} {u : HO} (e : Xt H H') (h : Rd H a u) : Rd H' a u := by
  rcases h with h | ⟨o, h⟩
  · exact .inl (e _ _ h)
  · exact .inr ⟨o, e _ _ h⟩
theorem Xt.sqL {K : PySem.W.Frag} {H H' : Hp} {a : Addr} {xs : List V} (e : Xt H H') (h : SqL K H a xs) : SqL K H' a xs := h.imp e.rd id
theorem Xt.sqT {K : PySem.W.Frag} {H H' : Hp} {a : Addr} {xs : List V} (e : Xt H H') (h : SqT K H a xs) : SqT K H' a xs := h.imp e.rd id

/-! ### data -/
/-- a dict of pairs, all True, as data -/
def dtK (p : Int × Int) : PyData := .tuple [.int p.1, .int p.2]
def dtD (ks : List (Int × Int)) : PyData := .dict [(.none, .list (ks.map dtK))]
/-- a tuple that was made by tuple(..); the script -/
def ptD (ds : List PyData) : PyData := .dict [(.int 0, .list ds)]
def scD (ds : List PyData) : PyData := .dict [(.int 1, .list ds)]
/-- a pair that may be a dict's key -/
def kpD (p : Int × Int) : PyData := .dict [(.int 2, .list [.int p.1, .int p.2])]
def entP (p : Int × Int) : List Key × V := ([.inl p.1, .inl p.2], .bl true)
def KsT (us : List (List Key × V)) (es : List PyData) : Prop := Paired (fun u e => ∃ p : Int × Int, u = entP p ∧ e = dtK p) us es
mutual
inductive Dv (K : PySem.W.Frag) (B : Hp) : V → PyData → Prop
  | non : Dv K B .non .none
  | bl (b : Bool) : Dv K B (.bl b) (.bool b)
  | int (i : Int) : Dv K B (.int i) (.int i)
  | str (x : Str) : Dv K B (.str x) (.str x)
  | tup {a : Addr} {xs : List V} {ds : List PyData} (h : SqT K B a xs) (l : xs.length ≤ sizeLine) (t : DvA K B xs ds) : Dv K B (.ref a) (.tuple ds)
  | lst {a : Addr} {xs : List V} {ds : List PyData} (h : B a = some (.lst xs)) (l : xs.length ≤ sizeLine) (t : DvA K B xs ds) : Dv K B (.ref a) (.list ds)
  | dk {a : Addr} (h : B a = some (.dK [])) : Dv K B (.ref a) (.dict [])
  | dt {a : Addr} {us : List (List Key × V)} {es : List PyData} (h : B a = some (.dT us)) (t : KsT us es) : Dv K B (.ref a) (.dict [(.none, .list es)])
  | pt {a : Addr} {o : Obj} {xs : List V} {ds : List PyData} (h : B a = some (.frz o (.tup xs))) (d : o.dict = none) (l : xs.length ≤ sizeLine) (t : DvA K B xs ds) : Dv K B (.ref a) (.dict [(.int 0, .list ds)])
  | sc {a : Addr} {xs : List V} {ds : List PyData} (h : SqL K B a xs) (l : xs.length ≤ sizeLine) (t : DvA K B xs ds) : Dv K B (.ref a) (.dict [(.int 1, .list ds)])
  | kp {a : Addr} {i j : Int} (h : B a = some (.tup [.int i, .int j])) : Dv K B (.ref a) (.dict [(.int 2, .list [.int i, .int j])])
inductive DvA (K : PySem.W.Frag) (B : Hp) : List V → List PyData → Prop
  | nil : DvA K B [] []
  | cons {v : V} {vs : List V} {d : PyData} {ds : List PyData} (h : Dv K B v d) (t : DvA K B vs ds) : DvA K B (v :: vs) (d :: ds)
end
section
variable {K : PySem.W.Frag} {B B' H : Hp}
mutual
theorem Dv.mono (e : Xt B B') : ∀ {v : V} {d : PyData}, Dv K B v d → Dv K B' v d
  | _, _, .non => .non
  | _, _, .bl b => .bl b
  | _, _, .int i => .int i
  | _, _, .str x => .str x
  | _, _, .tup h l t => .tup (e.sqT h) l (DvA.mono e t)
  | _, _, .lst h l t => .lst (e _ _ h) l (DvA.mono e t)
  | _, _, .dk h => .dk (e _ _ h)
  | _, _, .dt h t => .dt (e _ _ h) t
  | _, _, .pt h d l t => .pt (e _ _ h) d l (DvA.mono e t)
  | _, _, .sc h l t => .sc (e.sqL h) l (DvA.mono e t)
  | _, _, .kp h => .kp (e _ _ h)
theorem DvA.mono (e : Xt B B') : ∀ {v : List V} {d : List PyData}, DvA K B v d → DvA K B' v d
  | _, _, .nil => .nil
  | _, _, .cons h t => .cons (Dv.mono e h) (DvA.mono e t)
end
mutual
theorem Dv.dp : ∀ {v : V} {d : PyData}, Dv K B v d → d.canLay0 = true → Dp K B v d
  | _, _, .non, _ => .non
  | _, _, .bl b, _ => .bl b
  | _, _, .int i, _ => .int i
  | _, _, .str x, _ => .str x
  | _, _, .tup h l t, c => .tup h (DvA.dp t (by rw [PyData.canLay0] at c; exact c))
  | _, _, .lst h l t, c => .lst (SqL.of h) (DvA.dp t (by rw [PyData.canLay0] at c; exact c))
  | _, _, .dk h, c => by rw [PyData.canLay0] at c; cases c
  | _, _, .dt h t, c => by rw [PyData.canLay0] at c; cases c
  | _, _, .pt h d l t, c => by rw [PyData.canLay0] at c; cases c
  | _, _, .sc h l t, c => by rw [PyData.canLay0] at c; cases c
  | _, _, .kp h, c => by rw [PyData.canLay0] at c; cases c
theorem DvA.dp : ∀ {v : List V} {d : List PyData}, DvA K B v d → PyData.canLayAll0 d = true → DpAll K B v d
  | _, _, .nil, _ => .nil
  | _, _, .cons h t, c => .cons (Dv.dp h (by rw [PyData.canLayAll0] at c; exact (Bool.and_eq_true_iff.mp c).1)) (DvA.dp t (by rw [PyData.canLayAll0] at c; exact (Bool.and_eq_true_iff.mp c).2))
end
theorem DvA.len : ∀ {v : List V} {d : List PyData}, DvA K B v d → v.length = d.length
  | _, _, .nil => rfl
  | _, _, .cons h t => by rw [List.length_cons, List.length_cons, DvA.len t]
theorem DvA.get : ∀ {v : List V} {d : List PyData} {i : Nat} {x : PyData}, DvA K B v d → d[i]? = some x → ∃ w, v[i]? = some w ∧ Dv K B w x
  | _, _, _, _, .nil, e => by simp at e
  | _, _, 0, _, .cons h t, e => by simp at e; subst e; exact ⟨_, rfl, h⟩
  | _, _, i + 1, x, .cons h t, e => by
    obtain ⟨w, e1, e2⟩ := DvA.get (i := i) (x := x) t (by simpa using e)
    exact ⟨w, by simpa using e1, e2⟩
theorem DvA.getV : ∀ {v : List V} {d : List PyData} {i : Nat} {w : V}, DvA K B v d → v[i]? = some w → ∃ x, d[i]? = some x ∧ Dv K B w x
  | _, _, _, _, .nil, e => by simp at e
  | _, _, 0, _, .cons h t, e => by simp at e; subst e; exact ⟨_, rfl, h⟩
  | _, _, i + 1, x, .cons h t, e => by
    obtain ⟨w, e1, e2⟩ := DvA.getV (i := i) (w := x) t (by simpa using e)
    exact ⟨w, by simpa using e1, e2⟩
theorem DvA.app : ∀ {v : List V} {d : List PyData} {v' : List V} {d' : List PyData}, DvA K B v d → DvA K B v' d' → DvA K B (v ++ v') (d ++ d')
  | _, _, _, _, .nil, s => s
  | _, _, _, _, .cons h t, s => .cons h (DvA.app t s)
theorem DvA.snoc {v : List V} {d : List PyData} {w : V} {x : PyData} (t : DvA K B v d) (h : Dv K B w x) : DvA K B (v ++ [w]) (d ++ [x]) := t.app (.cons h .nil)
theorem DvA.take : ∀ {v : List V} {d : List PyData} (n : Nat), DvA K B v d → DvA K B (v.take n) (d.take n)
  | _, _, 0, _ => by simpa using DvA.nil
  | _, _, _ + 1, .nil => by simpa using DvA.nil
  | _, _, n + 1, .cons h t => by simpa using DvA.cons h (DvA.take n t)
theorem DvA.drop : ∀ {v : List V} {d : List PyData} (n : Nat), DvA K B v d → DvA K B (v.drop n) (d.drop n)
  | _, _, 0, t => by simpa using t
  | _, _, _ + 1, .nil => by simpa using DvA.nil
  | _, _, n + 1, .cons h t => by simpa using DvA.drop n t
theorem DvA.erase : ∀ {v : List V} {d : List PyData} (n : Nat), DvA K B v d → DvA K B (v.eraseIdx n) (d.eraseIdx n)
  | _, _, _, .nil => by simpa using DvA.nil
  | _, _, 0, .cons h t => by simpa using t
  | _, _, n + 1, .cons h t => by simpa using DvA.cons h (DvA.erase n t)
theorem DvA.rep {v : List V} {d : List PyData} (t : DvA K B v d) : ∀ n : Nat, DvA K B (List.replicate n v).flatten (List.replicate n d).flatten
  | 0 => by simpa using DvA.nil
  | n + 1 => by rw [List.replicate_succ, List.replicate_succ, List.flatten_cons, List.flatten_cons]; exact t.app (DvA.rep t n)
theorem DvA.ints {v : List V} : ∀ {ns : List Int}, DvA K B v (ns.map PyData.int) → v = ns.map V.int := by
  induction v with
  | nil => intro ns t; cases ns with
    | nil => rfl
    | cons n ns => rw [List.map_cons] at t; cases t
  | cons w v ih => intro ns t; cases ns with
    | nil => rw [List.map_nil] at t; cases t
    | cons n ns =>
      rw [List.map_cons] at t
      cases t with
      | cons h t => cases h; rw [List.map_cons, ih t]
theorem DvA.ofInts : ∀ ns : List Int, DvA K B (ns.map V.int) (ns.map PyData.int)
  | [] => .nil
  | n :: ns => .cons (.int n) (DvA.ofInts ns)
theorem DvA.ofStrs : ∀ ns : List Str, DvA K B (ns.map V.str) (ns.map PyData.str)
  | [] => .nil
  | n :: ns => .cons (.str n) (DvA.ofStrs ns)
/-- a tuple of tuple(..) is a tuple -/
theorem Dv.unpt {v : V} {ds : List PyData} (h : Dv K B v (ptD ds)) : Dv K B v (.tuple ds) := by
  unfold ptD at h
  cases h with
  | pt h d l t => exact .tup (.inl (.inr ⟨_, h⟩)) l t
theorem DvA.unpts {v : List V} : ∀ {dss : List (List PyData)}, DvA K B v (dss.map ptD) → DvA K B v (dss.map PyData.tuple) := by
  induction v with
  | nil => intro ns t; cases ns with
    | nil => exact .nil
    | cons n ns => rw [List.map_cons] at t; cases t
  | cons w v ih => intro ns t; cases ns with
    | nil => rw [List.map_nil] at t; cases t
    | cons n ns =>
      rw [List.map_cons] at t
      cases t with
      | cons h t => exact .cons h.unpt (ih t)
end

/-! ### abstract states -/
inductive MO where
  | lst (xs : List PyData) | dk (kvs : List (Int × PyData)) | dt (kvs : List ((Int × Int) × PyData)) | row (r : Addr) | rw (r : Addr) (ns : List Int) (i s z : Int)
inductive SV where
  | un | any | d (x : PyData) | o (m : MO)
def SV.no : SV → Bool
  | .o _ => false
  | _ => true
def RowO (K : PySem.W.Frag) (B : Hp) (o : HO) : Prop := ∃ (sa : Addr) (ns : List Int) (i s z : Int), o = .lst [.ref sa, .int i, .int s, .int z] ∧ SqL K B sa (ns.map V.int) ∧ ns.length ≤ 63 ∧ 0 ≤ i ∧ 0 ≤ s ∧ s < 2147483647
def MOk (K : PySem.W.Frag) (B : Hp) (a : Addr) (u : HO) : MO → Prop
  | .lst xs => ∃ vs, u = .lst vs ∧ DvA K B vs xs
  | .dk kvs => ∃ us : List (Key × V), u = .dK us ∧ Paired (fun (p : Key × V) (q : Int × PyData) => p.1 = .inl q.1 ∧ Dv K B p.2 q.2) us kvs
  | .dt kvs => ∃ us : List (List Key × V), u = .dT us ∧ Paired (fun (p : List Key × V) (q : (Int × Int) × PyData) => p.1 = [.inl q.1.1, .inl q.1.2] ∧ Dv K B p.2 q.2) us kvs
  | .row r => a = r ∧ RowO K B u
  | .rw r ns i s z => a = r ∧ ns.length ≤ 63 ∧ ∃ sa, u = .lst [.ref sa, .int i, .int s, .int z] ∧ SqL K B sa (ns.map V.int)
theorem MOk.mono {K : PySem.W.Frag} {B B' : Hp} {a : Addr} {u : HO} {m : MO} (e : Xt B B') (h : MOk K B a u m) : MOk K B' a u m := by
  cases m with
  | lst xs => obtain ⟨vs, e1, t⟩ := h; exact ⟨vs, e1, t.mono e⟩
  | dk kvs => obtain ⟨vs, e1, t⟩ := h; exact ⟨vs, e1, Paired.mapP t fun p q z => ⟨z.1, z.2.mono e⟩⟩
  | dt kvs => obtain ⟨vs, e1, t⟩ := h; exact ⟨vs, e1, Paired.mapP t fun p q z => ⟨z.1, z.2.mono e⟩⟩
  | row r => obtain ⟨ea, sa, ns, i, s, z, e1, t, r⟩ := h; exact ⟨ea, sa, ns, i, s, z, e1, e.sqL t, r⟩
  | rw r ns i s z => obtain ⟨ea, hl, sa, e1, t⟩ := h; exact ⟨ea, hl, sa, e1, e.sqL t⟩

/-- what stays: the written part, the tables -/
structure Wd where
  K : PySem.W.Frag
  T : List Addr
structure Cf where
  X0 : Hp
  B0 : Hp
def SOk (W : Wd) (c : Cf) (B H : Hp) (s : SV) (ov : Option (Option V)) : Prop := match s with
  | .un => ov = some none
  | .any => ∃ v, ov = some v
  | .d x => ∃ v, ov = some (some v) ∧ Dv W.K B v x
  | .o m => ∃ a u, ov = some (some (.ref a)) ∧ B a = none ∧ c.X0 a = none ∧ H a = some u ∧ MOk W.K B a u m
structure Rp (W : Wd) (c : Cf) (B : Hp) (Γ : List SV) (σ : L2.St) (H : Hp) : Prop where
  x0 : Xt c.X0 H
  bh : Xt B H
  nb : Xt c.B0 B
  nw : ∀ a o, c.X0 a = some o → B a = c.B0 a
  tb : ∀ P ∈ W.T, B P = some (TabX P)
  len : σ.length = Γ.length
  sl : ∀ (i : Nat) (s : SV), Γ[i]? = some s → SOk W c B H s σ[i]?
  ne : ∀ (i j : Nat) (m m' : MO) (a : Addr), Γ[i]? = some (.o m) → Γ[j]? = some (.o m') → σ[i]? = some (some (.ref a)) → σ[j]? = some (some (.ref a)) → i = j
/-- both heaps have grown -/
structure Gr (B H B' H' : Hp) : Prop where
  h : Xt H H'
  b : Xt B B'
  bh : Xt B' H'
  nw : ∀ a o, H a = some o → B' a = B a
theorem Gr.rfl' {B H : Hp} (e : Xt B H) : Gr B H B H := ⟨.rfl', .rfl', e, fun _ _ _ => rfl⟩
theorem Gr.tr {B H B1 H1 B2 H2 : Hp} (g : Gr B H B1 H1) (g' : Gr B1 H1 B2 H2) : Gr B H B2 H2 := ⟨g.h.tr g'.h, g.b.tr g'.b, g'.bh, fun a o e => (g'.nw a o (g.h a o e)).trans (g.nw a o e)⟩
theorem Xt.both {B H : Hp} {p : Addr} {o : HO} (e : Xt B H) : Xt (upd B p o) (upd H p o) := fun a u q => by
  by_cases h : a = p
  · subst h; rw [upd_same] at q ⊢; exact q
  · rw [upd_ne h] at q ⊢; exact e a u q
theorem Xt.none {B H : Hp} {p : Addr} (e : Xt B H) (h : H p = none) : B p = none := by
  cases q : B p with
  | none => rfl
  | some o => rw [e p o q] at h; cases h
theorem Gr.new {B H : Hp} {p : Addr} {o : HO} (e : Xt B H) (h : H p = none) : Gr B H (upd B p o) (upd H p o) := ⟨.new h, .new (e.none h), e.both, fun a u q => by rw [upd_ne (ne_of_none q h)]⟩
theorem Gr.own {B H : Hp} {p : Addr} {o : HO} (e : Xt B H) (h : H p = none) : Gr B H B (upd H p o) := ⟨.new h, .rfl', e.tr (.new h), fun a u q => rfl⟩
section
variable {W : Wd} {c : Cf} {B B' : Hp} {Γ : List SV} {σ : L2.St} {H H' : Hp}
theorem SOk.mono {s : SV} {ov : Option (Option V)} (e : Xt B B') (eo : ∀ a o, B a = none → H a = some o → H' a = some o ∧ B' a = none) (h : SOk W c B H s ov) : SOk W c B' H' s ov := by
  cases s with
  | un => exact h
  | any => exact h
  | d x => obtain ⟨v, e1, t⟩ := h; exact ⟨v, e1, t.mono e⟩
  | o m => obtain ⟨a, u, e1, e2, e3, e4, t⟩ := h; exact ⟨a, u, e1, (eo a u e2 e4).2, e3, (eo a u e2 e4).1, t.mono e⟩
theorem Rp.grow (R : Rp W c B Γ σ H) (g : Gr B H B' H') : Rp W c B' Γ σ H' where
  x0 := R.x0.tr g.h
  bh := g.bh
  nb := R.nb.tr g.b
  nw := fun a o e => (g.nw a o (R.x0 a o e)).trans (R.nw a o e)
  tb := fun P hP => g.b _ _ (R.tb P hP)
  len := R.len
  sl := fun i s e => (R.sl i s e).mono g.b fun a o e1 e2 => ⟨g.h a o e2, (g.nw a o e2).trans e1⟩
  ne := R.ne
theorem Rp.weaken {c' : Cf} (R : Rp W c' B Γ σ H) (hx : Xt c.X0 c'.X0) (hb : c.B0 = c'.B0) : Rp W c B Γ σ H where
  x0 := hx.tr R.x0
  bh := R.bh
  nb := hb ▸ R.nb
  nw := fun a o e => hb ▸ R.nw a o (hx a o e)
  tb := R.tb
  len := R.len
  sl := fun i s e => by
    have h := R.sl i s e
    cases s with
    | un => exact h
    | any => exact h
    | d x => exact h
    | o m => obtain ⟨a, u, e1, e2, e3, r⟩ := h; exact ⟨a, u, e1, e2, hx.none e3, r⟩
  ne := R.ne
/-- a slot is stored -/
theorem Rp.set {i : Nat} {s : SV} {v : Option V} (R : Rp W c B Γ σ H) (h : SOk W c B H s (some v)) (hn : ∀ m, s = .o m → ∀ (j : Nat) (m' : MO) (a : Addr), Γ[j]? = some (.o m') → j ≠ i → σ[j]? = some (some (.ref a)) → v ≠ some (.ref a)) :
    Rp W c B (Γ.set i s) (σ.set i v) H where
  x0 := R.x0
  bh := R.bh
  nb := R.nb
  nw := R.nw
  tb := R.tb
  len := by rw [List.length_set, List.length_set]; exact R.len
  sl := fun j t e => by
    by_cases hj : i = j
    · subst hj
      have hl : i < Γ.length := by
        have := (List.getElem?_eq_some_iff.mp e).1
        simpa using this
      rw [List.getElem?_set_self hl] at e
      rw [List.getElem?_set_self (R.len ▸ hl)]
      cases e
      exact h
    · rw [List.getElem?_set_ne hj] at e ⊢
      exact R.sl j t e
  ne := fun j k m m' a e1 e2 e3 e4 => by
    by_cases hj : i = j <;> by_cases hk : i = k
    · exact hj.symm.trans hk
    · subst hj
      have hl : i < Γ.length := by
        have := (List.getElem?_eq_some_iff.mp e1).1
        simpa using this
      rw [List.getElem?_set_self hl] at e1
      rw [List.getElem?_set_self (R.len ▸ hl)] at e3
      rw [List.getElem?_set_ne hk] at e2 e4
      exact absurd (Option.some.inj e3) (hn m (Option.some.inj e1) k m' a e2 (Ne.symm hk) e4)
    · subst hk
      have hl : i < Γ.length := by
        have := (List.getElem?_eq_some_iff.mp e2).1
        simpa using this
      rw [List.getElem?_set_self hl] at e2
      rw [List.getElem?_set_self (R.len ▸ hl)] at e4
      rw [List.getElem?_set_ne hj] at e1 e3
      exact absurd (Option.some.inj e4) (hn m' (Option.some.inj e2) j m a e1 (Ne.symm hj) e3)
    · rw [List.getElem?_set_ne hj] at e1 e3
      rw [List.getElem?_set_ne hk] at e2 e4
      exact R.ne j k m m' a e1 e2 e3 e4
theorem Rp.setD {i : Nat} {x : PyData} {v : V} (R : Rp W c B Γ σ H) (h : Dv W.K B v x) : Rp W c B (Γ.set i (.d x)) (σ.set i (some v)) H := R.set ⟨v, rfl, h⟩ fun m e => nomatch e
theorem Rp.setO {i : Nat} {m : MO} {p : Addr} {u : HO} (R : Rp W c B Γ σ H) (hp : H p = none) (h : MOk W.K B p u m) : Rp W c B (Γ.set i (.o m)) (σ.set i (some (.ref p))) (upd H p u) := by
  refine Rp.set (R.grow (.own R.bh hp)) ⟨p, u, rfl, R.bh.none hp, R.x0.none hp, upd_same, h⟩ fun m1 e1 j m' a e2 e3 e4 e5 => ?_
  obtain ⟨a', u', q1, q2, q3, q4, q5⟩ := R.sl j _ e2
  rw [q1] at e4
  cases e4
  cases e5
  rw [hp] at q4
  cases q4
/-- a fact forgotten -/
theorem Rp.forget {i : Nat} {s : SV} (R : Rp W c B Γ σ H) (hs : s = .any) : Rp W c B (Γ.set i s) σ H where
  x0 := R.x0
  bh := R.bh
  nb := R.nb
  nw := R.nw
  tb := R.tb
  len := by rw [List.length_set]; exact R.len
  sl := fun j t e => by
    by_cases hj : i = j
    · subst hj
      have hl : i < Γ.length := by
        have := (List.getElem?_eq_some_iff.mp e).1
        simpa using this
      rw [List.getElem?_set_self hl] at e
      cases e
      subst hs
      exact ⟨_, List.getElem?_eq_getElem (R.len ▸ hl)⟩
    · rw [List.getElem?_set_ne hj] at e
      exact R.sl j t e
  ne := fun j k m m' a e1 e2 e3 e4 => by
    have f : ∀ {l : Nat} {m : MO}, (Γ.set i s)[l]? = some (.o m) → Γ[l]? = some (.o m) := fun {l m} e => by
      by_cases hj : i = l
      · subst hj
        have hl : i < Γ.length := by
          have := (List.getElem?_eq_some_iff.mp e).1
          simpa using this
        rw [List.getElem?_set_self hl] at e
        subst hs
        cases e
      · rw [List.getElem?_set_ne hj] at e
        exact e
    exact R.ne j k m m' a (f e1) (f e2) e3 e4
/-- without one address -/
def hid (r : Addr) (H : Hp) : Hp := fun a => if a = r then none else H a
theorem hid_ne {r a : Addr} {H : Hp} (h : a ≠ r) : hid r H a = H a := by unfold hid; rw [if_neg h]
theorem hid_self {r : Addr} {H : Hp} : hid r H r = none := by unfold hid; rw [if_pos rfl]
theorem hid_le {r : Addr} {H : Hp} : Xt (hid r H) H := fun a o e => by
  by_cases h : a = r
  · subst h; rw [hid_self] at e; cases e
  · rw [hid_ne h] at e; exact e
/-- an own object has changed, all else has grown -/
theorem Rp.growO {i : Nat} {m m' : MO} {r : Addr} {u : HO} (R : Rp W c B Γ σ H) (hi : Γ[i]? = some (.o m)) (hs : σ[i]? = some (some (.ref r))) (g : Gr B (hid r H) B' H') (hb : B' r = none) (hu : H' r = some u) (h : MOk W.K B' r u m') :
    Rp W c B' (Γ.set i (.o m')) σ H' := by
  have hl : i < Γ.length := (List.getElem?_eq_some_iff.mp hi).1
  obtain ⟨a0, u0, q1, q2, q3, q4, q5⟩ := R.sl i _ hi
  rw [hs] at q1
  cases q1
  have ne0 : ∀ {a o}, c.X0 a = some o → a ≠ r := fun {a o} e z => by subst z; rw [q3] at e; cases e
  refine ⟨fun a o e => g.h a o ((hid_ne (ne0 e)).trans (R.x0 a o e)), g.bh, R.nb.tr g.b, fun a o e => (g.nw a o ((hid_ne (ne0 e)).trans (R.x0 a o e))).trans (R.nw a o e), fun P hP => g.b _ _ (R.tb P hP), by rw [List.length_set]; exact R.len, fun j t e => ?_, fun j k n n' a e1 e2 e3 e4 => ?_⟩
  · by_cases hj : i = j
    · subst hj
      rw [List.getElem?_set_self hl] at e
      cases e
      exact ⟨r, u, hs, hb, q3, hu, h⟩
    · rw [List.getElem?_set_ne hj] at e
      have h1 := R.sl j t e
      cases t with
      | un => exact h1
      | any => exact h1
      | d x => obtain ⟨v, z1, z2⟩ := h1; exact ⟨v, z1, z2.mono g.b⟩
      | o n =>
        obtain ⟨a, w, z1, z2, z3, z4, z5⟩ := h1
        have hne : a ≠ r := fun z => by subst z; exact hj (R.ne i j m n a hi e hs z1)
        exact ⟨a, w, z1, (g.nw a w ((hid_ne hne).trans z4)).trans z2, z3, g.h a w ((hid_ne hne).trans z4), z5.mono g.b⟩
  · have f : ∀ {l : Nat} {n : MO}, (Γ.set i (.o m'))[l]? = some (.o n) → ∃ n', Γ[l]? = some (.o n') := fun {l n} e => by
      by_cases hj : i = l
      · subst hj; exact ⟨m, hi⟩
      · rw [List.getElem?_set_ne hj] at e
        exact ⟨n, e⟩
    obtain ⟨n1, f1⟩ := f e1
    obtain ⟨n2, f2⟩ := f e2
    exact R.ne j k n1 n2 a f1 f2 e3 e4
/-- an own object is written -/
theorem Gr.write {r : Addr} {u : HO} (e : Xt B H) (hb : B r = none) : Gr B (hid r H) B (upd H r u) := by
  refine ⟨fun a o q => ?_, .rfl', fun a o q => ?_, fun a o q => rfl⟩
  · have h : a ≠ r := fun z => by subst z; rw [hid_self] at q; cases q
    rw [upd_ne h]
    exact hid_le a o q
  · have h : a ≠ r := fun z => by subst z; rw [hb] at q; cases q
    rw [upd_ne h]
    exact e a o q
theorem Rp.write {i : Nat} {m m' : MO} {r : Addr} {u : HO} (R : Rp W c B Γ σ H) (hi : Γ[i]? = some (.o m)) (hs : σ[i]? = some (some (.ref r))) (h : MOk W.K B r u m') : Rp W c B (Γ.set i (.o m')) σ (upd H r u) := by
  obtain ⟨a0, u0, q1, q2, q3, q4, q5⟩ := R.sl i _ hi
  rw [hs] at q1
  cases q1
  exact R.growO hi hs (.write R.bh q2) q2 upd_same h
/-- an own object is henceforth data -/
theorem Rp.freeze {i : Nat} {m : MO} {x : PyData} (R : Rp W c B Γ σ H) (hi : Γ[i]? = some (.o m)) (hx : ∀ B' a u, Xt B B' → B' a = some u → MOk W.K B a u m → Dv W.K B' (.ref a) x) : ∃ B', Xt B B' ∧ Rp W c B' (Γ.set i (.d x)) σ H := by
  have hl : i < Γ.length := (List.getElem?_eq_some_iff.mp hi).1
  obtain ⟨r, u, q1, q2, q3, q4, q5⟩ := R.sl i _ hi
  have eb : Xt B (upd B r u) := .new q2
  refine ⟨upd B r u, eb, R.x0, fun a o e => ?_, R.nb.tr eb, fun a o e => ?_, fun P hP => eb _ _ (R.tb P hP), by rw [List.length_set]; exact R.len, fun j t e => ?_, fun j k n n' a e1 e2 e3 e4 => ?_⟩
  · by_cases h : a = r
    · subst h; rw [upd_same] at e; cases e; exact q4
    · rw [upd_ne h] at e; exact R.bh a o e
  · have h : a ≠ r := fun z => by subst z; rw [q3] at e; cases e
    rw [upd_ne h]
    exact R.nw a o e
  · by_cases hj : i = j
    · subst hj
      rw [List.getElem?_set_self hl] at e
      cases e
      exact ⟨.ref r, q1, hx _ r u eb upd_same q5⟩
    · rw [List.getElem?_set_ne hj] at e
      have h1 := R.sl j t e
      cases t with
      | un => exact h1
      | any => exact h1
      | d x => obtain ⟨v, z1, z2⟩ := h1; exact ⟨v, z1, z2.mono eb⟩
      | o n =>
        obtain ⟨a, w, z1, z2, z3, z4, z5⟩ := h1
        have hne : a ≠ r := fun z => by subst z; exact hj (R.ne i j m n a hi e q1 z1)
        exact ⟨a, w, z1, by rw [upd_ne hne]; exact z2, z3, z4, z5.mono eb⟩
  · have f : ∀ {l : Nat} {n : MO}, (Γ.set i (.d x))[l]? = some (.o n) → Γ[l]? = some (.o n) := fun {l n} e => by
      by_cases hj : i = l
      · subst hj; rw [List.getElem?_set_self hl] at e; cases e
      · rw [List.getElem?_set_ne hj] at e
        exact e
    exact R.ne j k n n' a (f e1) (f e2) e3 e4
end
end TW
end

section
set_option Elab.async false
set_option linter.all false
set_option maxRecDepth 100000
set_option maxHeartbeats 4000000
/-! Readings by abstract states: expressions, tests, arguments. -/
namespace TW
open PySem PySem.Spec PyProof.Rows L2

/-! ### the judgements -/
def AWp (W : Wd) (te : TE) (Γ : List SV) (K : List SV → PyData → Prop) : Prop := ∀ (c : Cf) (B : Hp) (σ : L2.St) (H : Hp) (Q : VK), Rp W c B Γ σ H → (∀ v x B' H' Γ', K Γ' x → Xt B B' → Rp W c B' Γ' σ H' → Dv W.K B' v x → Q v H') → te σ H Q
def AWt (W : Wd) (tt : TT) (Γ : List SV) (K : List SV → Bool → Prop) : Prop := ∀ (c : Cf) (B : Hp) (σ : L2.St) (H : Hp) (Q : Bool → Hp → Prop), Rp W c B Γ σ H → (∀ b B' H' Γ', K Γ' b → Xt B B' → Rp W c B' Γ' σ H' → Q b H') → tt σ H Q
def AAs (W : Wd) (ta : TA) (Γ : List SV) (K : List SV → List PyData → Prop) : Prop := ∀ (c : Cf) (B : Hp) (σ : L2.St) (H : Hp) (Q : List V → Hp → Prop), Rp W c B Γ σ H → (∀ vs xs B' H' Γ', K Γ' xs → Xt B B' → Rp W c B' Γ' σ H' → DvA W.K B' vs xs → Q vs H') → ta σ H Q
def AWo (W : Wd) (t : TO) (Γ : List SV) (K : List SV → Option Int → Prop) : Prop := ∀ (c : Cf) (B : Hp) (σ : L2.St) (H : Hp) (Q : Option Int → Hp → Prop), Rp W c B Γ σ H → (∀ v B' H' Γ', K Γ' v → Xt B B' → Rp W c B' Γ' σ H' → Q v H') → t σ H Q
/-- an operator on data -/
def RD (W : Wd) (r : R2) (x y : PyData) (K : PyData → Prop) : Prop := ∀ (B H : Hp) (u v : V) (Q : VK), Xt B H → Dv W.K B u x → Dv W.K B v y → (∀ w z B' H', K z → Gr B H B' H' → Dv W.K B' w z → Q w H') → r u v H Q
def RDn (W : Wd) (r : List V → Hp → VK → Prop) (xs : List PyData) (K : PyData → Prop) : Prop := ∀ (B H : Hp) (us : List V) (Q : VK), Xt B H → DvA W.K B us xs → (∀ w z B' H', K z → Gr B H B' H' → Dv W.K B' w z → Q w H') → r us H Q
section
variable {W : Wd} {Γ : List SV} {K : List SV → PyData → Prop} {ta tb tc te : TE} {tr : TA} {t u : TT} {KT : List SV → Bool → Prop} {KA : List SV → List PyData → Prop}
theorem AWp.imp {K' : List SV → PyData → Prop} (h : AWp W te Γ K) (hk : ∀ Γ' x, K Γ' x → K' Γ' x) : AWp W te Γ K' := fun c B σ H Q R q => h c B σ H Q R fun v x B' H' Γ' k => q v x B' H' Γ' (hk _ _ k)

def isNn : PyData → Bool
  | .none => true
  | _ => false
/-! ### names, constants -/
theorem awp_v {i : Nat} {x : PyData} (hi : Γ[i]? = some (.d x)) (k : K Γ x) : AWp W (tVar i) Γ K := fun c B σ H Q R q => by
  obtain ⟨v, e, h⟩ := R.sl i _ hi
  exact ⟨v, e, q v x B H Γ k .rfl' R h⟩
theorem awp_c {v : V} {x : PyData} (hd : ∀ B, Dv W.K B v x) (k : K Γ x) : AWp W (tC v) Γ K := fun c B σ H Q R q => q v x B H Γ k .rfl' R (hd B)
theorem awp_int {i : Int} (k : K Γ (.int i)) : AWp W (tC (.int i)) Γ K := awp_c (fun B => .int i) k
theorem awp_bl {b : Bool} (k : K Γ (.bool b)) : AWp W (tC (.bl b)) Γ K := awp_c (fun B => .bl b) k
theorem awp_str {b : Str} (k : K Γ (.str b)) : AWp W (tC (.str b)) Γ K := awp_c (fun B => .str b) k
theorem awp_non (k : K Γ .none) : AWp W (tC .non) Γ K := awp_c (fun B => .non) k

/-! ### arguments -/
theorem aas_nil (k : KA Γ []) : AAs W tNil Γ KA := fun c B σ H Q R q => q [] [] B H Γ k .rfl' R .nil
theorem aas_cons (h : AWp W te Γ fun Γ1 x => AAs W tr Γ1 fun Γ2 xs => KA Γ2 (x :: xs)) : AAs W (tCons te tr) Γ KA := fun c B σ H Q R q =>
  h c B σ H _ R fun v x B1 H1 Γ1 k1 e1 R1 d1 => k1 c B1 σ H1 _ R1 fun vs xs B2 H2 Γ2 k2 e2 R2 d2 => q (v :: vs) (x :: xs) B2 H2 Γ2 k2 (e1.tr e2) R2 (.cons (d1.mono e2) d2)

/-! ### operators -/
theorem awp_op {r : R2} (h : AWp W ta Γ fun Γ1 x => AWp W tb Γ1 fun Γ2 y => RD W r x y (K Γ2)) : AWp W (tOp r ta tb) Γ K := fun c B σ H Q R q =>
  h c B σ H _ R fun v x B1 H1 Γ1 k1 e1 R1 d1 => k1 c B1 σ H1 _ R1 fun u y B2 H2 Γ2 k2 e2 R2 d2 => k2 B2 H2 v u Q R2.bh (d1.mono e2) d2 fun w z B3 H3 k3 g d3 => q w z B3 H3 Γ2 k3 (e1.tr (e2.tr g.b)) (R2.grow g) d3
theorem awp_chain {r r' : R2} (h : AWp W ta Γ fun Γ1 x => AWp W tb Γ1 fun Γ2 y => RD W r x y fun z => ∃ k, z = .bool k ∧ if k = true then AWp W tc Γ2 fun Γ3 x3 => RD W r' y x3 (K Γ3) else K Γ2 (.bool false)) : AWp W (tChain r r' ta tb tc) Γ K := fun c B σ H Q R q =>
  h c B σ H _ R fun v x B1 H1 Γ1 k1 e1 R1 d1 => k1 c B1 σ H1 _ R1 fun u y B2 H2 Γ2 k2 e2 R2 d2 => k2 B2 H2 v u _ R2.bh (d1.mono e2) d2 fun w z B3 H3 k3 g d3 => by
    obtain ⟨k, ez, k3⟩ := k3
    subst ez
    cases d3
    refine ⟨k, rfl, ?_⟩
    cases k with
    | true =>
      rw [if_pos rfl] at k3 ⊢
      exact k3 c B3 σ H3 _ (R2.grow g) fun w4 x4 B4 H4 Γ4 k4 e4 R4 d4 => k4 B4 H4 u w4 Q R4.bh ((d2.mono g.b).mono e4) d4 fun w5 z5 B5 H5 k5 g5 d5 => q w5 z5 B5 H5 Γ4 k5 (e1.tr (e2.tr (g.b.tr (e4.tr g5.b)))) (R4.grow g5) d5
    | false =>
      rw [if_neg Bool.false_ne_true] at k3 ⊢
      exact q (.bl false) _ B3 H3 Γ2 k3 (e1.tr (e2.tr g.b)) (R2.grow g) (.bl false)
theorem awp_isN (h : AWp W ta Γ fun Γ1 x => K Γ1 (.bool (isNn x))) : AWp W (tIsN ta) Γ K := fun c B σ H Q R q =>
  h c B σ H _ R fun v x B1 H1 Γ1 k1 e1 R1 d1 => by
    have e : decide (v = V.non) = (isNn x) := by cases d1 <;> first | rfl | decide
    rw [e]
    exact q _ _ B1 H1 Γ1 k1 e1 R1 (.bl _)
theorem awp_notN (h : AWp W ta Γ fun Γ1 x => K Γ1 (.bool (!isNn x))) : AWp W (tNotN ta) Γ K := fun c B σ H Q R q =>
  h c B σ H _ R fun v x B1 H1 Γ1 k1 e1 R1 d1 => by
    have e : (!decide (v = V.non)) = (!isNn x) := by cases d1 <;> first | rfl | decide
    rw [e]
    exact q _ _ B1 H1 Γ1 k1 e1 R1 (.bl _)
theorem awp_and (h : AWp W ta Γ fun Γ1 x => ∃ b, x = .bool b ∧ if b = true then AWp W tb Γ1 K else K Γ1 (.bool false)) : AWp W (tAndV ta tb) Γ K := fun c B σ H Q R q =>
  h c B σ H _ R fun v x B1 H1 Γ1 k1 e1 R1 d1 => by
    obtain ⟨b, ex, k1⟩ := k1
    subst ex
    cases d1
    refine ⟨b, rfl, ?_⟩
    cases b with
    | true => rw [if_pos rfl] at k1 ⊢; exact k1 c B1 σ H1 Q R1 fun v2 x2 B2 H2 Γ2 k2 e2 => q v2 x2 B2 H2 Γ2 k2 (e1.tr e2)
    | false => rw [if_neg Bool.false_ne_true] at k1 ⊢; exact q _ _ B1 H1 Γ1 k1 e1 R1 (.bl false)
theorem awp_or (h : AWp W ta Γ fun Γ1 x => ∃ b, x = .bool b ∧ if b = true then K Γ1 (.bool true) else AWp W tb Γ1 K) : AWp W (tOrV ta tb) Γ K := fun c B σ H Q R q =>
  h c B σ H _ R fun v x B1 H1 Γ1 k1 e1 R1 d1 => by
    obtain ⟨b, ex, k1⟩ := k1
    subst ex
    cases d1
    refine ⟨b, rfl, ?_⟩
    cases b with
    | false => rw [if_neg Bool.false_ne_true] at k1 ⊢; exact k1 c B1 σ H1 Q R1 fun v2 x2 B2 H2 Γ2 k2 e2 => q v2 x2 B2 H2 Γ2 k2 (e1.tr e2)
    | true => rw [if_pos rfl] at k1 ⊢; exact q _ _ B1 H1 Γ1 k1 e1 R1 (.bl true)
theorem awp_not (h : AWp W ta Γ fun Γ1 x => ∃ b, x = .bool b ∧ K Γ1 (.bool (!b))) : AWp W (tNotV ta) Γ K := fun c B σ H Q R q =>
  h c B σ H _ R fun v x B1 H1 Γ1 k1 e1 R1 d1 => by
    obtain ⟨b, ex, k1⟩ := k1
    subst ex
    cases d1
    exact ⟨b, rfl, q _ _ B1 H1 Γ1 k1 e1 R1 (.bl _)⟩
theorem awp_if (h : AWt W t Γ fun Γ1 b => if b = true then AWp W ta Γ1 K else AWp W tb Γ1 K) : AWp W (tIf t ta tb) Γ K := fun c B σ H Q R q =>
  h c B σ H _ R fun b B1 H1 Γ1 k1 e1 R1 => by
    cases b with
    | true => rw [if_pos rfl] at k1 ⊢; exact k1 c B1 σ H1 Q R1 fun v2 x2 B2 H2 Γ2 k2 e2 => q v2 x2 B2 H2 Γ2 k2 (e1.tr e2)
    | false => rw [if_neg Bool.false_ne_true] at k1 ⊢; exact k1 c B1 σ H1 Q R1 fun v2 x2 B2 H2 Γ2 k2 e2 => q v2 x2 B2 H2 Γ2 k2 (e1.tr e2)
theorem awp_tup (h : AAs W tr Γ fun Γ1 ds => ds.length ≤ 1000 ∧ K Γ1 (.tuple ds)) : AWp W (tTup tr) Γ K := fun c B σ H Q R q =>
  h c B σ H _ R fun vs xs B1 H1 Γ1 k1 e1 R1 d1 => by
    have hl : vs.length ≤ sizeLine := Nat.le_trans (d1.len ▸ k1.1) (by decide)
    refine ⟨hl, fun p np => ?_⟩
    have g : Gr B1 H1 (upd B1 p (.tup vs)) (upd H1 p (.tup vs)) := .new R1.bh np
    exact q (.ref p) _ _ _ Γ1 k1.2 (e1.tr g.b) (R1.grow g) (.tup (SqT.of upd_same) hl (d1.mono g.b))
theorem awp_lst (h : AAs W tr Γ fun Γ1 ds => ds.length ≤ 1000 ∧ K Γ1 (.list ds)) : AWp W (tLst tr) Γ K := fun c B σ H Q R q =>
  h c B σ H _ R fun vs xs B1 H1 Γ1 k1 e1 R1 d1 => by
    have hl : vs.length ≤ sizeLine := Nat.le_trans (d1.len ▸ k1.1) (by decide)
    refine ⟨hl, fun p np => ?_⟩
    have g : Gr B1 H1 (upd B1 p (.lst vs)) (upd H1 p (.lst vs)) := .new R1.bh np
    exact q (.ref p) _ _ _ Γ1 k1.2 (e1.tr g.b) (R1.grow g) (.lst upd_same hl (d1.mono g.b))
theorem awp_dk0 (k : K Γ (.dict [])) : AWp W tDNewK Γ K := fun c B σ H Q R q p np => by
  have g : Gr B H (upd B p (.dK [])) (upd H p (.dK [])) := .new R.bh np
  exact q (.ref p) _ _ _ Γ k g.b (R.grow g) (.dk upd_same)

/-! ### tests -/
theorem awt_b (h : AWp W te Γ fun Γ1 x => ∃ b, x = .bool b ∧ KT Γ1 b) : AWt W (tB te) Γ KT := fun c B σ H Q R q =>
  h c B σ H _ R fun v x B1 H1 Γ1 k1 e1 R1 d1 => by
    obtain ⟨b, ex, k1⟩ := k1
    subst ex
    cases d1
    exact ⟨b, rfl, q b B1 H1 Γ1 k1 e1 R1⟩
theorem awt_t (h : AWp W te Γ fun Γ1 x => ∃ b, x = .bool b ∧ KT Γ1 b) : AWt W (tTest te) Γ KT := fun c B σ H Q R q =>
  h c B σ H _ R fun v x B1 H1 Γ1 k1 e1 R1 d1 => by
    obtain ⟨b, ex, k1⟩ := k1
    subst ex
    cases d1
    exact ⟨b, rfl, q b B1 H1 Γ1 k1 e1 R1⟩
theorem awt_and (h : AWt W t Γ fun Γ1 b => if b = true then AWt W u Γ1 KT else KT Γ1 false) : AWt W (tAnd t u) Γ KT := fun c B σ H Q R q =>
  h c B σ H _ R fun b B1 H1 Γ1 k1 e1 R1 => by
    cases b with
    | true => rw [if_pos rfl] at k1 ⊢; exact k1 c B1 σ H1 Q R1 fun b2 B2 H2 Γ2 k2 e2 => q b2 B2 H2 Γ2 k2 (e1.tr e2)
    | false => rw [if_neg Bool.false_ne_true] at k1 ⊢; exact q _ B1 H1 Γ1 k1 e1 R1
theorem awt_or (h : AWt W t Γ fun Γ1 b => if b = true then KT Γ1 true else AWt W u Γ1 KT) : AWt W (tOr t u) Γ KT := fun c B σ H Q R q =>
  h c B σ H _ R fun b B1 H1 Γ1 k1 e1 R1 => by
    cases b with
    | false => rw [if_neg Bool.false_ne_true] at k1 ⊢; exact k1 c B1 σ H1 Q R1 fun b2 B2 H2 Γ2 k2 e2 => q b2 B2 H2 Γ2 k2 (e1.tr e2)
    | true => rw [if_pos rfl] at k1 ⊢; exact q _ B1 H1 Γ1 k1 e1 R1
theorem awt_not (h : AWt W t Γ fun Γ1 b => KT Γ1 (!b)) : AWt W (tNot t) Γ KT := fun c B σ H Q R q => h c B σ H _ R fun b B1 H1 Γ1 k1 e1 R1 => q _ B1 H1 Γ1 k1 e1 R1
theorem awt_yes (k : KT Γ true) : AWt W tYes Γ KT := fun c B σ H Q R q => q true B H Γ k .rfl' R
/-- the truth of a list -/
def tTr (K : PySem.W.Frag) (ta : TE) : TT := fun σ H Q => ta σ H fun x H' => ∃ k, TruV K x H' k ∧ Q k H'
theorem pt_tr {X : Cx} {a : Expr} (ha : PE X a ta) (he : ∀ whole, isTrue a X.env whole = (do let v ← whole; standAt a.pos; holding [v] (truthy v)) := by intro _; rfl) : PT X a (tTr X.K ta) := pt_truth ha he
theorem awt_trL (h : AWp W te Γ fun Γ1 x => ∃ ds, x = .list ds ∧ KT Γ1 (!ds.isEmpty)) : AWt W (tTr W.K te) Γ KT := fun c B σ H Q R q =>
  h c B σ H _ R fun v x B1 H1 Γ1 k1 e1 R1 d1 => by
    obtain ⟨ds, ex, k1⟩ := k1
    subst ex
    cases d1 with
    | @lst a xs ds h l t =>
      refine ⟨!ds.isEmpty, .inl ⟨xs, SqL.of (R1.bh _ _ h), ?_⟩, q _ B1 H1 Γ1 k1 e1 R1⟩
      cases t <;> rfl

/-! ### calls -/
theorem awp_cb {r : List V → Hp → VK → Prop} (h : AAs W tr Γ fun Γ1 ds => RDn W r ds (K Γ1)) : AWp W (tCB r tr) Γ K := fun c B σ H Q R q =>
  h c B σ H _ R fun vs xs B1 H1 Γ1 k1 e1 R1 d1 => k1 B1 H1 vs Q R1.bh d1 fun w z B2 H2 k2 g d2 => q w z B2 H2 Γ1 k2 (e1.tr g.b) (R1.grow g) d2
/-- a def's promise by data -/
def SpD {α : Type} (W : Wd) (args : α → List PyData) (pre : α → Prop) (post : α → PyData → Prop) : Sp := fun vs H Q _ => ∃ (B : Hp) (a : α), Xt B H ∧ (∀ P ∈ W.T, B P = some (TabX P)) ∧ DvA W.K B vs (args a) ∧ pre a ∧
  ∀ v x B' H', post a x → Gr B H B' H' → Dv W.K B' v x → Q v H'
theorem awp_call {α : Type} {args : α → List PyData} {pre : α → Prop} {post : α → PyData → Prop} (h : AAs W tr Γ fun Γ1 ds => ∃ a, ds = args a ∧ pre a ∧ ∀ x, post a x → K Γ1 x) : AWp W (tCall (SpD W args pre post) [] E0 tr) Γ K := fun c B σ H Q R q =>
  h c B σ H _ R fun vs xs B1 H1 Γ1 k1 e1 R1 d1 => by
    rw [List.append_nil]
    obtain ⟨a, rfl, k1⟩ := k1
    exact ⟨B1, a, R1.bh, R1.tb, d1, k1.1, fun w z B2 H2 k2 g d2 => q w z B2 H2 Γ1 (k1.2 z k2) (e1.tr g.b) (R1.grow g) d2⟩
/-- a def that draws from the row -/
def SpR {α : Type} (W : Wd) (args : α → List PyData) (pre : α → Prop) (post : α → PyData → Prop) : Sp := fun vs H Q _ => ∃ (B : Hp) (r : Addr) (u : HO) (ws : List V) (a : α), vs = .ref r :: ws ∧ Xt B H ∧ (∀ P ∈ W.T, B P = some (TabX P)) ∧ B r = none ∧ H r = some u ∧ RowO W.K B u ∧
  DvA W.K B ws (args a) ∧ pre a ∧ ∀ v x B' H' u', post a x → Gr B (hid r H) B' H' → B' r = none → H' r = some u' → RowO W.K B' u' → Dv W.K B' v x → Q v H'
theorem set_same {i : Nat} {s : SV} (h : Γ[i]? = some s) : Γ.set i s = Γ := by
  obtain ⟨hl, e⟩ := List.getElem?_eq_some_iff.mp h
  rw [← e]
  exact List.set_getElem_self hl
theorem awp_callR {α : Type} {i : Nat} {r : Addr} {args : α → List PyData} {pre : α → Prop} {post : α → PyData → Prop} (hi : Γ[i]? = some (.o (.row r))) (h : AAs W tr Γ fun Γ1 ds => Γ1[i]? = some (.o (.row r)) ∧ ∃ a, ds = args a ∧ pre a ∧ ∀ x, post a x → K Γ1 x) :
    AWp W (tCall (SpR W args pre post) [] E0 (tCons (tVar i) tr)) Γ K := fun c B σ H Q R q => by
  obtain ⟨_, u, e, hb, hx, hu, rfl, ro⟩ := R.sl i _ hi
  refine ⟨.ref _, e, h c B σ H _ R fun vs xs B1 H1 Γ1 k1 e1 R1 d1 => ?_⟩
  obtain ⟨k0, a, rfl, k1⟩ := k1
  obtain ⟨r', u1, e', hb1, hx1, hu1, er, ro1⟩ := R1.sl i _ k0
  subst er
  rw [List.append_nil]
  refine ⟨B1, _, u1, vs, a, rfl, R1.bh, R1.tb, hb1, hu1, ro1, d1, k1.1, fun w z B2 H2 u2 k2 g hb2 hu2 ro2 d2 => q w z B2 H2 Γ1 (k1.2 z k2) (e1.tr g.b) ?_ d2⟩
  have R2 := R1.growO (m' := .row _) k0 e g hb2 hu2 ⟨rfl, ro2⟩
  rw [set_same k0] at R2
  exact R2

/-! ### own lists looked at -/
def SV.hide : SV → SV
  | .o _ => .any
  | s => s
def scD' : PyData → Bool
  | .int _ => true
  | .bool _ => true
  | .str _ => true
  | .none => true
  | _ => false
theorem Dv.scal {K : PySem.W.Frag} {B B' : Hp} {v : V} {z : PyData} (h : Dv K B v z) (s : scD' z = true) : Dv K B' v z := by
  cases h with
  | non => exact .non
  | bl b => exact .bl b
  | int i => exact .int i
  | str x => exact .str x
  | _ => cases s
theorem awp_view {i : Nat} {xs : List PyData} (hi : Γ[i]? = some (.o (.lst xs))) (hl : xs.length ≤ 1000000) (h : AWp W te ((Γ.map SV.hide).set i (.d (.list xs))) fun _ z => scD' z = true ∧ K Γ z) : AWp W te Γ K := fun c B σ H Q R q => by
  obtain ⟨r, u, e, hb, hx, hu, vs, eu, d⟩ := R.sl i _ hi
  subst eu
  have hz : vs.length ≤ sizeLine := Nat.le_trans (d.len ▸ hl) (by decide)
  have eb : Xt B (upd B r (.lst vs)) := .new hb
  have ebH : Xt (upd B r (.lst vs)) H := fun a o z => by
    by_cases ha : a = r
    · subst ha; rw [upd_same] at z; cases z; exact hu
    · rw [upd_ne ha] at z; exact R.bh a o z
  have R' : Rp W ⟨H, upd B r (.lst vs)⟩ (upd B r (.lst vs)) ((Γ.map SV.hide).set i (.d (.list xs))) σ H := by
    have R0 : Rp W ⟨H, upd B r (.lst vs)⟩ (upd B r (.lst vs)) (Γ.map SV.hide) σ H := by
      refine ⟨.rfl', ebH, .rfl', fun _ _ _ => rfl, fun P hP => eb _ _ (R.tb P hP), by rw [List.length_map]; exact R.len, fun j s ej => ?_, fun j k m m' a e1 _ _ _ => ?_⟩
      · rw [List.getElem?_map] at ej
        cases es : Γ[j]? with
        | none => rw [es] at ej; cases ej
        | some s0 =>
          rw [es] at ej
          obtain rfl : s0.hide = s := Option.some.inj ej
          have h0 := R.sl j s0 es
          cases s0 with
          | un => exact h0
          | any => exact h0
          | d x => obtain ⟨w, e1, t⟩ := h0; exact ⟨w, e1, t.mono eb⟩
          | o m => obtain ⟨a, w, e1, _⟩ := h0; exact ⟨_, e1⟩
      · rw [List.getElem?_map] at e1
        cases es : Γ[j]? with
        | none => rw [es] at e1; cases e1
        | some s0 =>
          rw [es] at e1
          have e2 : s0.hide = .o m := Option.some.inj e1
          cases s0 <;> cases e2
    have h1 := R0.setD (i := i) (x := .list xs) (v := .ref r) (.lst upd_same hz (d.mono eb))
    have h2 : σ.set i (some (.ref r)) = σ := by
      obtain ⟨hl', e'⟩ := List.getElem?_eq_some_iff.mp e
      rw [← e']
      exact List.set_getElem_self hl'
    rw [h2] at h1
    exact h1
  refine h _ _ σ H Q R' fun v z B2 H2 Γ2 k2 e2 R2 d2 => ?_
  have g : Gr B H (hid r B2) H2 := by
    refine ⟨R2.x0, fun a o z => ?_, hid_le.tr R2.bh, fun a o z => ?_⟩
    · have ha : a ≠ r := fun z1 => by subst z1; rw [hb] at z; cases z
      rw [hid_ne ha]
      exact e2 a o (eb a o z)
    · by_cases ha : a = r
      · subst ha; rw [hid_self, hb]
      · rw [hid_ne ha, R2.nw a o z]
        exact upd_ne ha
  exact q v z _ H2 Γ k2.2 g.b (R.grow g) (d2.scal k2.1)
end
end TW
end

section
set_option Elab.async false
set_option linter.all false
set_option maxRecDepth 100000
set_option maxHeartbeats 4000000
/-! Readings by abstract states: statements, loops, comprehensions, generators. -/
namespace TW
open PySem PySem.Spec PyProof.Rows L2

structure Dok (W : Wd) (c : Cf) (B : Hp) (nx : List SV → Prop) (rt : List SV → PyData → Prop) (bk ct : List SV → Prop) (D : Ends) : Prop where
  dnx : ∀ Γ B' σ H, nx Γ → Xt B B' → Rp W c B' Γ σ H → D.nx σ H
  drt : ∀ Γ x v B' σ H, rt Γ x → Xt B B' → Rp W c B' Γ σ H → Dv W.K B' v x → D.rt v H
  dbk : ∀ Γ B' σ H, bk Γ → Xt B B' → Rp W c B' Γ σ H → D.bk σ H
  dct : ∀ Γ B' σ H, ct Γ → Xt B B' → Rp W c B' Γ σ H → D.ct σ H
theorem Dok.up {W : Wd} {c : Cf} {B B1 : Hp} {nx bk ct : List SV → Prop} {rt : List SV → PyData → Prop} {D : Ends} (d : Dok W c B nx rt bk ct D) (e : Xt B B1) : Dok W c B1 nx rt bk ct D :=
  ⟨fun Γ B' σ H k f => d.dnx Γ B' σ H k (e.tr f), fun Γ x v B' σ H k f => d.drt Γ x v B' σ H k (e.tr f), fun Γ B' σ H k f => d.dbk Γ B' σ H k (e.tr f), fun Γ B' σ H k f => d.dct Γ B' σ H k (e.tr f)⟩
def ASt (W : Wd) (t : TS) (Γ : List SV) (nx : List SV → Prop) (rt : List SV → PyData → Prop) (bk ct : List SV → Prop) : Prop := ∀ (c : Cf) (B : Hp) (σ : L2.St) (H : Hp) (D : Ends), Rp W c B Γ σ H → Dok W c B nx rt bk ct D → t D σ H
/-- the iterator's items, where the heaps are so -/
def ItAt (K : PySem.W.Frag) (J : It) (items : List PyData) (B H : Hp) : Prop := J.stop items.length H ∧ ∀ i x, items[i]? = some x → J.go i H ∧ ∀ v H', J.yld i H v H' → ∃ B', Gr B H B' H' ∧ Dv K B' v x
def AWi (W : Wd) (wi : TI) (Γ : List SV) (K : List SV → List PyData → Prop) : Prop := ∀ (c : Cf) (B : Hp) (σ : L2.St) (H : Hp) (R : It → Hp → Prop), Rp W c B Γ σ H →
  (∀ J items B' H' Γ', K Γ' items → Xt B B' → Rp W c B' Γ' σ H' → (∀ B2 H2, Xt B' B2 → Xt B2 H2 → ItAt W.K J items B2 H2) → R J H') → wi σ H R
/-- .. as long as the state is so -/
def AWc (W : Wd) (wi : TI) (Γ : List SV) (K : List SV → List PyData → Prop) : Prop := ∀ (c : Cf) (B : Hp) (σ : L2.St) (H : Hp) (R : It → Hp → Prop), Rp W c B Γ σ H →
  (∀ J items B' H' Γ', K Γ' items → Xt B B' → Rp W c B' Γ' σ H' → (∀ c2 B2 H2, Xt B' B2 → Rp W c2 B2 Γ' σ H2 → ItAt W.K J items B2 H2) → R J H') → wi σ H R
def ATg (W : Wd) (g : TG) (Γ : List SV) (x : PyData) (K : List SV → Prop) : Prop := ∀ (c : Cf) (B : Hp) (σ : L2.St) (H : Hp) (v : V) (Q : L2.St → Hp → Prop), Rp W c B Γ σ H → Dv W.K B v x → (∀ B' σ' H' Γ', K Γ' → Xt B B' → Rp W c B' Γ' σ' H' → Q σ' H') → g v σ H Q
def ATgs (W : Wd) (g : TGs) (Γ : List SV) (x : List PyData) (K : List SV → Prop) : Prop := ∀ (c : Cf) (B : Hp) (σ : L2.St) (H : Hp) (v : List V) (Q : L2.St → Hp → Prop), Rp W c B Γ σ H → DvA W.K B v x → (∀ B' σ' H' Γ', K Γ' → Xt B B' → Rp W c B' Γ' σ' H' → Q σ' H') → g v σ H Q
section
variable {W : Wd} {Γ : List SV} {nx bk ct : List SV → Prop} {rt : List SV → PyData → Prop} {K : List SV → PyData → Prop} {ta tb tc te : TE} {tr : TA} {t u : TS} {tt : TT} {KA : List SV → List PyData → Prop} {wi : TI} {g : TG} {gs : TGs} {KG : List SV → Prop}

/-! ### statements -/
theorem ast_next (k : nx Γ) : ASt W tNext Γ nx rt bk ct := fun c B σ H D R d => d.dnx Γ B σ H k .rfl' R
theorem ast_break (k : bk Γ) : ASt W tBreak Γ nx rt bk ct := fun c B σ H D R d => d.dbk Γ B σ H k .rfl' R
theorem ast_cont (k : ct Γ) : ASt W tCont Γ nx rt bk ct := fun c B σ H D R d => d.dct Γ B σ H k .rfl' R
theorem ast_seq (h : ASt W t Γ (fun Γ1 => ASt W u Γ1 nx rt bk ct) rt bk ct) : ASt W (tSeq t u) Γ nx rt bk ct := fun c B σ H D R d =>
  h c B σ H _ R ⟨fun Γ1 B1 σ1 H1 k e R1 => k c B1 σ1 H1 D R1 (d.up e), d.drt, d.dbk, d.dct⟩
theorem ast_if (h : AWt W tt Γ fun Γ1 b => if b = true then ASt W t Γ1 nx rt bk ct else ASt W u Γ1 nx rt bk ct) : ASt W (tIfS tt t u) Γ nx rt bk ct := fun c B σ H D R d =>
  h c B σ H _ R fun b B1 H1 Γ1 k e R1 => by
    cases b with
    | true => rw [if_pos rfl] at k ⊢; exact k c B1 σ H1 D R1 (d.up e)
    | false => rw [if_neg Bool.false_ne_true] at k ⊢; exact k c B1 σ H1 D R1 (d.up e)
theorem ast_ret (h : AWp W te Γ rt) : ASt W (tRet te) Γ nx rt bk ct := fun c B σ H D R d => h c B σ H _ R fun v x B1 H1 Γ1 k e R1 dv => d.drt Γ1 x v B1 σ H1 k e R1 dv
theorem ast_drop (h : AWp W te Γ fun Γ1 _ => nx Γ1) : ASt W (tDrop te) Γ nx rt bk ct := fun c B σ H D R d => h c B σ H _ R fun v x B1 H1 Γ1 k e R1 dv => d.dnx Γ1 B1 σ H1 k e R1
theorem ast_never (h : False) : ASt W t Γ nx rt bk ct := h.elim
/-- a slot forgotten -/
theorem ast_any (i : Nat) (h : ASt W t (Γ.set i .any) nx rt bk ct) : ASt W t Γ nx rt bk ct := fun c B σ H D R d => h c B σ H D (R.forget rfl) d
/-- an own object is henceforth data -/
theorem ast_freeze (i : Nat) {xs : List PyData} (hi : Γ[i]? = some (.o (.lst xs))) (hl : xs.length ≤ 1000000) (h : ASt W t (Γ.set i (.d (.list xs))) nx rt bk ct) : ASt W t Γ nx rt bk ct := fun c B σ H D R d => by
  obtain ⟨B', e, R'⟩ := R.freeze (x := .list xs) hi fun B' a u e' ha m => by
    obtain ⟨vs, eu, dv⟩ := m
    subst eu
    exact .lst ha (Nat.le_trans (dv.len ▸ hl) (by decide)) (dv.mono e')
  exact h c B' σ H D R' (d.up e)
theorem ast_freezeT (i : Nat) {ks : List (Int × Int)} (hi : Γ[i]? = some (.o (.dt (ks.map fun p => (p, PyData.bool true))))) (h : ASt W t (Γ.set i (.d (dtD ks))) nx rt bk ct) : ASt W t Γ nx rt bk ct := fun c B σ H D R d => by
  obtain ⟨B', e, R'⟩ := R.freeze (x := dtD ks) hi fun B' a u e' ha m => by
    obtain ⟨us, eu, dv⟩ := m
    subst eu
    refine .dt ha ?_
    have key : ∀ (ks : List (Int × Int)) (us : List (List Key × V)), Paired (fun (p : List Key × V) (q : (Int × Int) × PyData) => p.1 = [.inl q.1.1, .inl q.1.2] ∧ Dv W.K B p.2 q.2) us (ks.map fun p => (p, PyData.bool true)) → KsT us (ks.map dtK) := by
      intro ks
      induction ks with
      | nil => intro us h; cases h; exact .nil
      | cons k ks ih =>
        intro us h
        rw [List.map_cons] at h
        cases h with
        | @cons p _ _ _ h h' =>
          obtain ⟨e1, e2⟩ := h
          obtain ⟨k1, v1⟩ := p
          have e1' : k1 = [.inl k.1, .inl k.2] := e1
          have e2' : Dv W.K B v1 (.bool true) := e2
          subst e1'
          cases e2'
          exact .cons ⟨k, rfl, rfl⟩ (ih _ h')
    exact key ks us dv
  exact h c B' σ H D R' (d.up e)
/-- tuples of tuple(..) are tuples -/
theorem ast_unpts (i : Nat) {dss : List (List PyData)} (hi : Γ[i]? = some (.d (.list (dss.map ptD)))) (h : ASt W t (Γ.set i (.d (.list (dss.map PyData.tuple)))) nx rt bk ct) : ASt W t Γ nx rt bk ct := fun c B σ H D R d => by
  refine h c B σ H D ?_ d
  obtain ⟨v, e, dv⟩ := R.sl i _ hi
  have h2 : σ.set i (some v) = σ := by
    obtain ⟨hl', e'⟩ := List.getElem?_eq_some_iff.mp e
    rw [← e']
    exact List.set_getElem_self hl'
  cases dv with
  | lst h l t =>
    have h1 := R.setD (i := i) (x := .list (dss.map PyData.tuple)) (.lst h l t.unpts)
    rw [h2] at h1
    exact h1

/-! ### targets -/
theorem atg_name {i : Nat} {x : PyData} (k : KG (Γ.set i (.d x))) : ATg W (gName i) Γ x KG := fun c B σ H v Q R d q => q B _ H _ k .rfl' (R.setD d)
theorem atgs_nil (k : KG Γ) : ATgs W gNil Γ [] KG := fun c B σ H v Q R d q => by cases d; exact ⟨rfl, q B σ H Γ k .rfl' R⟩
theorem atgs_cons {x : PyData} {xs : List PyData} (h : ATg W g Γ x fun Γ1 => ATgs W gs Γ1 xs KG) : ATgs W (gCons g gs) Γ (x :: xs) KG := fun c B σ H v Q R d q => by
  cases d with
  | cons d1 d2 =>
    exact ⟨_, _, rfl, h c B σ H _ _ R d1 fun B1 σ1 H1 Γ1 k e R1 => k c B1 σ1 H1 _ Q R1 (d2.mono e) fun B2 σ2 H2 Γ2 k2 e2 R2 => q B2 σ2 H2 Γ2 k2 (e.tr e2) R2⟩
theorem atg_tup {n : Nat} {xs : List PyData} (hn : xs.length = n) (h : ATgs W gs Γ xs KG) : ATg W (gTup W.K n gs) Γ (.tuple xs) KG := fun c B σ H v Q R d q => by
  cases d with
  | tup hs l t => exact ⟨_, _, rfl, R.bh.sqT hs, t.len.trans hn, h c B σ H _ Q R t q⟩
theorem ast_asg (h : AWp W te Γ fun Γ1 x => ATg W g Γ1 x nx) : ASt W (tAsg te g) Γ nx rt bk ct := fun c B σ H D R d =>
  h c B σ H _ R fun v x B1 H1 Γ1 k e R1 dv => k c B1 σ H1 v _ R1 dv fun B2 σ2 H2 Γ2 k2 e2 R2 => d.dnx Γ2 B2 σ2 H2 k2 (e.tr e2) R2
theorem ast_set {i : Nat} (h : AWp W te Γ fun Γ1 x => nx (Γ1.set i (.d x))) : ASt W (tAsg te (gName i)) Γ nx rt bk ct := ast_asg (h.imp fun Γ' x k => atg_name k)

/-! ### loops -/
theorem ast_while (h : ∃ I : Nat → List SV → Prop, (∃ m, I m Γ) ∧ ∀ m Γ, I m Γ → AWt W tt Γ fun Γ1 b => if b = true then ASt W t Γ1 (fun Γ2 => ∃ m', m' < m ∧ I m' Γ2) rt nx (fun Γ2 => ∃ m', m' < m ∧ I m' Γ2) else nx Γ1) :
    ASt W (tWhile tt t) Γ nx rt bk ct := fun c B σ H D R d => by
  obtain ⟨I, ⟨m0, h0⟩, step⟩ := h
  refine ⟨fun m σ H => ∃ Γ B', I m Γ ∧ Xt B B' ∧ Rp W c B' Γ σ H, ⟨m0, Γ, B, h0, .rfl', R⟩, ?_⟩
  rintro m σ1 H1 ⟨Γ1, B1, i1, e1, R1⟩
  refine step m Γ1 i1 c B1 σ1 H1 _ R1 fun b B2 H2 Γ2 k2 e2 R2 => ?_
  cases b with
  | true =>
    rw [if_pos rfl] at k2 ⊢
    refine ⟨fun σ' H' => ∃ m', m' < m ∧ ∃ Γ B', I m' Γ ∧ Xt B B' ∧ Rp W c B' Γ σ' H', fun σ' H' hn => hn, ?_⟩
    refine k2 c B2 σ1 H2 _ R2 ⟨?_, fun Γ x v B' σ H k f => d.drt Γ x v B' σ H k (e1.tr (e2.tr f)), fun Γ B' σ H k f => d.dnx Γ B' σ H k (e1.tr (e2.tr f)), ?_⟩
    · rintro Γ3 B3 σ3 H3 ⟨m', hm, i3⟩ e3 R3
      exact ⟨m', hm, Γ3, B3, i3, e1.tr (e2.tr e3), R3⟩
    · rintro Γ3 B3 σ3 H3 ⟨m', hm, i3⟩ e3 R3
      exact ⟨m', hm, Γ3, B3, i3, e1.tr (e2.tr e3), R3⟩
  | false =>
    rw [if_neg Bool.false_ne_true] at k2 ⊢
    exact d.dnx Γ2 B2 σ1 H2 k2 (e1.tr e2) R2
theorem ast_for (h : AWi W wi Γ fun Γ1 items => ∃ I : Nat → List SV → Prop, I 0 Γ1 ∧ (∀ i x Γ, items[i]? = some x → I i Γ → ATg W g Γ x fun Γ2 => ASt W t Γ2 (I (i + 1)) rt nx (I (i + 1))) ∧ ∀ Γ, I items.length Γ → nx Γ) :
    ASt W (tFor wi g t) Γ nx rt bk ct := fun c B σ H D R d => by
  refine h c B σ H _ R fun J items B1 H1 Γ1 k1 e1 R1 hJ => ?_
  obtain ⟨I, h0, step, fin⟩ := k1
  refine ⟨fun i m σ H => i + m = items.length ∧ ∃ Γ B', I i Γ ∧ Xt B1 B' ∧ Rp W c B' Γ σ H, ⟨items.length, Nat.zero_add _, Γ1, B1, h0, .rfl', R1⟩, ?_⟩
  rintro i m σ2 H2 ⟨hm, Γ2, B2, i2, e2, R2⟩
  obtain ⟨hs, hg⟩ := hJ B2 H2 e2 R2.bh
  cases m with
  | zero =>
    have hi : i = items.length := by omega
    subst hi
    exact .inl ⟨hs, d.dnx Γ2 B2 σ2 H2 (fin Γ2 i2) (e1.tr e2) R2⟩
  | succ m =>
    have hi : i < items.length := by omega
    obtain ⟨go, yl⟩ := hg i _ (List.getElem?_eq_getElem hi)
    refine .inr ⟨go, fun σ' H' => i + 1 + m = items.length ∧ ∃ Γ B', I (i + 1) Γ ∧ Xt B1 B' ∧ Rp W c B' Γ σ' H', fun σ' H' hn => ⟨m, Nat.lt_succ_self m, hn⟩, fun v H3 y3 => ?_⟩
    obtain ⟨B3, g3, d3⟩ := yl v H3 y3
    refine step i _ Γ2 (List.getElem?_eq_getElem hi) i2 c B3 σ2 H3 v _ (R2.grow g3) d3 fun B4 σ4 H4 Γ4 k4 e4 R4 => ?_
    have e14 : Xt B1 B4 := e2.tr (g3.b.tr e4)
    exact k4 c B4 σ4 H4 _ R4 ⟨fun Γ5 B5 σ5 H5 k5 e5 R5 => ⟨by omega, Γ5, B5, k5, e14.tr e5, R5⟩, fun Γ5 x v B5 σ5 H5 k e5 => d.drt Γ5 x v B5 σ5 H5 k (e1.tr (e14.tr e5)), fun Γ5 B5 σ5 H5 k e5 => d.dnx Γ5 B5 σ5 H5 k (e1.tr (e14.tr e5)),
      fun Γ5 B5 σ5 H5 k5 e5 R5 => ⟨by omega, Γ5, B5, k5, e14.tr e5, R5⟩⟩

/-! ### what is walked -/
theorem awc_of {K : List SV → List PyData → Prop} (h : AWi W wi Γ K) : AWc W wi Γ K := fun c B σ H R r q =>
  h c B σ H R r fun J items B' H' Γ' k e r' hJ => q J items B' H' Γ' k e r' fun _ B2 H2 e2 R2 => hJ B2 H2 e2 R2.bh
theorem itl_at {Kf : PySem.W.Frag} {a : Addr} {xs : List V} {ds : List PyData} {B H : Hp} (h : SqL Kf H a xs) (t : DvA Kf B xs ds) (bh : Xt B H) : ItAt Kf (Itl Kf a) ds B H := by
  refine ⟨⟨xs, h, Nat.le_of_eq t.len⟩, fun i x hx => ?_⟩
  obtain ⟨w, e1, d1⟩ := t.get hx
  refine ⟨⟨xs, w, h, e1⟩, ?_⟩
  rintro v H' ⟨rfl, hv⟩
  have := hv xs h
  rw [e1] at this
  cases this
  exact ⟨B, .rfl' bh, d1⟩
theorem itt_at {Kf : PySem.W.Frag} {a : Addr} {xs : List V} {ds : List PyData} {B H : Hp} (h : SqT Kf H a xs) (t : DvA Kf B xs ds) (bh : Xt B H) : ItAt Kf (Itt Kf a) ds B H := by
  refine ⟨⟨xs, h, Nat.le_of_eq t.len⟩, fun i x hx => ?_⟩
  obtain ⟨w, e1, d1⟩ := t.get hx
  refine ⟨⟨xs, w, h, e1⟩, ?_⟩
  rintro v H' ⟨rfl, hv⟩
  have := hv xs h
  rw [e1] at this
  cases this
  exact ⟨B, .rfl' bh, d1⟩
theorem awi_list (h : AWp W te Γ fun Γ1 x => ∃ ds, x = .list ds ∧ KA Γ1 ds) : AWi W (iList W.K te) Γ KA := fun c B σ H R r q =>
  h c B σ H _ r fun v x B1 H1 Γ1 k e r1 d => by
    obtain ⟨ds, ex, k⟩ := k
    subst ex
    cases d with
    | @lst a xs _ h l t =>
      refine ⟨_, rfl, ⟨_, SqL.of (r1.bh _ _ h)⟩, q _ ds B1 H1 Γ1 k e r1 fun B2 H2 e2 bh => itl_at (SqL.of (bh _ _ (e2 _ _ h))) (t.mono e2) bh⟩
theorem awi_tup (h : AWp W te Γ fun Γ1 x => ∃ ds, x = .tuple ds ∧ KA Γ1 ds) : AWi W (iTup W.K te) Γ KA := fun c B σ H R r q =>
  h c B σ H _ r fun v x B1 H1 Γ1 k e r1 d => by
    obtain ⟨ds, ex, k⟩ := k
    subst ex
    cases d with
    | @tup a xs _ h l t =>
      refine ⟨_, rfl, ⟨_, r1.bh.sqT h⟩, q _ ds B1 H1 Γ1 k e r1 fun B2 H2 e2 bh => itt_at (bh.sqT (e2.sqT h)) (t.mono e2) bh⟩
/-- an own list, within a comprehension -/
theorem awc_own {i : Nat} {ds : List PyData} (hi : Γ[i]? = some (.o (.lst ds))) (k : KA Γ ds) : AWc W (iList W.K (tVar i)) Γ KA := fun c B σ H R r q => by
  obtain ⟨a, u, e, hb, hx, hu, vs, eu, d⟩ := r.sl i _ hi
  subst eu
  refine ⟨_, e, a, rfl, ⟨_, SqL.of hu⟩, q _ ds B H Γ k .rfl' r fun _ B2 H2 e2 r2 => ?_⟩
  obtain ⟨a', u', e', _, _, hu', vs', eu', d'⟩ := r2.sl i _ hi
  subst eu'
  rw [e] at e'
  cases e'
  exact itl_at (SqL.of hu') d' r2.bh
def rangeD (n : Nat) : List PyData := (List.range n).map fun i => PyData.int (i : Nat)
theorem rangeD_get {n i : Nat} {x : PyData} (h : (rangeD n)[i]? = some x) : i < n ∧ x = .int (i : Nat) := by
  unfold rangeD at h
  rw [List.getElem?_map] at h
  by_cases hi : i < n
  · rw [List.getElem?_range hi] at h
    exact ⟨hi, (Option.some.inj h).symm⟩
  · rw [List.getElem?_eq_none (by simpa using hi)] at h
    cases h
theorem rangeD_len {n : Nat} : (rangeD n).length = n := by unfold rangeD; simp
theorem awi_rng (h : AWp W te Γ fun Γ1 x => ∃ n : Nat, x = .int n ∧ n < 1000000 ∧ KA Γ1 (rangeD n)) : AWi W (iRng1 (tCons te tNil)) Γ KA := fun c B σ H R r q =>
  h c B σ H _ r fun v x B1 H1 Γ1 k e r1 d => by
    obtain ⟨n, ex, hn, k⟩ := k
    subst ex
    cases d
    have z1 : (1000000 : Int) < 2 ^ 62 := by decide
    have z2 : -(2 ^ 62 : Int) ≤ 0 := by decide
    refine ⟨n, rfl, by omega, by omega, q _ (rangeD n) B1 H1 Γ1 k e r1 fun B2 H2 e2 bh => ⟨?_, fun i x hx => ?_⟩⟩
    · show (n : Int).toNat ≤ (rangeD n).length
      rw [rangeD_len]; omega
    · obtain ⟨h1, h2⟩ := rangeD_get hx
      refine ⟨show i < (n : Int).toNat by omega, ?_⟩
      rintro v H' ⟨rfl, rfl⟩
      refine ⟨B2, .rfl' bh, ?_⟩
      subst h2
      rw [Int.zero_add]
      exact .int _
def enumD (ds : List PyData) : List PyData := (List.range ds.length).zipWith (fun i d => PyData.tuple [.int (i : Nat), d]) ds
theorem enumD_len {ds : List PyData} : (enumD ds).length = ds.length := by unfold enumD; simp
theorem enumD_get {ds : List PyData} {i : Nat} {x : PyData} (h : (enumD ds)[i]? = some x) : ∃ d, ds[i]? = some d ∧ x = .tuple [.int (i : Nat), d] := by
  unfold enumD at h
  rw [List.getElem?_zipWith] at h
  by_cases hi : i < ds.length
  · rw [List.getElem?_range hi, List.getElem?_eq_getElem hi] at h
    exact ⟨_, List.getElem?_eq_getElem hi, (Option.some.inj h).symm⟩
  · rw [List.getElem?_eq_none (by simpa using hi)] at h
    cases h
theorem enum_dv {Kf : PySem.W.Frag} {B H : Hp} {T : Addr} {i : Nat} {w : V} {d : PyData} (bh : Xt B H) (hT : H T = none) (dw : Dv Kf B w d) : ∃ B', Gr B H B' (upd H T (.tup [.int (i : Nat), w])) ∧ Dv Kf B' (.ref T) (.tuple [.int (i : Nat), d]) := by
  have g : Gr B H (upd B T (.tup [.int (i : Nat), w])) (upd H T (.tup [.int (i : Nat), w])) := .new bh hT
  exact ⟨_, g, .tup (SqT.of upd_same) (by show 2 ≤ sizeLine; decide) (.cons (.int _) (.cons (dw.mono g.b) .nil))⟩
theorem awi_enumL (h : AWp W te Γ fun Γ1 x => ∃ ds, x = .list ds ∧ KA Γ1 (enumD ds)) : AWi W (iEnum W.K (tCons te tNil)) Γ KA := fun c B σ H R r q =>
  h c B σ H _ r fun v x B1 H1 Γ1 k e r1 d => by
    obtain ⟨ds, ex, k⟩ := k
    subst ex
    cases d with
    | @lst a xs _ h l t =>
      refine ⟨a, xs, rfl, SqL.of (r1.bh _ _ h), q _ _ B1 H1 Γ1 k e r1 fun B2 H2 e2 bh => ⟨⟨xs, SqL.of (bh _ _ (e2 _ _ h)), by rw [enumD_len, t.len]; exact Nat.le_refl _⟩, fun i x hx => ?_⟩⟩
      obtain ⟨d0, hd, rfl⟩ := enumD_get hx
      obtain ⟨w, e1, d1⟩ := t.get hd
      refine ⟨⟨xs, w, SqL.of (bh _ _ (e2 _ _ h)), e1⟩, ?_⟩
      rintro v H' ⟨T, w', rfl, hT, rfl, hv⟩
      have := hv xs (SqL.of (bh _ _ (e2 _ _ h)))
      rw [e1] at this
      cases this
      exact enum_dv bh hT (d1.mono e2)
theorem enumT_at {Kf : PySem.W.Frag} {a : Addr} {xs : List V} {ds : List PyData} {B H : Hp} (h : SqT Kf H a xs) (t : DvA Kf B xs ds) (bh : Xt B H) : ItAt Kf (IteT Kf a) (enumD ds) B H := by
  refine ⟨⟨xs, h, by rw [enumD_len, t.len]⟩, fun i x hx => ?_⟩
  obtain ⟨d0, hd, rfl⟩ := enumD_get hx
  obtain ⟨w, e1, d1⟩ := t.get hd
  refine ⟨⟨xs, w, h, e1⟩, ?_⟩
  rintro v H' ⟨T, w', rfl, hT, rfl, hv⟩
  have := hv xs h
  rw [e1] at this
  cases this
  exact enum_dv bh hT d1
theorem awi_enumT (h : AWp W te Γ fun Γ1 x => ∃ ds, (x = .tuple ds ∨ x = ptD ds) ∧ KA Γ1 (enumD ds)) : AWi W (iEnumT W.K (tCons te tNil)) Γ KA := fun c B σ H R r q =>
  h c B σ H _ r fun v x B1 H1 Γ1 k e r1 d => by
    obtain ⟨ds, ex, k⟩ := k
    have d' : Dv W.K B1 v (.tuple ds) := by
      rcases ex with rfl | rfl
      · exact d
      · exact d.unpt
    cases d' with
    | @tup a xs _ h l t =>
      exact ⟨a, xs, rfl, r1.bh.sqT h, q _ _ B1 H1 Γ1 k e r1 fun B2 H2 e2 bh => enumT_at (bh.sqT (e2.sqT h)) (t.mono e2) bh⟩

/-! ### comprehensions -/
def wipeA (Γ : List SV) : List Nat → List SV
  | [] => Γ
  | v :: vs => (wipeA Γ vs).set v .un
theorem Rp.wipe {c : Cf} {B : Hp} {σ : L2.St} {H : Hp} (R : Rp W c B Γ σ H) : ∀ vs : List Nat, Rp W c B (wipeA Γ vs) (wipe σ vs) H
  | [] => R
  | v :: vs => (Rp.wipe R vs).set rfl fun m e => nomatch e
theorem wipe_set {σ : L2.St} {i : Nat} {v : Option V} : ∀ {vs : List Nat}, i ∈ vs → wipe ((wipe σ vs).set i v) vs = wipe σ vs := by
  have key : ∀ (τ : L2.St) (vs : List Nat) (j : Nat), (wipe τ vs)[j]? = if j ∈ vs then (if j < τ.length then some none else none) else τ[j]? := by
    intro τ vs
    induction vs with
    | nil => intro j; simp [wipe]
    | cons w vs ih =>
      intro j
      unfold wipe
      by_cases hj : w = j
      · subst hj
        by_cases hl : w < τ.length
        · rw [List.getElem?_set_self (by rw [wipe_length]; exact hl)]
          simp [hl]
        · rw [List.getElem?_eq_none (by simpa [wipe_length] using hl)]
          simp [hl]
      · rw [List.getElem?_set_ne hj, ih j]
        have : (j ∈ w :: vs) ↔ j ∈ vs := by simp [Ne.symm hj]
        simp only [this]
  intro vs hi
  refine List.ext_getElem? fun j => ?_
  rw [key, key]
  by_cases hj : j ∈ vs
  · simp [hj, wipe_length]
  · rw [if_neg hj, if_neg hj]
    have : i ≠ j := fun e => hj (e ▸ hi)
    rw [List.getElem?_set_ne this, key, if_neg hj]
/-! ### an object laid by the way: it counts as the caller's -/
abbrev cT (c : Cf) (L : Addr) (u : HO) : Cf := ⟨upd c.X0 L u, c.B0⟩
section
variable {c : Cf} {B : Hp} {σ : L2.St} {H : Hp} {L : Addr} {u u' : HO}
theorem Rp.temp (R : Rp W c B Γ σ H) (n : H L = none) : Rp W (cT c L u) B Γ σ (upd H L u) := by
  have bn : B L = none := R.bh.none n
  have b0 : c.B0 L = none := R.nb.none bn
  refine ⟨R.x0.both, R.bh.tr (.new n), R.nb, fun a o z => ?_, R.tb, R.len, fun j s ej => ?_, R.ne⟩
  · by_cases ha : a = L
    · subst ha; rw [bn]; exact b0.symm
    · exact R.nw a o ((upd_ne ha).symm.trans z)
  · have hs := R.sl j s ej
    cases s with
    | un => exact hs
    | any => exact hs
    | d x => exact hs
    | o mo =>
      obtain ⟨a, w, z1, z2, z3, z4, z5⟩ := hs
      have ha : a ≠ L := fun z => by subst z; rw [n] at z4; cases z4
      exact ⟨a, w, z1, z2, (upd_ne ha).trans z3, (upd_ne ha).trans z4, z5⟩
theorem Rp.tempB (R : Rp W (cT c L u) B Γ σ H) (b0 : c.B0 L = none) : B L = none := (R.nw L u upd_same).trans b0
theorem Rp.tempH (R : Rp W (cT c L u) B Γ σ H) : H L = some u := R.x0 L u upd_same
theorem Rp.tempW (R : Rp W (cT c L u) B Γ σ H) (b0 : c.B0 L = none) : Rp W (cT c L u') B Γ σ (upd H L u') := by
  have bn := R.tempB b0
  refine ⟨fun a o z => ?_, fun a o z => ?_, R.nb, fun a o z => ?_, R.tb, R.len, fun j s ej => ?_, R.ne⟩
  · by_cases ha : a = L
    · subst ha; rw [upd_same]; exact upd_same.symm.trans z
    · rw [upd_ne ha]; exact R.x0 a o ((upd_ne ha).trans ((upd_ne ha).symm.trans z))
  · have ha : a ≠ L := fun q => by subst q; rw [bn] at z; cases z
    rw [upd_ne ha]; exact R.bh a o z
  · by_cases ha : a = L
    · subst ha; exact bn.trans b0.symm
    · exact R.nw a o ((upd_ne ha).trans ((upd_ne ha).symm.trans z))
  · have hs := R.sl j s ej
    cases s with
    | un => exact hs
    | any => exact hs
    | d x => exact hs
    | o mo =>
      obtain ⟨a, w, z1, z2, z3, z4, z5⟩ := hs
      have ha : a ≠ L := fun z => by subst z; rw [show (cT c a u).X0 a = some u from upd_same] at z3; cases z3
      exact ⟨a, w, z1, z2, (upd_ne ha).trans ((upd_ne ha).symm.trans z3), (upd_ne ha).trans z4, z5⟩
theorem Rp.tempD (R : Rp W (cT c L u) B Γ σ H) (b0 : c.B0 L = none) (x0 : c.X0 L = none) : Rp W c (upd B L u) Γ σ H := by
  have bn := R.tempB b0
  have e : Xt B (upd B L u) := .new bn
  refine ⟨fun a o z => ?_, fun a o z => ?_, R.nb.tr e, fun a o z => ?_, fun P hP => e _ _ (R.tb P hP), R.len, fun j s ej => ?_, R.ne⟩
  · have ha : a ≠ L := fun q => by subst q; rw [x0] at z; cases z
    exact R.x0 a o ((upd_ne ha).trans z)
  · by_cases ha : a = L
    · subst ha; rw [upd_same] at z; cases z; exact R.tempH
    · rw [upd_ne ha] at z; exact R.bh a o z
  · have ha : a ≠ L := fun q => by subst q; rw [x0] at z; cases z
    rw [upd_ne ha]
    exact R.nw a o ((upd_ne ha).trans z)
  · have hs := R.sl j s ej
    cases s with
    | un => exact hs
    | any => exact hs
    | d x => obtain ⟨v, z1, z2⟩ := hs; exact ⟨v, z1, z2.mono e⟩
    | o mo =>
      obtain ⟨a, w, z1, z2, z3, z4, z5⟩ := hs
      have ha : a ≠ L := fun z => by subst z; rw [show (cT c a u).X0 a = some u from upd_same] at z3; cases z3
      exact ⟨a, w, z1, (upd_ne ha).trans z2, (upd_ne ha).symm.trans z3, z4, z5.mono e⟩
theorem Rp.tempX (R : Rp W (cT c L u) B Γ σ H) (x0 : c.X0 L = none) : Rp W c B Γ σ H := R.weaken (.new x0) rfl
/-- it becomes an own object of one more slot -/
theorem Rp.tempO {m : MO} (R : Rp W (cT c L u) B Γ σ H) (b0 : c.B0 L = none) (x0 : c.X0 L = none) (h : MOk W.K B L u m) : Rp W c B (Γ ++ [.o m]) (σ ++ [some (.ref L)]) H := by
  have R' := R.tempX x0
  have hl := R.len
  refine ⟨R'.x0, R'.bh, R'.nb, R'.nw, R'.tb, by simp [hl], fun j s ej => ?_, fun j k m1 m2 a e1 e2 e3 e4 => ?_⟩
  · by_cases hj : j < Γ.length
    · rw [List.getElem?_append_left hj] at ej
      rw [List.getElem?_append_left (hl ▸ hj)]
      exact R'.sl j s ej
    · by_cases hj2 : j = Γ.length
      · subst hj2
        rw [List.getElem?_append_right (Nat.le_refl _), Nat.sub_self] at ej
        rw [List.getElem?_append_right (Nat.le_of_eq hl), hl, Nat.sub_self]
        cases ej
        exact ⟨L, u, rfl, R.tempB b0, x0, R.tempH, h⟩
      · rw [List.getElem?_eq_none (by simp; omega)] at ej
        cases ej
  · have last : ∀ {j : Nat} {m1 : MO}, (Γ ++ [SV.o m])[j]? = some (.o m1) → (σ ++ [some (V.ref L)])[j]? = some (some (.ref a)) → (j = Γ.length ∧ a = L) ∨ (Γ[j]? = some (.o m1) ∧ σ[j]? = some (some (.ref a)) ∧ a ≠ L) := fun {j m1} f1 f3 => by
      by_cases hj : j < Γ.length
      · rw [List.getElem?_append_left hj] at f1
        rw [List.getElem?_append_left (hl ▸ hj)] at f3
        obtain ⟨a', w, z1, z2, z3, z4, z5⟩ := R.sl j _ f1
        rw [f3] at z1
        cases z1
        exact .inr ⟨f1, f3, fun z => by subst z; rw [show (cT c a u).X0 a = some u from upd_same] at z3; cases z3⟩
      · by_cases hj2 : j = Γ.length
        · subst hj2
          rw [List.getElem?_append_right (Nat.le_of_eq hl), hl, Nat.sub_self] at f3
          cases f3
          exact .inl ⟨rfl, rfl⟩
        · rw [List.getElem?_eq_none (by simp; omega)] at f1
          cases f1
    rcases last e1 e3 with ⟨h1, h2⟩ | ⟨h1, h2, h3⟩ <;> rcases last e2 e4 with ⟨g1, g2⟩ | ⟨g1, g2, g3⟩
    · omega
    · exact absurd h2 g3
    · exact absurd g2 h3
    · exact R'.ne j k m1 m2 a h1 g1 h2 g2
end
def noOwn (Γ : List SV) (vs : List Nat) : Bool := vs.all fun j => ((Γ[j]?).map SV.no).getD true
theorem noOwn_of {vs : List Nat} (h : noOwn Γ vs = true) {j : Nat} (hj : j ∈ vs) {m : MO} : Γ[j]? ≠ some (.o m) := fun e => by
  have h1 := List.all_eq_true.mp h j hj
  rw [e] at h1
  cases h1
theorem wipeA_out {vs : List Nat} : ∀ {j : Nat}, j ∉ vs → (wipeA Γ vs)[j]? = Γ[j]? := by
  induction vs with
  | nil => intro j _; rfl
  | cons v vs ih =>
    intro j hj
    unfold wipeA
    rw [List.getElem?_set_ne (fun e => hj (by rw [e]; exact List.mem_cons_self ..)), ih fun h => hj (List.mem_cons_of_mem _ h)]
theorem wipe_out' {σ : L2.St} {vs : List Nat} : ∀ {j : Nat}, j ∉ vs → (wipe σ vs)[j]? = σ[j]? := by
  induction vs with
  | nil => intro j _; rfl
  | cons v vs ih =>
    intro j hj
    unfold wipe
    rw [List.getElem?_set_ne (fun e => hj (by rw [e]; exact List.mem_cons_self ..)), ih fun h => hj (List.mem_cons_of_mem _ h)]
/-- behind a block: the outer state is as it was -/
theorem Rp.unwipe {c c' : Cf} {B B' : Hp} {σ σ' : L2.St} {H H' : Hp} {Γ' : List SV} {vs : List Nat} (R : Rp W c B Γ σ H) (R' : Rp W c' B' Γ' σ' H') (e : Xt B B') (hv : noOwn Γ vs = true)
    (hΓ : ∀ j, j ∉ vs → Γ'[j]? = Γ[j]?) (hσ : ∀ j, j ∉ vs → σ'[j]? = σ[j]?) : Rp W c' B' Γ σ H' := by
  have own : ∀ {j : Nat} {m : MO}, Γ[j]? = some (.o m) → j ∉ vs := fun {j m} h z => noOwn_of hv z h
  refine ⟨R'.x0, R'.bh, R'.nb, R'.nw, R'.tb, R.len, fun j s ej => ?_, fun j k m m' a e1 e2 e3 e4 => R.ne j k m m' a e1 e2 e3 e4⟩
  have hs := R.sl j s ej
  cases s with
  | un => exact hs
  | any => exact hs
  | d x => obtain ⟨v, z1, z2⟩ := hs; exact ⟨v, z1, z2.mono e⟩
  | o m =>
    have hj := own ej
    have h1 := R'.sl j _ ((hΓ j hj).trans ej)
    rw [hσ j hj] at h1
    exact h1
theorem awp_lc {te : TE} {i : Nat} {vs : List Nat} (hi : i ∈ vs)
    (h : AWc W wi Γ fun Γ1 items => items.length ≤ 1000000 ∧ noOwn Γ1 vs = true ∧ ∃ I : Nat → List PyData → Prop, I 0 [] ∧ (∀ n acc x, items[n]? = some x → acc.length ≤ n → I n acc → AWt W tt ((wipeA Γ1 vs).set i (.d x)) fun Γ2 b => Γ2 = (wipeA Γ1 vs).set i (.d x) ∧
        if b = true then AWp W te ((wipeA Γ1 vs).set i (.d x)) fun Γ3 y => Γ3 = (wipeA Γ1 vs).set i (.d x) ∧ I (n + 1) (acc ++ [y]) else I (n + 1) acc) ∧
      ∀ ys, ys.length ≤ items.length → I items.length ys → K Γ1 (.list ys)) : AWp W (tLc wi (gName i) tt te vs) Γ K := fun c B σ H Q R q => by
  refine h c B σ H _ R fun J items B1 H1 Γ1 k1 e1 R1 hJ L nL => ?_
  obtain ⟨hl, hv, I, h0, step, fin⟩ := k1
  have b0 : c.B0 L = none := R1.nb.none (R1.bh.none nL)
  have x0 : c.X0 L = none := R1.x0.none nL
  refine ⟨fun n m H => n + m = items.length ∧ ∃ B2 acc us, I n acc ∧ acc.length ≤ n ∧ Xt B1 B2 ∧ Rp W (cT c L (.lst us)) B2 Γ1 σ H ∧ DvA W.K B2 us acc, ⟨items.length, Nat.zero_add _, B1, [], [], h0, Nat.le_refl _, .rfl', R1.temp nL, .nil⟩, ?_⟩
  rintro n m H2 ⟨hm, B2, acc, us, i2, la, e2, R2, d2⟩
  obtain ⟨hs, hg⟩ := hJ _ B2 H2 e2 R2
  have ul : us.length = acc.length := d2.len
  have big : (1000000 : Nat) < sizeLine := by decide
  cases m with
  | zero =>
    have hn : n = items.length := by omega
    subst hn
    have bn := R2.tempB b0
    refine .inl ⟨hs, q (.ref L) (.list acc) (upd B2 L (.lst us)) H2 Γ1 (fin acc la i2) (e1.tr (e2.tr (.new bn))) (R2.tempD b0 x0) (.lst upd_same (by omega) (d2.mono (.new bn)))⟩
  | succ m =>
    have hn : n < items.length := by omega
    obtain ⟨go, yl⟩ := hg n _ (List.getElem?_eq_getElem hn)
    refine .inr ⟨go, fun H' => n + 1 + m = items.length ∧ ∃ B2 acc us, I (n + 1) acc ∧ acc.length ≤ n + 1 ∧ Xt B1 B2 ∧ Rp W (cT c L (.lst us)) B2 Γ1 σ H' ∧ DvA W.K B2 us acc, fun H' hn => ⟨m, Nat.lt_succ_self m, hn⟩, fun v H3 y3 => ?_⟩
    obtain ⟨B3, g3, d3⟩ := yl v H3 y3
    have R3 := R2.grow g3
    have Rx : Rp W (cT c L (.lst us)) B3 ((wipeA Γ1 vs).set i (.d items[n])) ((wipe σ vs).set i (some v)) H3 := (R3.wipe vs).setD d3
    refine ⟨wipe_set hi, ?_⟩
    have outΓ : ∀ j, j ∉ vs → ((wipeA Γ1 vs).set i (SV.d items[n]))[j]? = Γ1[j]? := fun j hj => by
      rw [List.getElem?_set_ne (fun (e : i = j) => hj (e ▸ hi)), wipeA_out hj]
    have outσ : ∀ j, j ∉ vs → ((wipe σ vs).set i (some v))[j]? = σ[j]? := fun j hj => by
      rw [List.getElem?_set_ne (fun (e : i = j) => hj (e ▸ hi)), wipe_out' hj]
    refine step n acc _ (List.getElem?_eq_getElem hn) la i2 _ B3 _ H3 _ Rx fun b B4 H4 Γ4 k4 e4 R4 => ?_
    obtain ⟨hΓ4, k4⟩ := k4
    subst hΓ4
    cases b with
    | false =>
      rw [if_neg Bool.false_ne_true] at k4 ⊢
      exact ⟨by omega, B4, acc, us, k4, by omega, e2.tr (g3.b.tr e4), R3.unwipe R4 e4 hv outΓ outσ, d2.mono (g3.b.tr e4)⟩
    | true =>
      rw [if_pos rfl] at k4 ⊢
      refine k4 _ B4 _ H4 _ R4 fun w y B5 H5 Γ5 k5 e5 R5 d5 => ?_
      obtain ⟨hΓ5, k5⟩ := k5
      subst hΓ5
      have R5' := R3.unwipe R5 (e4.tr e5) hv outΓ outσ
      refine ⟨us, R5'.tempH, by omega, by omega, B5, acc ++ [y], us ++ [w], k5, by simp; omega, e2.tr (g3.b.tr (e4.tr e5)), R5'.tempW b0, (d2.mono (g3.b.tr (e4.tr e5))).snoc d5⟩

/-! ### all(..) of a generator expression -/
theorem awp_all {P : Addr} {te : TE} {i : Nat} {vs : List Nat} (hi : i ∈ vs) (hP : P ∈ W.T)
    (h : AWc W wi Γ fun Γ1 items => noOwn Γ1 vs = true ∧ ∃ p : PyData → Bool, (∀ (n : Nat) (x : PyData), items[n]? = some x → AWp W te ((wipeA Γ1 vs).set i (.d x)) fun Γ3 y => Γ3 = (wipeA Γ1 vs).set i (.d x) ∧ y = .bool (p x)) ∧ K Γ1 (.bool (items.all p))) :
    AWp W (tAllG P wi (gName i) te vs) Γ K := fun c B σ H Q R q => by
  refine h c B σ H _ R fun J items B1 H1 Γ1 k1 e1 R1 hJ => ?_
  obtain ⟨hv, p, step, fin⟩ := k1
  refine ⟨R1.bh _ _ (R1.tb P hP), fun n m H => n + m = items.length ∧ (∀ (j : Nat) (x : PyData), j < n → items[j]? = some x → p x = true) ∧ ∃ B2, Xt B1 B2 ∧ Rp W c B2 Γ1 σ H, ⟨items.length, Nat.zero_add _, fun j x hj => absurd hj (Nat.not_lt_zero _), B1, .rfl', R1⟩, ?_⟩
  rintro n m H2 ⟨hm, hp, B2, e2, R2⟩
  obtain ⟨hs, hg⟩ := hJ _ B2 H2 e2 R2
  cases m with
  | zero =>
    have hn : n = items.length := by omega
    subst hn
    have ea : items.all p = true := List.all_eq_true.mpr fun x hx => by
      obtain ⟨j, hj, ej⟩ := List.mem_iff_getElem.mp hx
      exact hp j x hj (by rw [List.getElem?_eq_getElem hj, ej])
    rw [ea] at fin
    exact .inl ⟨hs, q _ _ B2 H2 Γ1 fin (e1.tr e2) R2 (.bl true)⟩
  | succ m =>
    have hn : n < items.length := by omega
    obtain ⟨go, yl⟩ := hg n _ (List.getElem?_eq_getElem hn)
    refine .inr ⟨m, rfl, go, fun v H3 y3 => ?_⟩
    obtain ⟨B3, g3, d3⟩ := yl v H3 y3
    have R3 := R2.grow g3
    have Rx : Rp W c B3 ((wipeA Γ1 vs).set i (.d items[n])) ((wipe σ vs).set i (some v)) H3 := (R3.wipe vs).setD d3
    have outΓ : ∀ j, j ∉ vs → ((wipeA Γ1 vs).set i (SV.d items[n]))[j]? = Γ1[j]? := fun j hj => by
      rw [List.getElem?_set_ne (fun (e : i = j) => hj (e ▸ hi)), wipeA_out hj]
    have outσ : ∀ j, j ∉ vs → ((wipe σ vs).set i (some v))[j]? = σ[j]? := fun j hj => by
      rw [List.getElem?_set_ne (fun (e : i = j) => hj (e ▸ hi)), wipe_out' hj]
    refine ⟨⟨by rw [List.length_set], fun j w ej => ?_⟩, ?_⟩
    · obtain ⟨ej', hj⟩ := wipe_some ej
      exact (outσ j hj).trans ej'
    refine step n _ (List.getElem?_eq_getElem hn) c B3 _ H3 _ Rx fun w y B4 H4 Γ4 k4 e4 R4 d4 => ?_
    obtain ⟨hΓ4, hy⟩ := k4
    subst hΓ4 hy
    cases d4
    have R4' := R3.unwipe R4 e4 hv outΓ outσ
    refine ⟨_, rfl, fun hb => ⟨by omega, fun j x hj ej => ?_, B4, e2.tr (g3.b.tr e4), R4'⟩, fun hb => ?_⟩
    · by_cases hjn : j = n
      · subst hjn
        rw [List.getElem?_eq_getElem hn] at ej
        cases ej
        exact hb
      · exact hp j x (by omega) ej
    · have ea : items.all p = false := Bool.eq_false_iff.mpr fun z => by
        have := List.all_eq_true.mp z _ (List.getElem_mem hn)
        rw [hb] at this
        cases this
      rw [ea] at fin
      exact q _ _ B4 H4 Γ1 fin (e1.tr (e2.tr (g3.b.tr e4))) R4' (.bl false)
end
end TW
end

section
set_option Elab.async false
set_option linter.all false
set_option maxRecDepth 100000
set_option maxHeartbeats 4000000
/-! Readings by abstract states: own objects, dicts, several targets, a def's promise. -/
namespace TW
open PySem PySem.Spec PyProof.Rows L2

section
variable {W : Wd} {Γ : List SV} {nx bk ct : List SV → Prop} {rt : List SV → PyData → Prop} {K : List SV → PyData → Prop} {ta tb tc te tk tv : TE} {tr : TA} {t u : TS} {tt : TT} {KA : List SV → List PyData → Prop} {wi wi1 : TI} {g : TG} {gs : TGs} {KG : List SV → Prop}

theorem wipeA_in {vs : List Nat} : ∀ {j : Nat} {s : SV}, j ∈ vs → (wipeA Γ vs)[j]? = some s → s = .un := by
  induction vs with
  | nil => intro j s h; cases h
  | cons v vs ih =>
    intro j s hj e
    unfold wipeA at e
    by_cases h : v = j
    · subst h
      have hl : v < (wipeA Γ vs).length := by
        have := (List.getElem?_eq_some_iff.mp e).1
        simpa using this
      rw [List.getElem?_set_self hl] at e
      exact (Option.some.inj e).symm
    · rw [List.getElem?_set_ne h] at e
      exact ih ((List.mem_cons.mp hj).resolve_left (Ne.symm h)) e
theorem noOwn_wiped {vs : List Nat} {i j : Nat} {x : PyData} (hi : i ∈ vs) (hj : j ∈ vs) (hij : j ≠ i) : noOwn ((wipeA Γ vs).set i (.d x)) [j] = true := by
  unfold noOwn
  simp only [List.all_cons, List.all_nil, Bool.and_true]
  rw [List.getElem?_set_ne (Ne.symm hij)]
  cases e : (wipeA Γ vs)[j]? with
  | none => rfl
  | some s => rw [wipeA_in hj e]; rfl
/-! ### all(..), two clauses -/
theorem awp_all2 {P : Addr} {i j : Nat} {vs : List Nat} (hi : i ∈ vs) (hj0 : j ∈ vs) (hij : j ≠ i) (hP : P ∈ W.T)
    (h : AWc W wi Γ fun Γ1 items => noOwn Γ1 vs = true ∧ ∃ (p : PyData → PyData → Bool) (itms : List PyData), (∀ (n : Nat) (x : PyData), items[n]? = some x → AWi W wi1 ((wipeA Γ1 vs).set i (.d x)) fun Γ2 items1 => Γ2 = (wipeA Γ1 vs).set i (.d x) ∧ items1 = itms ∧
        ∀ (n1 : Nat) (x1 : PyData), itms[n1]? = some x1 → AWp W te (((wipeA Γ1 vs).set i (.d x)).set j (.d x1)) fun Γ3 y => Γ3 = ((wipeA Γ1 vs).set i (.d x)).set j (.d x1) ∧ y = .bool (p x x1)) ∧
      K Γ1 (.bool (items.all fun x => itms.all fun x1 => p x x1))) :
    AWp W (tAllG2 P wi (gName i) wi1 (gName j) te vs) Γ K := fun c B σ H Q R q => by
  refine h c B σ H _ R fun J items B1 H1 Γ1 k1 e1 R1 hJ => ?_
  obtain ⟨hv, p, itms, step, fin⟩ := k1
  refine ⟨R1.bh _ _ (R1.tb P hP), fun n k m H => n + k = items.length ∧ m = k * itms.length ∧ (∀ (j : Nat) (x : PyData), j < n → items[j]? = some x → (itms.all fun x1 => p x x1) = true) ∧ ∃ B2, Xt B1 B2 ∧ Rp W c B2 Γ1 σ H, ⟨items.length, _, Nat.zero_add _, rfl, fun j x hj => absurd hj (Nat.not_lt_zero _), B1, .rfl', R1⟩, ?_⟩
  rintro n k m H2 ⟨hm, hk, hp, B2, e2, R2⟩
  obtain ⟨hs, hg⟩ := hJ _ B2 H2 e2 R2
  cases k with
  | zero =>
    have hn : n = items.length := by omega
    subst hn
    have ea : (items.all fun x => itms.all fun x1 => p x x1) = true := List.all_eq_true.mpr fun x hx => by
      obtain ⟨j, hj, ej⟩ := List.mem_iff_getElem.mp hx
      exact hp j x hj (by rw [List.getElem?_eq_getElem hj, ej])
    rw [ea] at fin
    exact .inl ⟨hs, q _ _ B2 H2 Γ1 fin (e1.tr e2) R2 (.bl true)⟩
  | succ k =>
    have hn : n < items.length := by omega
    obtain ⟨go, yl⟩ := hg n _ (List.getElem?_eq_getElem hn)
    refine .inr ⟨k, rfl, go, fun v H3 y3 => ?_⟩
    obtain ⟨B3, g3, d3⟩ := yl v H3 y3
    have R3 := R2.grow g3
    have Rx : Rp W c B3 ((wipeA Γ1 vs).set i (.d items[n])) ((wipe σ vs).set i (some v)) H3 := (R3.wipe vs).setD d3
    have outΓ : ∀ j, j ∉ vs → ((wipeA Γ1 vs).set i (SV.d items[n]))[j]? = Γ1[j]? := fun j hj => by
      rw [List.getElem?_set_ne (fun (e : i = j) => hj (e ▸ hi)), wipeA_out hj]
    have outσ : ∀ j, j ∉ vs → ((wipe σ vs).set i (some v))[j]? = σ[j]? := fun j hj => by
      rw [List.getElem?_set_ne (fun (e : i = j) => hj (e ▸ hi)), wipe_out' hj]
    refine ⟨⟨by rw [List.length_set], fun j w ej => ?_⟩, ?_⟩
    · obtain ⟨ej', hj⟩ := wipe_some ej
      exact (outσ j hj).trans ej'
    refine step n _ (List.getElem?_eq_getElem hn) c B3 _ H3 _ Rx fun J1 items1 B4 H4 Γ4 k4 e4 R4 hJ1 => ?_
    obtain ⟨hΓ4, hi1, step1⟩ := k4
    subst hΓ4 hi1
    refine ⟨fun n1 m1 H => n1 + (m1 - k * items1.length) = items1.length ∧ k * items1.length ≤ m1 ∧ (∀ (j : Nat) (x : PyData), j < n1 → items1[j]? = some x → p items[n] x = true) ∧ ∃ B5, Xt B4 B5 ∧ Rp W c B5 ((wipeA Γ1 vs).set i (.d items[n])) ((wipe σ vs).set i (some v)) H, ⟨?_, ?_, fun j x hj => absurd hj (Nat.not_lt_zero _), B4, .rfl', R4⟩, ?_⟩
    · rw [hk, Nat.succ_mul]; omega
    · rw [hk, Nat.succ_mul]; omega
    rintro n1 m1 H5 ⟨hm1, hle, hp1, B5, e5, R5⟩
    obtain ⟨hs1, hg1⟩ := hJ1 B5 H5 e5 R5.bh
    by_cases hn1 : n1 < items1.length
    · obtain ⟨go1, yl1⟩ := hg1 n1 _ (List.getElem?_eq_getElem hn1)
      refine .inr ⟨m1 - 1, by omega, go1, fun v1 H6 y6 => ?_⟩
      obtain ⟨B6, g6, d6⟩ := yl1 v1 H6 y6
      have R6 := R5.grow g6
      have Rx6 := R6.setD (i := j) d6
      have outΓ1 : ∀ l, l ∉ vs → (((wipeA Γ1 vs).set i (SV.d items[n])).set j (SV.d items1[n1]))[l]? = Γ1[l]? := fun l hl => by
        rw [List.getElem?_set_ne (fun (e : j = l) => hl (e ▸ hj0)), outΓ l hl]
      have outσ1 : ∀ l, l ∉ vs → (((wipe σ vs).set i (some v)).set j (some v1))[l]? = σ[l]? := fun l hl => by
        rw [List.getElem?_set_ne (fun (e : j = l) => hl (e ▸ hj0)), outσ l hl]
      refine ⟨⟨by rw [List.length_set], fun l w el => ?_⟩, ?_⟩
      · by_cases hl : j = l
        · subst hl
          rw [List.getElem?_set_ne (Ne.symm hij)] at el
          exact absurd hj0 (wipe_some el).2
        · rw [List.getElem?_set_ne hl]; exact el
      refine step1 n1 _ (List.getElem?_eq_getElem hn1) c B6 _ H6 _ Rx6 fun w y B7 H7 Γ7 k7 e7 R7 d7 => ?_
      obtain ⟨hΓ7, hy⟩ := k7
      subst hΓ7 hy
      cases d7
      refine ⟨_, rfl, fun hb => ⟨by omega, by omega, fun l x hl el => ?_, B7, e5.tr (g6.b.tr e7), ?_⟩, fun hb => ?_⟩
      · by_cases hjn : l = n1
        · subst hjn
          rw [List.getElem?_eq_getElem hn1] at el
          cases el
          exact hb
        · exact hp1 l x (by omega) el
      · exact R5.unwipe (vs := [j]) R7 (g6.b.tr e7) (noOwn_wiped hi hj0 hij) (fun l hl => by rw [List.getElem?_set_ne (fun (e : j = l) => hl (e ▸ List.mem_cons_self ..))]) (fun l hl => by rw [List.getElem?_set_ne (fun (e : j = l) => hl (e ▸ List.mem_cons_self ..))])
      · have ea : (items.all fun x => items1.all fun x1 => p x x1) = false := Bool.eq_false_iff.mpr fun z => by
          have h1 := List.all_eq_true.mp z _ (List.getElem_mem hn)
          have h2 := List.all_eq_true.mp h1 _ (List.getElem_mem hn1)
          rw [hb] at h2
          cases h2
        rw [ea] at fin
        exact q _ _ B7 H7 Γ1 fin (e1.tr (e2.tr (g3.b.tr (e4.tr (e5.tr (g6.b.tr e7)))))) (R3.unwipe R7 (e4.tr (e5.tr (g6.b.tr e7))) hv outΓ1 outσ1) (.bl false)
    · have hn1' : n1 = items1.length := by omega
      subst hn1'
      refine .inl ⟨hs1, by omega, by omega, fun l x hl el => ?_, B5, e2.tr (g3.b.tr (e4.tr e5)), R3.unwipe R5 (e4.tr e5) hv outΓ outσ⟩
      by_cases hjn : l = n
      · subst hjn
        rw [List.getElem?_eq_getElem hn] at el
        cases el
        exact List.all_eq_true.mpr fun x1 hx1 => by
          obtain ⟨j2, hj2, ej2⟩ := List.mem_iff_getElem.mp hx1
          exact hp1 j2 x1 hj2 (by rw [List.getElem?_eq_getElem hj2, ej2])
      · exact hp l x (by omega) el

/-! ### own lists, own dicts -/
theorem ast_append {i : Nat} {xs0 : List PyData} (hi : Γ[i]? = some (.o (.lst xs0))) (h : AWp W te Γ fun Γ1 y => ∃ xs, Γ1[i]? = some (.o (.lst xs)) ∧ xs.length < 1000000 ∧ nx (Γ1.set i (.o (.lst (xs ++ [y]))))) :
    ASt W (tDrop (tBM W.K "list" rAppend (tVar i) (tCons te tNil))) Γ nx rt bk ct := fun c B σ H D R d => by
  obtain ⟨a, u, e, hb, hx, hu, vs0, eu, d0⟩ := R.sl i _ hi
  subst eu
  refine ⟨.ref a, e, .inl ⟨rfl, _, SqL.of hu⟩, h c B σ H _ R fun v y B1 H1 Γ1 k1 e1 R1 d1 => ?_⟩
  obtain ⟨xs, hi1, hl, k1⟩ := k1
  obtain ⟨a', u', e', hb', hx', hu', vs, eu', d2⟩ := R1.sl i _ hi1
  subst eu'
  rw [e] at e'
  cases e'
  have big : (1000000 : Nat) < sizeLine := by decide
  refine ⟨a, vs, v, rfl, rfl, hu', by rw [d2.len]; omega, ?_⟩
  exact d.dnx _ B1 σ _ k1 e1 (R1.write (m' := .lst (xs ++ [y])) hi1 e ⟨_, rfl, d2.snoc d1⟩)
theorem seqIx_nat {n k : Nat} (h : n < k) : seqIndex? (n : Int) k = some n := by
  rw [seqIndex_of (by omega) (by omega)]
  simp
theorem awp_pop {i : Nat} {xs0 : List PyData} (hi : Γ[i]? = some (.o (.lst xs0))) (h : AWp W te Γ fun Γ1 k => ∃ (n : Nat) (xs : List PyData) (y : PyData), k = .int n ∧ n < 1000000 ∧ Γ1[i]? = some (.o (.lst xs)) ∧ xs[n]? = some y ∧ K (Γ1.set i (.o (.lst (xs.eraseIdx n)))) y) :
    AWp W (tBM W.K "list" rPopAt (tVar i) (tCons te tNil)) Γ K := fun c B σ H Q R q => by
  obtain ⟨a, u, e, hb, hx, hu, vs0, eu, d0⟩ := R.sl i _ hi
  subst eu
  refine ⟨.ref a, e, .inl ⟨rfl, _, SqL.of hu⟩, h c B σ H _ R fun v y0 B1 H1 Γ1 k1 e1 R1 d1 => ?_⟩
  obtain ⟨n, xs, y, rfl, hn, hi1, hy, k1⟩ := k1
  cases d1
  obtain ⟨a', u', e', hb', hx', hu', vs, eu', d2⟩ := R1.sl i _ hi1
  subst eu'
  rw [e] at e'
  cases e'
  obtain ⟨w, hw, dw⟩ := d2.get hy
  have hlt : n < vs.length := (List.getElem?_eq_some_iff.mp hw).1
  have z1 : (1000000 : Int) < 2 ^ 63 := by decide
  have z2 : -(2 ^ 63 : Int) ≤ 0 := by decide
  refine ⟨a, vs, n, n, w, rfl, rfl, hu', by omega, by omega, seqIx_nat hlt, hw, ?_⟩
  exact q w y B1 _ _ k1 e1 (R1.write (m' := .lst (xs.eraseIdx n)) hi1 e ⟨_, rfl, d2.erase n⟩) dw

/-! dicts by their keys -/
def kget {κ : Type} [DecidableEq κ] : List (κ × PyData) → κ → Option PyData
  | [], _ => none
  | (k, v) :: r, x => if k = x then some v else kget r x
theorem kget_rel {κ : Type} [DecidableEq κ] {μ : Type} [DecidableEq μ] {f : κ → μ} (hf : ∀ x y, f x = f y → x = y) {Kf : PySem.W.Frag} {B : Hp} {n : κ} : ∀ {us : List (μ × V)} {kvs : List (κ × PyData)}, Paired (fun (p : μ × V) (q : κ × PyData) => p.1 = f q.1 ∧ Dv Kf B p.2 q.2) us kvs →
    (∃ v x, valV us (f n) = some v ∧ kget kvs n = some x ∧ Dv Kf B v x) ∨ (valV us (f n) = none ∧ kget kvs n = none)
  | _, _, .nil => .inr ⟨rfl, rfl⟩
  | (k1, v1) :: us, (k2, v2) :: kvs, .cons h t => by
    obtain ⟨e1, d1⟩ := h
    have e1' : k1 = f k2 := e1
    subst e1'
    by_cases hk : k2 = n
    · subst hk
      exact .inl ⟨v1, v2, valV_pos rfl, by unfold kget; rw [if_pos rfl], d1⟩
    · have hk' : ¬ f k2 = f n := fun e => hk (hf _ _ e)
      rcases kget_rel hf (n := n) t with ⟨v, x, a1, a2, a3⟩ | ⟨a1, a2⟩
      · exact .inl ⟨v, x, by rw [valV_neg hk']; exact a1, by unfold kget; rw [if_neg hk]; exact a2, a3⟩
      · exact .inr ⟨by rw [valV_neg hk']; exact a1, by unfold kget; rw [if_neg hk]; exact a2⟩
theorem put_new {κ : Type} [DecidableEq κ] {us : List (κ × V)} {k : κ} {v : V} (h : valV us k = none) : putK us k v = us ++ [(k, v)] := by
  unfold putK
  rw [valV_any, h]
  rfl
theorem paired_snoc {α β : Type} {F : α → β → Prop} : ∀ {l₁ : List α} {l₂ : List β} {a : α} {b : β}, Paired F l₁ l₂ → F a b → Paired F (l₁ ++ [a]) (l₂ ++ [b])
  | _, _, _, _, .nil, h => .cons h .nil
  | _, _, _, _, .cons r t, h => .cons r (paired_snoc t h)
theorem paired_len {α β : Type} {F : α → β → Prop} : ∀ {l₁ : List α} {l₂ : List β}, Paired F l₁ l₂ → l₁.length = l₂.length
  | _, _, .nil => rfl
  | _, _, .cons r t => by simp [paired_len t]
def kI (n : Int) : Key := .inl n
theorem kI_inj : ∀ x y : Int, kI x = kI y → x = y := fun x y e => by injection e
def kP (p : Int × Int) : List Key := [.inl p.1, .inl p.2]
theorem kP_inj : ∀ x y : Int × Int, kP x = kP y → x = y := fun x y e => by
  obtain ⟨a, b⟩ := x
  obtain ⟨c, d⟩ := y
  simp [kP] at e
  obtain ⟨h1, h2⟩ := e
  subst h1 h2
  rfl
theorem awp_dgetK {i : Nat} {kv0 : List (Int × PyData)} (hi : Γ[i]? = some (.o (.dk kv0))) (h : AWp W tk Γ fun Γ1 k => ∃ (n : Int) (kvs : List (Int × PyData)) (y : PyData), k = .int n ∧ Γ1[i]? = some (.o (.dk kvs)) ∧ kget kvs n = some y ∧ K Γ1 y) : AWp W (tDGet (tVar i) tk) Γ K := fun c B σ H Q R q => by
  obtain ⟨a, u, e, hb, hx, hu, vs0, eu, d0⟩ := R.sl i _ hi
  refine ⟨.ref a, e, h c B σ H _ R fun v y0 B1 H1 Γ1 k1 e1 R1 d1 => ?_⟩
  obtain ⟨n, kvs, y, rfl, hi1, hy, k1⟩ := k1
  cases d1
  obtain ⟨a', u', e', hb', hx', hu', us, eu', d2⟩ := R1.sl i _ hi1
  subst eu'
  rw [e] at e'
  cases e'
  rcases kget_rel (f := kI) kI_inj (n := n) d2 with ⟨v, x, a1, a2, a3⟩ | ⟨a1, a2⟩
  · rw [hy] at a2
    cases a2
    refine ⟨a, v, rfl, ?_, q v y B1 H1 Γ1 k1 e1 R1 a3⟩
    rw [← a1]
    exact DGet.k (k := .inl n) hu'
  · rw [hy] at a2
    cases a2
theorem awp_dninK {i : Nat} (h : AWp W tk Γ fun Γ1 k => ∃ (n : Int) (kvs : List (Int × PyData)), k = .int n ∧ Γ1[i]? = some (.o (.dk kvs)) ∧ K Γ1 (.bool (kget kvs n).isNone)) : AWp W (tDNotIn tk (tVar i)) Γ K := fun c B σ H Q R q => by
  refine h c B σ H _ R fun v y0 B1 H1 Γ1 k1 e1 R1 d1 => ?_
  obtain ⟨n, kvs, rfl, hi1, k1⟩ := k1
  cases d1
  obtain ⟨a, u', e, hb', hx', hu', us, eu', d2⟩ := R1.sl i _ hi1
  subst eu'
  refine ⟨.ref a, e, a, valV us (.inl n), rfl, DGet.k (k := .inl n) hu', ?_⟩
  have ek : (!(valV us (Sum.inl n)).isSome) = (kget kvs n).isNone := by
    rcases kget_rel (f := kI) kI_inj (n := n) d2 with ⟨v, x, a1, a2, a3⟩ | ⟨a1, a2⟩
    · rw [show valV us (Sum.inl n) = some v from a1, a2]; rfl
    · rw [show valV us (Sum.inl n) = none from a1, a2]; rfl
  rw [ek]
  exact q _ _ B1 H1 Γ1 k1 e1 R1 (.bl _)
theorem ast_dputK {i : Nat} (h : AWp W tv Γ fun Γ1 y => (∃ kv0, Γ1[i]? = some (.o (.dk kv0))) ∧ AWp W tk Γ1 fun Γ2 k => ∃ (n : Int) (kvs : List (Int × PyData)), k = .int n ∧ Γ2[i]? = some (.o (.dk kvs)) ∧ kvs.length < 1000000 ∧ kget kvs n = none ∧ nx (Γ2.set i (.o (.dk (kvs ++ [(n, y)]))))) :
    ASt W (sDPut (tVar i) tk tv) Γ nx rt bk ct := fun c B σ H D R d => by
  refine h c B σ H _ R fun v y B1 H1 Γ1 k1 e1 R1 d1 => ?_
  obtain ⟨⟨kv0, hi0⟩, k1⟩ := k1
  obtain ⟨a, u, e, hb, hx, hu, vs0, eu, d0⟩ := R1.sl i _ hi0
  refine ⟨.ref a, e, k1 c B1 σ H1 _ R1 fun v2 y2 B2 H2 Γ2 k2 e2 R2 d2 => ?_⟩
  obtain ⟨n, kvs, rfl, hi1, hl, hn, k2⟩ := k2
  cases d2
  obtain ⟨a', u', e', hb', hx', hu', us, eu', d3⟩ := R2.sl i _ hi1
  subst eu'
  rw [e] at e'
  cases e'
  have big : (1000000 : Nat) < sizeLine := by decide
  have lv : valV us (Sum.inl n) = none := by
    rcases kget_rel (f := kI) kI_inj (n := n) d3 with ⟨v, x, a1, a2, a3⟩ | ⟨a1, a2⟩
    · rw [hn] at a2; cases a2
    · exact a1
  have hz : us.length < sizeLine := by rw [paired_len d3]; omega
  refine ⟨a, _, rfl, DPut.k (k := .inl n) hu' hz, d.dnx _ B2 σ _ k2 (e1.tr e2) ?_⟩
  rw [put_new lv]
  exact R2.write (m' := .dk (kvs ++ [(n, y)])) hi1 e ⟨_, rfl, paired_snoc d3 ⟨rfl, d1.mono e2⟩⟩
theorem ast_dputT {i : Nat} (h : AWp W tv Γ fun Γ1 y => (∃ kv0, Γ1[i]? = some (.o (.dt kv0))) ∧ AWp W tk Γ1 fun Γ2 k => ∃ (n : Int × Int) (kvs : List ((Int × Int) × PyData)), k = kpD n ∧ Γ2[i]? = some (.o (.dt kvs)) ∧ kvs.length < 1000000 ∧ kget kvs n = none ∧ nx (Γ2.set i (.o (.dt (kvs ++ [(n, y)]))))) :
    ASt W (sDPut (tVar i) tk tv) Γ nx rt bk ct := fun c B σ H D R d => by
  refine h c B σ H _ R fun v y B1 H1 Γ1 k1 e1 R1 d1 => ?_
  obtain ⟨⟨kv0, hi0⟩, k1⟩ := k1
  obtain ⟨a, u, e, hb, hx, hu, vs0, eu, d0⟩ := R1.sl i _ hi0
  refine ⟨.ref a, e, k1 c B1 σ H1 _ R1 fun v2 y2 B2 H2 Γ2 k2 e2 R2 d2 => ?_⟩
  obtain ⟨n, kvs, rfl, hi1, hl, hn, k2⟩ := k2
  obtain ⟨n1, n2⟩ := n
  unfold kpD at d2
  cases d2 with
  | @kp b _ _ hk =>
  obtain ⟨a', u', e', hb', hx', hu', us, eu', d3⟩ := R2.sl i _ hi1
  subst eu'
  rw [e] at e'
  cases e'
  have big : (1000000 : Nat) < sizeLine := by decide
  have lv : valV us (kP (n1, n2)) = none := by
    rcases kget_rel (f := kP) kP_inj (n := (n1, n2)) d3 with ⟨v, x, a1, a2, a3⟩ | ⟨a1, a2⟩
    · rw [hn] at a2; cases a2
    · exact a1
  have hz : us.length < sizeLine := by rw [paired_len d3]; omega
  refine ⟨a, _, rfl, DPut.t (k := kP (n1, n2)) hu' (R2.bh _ _ hk) hz, d.dnx _ B2 σ _ k2 (e1.tr e2) ?_⟩
  rw [put_new lv]
  exact R2.write (m' := .dt (kvs ++ [((n1, n2), y)])) hi1 e ⟨_, rfl, paired_snoc d3 ⟨rfl, d1.mono e2⟩⟩
theorem awp_dgetT {i : Nat} {kv0 : List ((Int × Int) × PyData)} (hi : Γ[i]? = some (.o (.dt kv0))) (h : AWp W tk Γ fun Γ1 k => ∃ (n : Int × Int) (kvs : List ((Int × Int) × PyData)) (y : PyData), k = kpD n ∧ Γ1[i]? = some (.o (.dt kvs)) ∧ kget kvs n = some y ∧ K Γ1 y) : AWp W (tDGet (tVar i) tk) Γ K := fun c B σ H Q R q => by
  obtain ⟨a, u, e, hb, hx, hu, vs0, eu, d0⟩ := R.sl i _ hi
  refine ⟨.ref a, e, h c B σ H _ R fun v y0 B1 H1 Γ1 k1 e1 R1 d1 => ?_⟩
  obtain ⟨⟨n1, n2⟩, kvs, y, rfl, hi1, hy, k1⟩ := k1
  unfold kpD at d1
  cases d1 with
  | @kp b _ _ hk =>
  obtain ⟨a', u', e', hb', hx', hu', us, eu', d2⟩ := R1.sl i _ hi1
  subst eu'
  rw [e] at e'
  cases e'
  rcases kget_rel (f := kP) kP_inj (n := (n1, n2)) d2 with ⟨v, x, a1, a2, a3⟩ | ⟨a1, a2⟩
  · rw [hy] at a2
    cases a2
    refine ⟨a, v, rfl, ?_, q v y B1 H1 Γ1 k1 e1 R1 a3⟩
    rw [← a1]
    exact DGet.t (k := kP (n1, n2)) hu' (R1.bh _ _ hk)
  · rw [hy] at a2
    cases a2
theorem awp_dninT {i : Nat} (h : AWp W tk Γ fun Γ1 k => ∃ (n : Int × Int) (kvs : List ((Int × Int) × PyData)), k = kpD n ∧ Γ1[i]? = some (.o (.dt kvs)) ∧ K Γ1 (.bool (kget kvs n).isNone)) : AWp W (tDNotIn tk (tVar i)) Γ K := fun c B σ H Q R q => by
  refine h c B σ H _ R fun v y0 B1 H1 Γ1 k1 e1 R1 d1 => ?_
  obtain ⟨⟨n1, n2⟩, kvs, rfl, hi1, k1⟩ := k1
  unfold kpD at d1
  cases d1 with
  | @kp b _ _ hk =>
  obtain ⟨a, u', e, hb', hx', hu', us, eu', d2⟩ := R1.sl i _ hi1
  subst eu'
  refine ⟨.ref a, e, a, valV us (kP (n1, n2)), rfl, DGet.t (k := kP (n1, n2)) hu' (R1.bh _ _ hk), ?_⟩
  have ek : (!(valV us (kP (n1, n2))).isSome) = (kget kvs (n1, n2)).isNone := by
    rcases kget_rel (f := kP) kP_inj (n := (n1, n2)) d2 with ⟨v, x, a1, a2, a3⟩ | ⟨a1, a2⟩
    · rw [a1, a2]; rfl
    · rw [a1, a2]; rfl
  rw [ek]
  exact q _ _ B1 H1 Γ1 k1 e1 R1 (.bl _)
theorem awp_dinT {i : Nat} (h : AWp W tk Γ fun Γ1 k => ∃ (n : Int × Int) (kvs : List ((Int × Int) × PyData)), k = kpD n ∧ Γ1[i]? = some (.o (.dt kvs)) ∧ K Γ1 (.bool (kget kvs n).isSome)) : AWp W (tDIn tk (tVar i)) Γ K := fun c B σ H Q R q => by
  refine h c B σ H _ R fun v y0 B1 H1 Γ1 k1 e1 R1 d1 => ?_
  obtain ⟨⟨n1, n2⟩, kvs, rfl, hi1, k1⟩ := k1
  unfold kpD at d1
  cases d1 with
  | @kp b _ _ hk =>
  obtain ⟨a, u', e, hb', hx', hu', us, eu', d2⟩ := R1.sl i _ hi1
  subst eu'
  refine ⟨.ref a, e, a, valV us (kP (n1, n2)), rfl, DGet.t (k := kP (n1, n2)) hu' (R1.bh _ _ hk), ?_⟩
  have ek : ((valV us (kP (n1, n2))).isSome) = (kget kvs (n1, n2)).isSome := by
    rcases kget_rel (f := kP) kP_inj (n := (n1, n2)) d2 with ⟨v, x, a1, a2, a3⟩ | ⟨a1, a2⟩
    · rw [a1, a2]; rfl
    · rw [a1, a2]; rfl
  rw [ek]
  exact q _ _ B1 H1 Γ1 k1 e1 R1 (.bl _)
theorem KsT.val {ks : List (Int × Int)} : ∀ {us : List (List Key × V)}, KsT us (ks.map dtK) → ∀ n, (valV us (kP n)).isSome = decide (n ∈ ks) := by
  induction ks with
  | nil => intro us h n; cases h; simp [valV]
  | cons k ks ih =>
    intro us h n
    rw [List.map_cons] at h
    cases h with
    | cons h t =>
      obtain ⟨p, rfl, e2⟩ := h
      obtain ⟨k1, k2⟩ := k
      obtain ⟨p1, p2⟩ := p
      simp [dtK] at e2
      obtain ⟨e3, e4⟩ := e2
      subst e3 e4
      by_cases hk : (k1, k2) = n
      · subst hk
        rw [valV_pos (show (entP (k1, k2)).1 = kP (k1, k2) from rfl)]
        simp
      · have hk' : ¬ (entP (k1, k2)).1 = kP n := fun e => hk (kP_inj _ _ e)
        rw [valV_neg hk', ih t n]
        simp [Ne.symm hk]
/-- (i, j) not in a dict of pairs that is data -/
theorem awp_dninD {i : Nat} (h : AWp W tk Γ fun Γ1 k => ∃ (n : Int × Int) (ks : List (Int × Int)), k = kpD n ∧ Γ1[i]? = some (.d (dtD ks)) ∧ K Γ1 (.bool (!decide (n ∈ ks)))) : AWp W (tDNotIn tk (tVar i)) Γ K := fun c B σ H Q R q => by
  refine h c B σ H _ R fun v y0 B1 H1 Γ1 k1 e1 R1 d1 => ?_
  obtain ⟨⟨n1, n2⟩, ks, rfl, hi1, k1⟩ := k1
  unfold kpD at d1
  cases d1 with
  | @kp b _ _ hk =>
  obtain ⟨v, e, dv⟩ := R1.sl i _ hi1
  unfold dtD at dv
  cases dv with
  | @dt a us _ ha t =>
    refine ⟨.ref a, e, a, valV us (kP (n1, n2)), rfl, DGet.t (k := kP (n1, n2)) (R1.bh _ _ ha) (R1.bh _ _ hk), ?_⟩
    rw [KsT.val t]
    exact q _ _ B1 H1 Γ1 k1 e1 R1 (.bl _)
/-- a pair of two ints, to be a key -/
theorem awp_tupK (h : AAs W tr Γ fun Γ1 ds => ∃ p : Int × Int, ds = [.int p.1, .int p.2] ∧ K Γ1 (kpD p)) : AWp W (tTup tr) Γ K := fun c B σ H Q R q =>
  h c B σ H _ R fun vs xs B1 H1 Γ1 k1 e1 R1 d1 => by
    obtain ⟨p, rfl, k1⟩ := k1
    have ev : vs = [.int p.1, .int p.2] := DvA.ints (ns := [p.1, p.2]) d1
    subst ev
    refine ⟨by show 2 ≤ sizeLine; decide, fun a np => ?_⟩
    have g : Gr B1 H1 (upd B1 a (.tup [.int p.1, .int p.2])) (upd H1 a (.tup [.int p.1, .int p.2])) := .new R1.bh np
    exact q (.ref a) _ _ _ Γ1 k1 (e1.tr g.b) (R1.grow g) (.kp upd_same)

/-! ### fresh own objects -/
def AWx (W : Wd) (te : TE) (Γ : List SV) (K : List SV → SV → Prop) : Prop := ∀ (c : Cf) (B : Hp) (σ : L2.St) (H : Hp) (Q : VK), Rp W c B Γ σ H → (∀ v s B' H' Γ', K Γ' s → Xt B B' → Rp W c B' (Γ' ++ [s]) (σ ++ [some v]) H' → Q v H') → te σ H Q
def AAx (W : Wd) (ta : TA) (Γ : List SV) (K : List SV → List SV → Prop) : Prop := ∀ (c : Cf) (B : Hp) (σ : L2.St) (H : Hp) (Q : List V → Hp → Prop), Rp W c B Γ σ H →
  (∀ vs ss B' H' Γ', K Γ' ss → Xt B B' → Γ'.length = σ.length → vs.length = ss.length → Rp W c B' (Γ' ++ ss) (σ ++ vs.map some) H' → Q vs H') → ta σ H Q
end
end TW
end

section
set_option Elab.async false
set_option linter.all false
set_option maxRecDepth 100000
set_option maxHeartbeats 4000000
/-! Readings by abstract states: several targets, a def's promise, operators on data. -/
namespace TW
open PySem PySem.Spec PyProof.Rows L2

section
variable {W : Wd} {Γ : List SV} {nx bk ct : List SV → Prop} {rt : List SV → PyData → Prop} {K : List SV → PyData → Prop} {ta tb tc te tk tv : TE} {tr : TA} {t u : TS} {tt : TT} {KA : List SV → List PyData → Prop} {KX : List SV → SV → Prop} {KS : List SV → List SV → Prop} {KG : List SV → Prop}

theorem Rp.reix {c : Cf} {B : Hp} {σ σ' : L2.St} {H : Hp} {Γ' : List SV} (R : Rp W c B Γ σ H) (f : Nat → Nat) (hl : σ'.length = Γ'.length) (h : ∀ j, j < Γ'.length → Γ'[j]? = Γ[f j]? ∧ σ'[j]? = σ[f j]?)
    (inj : ∀ j k, j < Γ'.length → k < Γ'.length → f j = f k → j = k) : Rp W c B Γ' σ' H := by
  refine ⟨R.x0, R.bh, R.nb, R.nw, R.tb, hl, fun j s ej => ?_, fun j k m m' a e1 e2 e3 e4 => ?_⟩
  · have hj := (List.getElem?_eq_some_iff.mp ej).1
    obtain ⟨h1, h2⟩ := h j hj
    rw [h2]
    exact R.sl (f j) s (h1 ▸ ej)
  · have hj := (List.getElem?_eq_some_iff.mp e1).1
    have hk := (List.getElem?_eq_some_iff.mp e2).1
    obtain ⟨a1, a2⟩ := h j hj
    obtain ⟨b1, b2⟩ := h k hk
    exact inj j k hj hk (R.ne (f j) (f k) m m' a (a1 ▸ e1) (b1 ▸ e2) (a2 ▸ e3) (b2 ▸ e4))
theorem Rp.pre {c : Cf} {B : Hp} {σ ws : L2.St} {H : Hp} {ss : List SV} (R : Rp W c B (Γ ++ ss) (σ ++ ws) H) (hl : Γ.length = σ.length) : Rp W c B Γ σ H :=
  R.reix id hl.symm (fun j hj => ⟨(List.getElem?_append_left hj).symm, (List.getElem?_append_left (hl ▸ hj)).symm⟩) fun j k _ _ e => e
theorem Rp.move {c : Cf} {B : Hp} {σ ws : L2.St} {H : Hp} {s : SV} {v : Option V} {ss : List SV} {i : Nat} (R : Rp W c B (Γ ++ s :: ss) (σ ++ v :: ws) H) (hl : Γ.length = σ.length) : Rp W c B (Γ.set i s ++ ss) (σ.set i v ++ ws) H := by
  have hlen := R.len
  simp only [List.length_append, List.length_cons] at hlen
  refine R.reix (fun j => if j = i ∧ i < Γ.length then Γ.length else if j < Γ.length then j else j + 1) (by simp only [List.length_append, List.length_set]; omega) (fun j hj => ?_) fun j k hj hk e => ?_
  · simp only [List.length_append, List.length_set] at hj
    by_cases h1 : j = i ∧ i < Γ.length
    · obtain ⟨h1, h2⟩ := h1
      subst h1
      rw [if_pos ⟨rfl, h2⟩]
      rw [List.getElem?_append_left (by rw [List.length_set]; exact h2), List.getElem?_set_self h2, List.getElem?_append_right (Nat.le_refl _), Nat.sub_self]
      rw [List.getElem?_append_left (by rw [List.length_set]; exact hl ▸ h2), List.getElem?_set_self (hl ▸ h2), List.getElem?_append_right (Nat.le_of_eq hl.symm), hl, Nat.sub_self]
      exact ⟨rfl, rfl⟩
    · rw [if_neg h1]
      by_cases h2 : j < Γ.length
      · rw [if_pos h2]
        have h3 : i ≠ j := fun e => h1 ⟨e.symm, e ▸ h2⟩
        rw [List.getElem?_append_left (by rw [List.length_set]; exact h2), List.getElem?_set_ne h3, List.getElem?_append_left h2]
        rw [List.getElem?_append_left (by rw [List.length_set]; exact hl ▸ h2), List.getElem?_set_ne h3, List.getElem?_append_left (hl ▸ h2)]
        exact ⟨rfl, rfl⟩
      · rw [if_neg h2]
        rw [List.getElem?_append_right (by rw [List.length_set]; omega), List.length_set, List.getElem?_append_right (by omega)]
        rw [List.getElem?_append_right (by rw [List.length_set]; omega), List.length_set, List.getElem?_append_right (by omega)]
        have e1 : j + 1 - Γ.length = (j - Γ.length) + 1 := by omega
        have e2 : j + 1 - σ.length = (j - σ.length) + 1 := by omega
        rw [e1, e2, List.getElem?_cons_succ, List.getElem?_cons_succ]
        exact ⟨rfl, rfl⟩
  · by_cases h1 : j = i ∧ i < Γ.length <;> by_cases h2 : k = i ∧ i < Γ.length
    · omega
    · rw [if_pos h1, if_neg h2] at e
      split at e <;> omega
    · rw [if_neg h1, if_pos h2] at e
      split at e <;> omega
    · rw [if_neg h1, if_neg h2] at e
      split at e <;> split at e <;> omega
theorem Rp.ins {c : Cf} {B : Hp} {σ ws : L2.St} {H : Hp} {s : SV} {v : V} {ss : List SV} (R : Rp W c B (Γ ++ ss) (σ ++ ws) H) (hl : Γ.length = σ.length) (h : SOk W c B H s (some (some v)))
    (hn : ∀ m, s = .o m → ∀ (j : Nat) (m' : MO) (a : Addr), (Γ ++ ss)[j]? = some (.o m') → (σ ++ ws)[j]? = some (some (.ref a)) → v ≠ .ref a) : Rp W c B (Γ ++ s :: ss) (σ ++ some v :: ws) H := by
  have hlen := R.len
  simp only [List.length_append] at hlen
  have cs : ∀ j, j < (Γ ++ s :: ss).length → (j = Γ.length ∧ (Γ ++ s :: ss)[j]? = some s ∧ (σ ++ some v :: ws)[j]? = some (some v)) ∨ (j ≠ Γ.length ∧ ∃ j', j' = (if j < Γ.length then j else j - 1) ∧ (Γ ++ s :: ss)[j]? = (Γ ++ ss)[j']? ∧ (σ ++ some v :: ws)[j]? = (σ ++ ws)[j']?) := fun j hj => by
    by_cases h1 : j = Γ.length
    · subst h1
      refine .inl ⟨rfl, ?_, ?_⟩
      · rw [List.getElem?_append_right (Nat.le_refl _), Nat.sub_self]; rfl
      · rw [hl, List.getElem?_append_right (Nat.le_refl _), Nat.sub_self]; rfl
    · refine .inr ⟨h1, _, rfl, ?_⟩
      by_cases h2 : j < Γ.length
      · rw [if_pos h2, List.getElem?_append_left h2, List.getElem?_append_left h2, List.getElem?_append_left (hl ▸ h2), List.getElem?_append_left (hl ▸ h2)]
        exact ⟨rfl, rfl⟩
      · rw [if_neg h2, List.getElem?_append_right (by omega), List.getElem?_append_right (by omega), List.getElem?_append_right (by omega), List.getElem?_append_right (by omega)]
        have e1 : j - Γ.length = (j - 1 - Γ.length) + 1 := by omega
        have e2 : j - σ.length = (j - 1 - σ.length) + 1 := by omega
        rw [e1, e2, List.getElem?_cons_succ, List.getElem?_cons_succ]
        exact ⟨rfl, rfl⟩
  refine ⟨R.x0, R.bh, R.nb, R.nw, R.tb, by simp only [List.length_append, List.length_cons]; omega, fun j t ej => ?_, fun j k m m' a e1 e2 e3 e4 => ?_⟩
  · rcases cs j (List.getElem?_eq_some_iff.mp ej).1 with ⟨_, h1, h2⟩ | ⟨_, j', _, h1, h2⟩
    · rw [h1] at ej
      cases ej
      rw [h2]
      exact h
    · rw [h2]
      exact R.sl j' t (h1 ▸ ej)
  · rcases cs j (List.getElem?_eq_some_iff.mp e1).1 with ⟨i1, h1, h2⟩ | ⟨i1, j', i2, h1, h2⟩ <;> rcases cs k (List.getElem?_eq_some_iff.mp e2).1 with ⟨g1, g2, g3⟩ | ⟨g1, k', g2, g3, g4⟩
    · omega
    · rw [h1] at e1
      rw [h2] at e3
      cases e3
      exact absurd rfl (hn m (Option.some.inj e1) k' m' a (g3 ▸ e2) (g4 ▸ e4))
    · rw [g2] at e2
      rw [g3] at e4
      cases e4
      exact absurd rfl (hn m' (Option.some.inj e2) j' m a (h1 ▸ e1) (h2 ▸ e3))
    · have := R.ne j' k' m m' a (h1 ▸ e1) (g3 ▸ e2) (h2 ▸ e3) (g4 ▸ e4)
      have hj := (List.getElem?_eq_some_iff.mp e1).1
      split at i2 <;> split at g2 <;> omega
theorem Rp.snoc {c : Cf} {B : Hp} {σ : L2.St} {H : Hp} {s : SV} {v : V} (R : Rp W c B Γ σ H) (h : SOk W c B H s (some (some v))) (hn : ∀ m, s ≠ .o m) : Rp W c B (Γ ++ [s]) (σ ++ [some v]) H := by
  have R' : Rp W c B (Γ ++ []) (σ ++ []) H := by rw [List.append_nil, List.append_nil]; exact R
  exact R'.ins R.len.symm h fun m e => absurd e (hn m)
/-- the last slot's own object counts as the caller's -/
theorem Rp.popO {c : Cf} {B : Hp} {σ : L2.St} {H : Hp} {m : MO} {v : V} (R : Rp W c B (Γ ++ [.o m]) (σ ++ [some v]) H) (hl : Γ.length = σ.length) :
    ∃ L u, v = .ref L ∧ Rp W (cT c L u) B Γ σ H ∧ MOk W.K B L u m ∧ c.X0 L = none ∧ c.B0 L = none := by
  have eL : (Γ ++ [SV.o m])[Γ.length]? = some (.o m) := by rw [List.getElem?_append_right (Nat.le_refl _), Nat.sub_self]; rfl
  have eσ : (σ ++ [some v])[Γ.length]? = some (some v) := by rw [hl, List.getElem?_append_right (Nat.le_refl _), Nat.sub_self]; rfl
  obtain ⟨L, u, e1, e2, e3, e4, e5⟩ := R.sl _ _ eL
  rw [eσ] at e1
  cases e1
  have b0 : c.B0 L = none := R.nb.none e2
  have R0 := R.pre hl
  refine ⟨L, u, rfl, ⟨fun a o z => ?_, R.bh, R.nb, fun a o z => ?_, R.tb, hl.symm, fun j s ej => ?_, R0.ne⟩, e5, e3, b0⟩
  · by_cases ha : a = L
    · subst ha
      have z' : some u = some o := upd_same.symm.trans z
      cases z'; exact e4
    · exact R.x0 a o ((upd_ne ha).symm.trans z)
  · by_cases ha : a = L
    · subst ha; exact e2.trans b0.symm
    · exact R.nw a o ((upd_ne ha).symm.trans z)
  · have hs := R0.sl j s ej
    have hj : j < Γ.length := (List.getElem?_eq_some_iff.mp ej).1
    cases s with
    | un => exact hs
    | any => exact hs
    | d x => exact hs
    | o m' =>
      obtain ⟨a, w, z1, z2, z3, z4, z5⟩ := hs
      have ha : a ≠ L := fun z => by
        subst z
        have := R.ne j Γ.length m' m a (by rw [List.getElem?_append_left hj]; exact ej) eL (by rw [List.getElem?_append_left (hl ▸ hj)]; exact z1) eσ
        omega
      exact ⟨a, w, z1, z2, (upd_ne ha).trans z3, z4, z5⟩

theorem awx_of (h : AWp W te Γ fun Γ1 x => KX Γ1 (.d x)) : AWx W te Γ KX := fun c B σ H Q R q =>
  h c B σ H Q R fun v x B1 H1 Γ1 k1 e1 R1 d1 => q v (.d x) B1 H1 Γ1 k1 e1 (R1.snoc ⟨v, rfl, d1⟩ fun m e => nomatch e)
theorem Rp.tempO' {c : Cf} {B : Hp} {σ : L2.St} {H : Hp} {m : MO} {u : HO} {p : Addr} (R : Rp W c B Γ σ H) (n : H p = none) (h : MOk W.K B p u m) : Rp W c B (Γ ++ [.o m]) (σ ++ [some (.ref p)]) (upd H p u) :=
  (R.temp n).tempO (R.nb.none (R.bh.none n)) (R.x0.none n) h
theorem awx_lst (h : AAs W tr Γ fun Γ1 ds => ds.length ≤ 1000 ∧ KX Γ1 (.o (.lst ds))) : AWx W (tLst tr) Γ KX := fun c B σ H Q R q =>
  h c B σ H _ R fun vs xs B1 H1 Γ1 k1 e1 R1 d1 => by
    refine ⟨Nat.le_trans (d1.len ▸ k1.1) (by decide), fun p np => ?_⟩
    exact q (.ref p) _ B1 _ Γ1 k1.2 e1 (R1.tempO' np ⟨vs, rfl, d1⟩)
theorem awx_dt0 (k : KX Γ (.o (.dt []))) : AWx W tDNewT Γ KX := fun c B σ H Q R q p np => q (.ref p) _ B _ Γ k .rfl' (R.tempO' np ⟨[], rfl, .nil⟩)
theorem awx_dk1 (h : AWp W tk Γ fun Γ1 k => ∃ n : Int, k = .int n ∧ AWp W tv Γ1 fun Γ2 y => KX Γ2 (.o (.dk [(n, y)]))) : AWx W (tDisp [(tk, tv)]) Γ KX := fun c B σ H Q R q p np => by
  have b0 := R.nb.none (R.bh.none np)
  refine h _ B σ _ _ (R.temp (u := .dK []) np) fun v x B1 H1 Γ1 k1 e1 R1 d1 => ?_
  obtain ⟨n, rfl, k1⟩ := k1
  cases d1
  refine k1 _ B1 σ H1 _ R1 fun v2 y B2 H2 Γ2 k2 e2 R2 d2 => ?_
  refine ⟨R2.tempH, [(.inl n, v2)], rfl, by show 1 ≤ 15; decide, ?_⟩
  exact q (.ref p) _ B2 _ Γ2 k2 (e1.tr e2) ((R2.tempW (u' := .dK (mergeK [] [(.inl n, v2)])) b0).tempO b0 (R.x0.none np) ⟨[(.inl n, v2)], rfl, .cons ⟨rfl, d2⟩ .nil⟩)
theorem awx_dt1 (h : AWp W tk Γ fun Γ1 k => ∃ n : Int × Int, k = kpD n ∧ AWp W tv Γ1 fun Γ2 y => KX Γ2 (.o (.dt [(n, y)]))) : AWx W (tDispT tk tv) Γ KX := fun c B σ H Q R q p np => by
  have b0 := R.nb.none (R.bh.none np)
  refine h _ B σ _ _ (R.temp (u := .dT []) np) fun v x B1 H1 Γ1 k1 e1 R1 d1 => ?_
  obtain ⟨⟨n1, n2⟩, rfl, k1⟩ := k1
  unfold kpD at d1
  cases d1 with
  | @kp b _ _ hk =>
  refine k1 _ B1 σ H1 _ R1 fun v2 y B2 H2 Γ2 k2 e2 R2 d2 => ?_
  refine ⟨b, kP (n1, n2), rfl, R2.tempH, R2.bh _ _ (e2 _ _ hk), ?_⟩
  exact q (.ref p) _ B2 _ Γ2 k2 (e1.tr e2) ((R2.tempW (u' := .dT [(kP (n1, n2), v2)]) b0).tempO b0 (R.x0.none np) ⟨[(kP (n1, n2), v2)], rfl, .cons ⟨rfl, d2⟩ .nil⟩)
theorem rgV_nat (n : Nat) : rgV 0 n = (List.range n).map fun i => V.int (i : Nat) := by
  unfold rgV
  simp
theorem range_dv {Kf : PySem.W.Frag} {B : Hp} (n : Nat) : DvA Kf B (rgV 0 n) (rangeD n) := by
  rw [rgV_nat]
  unfold rangeD
  generalize List.range n = l
  induction l with
  | nil => exact .nil
  | cons a l ih => exact .cons (.int _) ih
theorem awx_rg (h : AWp W te Γ fun Γ1 x => ∃ n : Nat, x = .int n ∧ n ≤ 1000000 ∧ KX Γ1 (.o (.lst (rangeD n)))) : AWx W (tLstRg (tRg1 te)) Γ KX := fun c B σ H Q R q => by
  refine h c B σ H _ R fun v x B1 H1 Γ1 k1 e1 R1 d1 => ?_
  obtain ⟨n, rfl, hn, k1⟩ := k1
  cases d1
  refine ⟨n, rfl, .of_le (by omega) (by omega) (by omega) (by omega), fun p np => ?_⟩
  exact q (.ref p) _ B1 _ Γ1 k1 e1 (R1.tempO' np ⟨_, rfl, range_dv n⟩)
theorem awp_rg (h : AWp W te Γ fun Γ1 x => ∃ n : Nat, x = .int n ∧ n ≤ 1000000 ∧ K Γ1 (.list (rangeD n))) : AWp W (tLstRg (tRg1 te)) Γ K := fun c B σ H Q R q => by
  refine h c B σ H _ R fun v x B1 H1 Γ1 k1 e1 R1 d1 => ?_
  obtain ⟨n, rfl, hn, k1⟩ := k1
  cases d1
  refine ⟨n, rfl, .of_le (by omega) (by omega) (by omega) (by omega), fun p np => ?_⟩
  have g : Gr B1 H1 (upd B1 p (.lst (rgV 0 n))) (upd H1 p (.lst (rgV 0 n))) := .new R1.bh np
  have big : (1000000 : Nat) ≤ sizeLine := by decide
  exact q (.ref p) _ _ _ Γ1 k1 (e1.tr g.b) (R1.grow g) (.lst upd_same (by rw [rgV_length]; omega) ((range_dv n).mono g.b))
theorem aax_nil (k : KS Γ []) : AAx W tNil Γ KS := fun c B σ H Q R q => q [] [] B H Γ k .rfl' R.len.symm rfl (by rw [List.map_nil, List.append_nil, List.append_nil]; exact R)
theorem aax_cons (h : AWx W te Γ fun Γ1 s => AAx W tr Γ1 fun Γ2 ss => KS Γ2 (s :: ss)) : AAx W (tCons te tr) Γ KS := fun c B σ H Q R q =>
  h c B σ H _ R fun v s B1 H1 Γ1 k1 e1 R1 => by
    have hl : Γ1.length = σ.length := by
      have := R1.len
      simp only [List.length_append, List.length_cons, List.length_nil] at this
      omega
    have eL : (Γ1 ++ [s])[Γ1.length]? = some s := by rw [List.getElem?_append_right (Nat.le_refl _), Nat.sub_self]; rfl
    have eσ : (σ ++ [some v])[Γ1.length]? = some (some v) := by rw [hl, List.getElem?_append_right (Nat.le_refl _), Nat.sub_self]; rfl
    have hs := R1.sl _ _ eL
    rw [eσ] at hs
    cases s with
    | un => cases hs
    | any =>
      refine k1 c B1 σ H1 _ (R1.pre hl) fun ws ss B2 H2 Γ2 k2 e2 l2 l3 R2 => q (v :: ws) (.any :: ss) B2 H2 Γ2 k2 (e1.tr e2) l2 (by simp [l3]) ?_
      exact R2.ins l2 ⟨_, rfl⟩ fun m e => nomatch e
    | d x =>
      obtain ⟨v', ev, dv⟩ := hs
      cases ev
      refine k1 c B1 σ H1 _ (R1.pre hl) fun ws ss B2 H2 Γ2 k2 e2 l2 l3 R2 => q (v :: ws) (.d x :: ss) B2 H2 Γ2 k2 (e1.tr e2) l2 (by simp [l3]) ?_
      exact R2.ins l2 ⟨v, rfl, dv.mono e2⟩ fun m e => nomatch e
    | o m =>
      obtain ⟨L, w, rfl, R1', mo, x0, b0⟩ := R1.popO hl
      refine k1 _ B1 σ H1 _ R1' fun ws ss B2 H2 Γ2 k2 e2 l2 l3 R2 => q (.ref L :: ws) (.o m :: ss) B2 H2 Γ2 k2 (e1.tr e2) l2 (by simp [l3]) ?_
      refine (R2.tempX x0).ins l2 ⟨L, w, rfl, R2.tempB b0, x0, R2.tempH, mo.mono e2⟩ fun m1 _ j m' a f1 f2 f3 => ?_
      obtain ⟨a', w', z1, z2, z3, z4, z5⟩ := R2.sl j _ f1
      rw [f2] at z1
      cases z1
      cases f3
      rw [show (cT c L w).X0 L = some w from upd_same] at z3
      cases z3

/-! ### several targets -/
theorem ast_setX {i : Nat} (h : AWx W te Γ fun Γ1 s => nx (Γ1.set i s)) : ASt W (tAsg te (gName i)) Γ nx rt bk ct := fun c B σ H D R d =>
  h c B σ H _ R fun v s B1 H1 Γ1 k1 e1 R1 => by
    have hl : Γ1.length = σ.length := by
      have := R1.len
      simp only [List.length_append, List.length_cons, List.length_nil] at this
      omega
    have R2 := R1.move (i := i) hl
    rw [List.append_nil, List.append_nil] at R2
    exact d.dnx _ B1 _ H1 k1 e1 R2
def setAll (Γ : List SV) : List Nat → List SV → List SV
  | i :: is, s :: ss => setAll (Γ.set i s) is ss
  | _, _ => Γ
theorem ast_par {i j : Nat} (h : AAx W tr Γ fun Γ1 ss => ∃ s1 s2, ss = [s1, s2] ∧ nx ((Γ1.set i s1).set j s2)) : ASt W (tPar i j tr) Γ nx rt bk ct := fun c B σ H D R d =>
  h c B σ H _ R fun vs ss B1 H1 Γ1 k1 e1 l1 l2 R1 => by
    obtain ⟨s1, s2, rfl, k1⟩ := k1
    match vs, l2, R1 with
    | [v, w], _, R1 =>
      refine ⟨v, w, rfl, ?_⟩
      have R2 := (R1.move (i := i) l1).move (i := j) (by simpa using l1)
      rw [List.append_nil] at R2
      exact d.dnx _ B1 _ H1 k1 e1 (by simpa using R2)
theorem ast_par3 {i j l : Nat} (h : AAx W tr Γ fun Γ1 ss => ∃ s1 s2 s3, ss = [s1, s2, s3] ∧ nx (((Γ1.set i s1).set j s2).set l s3)) : ASt W (tPar3 i j l tr) Γ nx rt bk ct := fun c B σ H D R d =>
  h c B σ H _ R fun vs ss B1 H1 Γ1 k1 e1 l1 l2 R1 => by
    obtain ⟨s1, s2, s3, rfl, k1⟩ := k1
    match vs, l2, R1 with
    | [v, w, z], _, R1 =>
      refine ⟨v, w, z, rfl, ?_⟩
      have R2 := ((R1.move (i := i) l1).move (i := j) (by simpa using l1)).move (i := l) (by simpa using l1)
      rw [List.append_nil] at R2
      exact d.dnx _ B1 _ H1 k1 e1 (by simpa using R2)
def gNs : List Nat → TGs
  | [] => gNil
  | i :: is => gCons (gName i) (gNs is)
theorem gNs_run {c : Cf} {B H : Hp} {Q : L2.St → Hp → Prop} : ∀ {is : List Nat} {ss : List SV} {vs : List V} {Γ : List SV} {σ : L2.St}, Rp W c B (Γ ++ ss) (σ ++ vs.map some) H → Γ.length = σ.length → vs.length = ss.length → ss.length = is.length → (∀ σ', Rp W c B (setAll Γ is ss) σ' H → Q σ' H) → gNs is vs σ H Q
  | [], [], [], Γ, σ, R, hl, h1, h2, q => ⟨rfl, q σ (by rw [List.map_nil, List.append_nil, List.append_nil] at R; exact R)⟩
  | i :: is, s :: ss, v :: vs, Γ, σ, R, hl, h1, h2, q => ⟨v, vs, rfl, gNs_run (is := is) (ss := ss) (R.move (i := i) hl) (by simpa using hl) (by simpa using h1) (by simpa using h2) q⟩
  | [], s :: ss, _, _, _, _, _, _, h2, _ => by simp at h2
  | [], [], v :: vs, _, _, _, _, h1, _, _ => by simp at h1
  | i :: is, [], _, _, _, _, _, _, h2, _ => by simp at h2
  | i :: is, s :: ss, [], _, _, _, _, h1, _, _ => by simp at h1
theorem ast_tupx (is : List Nat) {n : Nat} (hn : is.length = n) (h : AAx W tr Γ fun Γ1 ss => ss.length = n ∧ n ≤ 1000 ∧ nx (setAll Γ1 is ss)) : ASt W (tAsg (tTup tr) (gTup W.K n (gNs is))) Γ nx rt bk ct := fun c B σ H D R d =>
  h c B σ H _ R fun vs ss B1 H1 Γ1 k1 e1 l1 l2 R1 => by
    refine ⟨Nat.le_trans (by omega : vs.length ≤ 1000) (by decide), fun p np => ?_⟩
    have R2 := R1.grow (.own (o := .tup vs) R1.bh np)
    exact ⟨p, vs, rfl, SqT.of upd_same, by omega, gNs_run R2 l1 l2 (by omega) fun σ' R3 => d.dnx _ B1 σ' _ k1.2.2 e1 R3⟩
/-- d[k] = v as a target -/
def rSetD : TSet := fun o i v H Q => ∃ a H', o = .ref a ∧ DPut H a i v H' ∧ Q H'
theorem pset_d {X : Cx} (hu : X.A.units + 1 < cLine) : PSet X rSetD := by
  intro pins s σ H o i v ov iv u Q I r1 r2 r3 h
  obtain ⟨a, H', rfl, g, q⟩ := h
  obtain rfl : ov = Value.ref a := r1
  exact d_setItem hu I g r2 r3 fun s' I' => ⟨H', I', q⟩
theorem atg_subT {i : Nat} {y : PyData} {kv0 : List ((Int × Int) × PyData)} (hi0 : Γ[i]? = some (.o (.dt kv0))) (h : AWp W tk Γ fun Γ2 k => ∃ (n : Int × Int) (kvs : List ((Int × Int) × PyData)), k = kpD n ∧ Γ2[i]? = some (.o (.dt kvs)) ∧ kvs.length < 1000000 ∧ kget kvs n = none ∧ KG (Γ2.set i (.o (.dt (kvs ++ [(n, y)]))))) :
    ATg W (gSub (tVar i) tk rSetD) Γ y KG := fun c B σ H v Q R d q => by
  obtain ⟨a, u, e, hb, hx, hu, vs0, eu, d0⟩ := R.sl i _ hi0
  refine ⟨.ref a, e, h c B σ H _ R fun v2 y2 B2 H2 Γ2 k2 e2 R2 d2 => ?_⟩
  obtain ⟨⟨n1, n2⟩, kvs, rfl, hi1, hl, hn, k2⟩ := k2
  unfold kpD at d2
  cases d2 with
  | @kp b _ _ hk =>
  obtain ⟨a', u', e', hb', hx', hu', us, eu', d3⟩ := R2.sl i _ hi1
  subst eu'
  rw [e] at e'
  cases e'
  have big : (1000000 : Nat) < sizeLine := by decide
  have lv : valV us (kP (n1, n2)) = none := by
    rcases kget_rel (f := kP) kP_inj (n := (n1, n2)) d3 with ⟨v, x, a1, a2, a3⟩ | ⟨a1, a2⟩
    · rw [hn] at a2; cases a2
    · exact a1
  have hz : us.length < sizeLine := by rw [paired_len d3]; omega
  refine ⟨a, _, rfl, DPut.t (k := kP (n1, n2)) hu' (R2.bh _ _ hk) hz, q B2 _ _ _ k2 e2 ?_⟩
  rw [put_new lv]
  exact R2.write (m' := .dt (kvs ++ [((n1, n2), y)])) hi1 e ⟨_, rfl, paired_snoc d3 ⟨rfl, d.mono e2⟩⟩
end
end TW
end

section
set_option Elab.async false
set_option linter.all false
set_option maxRecDepth 100000
set_option maxHeartbeats 4000000
/-! Readings by abstract states: operators on data, built-ins, a def's promise. -/
namespace TW
open PySem PySem.Spec PyProof.Rows L2

section
variable {W : Wd} {Γ : List SV} {nx bk ct : List SV → Prop} {rt : List SV → PyData → Prop} {K : List SV → PyData → Prop} {ta tb tc te tk tv : TE} {tr : TA} {t u : TS} {tt : TT} {Kp : PyData → Prop}

/-! ### operators -/
theorem rd_add {i j : Int} (k : Kp (.int (i + j))) : RD W (rI0 fun i j => V.int (i + j)) (.int i) (.int j) Kp := fun B H u v Q bh d1 d2 q => by
  cases d1; cases d2; exact ⟨i, j, rfl, rfl, q _ _ B H k (.rfl' bh) (.int _)⟩
theorem rd_sub {i j : Int} (k : Kp (.int (i - j))) : RD W (rI0 fun i j => V.int (i - j)) (.int i) (.int j) Kp := fun B H u v Q bh d1 d2 q => by
  cases d1; cases d2; exact ⟨i, j, rfl, rfl, q _ _ B H k (.rfl' bh) (.int _)⟩
theorem rd_mul {i j : Int} (c : CMul i j) (k : Kp (.int (i * j))) : RD W (rI CMul fun i j => V.int (i * j)) (.int i) (.int j) Kp := fun B H u v Q bh d1 d2 q => by
  cases d1; cases d2; exact ⟨i, j, rfl, rfl, c, q _ _ B H k (.rfl' bh) (.int _)⟩
theorem rd_modN {i j : Int} (c : j ≠ 0) (k : Kp (.int (i.fmod j))) : RD W (rI (fun _ j => j ≠ 0) fun i j => V.int (i.fmod j)) (.int i) (.int j) Kp := fun B H u v Q bh d1 d2 q => by
  cases d1; cases d2; exact ⟨i, j, rfl, rfl, c, q _ _ B H k (.rfl' bh) (.int _)⟩
theorem rd_fdivN {i j : Int} (c : CDivN i j) (k : Kp (.int (i.fdiv j))) : RD W (rI CDivN fun i j => V.int (i.fdiv j)) (.int i) (.int j) Kp := fun B H u v Q bh d1 d2 q => by
  cases d1; cases d2; exact ⟨i, j, rfl, rfl, c, q _ _ B H k (.rfl' bh) (.int _)⟩
theorem rd_pow {i j : Int} (c : CPow i j) (k : Kp (.int (i ^ j.toNat))) : RD W (rI CPow fun i j => V.int (i ^ j.toNat)) (.int i) (.int j) Kp := fun B H u v Q bh d1 d2 q => by
  cases d1; cases d2; exact ⟨i, j, rfl, rfl, c, q _ _ B H k (.rfl' bh) (.int _)⟩
theorem rd_lt {i j : Int} (k : Kp (.bool (decide (i < j)))) : RD W (rI0 fun i j => V.bl (decide (i < j))) (.int i) (.int j) Kp := fun B H u v Q bh d1 d2 q => by
  cases d1; cases d2; exact ⟨i, j, rfl, rfl, q _ _ B H k (.rfl' bh) (.bl _)⟩
theorem rd_le {i j : Int} (k : Kp (.bool (decide (i ≤ j)))) : RD W (rI0 fun i j => V.bl (decide (i ≤ j))) (.int i) (.int j) Kp := fun B H u v Q bh d1 d2 q => by
  cases d1; cases d2; exact ⟨i, j, rfl, rfl, q _ _ B H k (.rfl' bh) (.bl _)⟩
theorem rd_gt {i j : Int} (k : Kp (.bool (decide (j < i)))) : RD W (rI0 fun i j => V.bl (decide (j < i))) (.int i) (.int j) Kp := fun B H u v Q bh d1 d2 q => by
  cases d1; cases d2; exact ⟨i, j, rfl, rfl, q _ _ B H k (.rfl' bh) (.bl _)⟩
theorem rd_ge {i j : Int} (k : Kp (.bool (decide (j ≤ i)))) : RD W (rI0 fun i j => V.bl (decide (j ≤ i))) (.int i) (.int j) Kp := fun B H u v Q bh d1 d2 q => by
  cases d1; cases d2; exact ⟨i, j, rfl, rfl, q _ _ B H k (.rfl' bh) (.bl _)⟩
theorem rd_eqD {x y : PyData} (sx : SeqAt.shaped x = true) (sy : SeqAt.shaped y = true) (k : Kp (.bool (PyData.eqv x y))) : RD W (rEqD W.K) x y Kp := fun B H u v Q bh d1 d2 q =>
  ⟨x, y, (d1.mono bh).dp (SeqAt.canLay_of_shaped sx), (d2.mono bh).dp (SeqAt.canLay_of_shaped sy), sx, sy, q _ _ B H k (.rfl' bh) (.bl _)⟩
theorem rd_neD {x y : PyData} (sx : SeqAt.shaped x = true) (sy : SeqAt.shaped y = true) (k : Kp (.bool (!PyData.eqv x y))) : RD W (rNeD W.K) x y Kp := fun B H u v Q bh d1 d2 q =>
  ⟨x, y, (d1.mono bh).dp (SeqAt.canLay_of_shaped sx), (d2.mono bh).dp (SeqAt.canLay_of_shaped sy), sx, sy, q _ _ B H k (.rfl' bh) (.bl _)⟩
theorem rd_inD {x : PyData} {ds : List PyData} (sx : SeqAt.shaped x = true) (sy : SeqAt.shaped (.list ds) = true) (k : Kp (.bool (ds.any fun z => PyData.eqv z x))) : RD W (rInD W.K) x (.list ds) Kp := fun B H u v Q bh d1 d2 q =>
  ⟨x, ds, (d1.mono bh).dp (SeqAt.canLay_of_shaped sx), (d2.mono bh).dp (SeqAt.canLay_of_shaped sy), sx, sy, q _ _ B H k (.rfl' bh) (.bl _)⟩
theorem rd_notInD {x : PyData} {ds : List PyData} (sx : SeqAt.shaped x = true) (sy : SeqAt.shaped (.list ds) = true) (k : Kp (.bool (!ds.any fun z => PyData.eqv z x))) : RD W (rNotInD W.K) x (.list ds) Kp := fun B H u v Q bh d1 d2 q =>
  ⟨x, ds, (d1.mono bh).dp (SeqAt.canLay_of_shaped sx), (d2.mono bh).dp (SeqAt.canLay_of_shaped sy), sx, sy, q _ _ B H k (.rfl' bh) (.bl _)⟩
theorem DvA.strs {Kf : PySem.W.Frag} {B : Hp} {v : List V} : ∀ {ns : List Str}, DvA Kf B v (ns.map PyData.str) → v = ns.map V.str := by
  induction v with
  | nil => intro ns t; cases ns with
    | nil => rfl
    | cons n ns => rw [List.map_cons] at t; cases t
  | cons w v ih => intro ns t; cases ns with
    | nil => rw [List.map_nil] at t; cases t
    | cons n ns =>
      rw [List.map_cons] at t
      cases t with
      | cons h t => cases h; rw [List.map_cons, ih t]
theorem inV_strs {z : Str} : ∀ ss : List Str, inV (.str z) (ss.map V.str) = decide (z ∈ ss)
  | [] => rfl
  | s :: ss => by
    have ih := inV_strs (z := z) ss
    unfold inV at ih ⊢
    rw [List.map_cons, List.any_cons, ih]
    by_cases h : s = z
    · subst h
      simp [eqV]
    · have h1 : eqV (.str s) (.str z) = false := by simp [eqV, h]
      rw [h1]
      simp [Ne.symm h]
theorem rd_inS {z : Str} {y : PyData} {neg : Bool} (ss : List Str) (hy : y = .list (ss.map .str) ∨ y = .tuple (ss.map .str)) (k : Kp (.bool (if neg then !decide (z ∈ ss) else decide (z ∈ ss)))) : RD W (rIn W.K neg) (.str z) y Kp := fun B H u v Q bh d1 d2 q => by
  cases d1
  have fl : ∀ ss : List Str, (ss.map V.str).all flatV = true := fun ss => by
    rw [List.all_eq_true]
    intro x hx
    obtain ⟨s, _, rfl⟩ := List.mem_map.mp hx
    rfl
  rcases hy with rfl | rfl
  · cases d2 with
    | lst h l t =>
      have e := t.strs
      subst e
      refine ⟨_, _, rfl, .inl (SqL.of (bh _ _ h)), rfl, fl ss, ?_⟩
      rw [inV_strs]
      exact q _ _ B H k (.rfl' bh) (.bl _)
  · cases d2 with
    | tup h l t =>
      have e := t.strs
      subst e
      refine ⟨_, _, rfl, .inr (bh.sqT h), rfl, fl ss, ?_⟩
      rw [inV_strs]
      exact q _ _ B H k (.rfl' bh) (.bl _)
theorem atI_int {α : Type} {xs : List α} {i : Int} {v : α} (h0 : 0 ≤ i) (h : xs[i.toNat]? = some v) : atI xs i = some v := by
  have e : ((i.toNat : Nat) : Int) = i := by omega
  rw [← e]
  exact atI_nat h
theorem rd_ixT {ds : List PyData} {i : Int} {x : PyData} (h0 : 0 ≤ i) (hx : ds[i.toNat]? = some x) (k : Kp x) : RD W (rIxT W.K) (.tuple ds) (.int i) Kp := fun B H u v Q bh d1 d2 q => by
  cases d2
  cases d1 with
  | tup h l t =>
    obtain ⟨w, e1, dw⟩ := t.get hx
    exact ⟨_, _, i, w, rfl, rfl, bh.sqT h, atI_int h0 e1, q _ _ B H k (.rfl' bh) dw⟩
theorem rd_ixL {ds : List PyData} {i : Int} {x : PyData} (h0 : 0 ≤ i) (hx : ds[i.toNat]? = some x) (k : Kp x) : RD W (rIxL W.K) (.list ds) (.int i) Kp := fun B H u v Q bh d1 d2 q => by
  cases d2
  cases d1 with
  | lst h l t =>
    obtain ⟨w, e1, dw⟩ := t.get hx
    exact ⟨_, _, i, w, rfl, rfl, SqL.of (bh _ _ h), atI_int h0 e1, q _ _ B H k (.rfl' bh) dw⟩
theorem rd_ixS {ds : List PyData} {i : Int} {x : PyData} (h0 : 0 ≤ i) (hx : ds[i.toNat]? = some x) (k : Kp x) : RD W (rIxL W.K) (scD ds) (.int i) Kp := fun B H u v Q bh d1 d2 q => by
  cases d2
  unfold scD at d1
  cases d1 with
  | sc h l t =>
    obtain ⟨w, e1, dw⟩ := t.get hx
    exact ⟨_, _, i, w, rfl, rfl, bh.sqL h, atI_int h0 e1, q _ _ B H k (.rfl' bh) dw⟩
theorem rd_ixP0 {p : Int × Int} (k : Kp (.int p.1)) : RD W (rIxT W.K) (kpD p) (.int 0) Kp := fun B H u v Q bh d1 d2 q => by
  cases d2
  unfold kpD at d1
  cases d1 with
  | kp h => exact ⟨_, _, 0, .int p.1, rfl, rfl, SqT.of (bh _ _ h), rfl, q _ _ B H k (.rfl' bh) (.int _)⟩
theorem rd_ixP1 {p : Int × Int} (k : Kp (.int p.2)) : RD W (rIxT W.K) (kpD p) (.int 1) Kp := fun B H u v Q bh d1 d2 q => by
  cases d2
  unfold kpD at d1
  cases d1 with
  | kp h => exact ⟨_, _, 1, .int p.2, rfl, rfl, SqT.of (bh _ _ h), rfl, q _ _ B H k (.rfl' bh) (.int _)⟩
theorem rd_catA {xs ys : List PyData} (hl : xs.length + ys.length ≤ 1000000) (k : Kp (.tuple (xs ++ ys))) : RD W (rCatA W.K) (.tuple xs) (.tuple ys) Kp := fun B H u v Q bh d1 d2 q => by
  have big : (1000000 : Nat) ≤ sizeLine := by decide
  cases d1 with
  | @tup a us _ h l t =>
  cases d2 with
  | @tup b vs _ h' l' t' =>
    have e1 := t.len
    have e2 := t'.len
    refine ⟨a, b, us, vs, rfl, rfl, bh.sqT h, bh.sqT h', by omega, fun hu => ?_, fun hu hv => ?_, fun hu hv p np => ?_⟩
    · subst hu
      cases t
      exact q _ _ B H k (.rfl' bh) (.tup h' l' t')
    · subst hv
      cases t'
      rw [List.append_nil] at k
      exact q _ _ B H k (.rfl' bh) (.tup h l t)
    · have g : Gr B H (upd B p (.tup (us ++ vs))) (upd H p (.tup (us ++ vs))) := .new bh np
      exact q _ _ _ _ k g (.tup (SqT.of upd_same) (by rw [List.length_append]; omega) ((t.app t').mono g.b))
theorem rd_cat {xs ys : List PyData} (hl : xs.length + ys.length ≤ 1000000) (k : Kp (.list (xs ++ ys))) : RD W rCat (.list xs) (.list ys) Kp := fun B H u v Q bh d1 d2 q => by
  have big : (1000000 : Nat) ≤ sizeLine := by decide
  cases d1 with
  | @lst a us _ h l t =>
  cases d2 with
  | @lst b vs _ h' l' t' =>
    have e1 := t.len
    have e2 := t'.len
    refine ⟨a, b, us, vs, rfl, rfl, bh _ _ h, bh _ _ h', by omega, fun p np => ?_⟩
    have g : Gr B H (upd B p (.lst (us ++ vs))) (upd H p (.lst (us ++ vs))) := .new bh np
    exact q _ _ _ _ k g (.lst upd_same (by rw [List.length_append]; omega) ((t.app t').mono g.b))
theorem rd_rep {xs : List PyData} {n : Nat} (hl : xs.length * n ≤ 1000000) (hn : n ≤ 1000000) (k : Kp (.list (List.replicate n xs).flatten)) : RD W rRep (.list xs) (.int (n : Nat)) Kp := fun B H u v Q bh d1 d2 q => by
  have big : (1000000 : Nat) ≤ sizeLine := by decide
  have z1 : (1000000 : Int) < 2 ^ 63 := by decide
  have z2 : -(2 ^ 63 : Int) ≤ 0 := by decide
  cases d2
  cases d1 with
  | @lst a us _ h l t =>
    have e1 := t.len
    have en : ((n : Nat) : Int).toNat = n := by omega
    refine ⟨a, (n : Nat), us, rfl, rfl, bh _ _ h, by omega, by omega, by rw [en, e1]; omega, fun p np => ?_⟩
    rw [en]
    have g : Gr B H (upd B p (.lst (List.replicate n us).flatten)) (upd H p (.lst (List.replicate n us).flatten)) := .new bh np
    have hlen : (List.replicate n us).flatten.length = n * us.length := by simp
    exact q _ _ _ _ k g (.lst upd_same (by rw [hlen, e1, Nat.mul_comm]; omega) ((t.rep n).mono g.b))
theorem rd_notB {a b : Bool} (k : Kp (.bool (!decide (a = b)))) : RD W rNotB (.bool a) (.bool b) Kp := fun B H u v Q bh d1 d2 q => by
  cases d1; cases d2; exact ⟨a, b, rfl, rfl, q _ _ B H k (.rfl' bh) (.bl _)⟩

/-! ### built-ins -/
theorem rdn_len {x : PyData} {ds : List PyData} (hx : x = .list ds ∨ x = .tuple ds ∨ x = scD ds) (k : Kp (.int (ds.length : Nat))) : RDn W (fun xs H Q => ∃ p ys, xs = [.ref p] ∧ (SqL W.K H p ys ∨ SqT W.K H p ys) ∧ Q (.int ys.length) H) [x] Kp := fun B H us Q bh d q => by
  cases d with
  | cons d d' =>
    cases d'
    rcases hx with rfl | rfl | rfl
    · cases d with
      | lst h l t => refine ⟨_, _, rfl, .inl (SqL.of (bh _ _ h)), ?_⟩; rw [t.len]; exact q _ _ B H k (.rfl' bh) (.int _)
    · cases d with
      | tup h l t => refine ⟨_, _, rfl, .inr (bh.sqT h), ?_⟩; rw [t.len]; exact q _ _ B H k (.rfl' bh) (.int _)
    · unfold scD at d
      cases d with
      | sc h l t => refine ⟨_, _, rfl, .inl (bh.sqL h), ?_⟩; rw [t.len]; exact q _ _ B H k (.rfl' bh) (.int _)
theorem rdn_list {x : PyData} {ds : List PyData} (hx : x = .list ds ∨ x = .tuple ds) (k : Kp (.list ds)) : RDn W (fun xs H Q => ∃ p ys, xs = [.ref p] ∧ (SqL W.K H p ys ∨ SqT W.K H p ys) ∧ ∀ l, H l = none → Q (.ref l) (upd H l (.lst ys))) [x] Kp := fun B H us Q bh d q => by
  cases d with
  | cons d d' =>
    cases d'
    rcases hx with rfl | rfl
    · cases d with
      | @lst a vs _ h l t =>
        refine ⟨_, _, rfl, .inl (SqL.of (bh _ _ h)), fun p np => ?_⟩
        have g : Gr B H (upd B p (.lst vs)) (upd H p (.lst vs)) := .new bh np
        exact q _ _ _ _ k g (.lst upd_same l (t.mono g.b))
    · cases d with
      | @tup a vs _ h l t =>
        refine ⟨_, _, rfl, .inr (bh.sqT h), fun p np => ?_⟩
        have g : Gr B H (upd B p (.lst vs)) (upd H p (.lst vs)) := .new bh np
        exact q _ _ _ _ k g (.lst upd_same l (t.mono g.b))
/-- tuple(l): its object has no dict -/
def rTupF (K : PySem.W.Frag) : List V → Hp → VK → Prop := fun xs H Q => ∃ p ys, xs = [.ref p] ∧ SqL K H p ys ∧ ∀ l o, H l = none → o.dict = none → Q (.ref l) (upd H l (.frz o (.tup ys)))
theorem call_tuple_ofF {X : Cx} : CallR X (.type "tuple") (rTupF X.K) := by
  intro pins s σ H xs us Q I r h
  obtain ⟨p, ys, rfl, hq, q⟩ := h
  obtain ⟨u, rfl, rx⟩ := vals1 r
  cases rx
  obtain ⟨its, r', pl, hz⟩ := I.list hq
  have hlen := r'.length
  refine call_tuple_list pl.isList (fun h' kp => ?_) (by simp only [List.size_toArray] <;> omega)
  have I1 : Inv X pins σ H { s with heap := h' } := I.kept (t' := s.toks) kp
  have I2 : Inv X pins σ (upd H h'.objs.size (.frz { cls := .type "tuple", data := .seq its.toArray } (.tup ys))) { s with heap := h'.push { cls := .type "tuple", data := .seq its.toArray } } :=
    I1.laid (t' := s.toks) (fun b o e => Heap.get?_push_of_some _ e) (Nat.le_refl _) (show ObjOk X.prog X.w _ _ _ (.frz _ (.tup ys)) from ⟨Heap.get?_push_size _ rfl, hz, its, r', IsTup.new _ _⟩)
  exact ⟨.ref h'.objs.size, _, I2, rfl, q _ _ (I1.hok.fresh (Nat.le_refl _)) rfl⟩
theorem rdn_tupP {ds : List PyData} (k : Kp (ptD ds)) : RDn W (rTupF W.K) [.list ds] Kp := fun B H us Q bh d q => by
  cases d with
  | cons d d' =>
    cases d'
    cases d with
    | @lst a vs _ h l t =>
      refine ⟨_, vs, rfl, SqL.of (bh _ _ h), fun p o np od => ?_⟩
      have g : Gr B H (upd B p (.frz o (.tup vs))) (upd H p (.frz o (.tup vs))) := .new bh np
      exact q _ _ _ _ k g (.pt upd_same od l (t.mono g.b))
theorem rdn_tup {ds : List PyData} (k : Kp (.tuple ds)) : RDn W (rTupF W.K) [.list ds] Kp := fun B H us Q bh d q => by
  cases d with
  | cons d d' =>
    cases d'
    cases d with
    | @lst a vs _ h l t =>
      refine ⟨_, vs, rfl, SqL.of (bh _ _ h), fun p o np od => ?_⟩
      have g : Gr B H (upd B p (.frz o (.tup vs))) (upd H p (.frz o (.tup vs))) := .new bh np
      exact q _ _ _ _ k g (.tup (.inl (.inr ⟨o, upd_same⟩)) l (t.mono g.b))
theorem rdn_int {i : Int} (k : Kp (.int i)) : RDn W (fun xs H Q => (∃ i, xs = [.int i] ∧ Q (.int i) H) ∨ ∃ k, xs = [.bl k] ∧ Q (.int (if k then 1 else 0)) H) [.int i] Kp := fun B H us Q bh d q => by
  cases d with
  | cons d d' => cases d'; cases d; exact .inl ⟨i, rfl, q _ _ B H k (.rfl' bh) (.int _)⟩
theorem rdn_min {i j : Int} (k : Kp (.int (if j < i then j else i))) : RDn W (fun xs H Q => ∃ i j, xs = [.int i, .int j] ∧ Q (.int (if j < i then j else i)) H) [.int i, .int j] Kp := fun B H us Q bh d q => by
  cases d with
  | cons d d' =>
    cases d
    cases d' with
    | cons d d' => cases d'; cases d; exact ⟨i, j, rfl, q _ _ B H k (.rfl' bh) (.int _)⟩
theorem rdn_sorted {ns : List Int} (hl : ns.length < 64) (k : ∀ ns' : List Int, ns'.Perm ns → ns'.Pairwise (· ≤ ·) → Kp (.list (ns'.map .int))) : RDn W (rSorted W.K) [.list (ns.map .int)] Kp := fun B H us Q bh d q => by
  cases d with
  | cons d d' =>
    cases d'
    cases d with
    | @lst a vs _ h l t =>
      have e := t.ints
      subst e
      refine ⟨a, ns, rfl, SqL.of (bh _ _ h), hl, fun ns' p pm so np => ?_⟩
      have g : Gr B H (upd B p (.lst (ns'.map V.int))) (upd H p (.lst (ns'.map V.int))) := .new bh np
      exact q _ _ _ _ (k ns' pm so) g (.lst upd_same (by rw [List.length_map, pm.length_eq, ← List.length_map]; exact l) (DvA.ofInts ns'))
theorem awp_lenSet (h : AWp W te Γ fun Γ1 x => ∃ ns : List Int, x = .tuple (ns.map .int) ∧ ns.length ≤ 1000 ∧ ∀ ks : List Int, ks.Nodup → (∀ k, k ∈ ks ↔ k ∈ ns) → K Γ1 (.int (ks.length : Nat))) : AWp W (tLenSetT W.K te) Γ K := fun c B σ H Q R q =>
  h c B σ H _ R fun v x B1 H1 Γ1 k1 e1 R1 d1 => by
    obtain ⟨ns, rfl, hl, k1⟩ := k1
    cases d1 with
    | tup h l t =>
      have e := t.ints
      subst e
      exact ⟨_, ns, rfl, R1.bh.sqT h, hl, fun ks nd hk => q _ _ B1 H1 Γ1 (k1 ks nd hk) e1 R1 (.int _)⟩

/-! ### isinstance -/
def tyN : PyData → String
  | .none => "NoneType"
  | .bool _ => "bool"
  | .int _ => "int"
  | .str _ => "str"
  | .list _ => "list"
  | .tuple _ => "tuple"
  | .dict _ => "dict"
def okD : PyData → Bool
  | .dict (_ :: _) => false
  | _ => true
def tyB (n t : String) : Bool := decide (t = n) || (decide (n = "int") && decide (t = "bool"))
def isTy (n : String) (x : PyData) : Bool := tyB n (tyN x)
theorem Dv.tyx {Kf : PySem.W.Frag} {B H : Hp} {v : V} {x : PyData} (d : Dv Kf B v x) (bh : Xt B H) (ok : okD x = true) : TyX Kf H v (.type (tyN x)) := by
  cases d with
  | non => exact .base .non
  | bl b => exact .base (.bl b)
  | int i => exact .base (.int i)
  | str x => exact .base (.str x)
  | tup h l t =>
    rcases bh.sqT h with (h | ⟨o, h⟩) | ⟨o, its, n, e1, e2, _⟩
    · exact .base (.tup h)
    · exact .fTuple h
    · exact .kTuple e1 e2
  | lst h l t => exact .base (.lst (bh _ _ h))
  | dk h => exact .base (.dK (bh _ _ h))
  | dt h t => cases ok
  | pt h d l t => cases ok
  | sc h l t => cases ok
  | kp h => cases ok
theorem kitB_ty : ∀ t ∈ ["NoneType", "bool", "int", "str", "list", "tuple", "dict"], ∀ n ∈ ["int", "bool", "str", "tuple", "list"], kitB t n = some (tyB n t) := by decide +kernel
theorem kitB_is {n : String} {x : PyData} (hn : n = "int" ∨ n = "bool" ∨ n = "str" ∨ n = "tuple" ∨ n = "list") : kitB (tyN x) n = some (isTy n x) :=
  kitB_ty (tyN x) (by cases x <;> simp [tyN]) n (by simpa using hn)
theorem awp_isi {n : String} (hn : n = "int" ∨ n = "bool" ∨ n = "str" ∨ n = "tuple" ∨ n = "list") (h : AWp W te Γ fun Γ1 x => okD x = true ∧ K Γ1 (.bool (isTy n x))) : AWp W (tCB (rIsi W.K) (tCons te (tCons (tC (.ty n)) tNil))) Γ K := fun c B σ H Q R q =>
  h c B σ H _ R fun v x B1 H1 Γ1 k1 e1 R1 d1 => ⟨v, .ty n, _, _, _, rfl, .ty n, d1.tyx R1.bh k1.1, kit_ty (kitB_is hn), q _ _ B1 H1 Γ1 k1.2 e1 R1 (.bl _)⟩
theorem awp_isi2 {n m : String} (hn : n = "int" ∨ n = "bool" ∨ n = "str" ∨ n = "tuple" ∨ n = "list") (hm : m = "int" ∨ m = "bool" ∨ m = "str" ∨ m = "tuple" ∨ m = "list") (h : AWp W te Γ fun Γ1 x => okD x = true ∧ K Γ1 (.bool (isTy n x || isTy m x))) :
    AWp W (tCB (rIsiT W.K) (tCons te (tCons (tTup (tCons (tC (.ty n)) (tCons (tC (.ty m)) tNil))) tNil))) Γ K := fun c B σ H Q R q =>
  h c B σ H _ R fun v x B1 H1 Γ1 k1 e1 R1 d1 => by
    refine ⟨by show 2 ≤ sizeLine; decide, fun p np => ?_⟩
    have g : Gr B1 H1 B1 (upd H1 p (.tup [.ty n, .ty m])) := .own R1.bh np
    have R2 := R1.grow g
    refine ⟨v, p, [.ty n, .ty m], _, _, (isTy n x || isTy m x), rfl, upd_same, .cons (.ty n) (.cons (.ty m) .nil), d1.tyx R2.bh k1.1, ?_, q _ _ B1 _ Γ1 k1.2 e1 R2 (.bl _)⟩
    refine kitAny_cons (kit_ty (kitB_is hn)) (fun e => ?_) fun e => by rw [e]; rfl
    rw [e, Bool.false_or]
    refine kitAny_cons (kit_ty (kitB_is hm)) (fun e => ?_) fun e => e
    rw [e]
    rfl

/-! ### slices -/
def cutD (xs : List PyData) (lo hi : Option Int) : List PyData := (xs.drop (HT.sIx xs.length 0 lo)).take (HT.sIx xs.length xs.length hi - HT.sIx xs.length 0 lo)
theorem DvA.cut {Kf : PySem.W.Frag} {B : Hp} {v : List V} {d : List PyData} (t : DvA Kf B v d) (lo hi : Option Int) : DvA Kf B (cutV v lo hi) (cutD d lo hi) := by
  unfold cutV cutD
  rw [t.len]
  exact (t.drop _).take _
theorem awo_no {KO : List SV → Option Int → Prop} (k : KO Γ none) : AWo W tNoPart Γ KO := fun c B σ H Q R q => q none B H Γ k .rfl' R
theorem awo_some {KO : List SV → Option Int → Prop} (h : AWp W te Γ fun Γ1 x => ∃ i, x = .int i ∧ KO Γ1 (some i)) : AWo W (tPart te) Γ KO := fun c B σ H Q R q =>
  h c B σ H _ R fun v x B1 H1 Γ1 k1 e1 R1 d1 => by
    obtain ⟨i, rfl, k1⟩ := k1
    cases d1
    exact ⟨i, rfl, q _ B1 H1 Γ1 k1 e1 R1⟩
theorem awp_sl {tl th : TO} (h : AWp W te Γ fun Γ1 x => ∃ ds, x = .tuple ds ∧ AWo W tl Γ1 fun Γ2 lo => AWo W th Γ2 fun Γ3 hi => K Γ3 (.tuple (cutD ds lo hi))) : AWp W (tSl (rSlA W.K) te tl th) Γ K := fun c B σ H Q R q =>
  h c B σ H _ R fun v x B1 H1 Γ1 k1 e1 R1 d1 => by
    obtain ⟨ds, rfl, k1⟩ := k1
    refine k1 c B1 σ H1 _ R1 fun lo B2 H2 Γ2 k2 e2 R2 => k2 c B2 σ H2 _ R2 fun hi B3 H3 Γ3 k3 e3 R3 => ?_
    have d3 := d1.mono (e2.tr e3)
    cases d3 with
    | @tup a vs _ h l t =>
      have dc := t.cut lo hi
      refine ⟨a, vs, rfl, R3.bh.sqT h, fun hw => ?_, fun hw p np => ?_⟩
      · have ec : cutD ds lo hi = ds := by
          have hl := t.len
          unfold cutD
          rw [← hl, hw.1, hw.2, List.drop_zero, Nat.sub_zero, hl, List.take_length]
        have k3' : K Γ3 (.tuple (cutD ds lo hi)) := k3
        rw [ec] at k3'
        exact q _ _ B3 H3 Γ3 k3' (e1.tr (e2.tr e3)) R3 (.tup h l t)
      · have g : Gr B3 H3 (upd B3 p (.tup (cutV vs lo hi))) (upd H3 p (.tup (cutV vs lo hi))) := .new R3.bh np
        exact q _ _ _ _ Γ3 k3 (e1.tr (e2.tr (e3.tr g.b))) (R3.grow g) (.tup (SqT.of upd_same) (Nat.le_trans (cutV_length _ _ _) l) (dc.mono g.b))

/-! ### index -/
theorem awp_ixOf (h : AWp W te Γ fun Γ1 x => ∃ ds, x = .list ds ∧ AWp W tk Γ1 fun Γ2 d => ∃ (j : Nat) (z : PyData), SeqAt.shaped (.list ds) = true ∧ SeqAt.shaped d = true ∧ ds[j]? = some z ∧ PyData.eqv z d = true ∧
    (∀ (m : Nat) (z' : PyData), m < j → ds[m]? = some z' → PyData.eqv z' d = false) ∧ K Γ2 (.int (j : Nat))) : AWp W (tBM W.K "list" (rIndexD W.K) te (tCons tk tNil)) Γ K := fun c B σ H Q R q =>
  h c B σ H _ R fun v x B1 H1 Γ1 k1 e1 R1 d1 => by
    obtain ⟨ds, rfl, k1⟩ := k1
    cases d1 with
    | @lst a vs _ h l t =>
      refine ⟨.inl ⟨rfl, vs, SqL.of (R1.bh _ _ h)⟩, ?_⟩
      refine k1 c B1 σ H1 _ R1 fun v2 d B2 H2 Γ2 k2 e2 R2 d2 => ?_
      obtain ⟨j, z, s1, s2, hz, he, hno, k2⟩ := k2
      exact ⟨a, v2, d, ds, j, z, rfl, rfl, (Dv.lst (e2 _ _ h) l (t.mono e2) |>.mono R2.bh).dp (SeqAt.canLay_of_shaped s1), (d2.mono R2.bh).dp (SeqAt.canLay_of_shaped s2), s1, s2, hz, he, hno, q _ _ B2 H2 Γ2 k2 (e1.tr e2) R2 (.int _)⟩
/-- t.index(i), t made by tuple(..) -/
def tBMF (r : V → List V → Hp → VK → Prop) (to : TE) (t : TA) : TE := fun σ H Q => to σ H fun x H1 => (∃ a o xs, x = .ref a ∧ H1 a = some (.frz o (.tup xs)) ∧ o.dict = none) ∧ t σ H1 fun xs H2 => r x xs H2 Q
theorem pe_bmF {X : Cx} {id : String} {o e : Expr} {es : List Expr} {to : TE} {t : TA} {name : Str} {apos cpos : Pos} {r : V → List V → Hp → VK → Prop} (pa : PlainAttrs "tuple") (slot : Slot "tuple" name id) (hty : typeOf (.builtin id) = pure (.type "method_descriptor")) (hm : MtR X id r) (ho : PE X o to) (ha : PA X (e :: es) t)
    (hbase : attributeBase o name X.env (eval o X.env) = eval o X.env := by rfl)
    (hfew : ((backTo cpos (starEach (e :: es) X.env)).all (fun x => !x.1) && (backToKw cpos (keywordEach [] X.env)).all (fun x => x.1.isSome)
      && decide ((e :: es).length + ([] : List Keyword).length + (if ([] : List Keyword).isEmpty then 0 else 1) < 30)) = true := by rfl)
    (hline : (apos.endLine == cpos.line) = true := by rfl) (hs : starEach (e :: es) X.env = (false, eval e X.env) :: starEach es X.env := by rfl) (hplain : (backTo cpos (starEach es X.env)).any (·.1) = false := by rfl) :
    PE X (.Call (.Attribute o name apos) (e :: es) [] cpos) (tBMF r to t) := by
  refine ⟨fun pins s σ H Q I h => ?_⟩
  refine wpAny_Call_method_late hbase hfew hline rfl (thn (ho.run pins s σ H _ I h) fun v s1 ⟨x, H1, I1, r1, ty, q1⟩ => ?_)
  obtain ⟨a, ob, xs, rfl, ha1, hd⟩ := ty
  obtain rfl : v = Value.ref a := r1
  have ok : ObjOk X.prog X.w H1 s1.heap a (.frz ob (.tup xs)) := I1.hok a _ ha1
  obtain ⟨e1, _, its, _, tp⟩ := ok
  refine ⟨"tuple", id, pa, slot, hty, tp.typeIs, fun b eb => ?_, ?_⟩
  · cases eb
    exact ⟨ob, e1, hd⟩
  have hA := ha.run cpos pins s1 σ H1 _ I1 q1
  rw [hs] at hA ⊢
  refine Calls.callWith_builtin (by show (false || (backTo cpos (starEach es X.env)).any (·.1)) = false; rw [hplain] <;> rfl) (Calls.evalArgs_plain ?_)
  exact thn hA fun us s2 ⟨vs, H2, I2, r2, q2⟩ => hm pins s2 σ H2 (.ref a) vs _ us Q I2 rfl r2 q2
def rIxI (K : PySem.W.Frag) : V → List V → Hp → VK → Prop := fun x xs H Q => ∃ p, ∃ ns : List Int, ∃ k j, x = .ref p ∧ xs = [.int k] ∧ SqT K H p (ns.map V.int) ∧ ns[j]? = some k ∧ (∀ m, m < j → ns[m]? ≠ some k) ∧ Q (.int (j : Nat)) H
theorem mt_ixI {X : Cx} : MtR X "tuple.index" (rIxI X.K) := mt_tup_indexI
theorem awp_ixOfT (h : AWp W te Γ fun Γ1 x => ∃ ns : List Int, x = ptD (ns.map .int) ∧ AWp W tk Γ1 fun Γ2 d => ∃ (k : Int) (j : Nat), d = .int k ∧ ns[j]? = some k ∧ (∀ m, m < j → ns[m]? ≠ some k) ∧ K Γ2 (.int (j : Nat))) : AWp W (tBMF (rIxI W.K) te (tCons tk tNil)) Γ K := fun c B σ H Q R q =>
  h c B σ H _ R fun v x B1 H1 Γ1 k1 e1 R1 d1 => by
    obtain ⟨ns, rfl, k1⟩ := k1
    unfold ptD at d1
    cases d1 with
    | @pt a o vs _ h od l t =>
      refine ⟨⟨a, o, vs, rfl, R1.bh _ _ h, od⟩, ?_⟩
      refine k1 c B1 σ H1 _ R1 fun v2 d B2 H2 Γ2 k2 e2 R2 d2 => ?_
      obtain ⟨k, j, rfl, hz, hno, k2⟩ := k2
      cases d2
      have e := t.ints
      subst e
      exact ⟨a, ns, k, j, rfl, rfl, .inl (.inr ⟨o, R2.bh _ _ (e2 _ _ h)⟩), hz, hno, q _ _ B2 H2 Γ2 k2 (e1.tr e2) R2 (.int _)⟩
end

/-! ### a def's promise -/
def RowS (r : Addr) (s : Option SV) : Prop := s = some (.o (.row r)) ∨ ∃ ns i sd z, s = some (.o (.rw r ns i sd z)) ∧ 0 ≤ i ∧ 0 ≤ sd ∧ sd < 2147483647
section
variable {P : Program} {w : World} {K : PySem.W.Frag} {mg : Str → Option Value} {base : Heap} {T : List Addr}
theorem slot_start {c : Cf} {B H : Hp} {vs : List V} {ds : List PyData} {N : List Str} {n : Nat} (d : DvA K B vs ds) (hn : ds.length = n) {i : Nat} {s : SV} (e : (ds.map SV.d ++ List.replicate (N.length - n) SV.un)[i]? = some s) : SOk ⟨K, T⟩ c B H s (L2.start N vs)[i]? := by
  have hl := d.len
  unfold L2.start
  by_cases hi : i < ds.length
  · rw [List.getElem?_append_left (by simpa using hi), List.getElem?_map] at e
    rw [List.getElem?_append_left (by rw [List.length_map, hl]; exact hi), List.getElem?_map]
    rw [List.getElem?_eq_getElem hi] at e
    cases e
    obtain ⟨w, e1, dw⟩ := d.get (List.getElem?_eq_getElem hi)
    exact ⟨w, by rw [e1]; rfl, dw⟩
  · rw [List.getElem?_append_right (by simpa using hi), List.getElem?_replicate] at e
    rw [List.getElem?_append_right (by rw [List.length_map, hl]; omega), List.getElem?_replicate]
    rw [List.length_map] at e ⊢
    rw [hl, hn]
    rw [hn] at e
    split at e
    · cases e
      rename_i hlt
      rw [if_pos hlt]
      rfl
    · cases e
theorem rp_start {B H : Hp} {vs : List V} {ds : List PyData} {N : List Str} {n : Nat} (bh : Xt B H) (tb : ∀ P ∈ T, B P = some (TabX P)) (d : DvA K B vs ds) (hn : ds.length = n) : Rp ⟨K, T⟩ ⟨H, B⟩ B (ds.map SV.d ++ List.replicate (N.length - n) SV.un) (L2.start N vs) H := by
  refine ⟨.rfl', bh, .rfl', fun _ _ _ => rfl, tb, ?_, fun i s e => slot_start d hn e, fun i j m m' a e1 _ _ _ => ?_⟩
  · have := d.len
    unfold L2.start
    simp only [List.length_append, List.length_map, List.length_replicate]
    omega
  · by_cases hi : i < (ds.map SV.d).length
    · rw [List.getElem?_append_left hi, List.getElem?_map] at e1
      cases z : ds[i]? with
      | none => rw [z] at e1; cases e1
      | some x => rw [z] at e1; cases e1
    · rw [List.getElem?_append_right (by omega), List.getElem?_replicate] at e1
      split at e1 <;> cases e1
theorem fn_abs {x qual : Str} {st : Stmt} {f : Addr} {fd : FuncData} {N ps : List Str} {k n : Nat} {α : Type} {args : α → List PyData} {pre : α → Prop} {post : α → PyData → Prop} (F : Fun K x qual st f fd) (S : FnScope N ps (defScope st)) (hn : ps.length = n) (ha : ∀ a, (args a).length = n)
    (hbody : ∀ (cdv : Value) (A : Around) (outer : List Env) (s : Shared) (H : Hp) (E : XK), (∀ c, fd.code = .ref c → cdv = .ref c) → Room k (A.deeper (envOfC qual (defScope st) s.heap.objs.size f cdv)) →
      ∃ t, PSs (cxOf CX0 P w K mg base N qual (defScope st) f cdv A outer s H E).nox (defBody st) t ∧
        ∀ a : α, pre a → ASt ⟨K, T⟩ t ((args a).map SV.d ++ List.replicate (N.length - n) SV.un) (fun _ => post a .none) (fun _ x => post a x) (fun _ => False) (fun _ => False)) : FnOk P w K mg base CX0 (k + 1) f fd ps (SpD ⟨K, T⟩ args pre post) := by
  obtain ⟨oc, od, kV, doc, pm, an, cdv, ct, osl, rfl, lk, hcd⟩ := F.ex
  refine fn_of lk hcd S (fun vs H Q E hs => ?_) fun A outer s H vs Q E hr hsp => ?_
  · obtain ⟨B, a, _, _, d, _⟩ := hs
    rw [d.len, ha, hn]
  obtain ⟨t, ht, hq⟩ := hbody cdv A outer s H E (fun c e => e) hr
  obtain ⟨B, a, bh, tb, d, hp, q⟩ := hsp
  refine ⟨t, ht.nox, hq a hp ⟨H, B⟩ B _ H _ (rp_start bh tb d (ha a)) ⟨fun Γ B' σ H' k e R => ?_, fun Γ x v B' σ H' k e R dv => ?_, fun Γ B' σ H' k => k.elim, fun Γ B' σ H' k => k.elim⟩⟩
  · exact q .non .none B' H' k ⟨R.x0, R.nb, R.bh, R.nw⟩ .non
  · exact q v x B' H' k ⟨R.x0, R.nb, R.bh, R.nw⟩ dv
/-- .. of a def that draws from the row (its first parameter) -/
theorem fn_absR {x qual : Str} {st : Stmt} {f : Addr} {fd : FuncData} {N ps : List Str} {k n : Nat} {α : Type} {args : α → List PyData} {pre : α → Prop} {post : α → PyData → Prop} (F : Fun K x qual st f fd) (S : FnScope N ps (defScope st)) (hn : ps.length = n + 1) (ha : ∀ a, (args a).length = n)
    (hbody : ∀ (cdv : Value) (A : Around) (outer : List Env) (s : Shared) (H : Hp) (E : XK), Room k (A.deeper (envOfC qual (defScope st) s.heap.objs.size f cdv)) →
      ∃ t, PSs (cxOf CX0 P w K mg base N qual (defScope st) f cdv A outer s H E).nox (defBody st) t ∧
        ∀ (r : Addr) (a : α), pre a → ASt ⟨K, T⟩ t (.o (.row r) :: ((args a).map SV.d ++ List.replicate (N.length - (n + 1)) SV.un)) (fun _ => False) (fun Γ x => RowS r Γ[0]? ∧ post a x) (fun _ => False) (fun _ => False)) :
    FnOk P w K mg base CX0 (k + 1) f fd ps (SpR ⟨K, T⟩ args pre post) := by
  obtain ⟨oc, od, kV, doc, pm, an, cdv, ct, osl, rfl, lk, hcd⟩ := F.ex
  refine fn_of lk hcd S (fun vs H Q E hs => ?_) fun A outer s H vs Q E hr hsp => ?_
  · obtain ⟨B, r, u, ws, a, rfl, _, _, _, _, _, d, _⟩ := hs
    rw [List.length_cons, d.len, ha, hn]
  obtain ⟨t, ht, hq⟩ := hbody cdv A outer s H E hr
  obtain ⟨B, r, u, ws, aa, rfl, bh, tb, hb, hu, ro, d, hp, q⟩ := hsp
  have hl := ha aa
  have bh' : Xt B (hid r H) := fun a o e => by
    have ha : a ≠ r := fun z => by subst z; rw [hb] at e; cases e
    rw [hid_ne ha]
    exact bh a o e
  have R0 : Rp ⟨K, T⟩ ⟨hid r H, B⟩ B (.o (.row r) :: ((args aa).map SV.d ++ List.replicate (N.length - (n + 1)) SV.un)) (L2.start N (.ref r :: ws)) H := by
    have es : L2.start N (.ref r :: ws) = some (.ref r) :: L2.start (N.drop 1) ws := by
      unfold L2.start
      rw [List.map_cons, List.cons_append, List.length_drop, List.length_cons]
      congr 3
      omega
    have en : N.length - (n + 1) = (N.drop 1).length - n := by rw [List.length_drop]; omega
    rw [es, en]
    have R1 : Rp ⟨K, T⟩ ⟨hid r H, B⟩ B ((args aa).map SV.d ++ List.replicate ((N.drop 1).length - n) SV.un) (L2.start (N.drop 1) ws) (hid r H) := rp_start bh' tb d hl
    refine ⟨hid_le, bh, .rfl', fun _ _ _ => rfl, tb, by rw [List.length_cons, List.length_cons, R1.len], fun i s e => ?_, fun i j m m' a e1 e2 e3 e4 => ?_⟩
    · cases i with
      | zero =>
        rw [List.getElem?_cons_zero] at e
        cases e
        exact ⟨r, u, rfl, hb, hid_self, hu, rfl, ro⟩
      | succ i =>
        rw [List.getElem?_cons_succ] at e ⊢
        exact slot_start d hl e
    · have no : ∀ {i : Nat} {m : MO}, (SV.o (.row r) :: ((args aa).map SV.d ++ List.replicate ((N.drop 1).length - n) SV.un))[i]? = some (.o m) → i = 0 := fun {i m} e => by
        cases i with
        | zero => rfl
        | succ i =>
          rw [List.getElem?_cons_succ] at e
          obtain ⟨a, u, z1, z2, z3, z4, _⟩ := slot_start (T := T) (c := ⟨hid r H, B⟩) (H := hid r H) (N := N.drop 1) d hl e
          rw [show (⟨hid r H, B⟩ : Cf).X0 = hid r H from rfl, z4] at z3
          cases z3
      rw [no e1, no e2]
  refine ⟨t, ht.nox, hq r aa hp ⟨hid r H, B⟩ B _ H _ R0 ⟨fun Γ B' σ H' k e R => k.elim, fun Γ x v B' σ H' k e R dv => ?_, fun Γ B' σ H' k => k.elim, fun Γ B' σ H' k => k.elim⟩⟩
  obtain ⟨k0, k⟩ := k
  rcases k0 with k0 | ⟨ns, i, sd, z, k0, b1, b2, b3⟩
  · obtain ⟨_, u', z1, z2, z3, z4, rfl, z5⟩ := R.sl 0 _ k0
    exact q v x B' H' u' k ⟨R.x0, R.nb, R.bh, R.nw⟩ z2 z4 z5 dv
  · obtain ⟨_, u', z1, z2, z3, z4, rfl, hl2, sa, z5, z6⟩ := R.sl 0 _ k0
    exact q v x B' H' u' k ⟨R.x0, R.nb, R.bh, R.nw⟩ z2 z4 ⟨sa, ns, i, sd, z, z5, z6, hl2, b1, b2, b3⟩ dv
end
end TW
end

section
set_option Elab.async false
set_option linter.all false
set_option maxRecDepth 100000
set_option maxHeartbeats 4000000
/-! What a def's body may use: the other defs, the built-ins, the constants. -/
namespace TW
open PySem PySem.Spec PyProof.Rows L2
abbrev FnP (K : PySem.W.Frag) (x : Str) (st : Stmt) (f : Addr) (fd : FuncData) : Prop := FunD K x x (defArgs st) (defBody st) (defScope st) [] [] f fd
/-- the def x stands -/
def Dd (K : PySem.W.Frag) (mg : Str → Option Value) (x : Str) (st : Stmt) : Prop := ∃ f fd, mg x = some (.ref f) ∧ FnP K x st f fd
/-- .. and has a table -/
def DdG (K : PySem.W.Frag) (mg : Str → Option Value) (base : Heap) (T : List Addr) (x : Str) (st : Stmt) : Prop := ∃ f fd c P, mg x = some (.ref f) ∧ FnP K x st f fd ∧ fd.code = .ref c ∧ GxR.TabB base mg c P ∧ P ∈ T
/-- it keeps its promise -/
def Ok (P : Program) (w : World) (K : PySem.W.Frag) (mg : Str → Option Value) (base : Heap) (k : Nat) (x : Str) (ps : List Str) (sp : Sp) : Prop := ∃ f fd, mg x = some (.ref f) ∧ PySem.W.keepIn K (.ref f) = true ∧ Binds K fd ps [] ∧ FnOk P w K mg base CX0 k f fd ps sp
theorem Ok.mono {P : Program} {w : World} {K : PySem.W.Frag} {mg : Str → Option Value} {base : Heap} {j k : Nat} {x : Str} {ps : List Str} {sp : Sp} (h : Ok P w K mg base j x ps sp) (e : j ≤ k) : Ok P w K mg base k x ps sp := let ⟨f, fd, a, b, c, d⟩ := h; ⟨f, fd, a, b, c, d.mono e⟩
section
variable {X : Cx} {x : Str} {p pos : Pos} {e : Expr} {es : List Expr} {t : TA} {ps : List Str} {sp : Sp} {k : Nat}
theorem pe_callO (h : Ok X.prog X.w X.K X.mg X.base k x ps sp) (hr : Room k X.A) (hg : Gl X x) (ha : PA X (e :: es) t) (hdb : (x == ("__debug__" : Str)) = false := by decide) (he : starEach (e :: es) X.env = (false, eval e X.env) :: starEach es X.env := by rfl)
    (hpl : (backTo pos (starEach es X.env)).any (·.1) = false := by rfl) : PE X (.Call (.Name x p) (e :: es) [] pos) (tCall sp [] E0 t) := by
  obtain ⟨f, fd, a, b, c, d⟩ := h
  exact pe_call d hr hg a b c .nil pass0 ha hdb he hpl
theorem u64 {A : Around} {k : Nat} (r : Room k A) : A.units + 64 < cLine := by have := r.un; omega
theorem u65 {A : Around} {k : Nat} (r : Room k A) : A.units + 65 < cLine := by have := r.un; omega
theorem u1 {A : Around} {k : Nat} (r : Room k A) : A.units + 1 < cLine := by have := r.un; omega
theorem room0 {k : Nat} {A : Around} (r : Room k A) : Room 0 A := r.mono (Nat.zero_le _)
end
section
variable {P : Program} {w : World} {K : PySem.W.Frag} {mg : Str → Option Value} {base : Heap} {T : List Addr}
theorem FunD.toFun {x : Str} {st : Stmt} {f : Addr} {fd : FuncData} (F : FnP K x st f fd) : Fun K x x st f fd := by
  obtain ⟨⟨oc, od, dV, kV, doc, pm, an, cdv, ct, osl, e, lk, hcd, hD, hK⟩, kp⟩ := F
  rcases hD with ⟨_, rfl⟩ | ⟨z, _⟩
  · exact ⟨⟨oc, od, kV, doc, pm, an, cdv, ct, osl, e, lk, hcd⟩, kp⟩
  · exact absurd rfl z
abbrev BindF (x : Str) (st : Stmt) (ps : List Str) : Prop := ∀ (kV doc pm : Value) (an : Option Addr) (cdv ct : Value) (us : List Value), us.length = ps.length → bindArgs (PySem.W.fnOf x x (defArgs st) (defBody st) (defScope st) .none kV doc pm an cdv ct) ⟨us, []⟩ = pure (ps.zip us)
theorem ok_mk {x : Str} {st : Stmt} {N ps : List Str} {k n : Nat} {α : Type} {args : α → List PyData} {pre : α → Prop} {post : α → PyData → Prop} (D : Dd K mg x st) (S : FnScope N ps (defScope st)) (hn : ps.length = n) (ha : ∀ a, (args a).length = n) (hb : BindF x st ps)
    (hbody : ∀ (f : Addr) (cdv : Value) (A : Around) (outer : List Env) (s : Shared) (H : Hp) (E : XK), Room k (A.deeper (envOfC x (defScope st) s.heap.objs.size f cdv)) →
      ∃ t, PSs (cxOf CX0 P w K mg base N x (defScope st) f cdv A outer s H E).nox (defBody st) t ∧
        ∀ a : α, pre a → ASt ⟨K, T⟩ t ((args a).map SV.d ++ List.replicate (N.length - n) SV.un) (fun _ => post a .none) (fun _ x => post a x) (fun _ => False) (fun _ => False)) : Ok P w K mg base (k + 1) x ps (SpD ⟨K, T⟩ args pre post) := by
  obtain ⟨f, fd, e, F⟩ := D
  exact ⟨f, fd, e, F.kp, F.bindsN hb, fn_abs (FunD.toFun F) S hn ha fun cdv A outer s H E _ hr => hbody f cdv A outer s H E hr⟩
theorem ok_mkG {x : Str} {st : Stmt} {N ps : List Str} {k n : Nat} {α : Type} {args : α → List PyData} {pre : α → Prop} {post : α → PyData → Prop} (D : DdG K mg base T x st) (S : FnScope N ps (defScope st)) (hn : ps.length = n) (ha : ∀ a, (args a).length = n) (hb : BindF x st ps)
    (hbody : ∀ (c Pt f : Addr) (A : Around) (outer : List Env) (s : Shared) (H : Hp) (E : XK), GxR.TabB base mg c Pt → Pt ∈ T → Room k (A.deeper (envOfC x (defScope st) s.heap.objs.size f (.ref c))) →
      ∃ t, PSs (cxOf CX0 P w K mg base N x (defScope st) f (.ref c) A outer s H E).nox (defBody st) t ∧
        ∀ a : α, pre a → ASt ⟨K, T⟩ t ((args a).map SV.d ++ List.replicate (N.length - n) SV.un) (fun _ => post a .none) (fun _ x => post a x) (fun _ => False) (fun _ => False)) : Ok P w K mg base (k + 1) x ps (SpD ⟨K, T⟩ args pre post) := by
  obtain ⟨f, fd, c, Pt, e, F, hc, TB, hP⟩ := D
  refine ⟨f, fd, e, F.kp, F.bindsN hb, fn_abs (FunD.toFun F) S hn ha fun cdv A outer s H E hcd hr => ?_⟩
  have := hcd c hc
  subst this
  exact hbody c Pt f A outer s H E TB hP hr
theorem ok_mkR {x : Str} {st : Stmt} {N ps : List Str} {k n : Nat} {α : Type} {args : α → List PyData} {pre : α → Prop} {post : α → PyData → Prop} (D : Dd K mg x st) (S : FnScope N ps (defScope st)) (hn : ps.length = n + 1) (ha : ∀ a, (args a).length = n) (hb : BindF x st ps)
    (hbody : ∀ (f : Addr) (cdv : Value) (A : Around) (outer : List Env) (s : Shared) (H : Hp) (E : XK), Room k (A.deeper (envOfC x (defScope st) s.heap.objs.size f cdv)) →
      ∃ t, PSs (cxOf CX0 P w K mg base N x (defScope st) f cdv A outer s H E).nox (defBody st) t ∧
        ∀ (r : Addr) (a : α), pre a → ASt ⟨K, T⟩ t (.o (.row r) :: ((args a).map SV.d ++ List.replicate (N.length - (n + 1)) SV.un)) (fun _ => False) (fun Γ x => RowS r Γ[0]? ∧ post a x) (fun _ => False) (fun _ => False)) :
    Ok P w K mg base (k + 1) x ps (SpR ⟨K, T⟩ args pre post) := by
  obtain ⟨f, fd, e, F⟩ := D
  exact ⟨f, fd, e, F.kp, F.bindsN hb, fn_absR (FunD.toFun F) S hn ha fun cdv A outer s H E hr => hbody f cdv A outer s H E hr⟩
end
def wsL : List Str := ["end", "ends", "stack", "deque", "in", "inout", "relabel", "reverse"]
def otoL : List Str := ["stack", "deque", "inout"]
def ordL : List Str := ["in", "inout"]
/-- the built-ins and the constants -/
structure Bt (K : PySem.W.Frag) (mg : Str → Option Value) : Prop where
  isinstance : mg "isinstance" = none
  int : mg "int" = none
  bool : mg "bool" = none
  tuple : mg "tuple" = none
  str : mg "str" = none
  len : mg "len" = none
  all : mg "all" = none
  list : mg "list" = none
  range : mg "range" = none
  set : mg "set" = none
  enumerate : mg "enumerate" = none
  min : mg "min" = none
  sorted : mg "sorted" = none
  c_letters : ∃ t, mg "MOST_LETTERS" = some (.int 3 t)
  c_states : ∃ t, mg "MOST_STATES" = some (.int 40 t)
  c_answer : ∃ t, mg "MOST_ANSWER" = some (.int 3 t)
  c_reason : ∃ t, mg "MOST_REASON" = some (.int 160 t)
  worlds : ∃ a, mg "WORLDS" = some (.ref a) ∧ SqT K (fun _ => none) a (wsL.map V.str)
  oto : ∃ a, mg "ONE_TO_ONE" = some (.ref a) ∧ SqT K (fun _ => none) a (otoL.map V.str)
  orderless : ∃ a, mg "ORDERLESS" = some (.ref a) ∧ SqT K (fun _ => none) a (ordL.map V.str)
theorem const_dv {K : PySem.W.Frag} {a : Addr} {ss : List Str} (h : SqT K (fun _ => none) a (ss.map V.str)) (hl : ss.length ≤ 1000) (B : Hp) : Dv K B (.ref a) (.tuple (ss.map .str)) := by
  have h' : SqT K B a (ss.map V.str) := Xt.sqT (fun b o e => by cases (show (none : Option HO) = some o from e)) h
  exact .tup h' (Nat.le_trans (by rw [List.length_map]; exact hl) (by decide)) (DvA.ofStrs ss)
/-! the rules with the written part named -/
section
variable {X : Cx} {K : PySem.W.Frag}
theorem ixT (e : X.K = K) : IxR X (rIxT K) := e ▸ ix_tup
theorem ixL (e : X.K = K) : IxR X (rIxL K) := e ▸ ix_list
theorem oEq (e : X.K = K) (hu : X.A.units + 64 < cLine) : OpR X (compareOp .Eq) (rEqD K) := e ▸ op_eqD hu
theorem oNe (e : X.K = K) (hu : X.A.units + 64 < cLine) : OpR X (compareOp .NotEq) (rNeD K) := e ▸ op_neD hu
theorem oInD (e : X.K = K) (hu : X.A.units + 65 < cLine) : OpR X (compareOp .In) (rInD K) := e ▸ op_inD hu
theorem oNotInD (e : X.K = K) (hu : X.A.units + 65 < cLine) : OpR X (compareOp .NotIn) (rNotInD K) := e ▸ op_notInD hu
theorem oIn (e : X.K = K) : OpR X (compareOp .In) (rIn K false) := e ▸ op_in_seq
theorem oNotIn (e : X.K = K) : OpR X (compareOp .NotIn) (rIn K true) := e ▸ op_notIn_seq
theorem oCatA (e : X.K = K) : OpR X (binaryOp .Add) (rCatA K) := e ▸ op_catA
theorem cLen (e : X.K = K) : CallR X (.builtin "len") (fun xs H Q => ∃ p ys, xs = [.ref p] ∧ (SqL K H p ys ∨ SqT K H p ys) ∧ Q (.int ys.length) H) := e ▸ call_len_seq
theorem cList (e : X.K = K) : CallR X (.type "list") (fun xs H Q => ∃ p ys, xs = [.ref p] ∧ (SqL K H p ys ∨ SqT K H p ys) ∧ ∀ l, H l = none → Q (.ref l) (upd H l (.lst ys))) := e ▸ call_list_of
theorem cTup (e : X.K = K) : CallR X (.type "tuple") (rTupF K) := e ▸ call_tuple_ofF
theorem cSorted (e : X.K = K) : CallR X (.builtin "sorted") (rSorted K) := e ▸ cr_sorted
theorem cIsi (e : X.K = K) : CallR X (.builtin "isinstance") (rIsi K) := e ▸ call_isi
theorem cIsiT (e : X.K = K) : CallR X (.builtin "isinstance") (rIsiT K) := e ▸ call_isiT
theorem mIndexD (e : X.K = K) (hu : X.A.units + 65 < cLine) : MtR X "list.index" (rIndexD K) := e ▸ mt_indexD hu
theorem mIxI (e : X.K = K) : MtR X "tuple.index" (rIxI K) := e ▸ mt_ixI
theorem sTup (e : X.K = K) : SlR X (rSlA K) := e ▸ sl_tupA
theorem piL (e : X.K = K) {tg l : Expr} {tl : TE} (hl : PE X l tl) : PI X tg l (iList K tl) := e ▸ pi_list hl
theorem piT (e : X.K = K) {tg l : Expr} {tl : TE} (hl : PE X l tl) : PI X tg l (iTup K tl) := e ▸ pi_tup hl
theorem piEnT (eK : X.K = K) {e : Expr} {ta : TA} {p pos tpos : Pos} {elts : List Expr} {kk : Nat} (hg : Gl X "enumerate") (hm : X.mg "enumerate" = none) (ha : PA X [e] ta) (hs : starEach [e] X.env = [(false, eval e X.env)] := by rfl) :
    PI X (.Tuple elts kk tpos) (.Call (.Name "enumerate" p) [e] [] pos) (iEnumT K ta) := eK ▸ pi_enumT hg hm ha hs
theorem piEnL (eK : X.K = K) {e : Expr} {ta : TA} {p pos tpos : Pos} {elts : List Expr} {kk : Nat} (hg : Gl X "enumerate") (hm : X.mg "enumerate" = none) (ha : PA X [e] ta) (hs : starEach [e] X.env = [(false, eval e X.env)] := by rfl) :
    PI X (.Tuple elts kk tpos) (.Call (.Name "enumerate" p) [e] [] pos) (iEnum K ta) := eK ▸ pi_enum hg hm ha hs
theorem pLenSet (eK : X.K = K) {a : Expr} {ta : TE} {p p2 q pos : Pos} (hg : Gl X "len") (hm : X.mg "len" = none) (hg2 : Gl X "set") (hm2 : X.mg "set" = none) (hc : X.calm = true) (ha : PE X a ta) (na : starEach [a] X.env = (false, eval a X.env) :: starEach [] X.env := by rfl) :
    PE X (.Call (.Name "len" p) [.Call (.Name "set" p2) [a] [] q] [] pos) (tLenSetT K ta) := eK ▸ pe_lenSetT hg hm hg2 hm2 ha hc na
theorem pBm (eK : X.K = K) {o e : Expr} {es : List Expr} {to : TE} {t : TA} {name : Str} {apos cpos : Pos} {T id : String} {r : V → List V → Hp → VK → Prop} (pa : PlainAttrs T) (slot : Slot T name id) (hty : typeOf (.builtin id) = pure (.type "method_descriptor")) (hm : MtR X id r) (ho : PE X o to) (ha : PA X (e :: es) t)
    (hbase : attributeBase o name X.env (eval o X.env) = eval o X.env := by rfl)
    (hfew : ((backTo cpos (starEach (e :: es) X.env)).all (fun x => !x.1) && (backToKw cpos (keywordEach [] X.env)).all (fun x => x.1.isSome)
      && decide ((e :: es).length + ([] : List Keyword).length + (if ([] : List Keyword).isEmpty then 0 else 1) < 30)) = true := by rfl)
    (hline : (apos.endLine == cpos.line) = true := by rfl) (hs : starEach (e :: es) X.env = (false, eval e X.env) :: starEach es X.env := by rfl) (hplain : (backTo cpos (starEach es X.env)).any (·.1) = false := by rfl) :
    PE X (.Call (.Attribute o name apos) (e :: es) [] cpos) (tBM K T r to t) := eK ▸ pe_bm pa slot hty hm ho ha hbase hfew hline hs hplain
theorem pgT (eK : X.K = K) {pos : Pos} {es : List Expr} {k : Nat} {t : TGs} {n : Nat} (hc : X.calm = true) (h : PGs X es t)
    (hn : (assignEach es X.env).length = n := by rfl) (hst : (assignEach es X.env).findIdx? (·.1) = none := by rfl) : PG X (.Tuple es k pos) (gTup K n t) := eK ▸ pg_tup hc h hn hst
theorem ptTr (eK : X.K = K) {a : Expr} {ta : TE} (ha : PE X a ta) (he : ∀ whole, isTrue a X.env whole = (do let v ← whole; standAt a.pos; holding [v] (truthy v)) := by intro _; rfl) : PT X a (tTr K ta) := eK ▸ pt_tr ha he
end
theorem ast_aug {W : Wd} {Γ : List SV} {nx bk ct : List SV → Prop} {rt : List SV → PyData → Prop} {te : TE} {i : Nat} {f : Int → Int → Int} {a : Int} (hi : Γ[i]? = some (.d (.int a))) (h : AWp W te Γ fun Γ1 y => ∃ j, y = .int j ∧ nx (Γ1.set i (.d (.int (f a j))))) : ASt W (tAug i te (ipI f)) Γ nx rt bk ct := fun c B σ H D R d => by
  obtain ⟨v, e, dv⟩ := R.sl i _ hi
  cases dv
  refine ⟨_, e, h c B σ H _ R fun w y B1 H1 Γ1 k1 e1 R1 d1 => ?_⟩
  obtain ⟨j, rfl, k1⟩ := k1
  cases d1
  exact ⟨a, j, rfl, rfl, d.dnx _ B1 _ H1 k1 e1 (R1.setD (.int _))⟩
end TW
end

section
set_option Elab.async false
set_option linter.all false
set_option maxRecDepth 100000
set_option maxHeartbeats 4000000
/-! The machines as data; rules for them. -/
namespace TW
open PySem PySem.Spec PyProof.Rows L2
abbrev iD (n : Nat) : PyData := .int (n : Int)
def nD (ns : List Nat) : PyData := .tuple (ns.map iD)
def lD (ns : List Nat) : PyData := .list (ns.map iD)
def sD (ss : List (List Nat)) : PyData := .tuple (ss.map nD)
structure M where
  k : Nat
  st : List (List Nat)
  an : List Nat
def qD (m : M) : PyData := .tuple [iD m.k, sD m.st, nD m.an]
structure M.ok (m : M) : Prop where
  k1 : 1 ≤ m.k
  k3 : m.k ≤ 3
  n1 : 1 ≤ m.st.length
  n8 : m.st.length ≤ 8
  al : m.an.length = m.st.length
  rl : ∀ r ∈ m.st, r.length = m.k
  rs : ∀ r ∈ m.st, ∀ s ∈ r, s < m.st.length
  a3 : ∀ a ∈ m.an, a ≤ 3
/-- the rows are of k states below n -/
structure StOk (k : Nat) (st : List (List Nat)) : Prop where
  rl : ∀ r ∈ st, r.length = k
  rs : ∀ r ∈ st, ∀ s ∈ r, s < st.length
theorem M.ok.stOk {m : M} (h : m.ok) : StOk m.k m.st := ⟨h.rl, h.rs⟩
def stp (st : List (List Nat)) (s l : Nat) : Nat := (st.getD s []).getD l 0
def run (st : List (List Nat)) (s : Nat) : List Nat → Nat
  | [] => s
  | l :: t => run st (stp st s l) t
theorem run_nil {st : List (List Nat)} {s : Nat} : run st s [] = s := rfl
theorem run_cons {st : List (List Nat)} {s l : Nat} {t : List Nat} : run st s (l :: t) = run st (stp st s l) t := rfl
theorem run_app {st : List (List Nat)} : ∀ {t u : List Nat} {s : Nat}, run st s (t ++ u) = run st (run st s t) u
  | [], _, _ => rfl
  | l :: t, u, s => by rw [List.cons_append, run_cons, run_cons, run_app]
theorem getD_some {α : Type} {xs : List α} {i : Nat} {d : α} (h : i < xs.length) : xs[i]? = some (xs.getD i d) := by
  rw [List.getD_eq_getElem?_getD, List.getElem?_eq_getElem h]; rfl
theorem getD_mem {α : Type} {xs : List α} {i : Nat} {d : α} (h : i < xs.length) : xs.getD i d ∈ xs := List.mem_of_getElem? (getD_some h)
theorem StOk.row {k : Nat} {st : List (List Nat)} (h : StOk k st) {s : Nat} (hs : s < st.length) : (st.getD s []).length = k := h.rl _ (getD_mem hs)
theorem StOk.lt {k : Nat} {st : List (List Nat)} (h : StOk k st) {s l : Nat} (hs : s < st.length) (hl : l < k) : stp st s l < st.length :=
  h.rs _ (getD_mem hs) _ (getD_mem (by rw [h.row hs]; exact hl))
theorem StOk.runLt {k : Nat} {st : List (List Nat)} (h : StOk k st) : ∀ (t : List Nat) {s : Nat}, s < st.length → (∀ l ∈ t, l < k) → run st s t < st.length
  | [], _, hs, _ => hs
  | l :: t, s, hs, ht => by
    rw [run_cons]
    exact StOk.runLt h t (h.lt hs (ht l (List.mem_cons_self ..))) fun x hx => ht x (List.mem_cons_of_mem _ hx)
section
variable {W : Wd} {Γ : List SV} {nx bk ct : List SV → Prop} {rt : List SV → PyData → Prop} {K : List SV → PyData → Prop} {ta tb tc te tk tv : TE} {tr : TA} {t u : TS} {tt : TT} {Kp : PyData → Prop}
theorem nD_get {ns : List Nat} {i : Nat} (h : i < ns.length) : (ns.map iD)[i]? = some (iD (ns.getD i 0)) := by rw [List.getElem?_map, getD_some (d := 0) h]; rfl
theorem sD_get {ns : List (List Nat)} {i : Nat} (h : i < ns.length) : (ns.map nD)[i]? = some (nD (ns.getD i [])) := by rw [List.getElem?_map, getD_some (d := []) h]; rfl
theorem rd_ixN {ds : List PyData} {i : Nat} {x : PyData} (hx : ds[i]? = some x) (k : Kp x) : RD W (rIxT W.K) (.tuple ds) (iD i) Kp := rd_ixT (by omega) (by simpa using hx) k
theorem rd_nD {ns : List Nat} {i : Nat} (h : i < ns.length) (k : Kp (iD (ns.getD i 0))) : RD W (rIxT W.K) (nD ns) (iD i) Kp := rd_ixN (nD_get h) k
theorem rd_sD {ns : List (List Nat)} {i : Nat} (h : i < ns.length) (k : Kp (nD (ns.getD i []))) : RD W (rIxT W.K) (sD ns) (iD i) Kp := rd_ixN (sD_get h) k
theorem rd_lD {ns : List Nat} {i : Nat} (h : i < ns.length) (k : Kp (iD (ns.getD i 0))) : RD W (rIxL W.K) (lD ns) (iD i) Kp := rd_ixL (by omega) (by simpa using nD_get h) k
theorem rd_q0 {m : M} (k : Kp (iD m.k)) : RD W (rIxT W.K) (qD m) (.int 0) Kp := rd_ixT (Int.le_refl _) rfl k
theorem rd_q1 {m : M} (k : Kp (sD m.st)) : RD W (rIxT W.K) (qD m) (.int 1) Kp := rd_ixT (by decide) rfl k
theorem rd_q2 {m : M} (k : Kp (nD m.an)) : RD W (rIxT W.K) (qD m) (.int 2) Kp := rd_ixT (by decide) rfl k
theorem rd_eqI {i j : Int} (k : Kp (.bool (decide (i = j)))) : RD W (rEqD W.K) (.int i) (.int j) Kp := rd_eqD rfl rfl (by
  have e : PyData.eqv (.int i) (.int j) = decide (i = j) := by rw [PyData.eqv]; exact Bool.beq_eq_decide_eq i j
  rw [e]; exact k)
theorem rd_neI {i j : Int} (k : Kp (.bool (!decide (i = j)))) : RD W (rNeD W.K) (.int i) (.int j) Kp := rd_neD rfl rfl (by
  have e : PyData.eqv (.int i) (.int j) = decide (i = j) := by rw [PyData.eqv]; exact Bool.beq_eq_decide_eq i j
  rw [e]; exact k)
theorem canAll {ns : List Nat} : PyData.canLayAll0 (ns.map iD) = true := by
  induction ns with
  | nil => rfl
  | cons n ns ih => rw [List.map_cons, PyData.canLayAll0, ih]; rfl
theorem depAll {ns : List Nat} : PyData.depthAll (ns.map iD) ≤ 1 := by
  induction ns with
  | nil => decide
  | cons n ns ih => rw [List.map_cons, PyData.depthAll]; exact Nat.max_le.mpr ⟨by simp [PyData.depth], ih⟩
theorem shaped_nD {ns : List Nat} : SeqAt.shaped (nD ns) = true := by
  unfold SeqAt.shaped nD
  rw [PyData.canLay0, PyData.depth, canAll]
  have := depAll (ns := ns)
  simp only [Bool.true_and, decide_eq_true_eq]
  omega
theorem shaped_lD {ns : List Nat} : SeqAt.shaped (lD ns) = true := by
  unfold SeqAt.shaped lD
  rw [PyData.canLay0, PyData.depth, canAll]
  have := depAll (ns := ns)
  simp only [Bool.true_and, decide_eq_true_eq]
  omega
theorem eqvAll_n : ∀ ns ms : List Nat, PyData.eqvAll (ns.map iD) (ms.map iD) = decide (ns = ms)
  | [], [] => by rw [List.map_nil, PyData.eqvAll]; rfl
  | [], m :: ms => by rw [List.map_nil, List.map_cons, PyData.eqvAll]; rfl
  | n :: ns, [] => by rw [List.map_nil, List.map_cons, PyData.eqvAll]; rfl
  | n :: ns, m :: ms => by
    rw [List.map_cons, List.map_cons, PyData.eqvAll, eqvAll_n ns ms]
    have e : PyData.eqv (iD n) (iD m) = decide (n = m) := by
      unfold iD
      rw [PyData.eqv, Bool.beq_eq_decide_eq]
      exact decide_eq_decide.mpr ⟨fun h => by omega, fun h => by omega⟩
    rw [e]
    by_cases h : n = m <;> by_cases h' : ns = ms <;> simp [h, h']
theorem eqv_nD {ns ms : List Nat} : PyData.eqv (nD ns) (nD ms) = decide (ns = ms) := by unfold nD; rw [PyData.eqv]; exact eqvAll_n ns ms
theorem eqv_lD {ns ms : List Nat} : PyData.eqv (lD ns) (lD ms) = decide (ns = ms) := by unfold lD; rw [PyData.eqv]; exact eqvAll_n ns ms
theorem eqv_iD {n m : Nat} : PyData.eqv (iD n) (iD m) = decide (n = m) := by
  unfold iD
  rw [PyData.eqv, Bool.beq_eq_decide_eq]
  exact decide_eq_decide.mpr ⟨fun h => by omega, fun h => by omega⟩
theorem rd_eqN {i j : Nat} (k : Kp (.bool (decide (i = j)))) : RD W (rEqD W.K) (iD i) (iD j) Kp := rd_eqD rfl rfl (by rw [eqv_iD]; exact k)
theorem rd_neN {i j : Nat} (k : Kp (.bool (!decide (i = j)))) : RD W (rNeD W.K) (iD i) (iD j) Kp := rd_neD rfl rfl (by rw [eqv_iD]; exact k)
theorem rd_eqT {i j : List Nat} (k : Kp (.bool (decide (i = j)))) : RD W (rEqD W.K) (nD i) (nD j) Kp := rd_eqD shaped_nD shaped_nD (by rw [eqv_nD]; exact k)
theorem rd_neT {i j : List Nat} (k : Kp (.bool (!decide (i = j)))) : RD W (rNeD W.K) (nD i) (nD j) Kp := rd_neD shaped_nD shaped_nD (by rw [eqv_nD]; exact k)
theorem rd_eqL {i j : List Nat} (k : Kp (.bool (decide (i = j)))) : RD W (rEqD W.K) (lD i) (lD j) Kp := rd_eqD shaped_lD shaped_lD (by rw [eqv_lD]; exact k)
theorem rd_neL {i j : List Nat} (k : Kp (.bool (!decide (i = j)))) : RD W (rNeD W.K) (lD i) (lD j) Kp := rd_neD shaped_lD shaped_lD (by rw [eqv_lD]; exact k)
/-- a comprehension whose items are told by a relation -/
theorem awp_lcR {wi : TI} {i : Nat} {vs : List Nat} (hi : i ∈ vs) (h : AWc W wi Γ fun Γ1 items => items.length ≤ 1000000 ∧ noOwn Γ1 vs = true ∧ ∃ Pr : PyData → PyData → Prop, (∀ (n : Nat) (x : PyData), items[n]? = some x → AWp W te ((wipeA Γ1 vs).set i (.d x)) fun Γ3 y => Γ3 = (wipeA Γ1 vs).set i (.d x) ∧ Pr x y) ∧
    ∀ ys : List PyData, ys.length = items.length → (∀ (n : Nat) (x y : PyData), items[n]? = some x → ys[n]? = some y → Pr x y) → K Γ1 (.list ys)) : AWp W (tLc wi (gName i) tYes te vs) Γ K := by
  refine awp_lc hi fun c B σ H R r q => h c B σ H R r fun J items B' H' Γ' k e r' hJ => q J items B' H' Γ' ?_ e r' hJ
  obtain ⟨hl, hv, Pr, step, fin⟩ := k
  refine ⟨hl, hv, fun n acc => acc.length = n ∧ ∀ (j : Nat) (x y : PyData), items[j]? = some x → acc[j]? = some y → Pr x y, ⟨rfl, fun j x y _ h => by simp at h⟩, fun n acc x hx hn ⟨h1, h2⟩ => awt_yes ⟨rfl, ?_⟩, fun ys _ ⟨h1, h2⟩ => fin ys h1 h2⟩
  rw [if_pos rfl]
  refine (step n x hx).imp fun Γ3 y ⟨e3, hp⟩ => ⟨e3, by simp [h1], fun j x' y' hx' hy' => ?_⟩
  by_cases hj : j < acc.length
  · rw [List.getElem?_append_left hj] at hy'
    exact h2 j x' y' hx' hy'
  · have hjn : j = n := by
      have := (List.getElem?_eq_some_iff.mp hy').1
      simp at this
      omega
    subst hjn
    rw [List.getElem?_append_right (by omega), h1, Nat.sub_self] at hy'
    cases hy'
    rw [hx] at hx'
    cases hx'
    exact hp
/-- .. by a function -/
theorem awp_lcF {wi : TI} {i : Nat} {vs : List Nat} (hi : i ∈ vs) (h : AWc W wi Γ fun Γ1 items => items.length ≤ 1000000 ∧ noOwn Γ1 vs = true ∧ ∃ f : PyData → PyData, (∀ (n : Nat) (x : PyData), items[n]? = some x → AWp W te ((wipeA Γ1 vs).set i (.d x)) fun Γ3 y => Γ3 = (wipeA Γ1 vs).set i (.d x) ∧ y = f x) ∧
    K Γ1 (.list (items.map f))) : AWp W (tLc wi (gName i) tYes te vs) Γ K := by
  refine awp_lcR hi fun c B σ H R r q => h c B σ H R r fun J items B' H' Γ' k e r' hJ => q J items B' H' Γ' ?_ e r' hJ
  obtain ⟨hl, hv, f, step, fin⟩ := k
  refine ⟨hl, hv, fun x y => y = f x, step, fun ys h1 h2 => ?_⟩
  have e : ys = items.map f := by
    refine List.ext_getElem? fun n => ?_
    rw [List.getElem?_map]
    by_cases hn : n < items.length
    · rw [List.getElem?_eq_getElem hn, List.getElem?_eq_getElem (by omega : n < ys.length)]
      exact congrArg some (h2 n _ _ (List.getElem?_eq_getElem hn) (List.getElem?_eq_getElem (by omega)))
    · rw [List.getElem?_eq_none (by omega), List.getElem?_eq_none (by omega)]; rfl
  rw [e]
  exact fin
/-- a comprehension with a test -/
theorem awp_lcT {wi : TI} {i : Nat} {vs : List Nat} (hi : i ∈ vs) (h : AWc W wi Γ fun Γ1 items => items.length ≤ 1000000 ∧ noOwn Γ1 vs = true ∧ i < Γ1.length ∧ ∃ p : PyData → Bool, (∀ (n : Nat) (x : PyData), items[n]? = some x → AWt W tt ((wipeA Γ1 vs).set i (.d x)) fun Γ2 b => Γ2 = (wipeA Γ1 vs).set i (.d x) ∧ b = p x) ∧
    K Γ1 (.list (items.filter p))) : AWp W (tLc wi (gName i) tt (tVar i) vs) Γ K := by
  refine awp_lc hi fun c B σ H R r q => h c B σ H R r fun J items B' H' Γ' k e r' hJ => q J items B' H' Γ' ?_ e r' hJ
  obtain ⟨hl, hv, hi', p, step, fin⟩ := k
  refine ⟨hl, hv, fun n acc => acc = (items.take n).filter p, by simp, fun n acc x hx hn h1 => ?_, fun ys _ h1 => ?_⟩
  · have hn' : n < items.length := (List.getElem?_eq_some_iff.mp hx).1
    have et : items.take (n + 1) = items.take n ++ [x] := by
      rw [List.take_succ, hx]; rfl
    intro c B σ H Q R' q
    refine step n x hx c B σ H Q R' fun b B' H' Γ2 ⟨e2, eb⟩ => q b B' H' Γ2 ⟨e2, ?_⟩
    subst eb
    split
    · rename_i hp
      intro c B σ H Q R' q
      have hlen : ∀ vs : List Nat, (wipeA Γ' vs).length = Γ'.length := fun vs => by
        induction vs with
        | nil => rfl
        | cons v vs ih => unfold wipeA; rw [List.length_set, ih]
      exact awp_v (Γ := (wipeA Γ' vs).set i (.d x)) (List.getElem?_set_self (by rw [hlen]; exact hi')) ⟨rfl, by show acc ++ [x] = _; rw [et, List.filter_append, show acc = _ from h1]; simp [hp]⟩ c B σ H Q R' q
    · rename_i hp
      show acc = _
      rw [et, List.filter_append, show acc = _ from h1]
      simp [hp]
  · rw [show ys = _ from h1, List.take_length]
    exact fin
theorem exb {b : Bool} {KT : Bool → Prop} (k : KT b) : ∃ c, PyData.bool b = .bool c ∧ KT c := ⟨b, rfl, k⟩
theorem exi {b : Int} {KT : Int → Prop} (k : KT b) : ∃ c, PyData.int b = .int c ∧ KT c := ⟨b, rfl, k⟩
theorem exn {b : Nat} {KT : Nat → Prop} (k : KT b) : ∃ c : Nat, iD b = .int (c : Int) ∧ KT c := ⟨b, rfl, k⟩
theorem exl {b : List PyData} {KT : List PyData → Prop} (k : KT b) : ∃ c, PyData.list b = .list c ∧ KT c := ⟨b, rfl, k⟩
theorem ext {b : List PyData} {KT : List PyData → Prop} (k : KT b) : ∃ c, PyData.tuple b = .tuple c ∧ KT c := ⟨b, rfl, k⟩
theorem exlD {b : List Nat} {KT : List PyData → Prop} (k : KT (b.map iD)) : ∃ c, lD b = .list c ∧ KT c := ⟨_, rfl, k⟩
theorem exnD {b : List Nat} {KT : List PyData → Prop} (k : KT (b.map iD)) : ∃ c, nD b = .tuple c ∧ KT c := ⟨_, rfl, k⟩
theorem exsD {b : List (List Nat)} {KT : List PyData → Prop} (k : KT (b.map nD)) : ∃ c, sD b = .tuple c ∧ KT c := ⟨_, rfl, k⟩
theorem rdn_lenN {ns : List Nat} (k : Kp (iD ns.length)) : RDn W (fun xs H Q => ∃ p ys, xs = [.ref p] ∧ (SqL W.K H p ys ∨ SqT W.K H p ys) ∧ Q (.int ys.length) H) [nD ns] Kp := rdn_len (.inr (.inl rfl)) (by rw [List.length_map]; exact k)
theorem rdn_lenS {ns : List (List Nat)} (k : Kp (iD ns.length)) : RDn W (fun xs H Q => ∃ p ys, xs = [.ref p] ∧ (SqL W.K H p ys ∨ SqT W.K H p ys) ∧ Q (.int ys.length) H) [sD ns] Kp := rdn_len (.inr (.inl rfl)) (by rw [List.length_map]; exact k)
theorem rdn_lenL {ns : List Nat} (k : Kp (iD ns.length)) : RDn W (fun xs H Q => ∃ p ys, xs = [.ref p] ∧ (SqL W.K H p ys ∨ SqT W.K H p ys) ∧ Q (.int ys.length) H) [lD ns] Kp := rdn_len (.inl rfl) (by rw [List.length_map]; exact k)
theorem rdn_lenl {ds : List PyData} (k : Kp (iD ds.length)) : RDn W (fun xs H Q => ∃ p ys, xs = [.ref p] ∧ (SqL W.K H p ys ∨ SqT W.K H p ys) ∧ Q (.int ys.length) H) [.list ds] Kp := rdn_len (.inl rfl) k
theorem awp_isiI (h : AWp W te Γ fun Γ1 x => okD x = true ∧ K Γ1 (.bool (isTy "int" x))) : AWp W (tCB (rIsi W.K) (tCons te (tCons (tC (.ty "int")) tNil))) Γ K := awp_isi (.inl rfl) h
theorem awp_isiB (h : AWp W te Γ fun Γ1 x => okD x = true ∧ K Γ1 (.bool (isTy "bool" x))) : AWp W (tCB (rIsi W.K) (tCons te (tCons (tC (.ty "bool")) tNil))) Γ K := awp_isi (.inr (.inl rfl)) h
theorem awp_isiS (h : AWp W te Γ fun Γ1 x => okD x = true ∧ K Γ1 (.bool (isTy "str" x))) : AWp W (tCB (rIsi W.K) (tCons te (tCons (tC (.ty "str")) tNil))) Γ K := awp_isi (.inr (.inr (.inl rfl))) h
theorem awp_isiT (h : AWp W te Γ fun Γ1 x => okD x = true ∧ K Γ1 (.bool (isTy "tuple" x))) : AWp W (tCB (rIsi W.K) (tCons te (tCons (tC (.ty "tuple")) tNil))) Γ K := awp_isi (.inr (.inr (.inr (.inl rfl)))) h
theorem awp_isiL (h : AWp W te Γ fun Γ1 x => okD x = true ∧ K Γ1 (.bool (isTy "list" x))) : AWp W (tCB (rIsi W.K) (tCons te (tCons (tC (.ty "list")) tNil))) Γ K := awp_isi (.inr (.inr (.inr (.inr rfl)))) h
theorem awp_isiTL (h : AWp W te Γ fun Γ1 x => okD x = true ∧ K Γ1 (.bool (isTy "tuple" x || isTy "list" x))) : AWp W (tCB (rIsiT W.K) (tCons te (tCons (tTup (tCons (tC (.ty "tuple")) (tCons (tC (.ty "list")) tNil))) tNil))) Γ K := awp_isi2 (.inr (.inr (.inr (.inl rfl)))) (.inr (.inr (.inr (.inr rfl)))) h
/-! ### the row -/
variable {nx bk ct : List SV → Prop} {rt : List SV → PyData → Prop}
theorem ast_unrow (i : Nat) {r : Addr} (hi : Γ[i]? = some (.o (.row r))) (h : ∀ ns a s z, 0 ≤ a → 0 ≤ s → s < 2147483647 → ASt W t (Γ.set i (.o (.rw r ns a s z))) nx rt bk ct) : ASt W t Γ nx rt bk ct := fun c B σ H D R d => by
  obtain ⟨a0, u, z1, z2, z3, z4, rfl, sa, ns, a, s, z, rfl, z5, hl, b1, b2, b3⟩ := R.sl i _ hi
  have R2 := R.write (m' := .rw a0 ns a s z) (u := .lst [.ref sa, .int a, .int s, .int z]) hi z1 ⟨rfl, hl, sa, rfl, z5⟩
  have e : upd H a0 (.lst [.ref sa, .int a, .int s, .int z]) = H := by
    funext b
    by_cases hb : b = a0
    · subst hb; rw [upd_same, z4]
    · rw [upd_ne hb]
  rw [e] at R2
  exact h ns a s z b1 b2 b3 c B σ H D R2 d
theorem ast_mkrow (i : Nat) {ns : List Int} {a s z : Int} (hi : Γ[i]? = some (.o (.lst [scD (ns.map .int), .int a, .int s, .int z]))) (hl : ns.length ≤ 63) (b1 : 0 ≤ a) (b2 : 0 ≤ s) (b3 : s < 2147483647) (h : ∀ r, ASt W t (Γ.set i (.o (.row r))) nx rt bk ct) : ASt W t Γ nx rt bk ct := fun c B σ H D R d => by
  obtain ⟨r, u, z1, z2, z3, z4, vs, rfl, dv⟩ := R.sl i _ hi
  cases dv with
  | cons d1 d2 =>
  cases d2 with
  | cons d2 d3 =>
  cases d3 with
  | cons d3 d4 =>
  cases d4 with
  | cons d4 d5 =>
  cases d5
  unfold scD at d1
  cases d1 with
  | @sc sa xs _ h1 l1 t1 =>
  cases d2
  cases d3
  cases d4
  have ex := t1.ints
  subst ex
  have R2 := R.write (m' := .row r) (u := .lst [.ref sa, .int a, .int s, .int z]) hi z1 ⟨rfl, sa, ns, a, s, z, rfl, h1, hl, b1, b2, b3⟩
  have e : upd H r (.lst [.ref sa, .int a, .int s, .int z]) = H := by
    funext b
    by_cases hb : b = r
    · subst hb; rw [upd_same, z4]
    · rw [upd_ne hb]
  rw [e] at R2
  exact h r c B σ H D R2 d
theorem awp_row0 {i : Nat} {r : Addr} {ns : List Int} {a s z : Int} (hi : Γ[i]? = some (.o (.rw r ns a s z))) (k : K Γ (scD (ns.map .int))) : AWp W (tOp (rIxL W.K) (tVar i) (tC (.int 0))) Γ K := fun c B σ H Q R q => by
  obtain ⟨a0, u, z1, z2, z3, z4, rfl, hl, sa, rfl, z5⟩ := R.sl i _ hi
  refine ⟨_, z1, a0, _, 0, .ref sa, rfl, rfl, SqL.of z4, rfl, q _ _ B H Γ k .rfl' R (.sc z5 ?_ (DvA.ofInts ns))⟩
  rw [List.length_map]
  exact Nat.le_trans hl (by decide)
theorem awp_row1 {i : Nat} {r : Addr} {ns : List Int} {a s z : Int} (hi : Γ[i]? = some (.o (.rw r ns a s z))) (k : K Γ (.int a)) : AWp W (tOp (rIxL W.K) (tVar i) (tC (.int 1))) Γ K := fun c B σ H Q R q => by
  obtain ⟨a0, u, z1, z2, z3, z4, rfl, hl, sa, rfl, z5⟩ := R.sl i _ hi
  exact ⟨_, z1, a0, _, 1, .int a, rfl, rfl, SqL.of z4, rfl, q _ _ B H Γ k .rfl' R (.int _)⟩
theorem awp_row2 {i : Nat} {r : Addr} {ns : List Int} {a s z : Int} (hi : Γ[i]? = some (.o (.rw r ns a s z))) (k : K Γ (.int s)) : AWp W (tOp (rIxL W.K) (tVar i) (tC (.int 2))) Γ K := fun c B σ H Q R q => by
  obtain ⟨a0, u, z1, z2, z3, z4, rfl, hl, sa, rfl, z5⟩ := R.sl i _ hi
  exact ⟨_, z1, a0, _, 2, .int s, rfl, rfl, SqL.of z4, rfl, q _ _ B H Γ k .rfl' R (.int _)⟩
theorem awp_row3 {i : Nat} {r : Addr} {ns : List Int} {a s z : Int} (hi : Γ[i]? = some (.o (.rw r ns a s z))) (k : K Γ (.int z)) : AWp W (tOp (rIxL W.K) (tVar i) (tC (.int 3))) Γ K := fun c B σ H Q R q => by
  obtain ⟨a0, u, z1, z2, z3, z4, rfl, hl, sa, rfl, z5⟩ := R.sl i _ hi
  exact ⟨_, z1, a0, _, 3, .int z, rfl, rfl, SqL.of z4, rfl, q _ _ B H Γ k .rfl' R (.int _)⟩
theorem ast_row (j : Nat) {i : Nat} {r : Addr} {ns : List Int} {a s z : Int} {n : Int} (hi0 : Γ[i]? = some (.o (.rw r ns a s z))) (hj : n = (j : Int) ∧ (j = 1 ∨ j = 2 ∨ j = 3)) (h : AWp W te Γ fun Γ1 y => ∃ v, y = .int v ∧ Γ1[i]? = some (.o (.rw r ns a s z)) ∧ nx (Γ1.set i (.o (.rw r ns (if j = 1 then v else a) (if j = 2 then v else s) (if j = 3 then v else z))))) :
    ASt W (tAsg te (gSub (tVar i) (tC (.int n)) rSetL)) Γ nx rt bk ct := fun c B σ H D R d => by
  refine h c B σ H _ R fun w y B1 H1 Γ1 k1 e1 R1 d1 => ?_
  obtain ⟨v, rfl, hi, k1⟩ := k1
  cases d1
  obtain ⟨a0, u, z1, z2, z3, z4, rfl, hl, sa, rfl, z5⟩ := R1.sl i _ hi
  obtain ⟨rfl, hj⟩ := hj
  rcases hj with rfl | rfl | rfl
  · exact ⟨_, z1, a0, _, 1, 1, rfl, rfl, z4, rfl, d.dnx _ B1 _ _ k1 e1 (R1.write hi z1 ⟨rfl, hl, sa, rfl, z5⟩)⟩
  · exact ⟨_, z1, a0, _, 2, 2, rfl, rfl, z4, rfl, d.dnx _ B1 _ _ k1 e1 (R1.write hi z1 ⟨rfl, hl, sa, rfl, z5⟩)⟩
  · exact ⟨_, z1, a0, _, 3, 3, rfl, rfl, z4, rfl, d.dnx _ B1 _ _ k1 e1 (R1.write hi z1 ⟨rfl, hl, sa, rfl, z5⟩)⟩
/-- a join behind an if -/
theorem ast_ifJ (J : List SV → Prop) (h : AWt W tt Γ fun Γ1 b => if b = true then ASt W t Γ1 J rt bk ct else ASt W u Γ1 J rt bk ct) (hj : ∀ Γ', J Γ' → nx Γ') : ASt W (tIfS tt t u) Γ nx rt bk ct := fun c B σ H D R d =>
  ast_if h c B σ H D R ⟨fun Γ1 B' σ1 H1 k => d.dnx Γ1 B' σ1 H1 (hj _ k), d.drt, d.dbk, d.dct⟩
/-- ghost steps behind a statement -/
theorem ast_ghost (h : ASt W t Γ (fun Γ1 => ASt W tNext Γ1 nx rt bk ct) rt bk ct) : ASt W t Γ nx rt bk ct := fun c B σ H D R d =>
  h c B σ H D R ⟨fun Γ1 B' σ1 H1 k e R1 => k c B' σ1 H1 D R1 (d.up e), d.drt, d.dbk, d.dct⟩
theorem awp_cut (J : PyData → Prop) (h : AWp W te Γ fun Γ' x => Γ' = Γ ∧ J x) (k : ∀ x, J x → K Γ x) : AWp W te Γ K := h.imp fun Γ' x ⟨e, j⟩ => e ▸ k x j
/-- a comprehension over told items, by a function -/
theorem awp_lcM {wi : TI} {i : Nat} {vs : List Nat} (hi : i ∈ vs) (h : AWc W wi Γ fun Γ1 items => ∃ (α : Type) (xs : List α) (f g : α → PyData), items = xs.map f ∧ xs.length ≤ 1000000 ∧ noOwn Γ1 vs = true ∧
    (∀ a ∈ xs, AWp W te ((wipeA Γ1 vs).set i (.d (f a))) fun Γ3 y => Γ3 = (wipeA Γ1 vs).set i (.d (f a)) ∧ y = g a) ∧ K Γ1 (.list (xs.map g))) : AWp W (tLc wi (gName i) tYes te vs) Γ K := by
  refine awp_lc hi fun c B σ H R r q => h c B σ H R r fun J items B' H' Γ' k e r' hJ => q J items B' H' Γ' ?_ e r' hJ
  obtain ⟨α, xs, f, g, rfl, hl, hv, step, fin⟩ := k
  refine ⟨by rw [List.length_map]; exact hl, hv, fun n acc => acc = (xs.take n).map g, by simp, fun n acc x hx hn h1 => awt_yes ⟨rfl, ?_⟩, fun ys hy h1 => ?_⟩
  · rw [if_pos rfl]
    rw [List.getElem?_map] at hx
    cases hxn : xs[n]? with
    | none => rw [hxn] at hx; cases hx
    | some a =>
      rw [hxn] at hx
      obtain rfl : f a = x := Option.some.inj hx
      refine (step a (List.mem_of_getElem? hxn)).imp fun Γ3 y ⟨e3, hy⟩ => ⟨e3, ?_⟩
      show acc ++ [y] = _
      rw [List.take_succ, hxn, show acc = _ from h1, hy]
      simp
  · rw [List.length_map] at h1
    rw [show ys = _ from h1, List.take_length]
    exact fin
theorem shapedA {α : Type} {f : α → PyData} {d : Nat} (hc : ∀ a, (f a).canLay0 = true) (hd : ∀ a, (f a).depth ≤ d) : ∀ xs : List α, PyData.canLayAll0 (xs.map f) = true ∧ PyData.depthAll (xs.map f) ≤ d
  | [] => ⟨rfl, by rw [List.map_nil, PyData.depthAll]; exact Nat.zero_le _⟩
  | a :: xs => by
    obtain ⟨h1, h2⟩ := shapedA hc hd xs
    rw [List.map_cons, PyData.canLayAll0, PyData.depthAll, hc a, h1]
    exact ⟨rfl, Nat.max_le.mpr ⟨hd a, h2⟩⟩
theorem shaped_list {α : Type} {f : α → PyData} {d : Nat} (hc : ∀ a, (f a).canLay0 = true) (hd : ∀ a, (f a).depth ≤ d) (h : d ≤ 60) (xs : List α) : SeqAt.shaped (.list (xs.map f)) = true := by
  obtain ⟨h1, h2⟩ := shapedA hc hd xs
  unfold SeqAt.shaped
  rw [PyData.canLay0, PyData.depth, h1]
  simp only [Bool.true_and, decide_eq_true_eq]
  omega
theorem nD_can {ns : List Nat} : (nD ns).canLay0 = true := SeqAt.canLay_of_shaped shaped_nD
theorem nD_dep {ns : List Nat} : (nD ns).depth ≤ 2 := by
  unfold nD
  rw [PyData.depth]
  have := depAll (ns := ns)
  omega
theorem shaped_lnD (xs : List (List Nat)) : SeqAt.shaped (.list (xs.map nD)) = true := shaped_list (fun _ => nD_can) (fun _ => nD_dep) (by decide) xs
/-- xs.index(x) -/
theorem awp_ixG {α : Type} [DecidableEq α] {f : α → PyData} (he : ∀ a b, PyData.eqv (f a) (f b) = decide (a = b)) (hs : ∀ a, SeqAt.shaped (f a) = true) (hsl : ∀ xs : List α, SeqAt.shaped (.list (xs.map f)) = true)
    (h : AWp W te Γ fun Γ1 x => ∃ xs : List α, x = .list (xs.map f) ∧ AWp W tk Γ1 fun Γ2 d => ∃ a, d = f a ∧ a ∈ xs ∧ K Γ2 (iD (xs.idxOf a))) : AWp W (tBM W.K "list" (rIndexD W.K) te (tCons tk tNil)) Γ K := by
  refine awp_ixOf (h.imp fun Γ1 x ⟨xs, ex, k⟩ => ⟨_, ex, k.imp fun Γ2 d ⟨a, ed, hm, k2⟩ => ?_⟩)
  subst ed
  have hlt := List.idxOf_lt_length_of_mem hm
  have hx : xs[xs.idxOf a] = a := List.getElem_idxOf hlt
  refine ⟨xs.idxOf a, f a, hsl xs, hs a, by rw [List.getElem?_map, List.getElem?_eq_getElem hlt, hx]; rfl, by rw [he]; simp, fun m z' hm' hz => ?_, k2⟩
  rw [List.getElem?_map, List.getElem?_eq_getElem (by omega)] at hz
  obtain rfl : f xs[m] = z' := Option.some.inj hz
  rw [he]
  refine decide_eq_false fun e => ?_
  have := List.not_of_lt_findIdx (p := (· == a)) (xs := xs) (i := m) hm'
  simp [e] at this
theorem ast_eq {Γ' : List SV} (e : Γ = Γ') (h : ASt W t Γ' nx rt bk ct) : ASt W t Γ nx rt bk ct := e ▸ h
theorem rd_catN {xs ys : List Nat} (hl : xs.length + ys.length ≤ 1000000) (k : Kp (nD (xs ++ ys))) : RD W (rCatA W.K) (nD xs) (nD ys) Kp := by
  refine rd_catA (by rw [List.length_map, List.length_map]; exact hl) ?_
  have e : PyData.tuple (xs.map iD ++ ys.map iD) = nD (xs ++ ys) := by unfold nD; rw [List.map_append]
  rw [e]
  exact k
end
end TW
end

section
set_option Elab.async false
set_option linter.all false
set_option maxHeartbeats 4000000
/-! The plain law, no program: like states, the least machine. -/
namespace TW
open PySem PySem.Spec PyProof.Rows L2
/-- alike: no text tells them apart -/
def Ner (m : M) (i j : Nat) : Prop := ∀ t : List Nat, (∀ l ∈ t, l < m.k) → m.an.getD (run m.st i t) 0 = m.an.getD (run m.st j t) 0
theorem Ner.refl {m : M} {i : Nat} : Ner m i i := fun _ _ => rfl
theorem Ner.symm {m : M} {i j : Nat} (h : Ner m i j) : Ner m j i := fun t ht => (h t ht).symm
theorem Ner.trans {m : M} {i j l : Nat} (h : Ner m i j) (h' : Ner m j l) : Ner m i l := fun t ht => (h t ht).trans (h' t ht)
theorem Ner.out {m : M} {i j : Nat} (h : Ner m i j) : m.an.getD i 0 = m.an.getD j 0 := h [] (fun l hl => by simp at hl)
theorem Ner.step {m : M} {i j l : Nat} (h : Ner m i j) (hl : l < m.k) : Ner m (stp m.st i l) (stp m.st j l) := fun t ht => h (l :: t) fun x hx => by
  rcases List.mem_cons.mp hx with rfl | hx
  · exact hl
  · exact ht x hx
theorem Ner.run {m : M} {i j : Nat} (h : Ner m i j) {t : List Nat} (ht : ∀ l ∈ t, l < m.k) : Ner m (TW.run m.st i t) (TW.run m.st j t) := fun u hu => by
  rw [← run_app, ← run_app]
  exact h (t ++ u) fun l hl => (List.mem_append.mp hl).elim (ht l) (hu l)
/-- a relation that is a bisimulation -/
theorem ner_of {m : M} (ok : StOk m.k m.st) (R : Nat → Nat → Prop) (h0 : ∀ i j, i < m.st.length → j < m.st.length → R i j → m.an.getD i 0 = m.an.getD j 0)
    (hs : ∀ i j l, i < m.st.length → j < m.st.length → l < m.k → R i j → R (stp m.st i l) (stp m.st j l)) {i j : Nat} (hi : i < m.st.length) (hj : j < m.st.length) (h : R i j) : Ner m i j := fun t => by
  induction t generalizing i j with
  | nil => exact fun _ => h0 i j hi hj h
  | cons l t ih =>
    intro ht
    have hl := ht l (List.mem_cons_self ..)
    exact ih (ok.lt hi hl) (ok.lt hj hl) (hs i j l hi hj hl h) fun x hx => ht x (List.mem_cons_of_mem _ hx)

theorem snoc_ind {α : Type} {p : List α → Prop} (h0 : p []) (hs : ∀ l a, p l → p (l ++ [a])) (l : List α) : p l := by
  have h : ∀ l : List α, p l.reverse := by
    intro l
    induction l with
    | nil => exact h0
    | cons a l ih => rw [List.reverse_cons]; exact hs _ _ ih
  have := h l.reverse
  rwa [List.reverse_reverse] at this
theorem gD_app {α : Type} {a b : List α} {i : Nat} {d : α} (h : i < a.length) : (a ++ b).getD i d = a.getD i d := by
  rw [List.getD_eq_getElem?_getD, List.getD_eq_getElem?_getD, List.getElem?_append_left h]
theorem gD_last {α : Type} {a : List α} {x d : α} : (a ++ [x]).getD a.length d = x := by
  rw [List.getD_eq_getElem?_getD, List.getElem?_append_right (Nat.le_refl _), Nat.sub_self]; rfl
/-! ### the least machine -/
section
variable (eq : Nat → Nat → Bool)
def addO (o : List Nat) (a : Nat) : List Nat := if o.any (fun x => eq x a) then o else o ++ [a]
def rowS (p : List Nat × List Nat) (a : Nat) : List Nat × List Nat := (addO eq p.1 a, p.2 ++ [(addO eq p.1 a).findIdx (fun x => eq x a)])
def goRow (o : List Nat) (row : List Nat) : List Nat × List Nat := row.foldl (rowS eq) (o, [])
def goS (st : List (List Nat)) (p : List Nat × List (List Nat)) : List Nat × List (List Nat) :=
  let q := goRow eq p.1 (st.getD (p.1.getD p.2.length 0) [])
  (q.1, p.2 ++ [q.2])
def goN (st : List (List Nat)) : Nat → List Nat × List (List Nat)
  | 0 => ([0], [])
  | n + 1 => goS eq st (goN st n)
theorem goRow_snoc (o row : List Nat) (a : Nat) : goRow eq o (row ++ [a]) = rowS eq (goRow eq o row) a := by unfold goRow; rw [List.foldl_append]; rfl
theorem goN_len (st : List (List Nat)) : ∀ n, (goN eq st n).2.length = n
  | 0 => rfl
  | n + 1 => by
    show ((goN eq st n).2 ++ [_]).length = _
    rw [List.length_append, goN_len st n]; rfl
/-- the end of the walk -/
def LeastRes (st : List (List Nat)) (n : Nat) : Prop := (goN eq st n).1.length = n ∧ ∀ m, m < n → m < (goN eq st m).1.length
theorem LeastRes.uniq {st : List (List Nat)} {n n' : Nat} (h : LeastRes eq st n) (h' : LeastRes eq st n') : n = n' := by
  rcases Nat.lt_trichotomy n n' with z | z | z
  · have := h'.2 n z; rw [h.1] at this; omega
  · exact z
  · have := h.2 n' z; rw [h'.1] at this; omega
theorem addO_pre (o : List Nat) (a : Nat) : ∃ e, addO eq o a = o ++ e := by
  unfold addO
  split
  · exact ⟨[], (List.append_nil _).symm⟩
  · exact ⟨[a], rfl⟩
theorem goRow_pre (o : List Nat) (row : List Nat) : ∃ e, (goRow eq o row).1 = o ++ e := by
  induction row using snoc_ind with
  | h0 => exact ⟨[], (List.append_nil _).symm⟩
  | hs row a ih =>
    obtain ⟨e, ih⟩ := ih
    rw [goRow_snoc]
    obtain ⟨e', h⟩ := addO_pre eq (goRow eq o row).1 a
    exact ⟨e ++ e', by show addO eq (goRow eq o row).1 a = _; rw [h, ih, List.append_assoc]⟩
end
noncomputable def nb (m : M) (i j : Nat) : Bool := @decide (Ner m i j) (Classical.propDecidable _)
theorem nb_iff {m : M} {i j : Nat} : nb m i j = true ↔ Ner m i j := @decide_eq_true_iff _ (Classical.propDecidable _)
/-- the order so far -/
structure OrdOk (m : M) (o : List Nat) : Prop where
  lt : ∀ x ∈ o, x < m.st.length
  ne : ∀ i j, i < o.length → j < o.length → Ner m (o.getD i 0) (o.getD j 0) → i = j
structure RowOk (m : M) (o0 row : List Nat) (p : List Nat × List Nat) : Prop where
  ord : OrdOk m p.1
  pre : ∃ e, p.1 = o0 ++ e
  len : p.2.length = row.length
  nx : ∀ l, l < row.length → p.2.getD l 0 < p.1.length ∧ Ner m (p.1.getD (p.2.getD l 0) 0) (row.getD l 0)
  new : ∀ j, o0.length ≤ j → j < p.1.length → ∃ l, l < row.length ∧ p.2.getD l 0 = j
theorem addO_ok {m : M} {o : List Nat} {a : Nat} (ok : OrdOk m o) (ha : a < m.st.length) :
    OrdOk m (addO (nb m) o a) ∧ (addO (nb m) o a).findIdx (fun x => nb m x a) < (addO (nb m) o a).length ∧ Ner m ((addO (nb m) o a).getD ((addO (nb m) o a).findIdx fun x => nb m x a) 0) a ∧
    ((addO (nb m) o a = o) ∨ (addO (nb m) o a = o ++ [a] ∧ (addO (nb m) o a).findIdx (fun x => nb m x a) = o.length)) := by
  have haa : nb m a a = true := nb_iff.mpr .refl
  unfold addO
  by_cases h : o.any (fun x => nb m x a) = true
  · rw [if_pos h]
    obtain ⟨x, hx, hn⟩ := List.any_eq_true.mp h
    have hl : o.findIdx (fun x => nb m x a) < o.length := List.findIdx_lt_length_of_exists ⟨x, hx, hn⟩
    refine ⟨ok, hl, ?_, .inl rfl⟩
    have h1 := List.findIdx_getElem (xs := o) (p := fun x => nb m x a) (w := hl)
    have h2 : o.getD (o.findIdx fun x => nb m x a) 0 = o[o.findIdx fun x => nb m x a] := by
      rw [List.getD_eq_getElem?_getD, List.getElem?_eq_getElem hl]; rfl
    rw [h2]
    exact nb_iff.mp h1
  · rw [if_neg h]
    have hno : ∀ x ∈ o, ¬ nb m x a = true := fun x hx hn => h (List.any_eq_true.mpr ⟨x, hx, hn⟩)
    have hf : (o ++ [a]).findIdx (fun x => nb m x a) = o.length := by
      rw [List.findIdx_append, List.findIdx_eq_length_of_false (fun x hx => by simpa using hno x hx)]
      simp [List.findIdx_cons, haa]
    refine ⟨⟨fun x hx => ?_, fun i j hi hj hn => ?_⟩, by rw [hf]; simp, by rw [hf, gD_last]; exact .refl, .inr ⟨rfl, hf⟩⟩
    · rcases List.mem_append.mp hx with hx | hx
      · exact ok.lt x hx
      · rw [List.mem_singleton.mp hx]; exact ha
    · rw [List.length_append, List.length_singleton] at hi hj
      by_cases h1 : i < o.length <;> by_cases h2 : j < o.length
      · rw [gD_app h1, gD_app h2] at hn; exact ok.ne i j h1 h2 hn
      · have : j = o.length := by omega
        subst this
        rw [gD_app h1, gD_last] at hn
        exact absurd (nb_iff.mpr hn) (hno _ (getD_mem h1))
      · have : i = o.length := by omega
        subst this
        rw [gD_app h2, gD_last] at hn
        exact absurd (nb_iff.mpr hn.symm) (hno _ (getD_mem h2))
      · omega
theorem goRow_ok {m : M} {o : List Nat} (ok : OrdOk m o) (row : List Nat) (hr : ∀ a ∈ row, a < m.st.length) : RowOk m o row (goRow (nb m) o row) := by
  induction row using snoc_ind with
  | h0 => exact ⟨ok, ⟨[], (List.append_nil _).symm⟩, rfl, fun l hl => absurd hl (Nat.not_lt_zero _), fun j h1 h2 => absurd h2 (by show ¬ j < o.length; omega)⟩
  | hs row a ih =>
    have ih := ih fun x hx => hr x (List.mem_append_left _ hx)
    rw [goRow_snoc]
    generalize goRow (nb m) o row = p at ih ⊢
    obtain ⟨h1, h2, h3, h4⟩ := addO_ok ih.ord (hr a (List.mem_append_right _ (List.mem_singleton.mpr rfl)))
    obtain ⟨e', he'⟩ := addO_pre (nb m) p.1 a
    have pl : p.1.length ≤ (addO (nb m) p.1 a).length := by rw [he', List.length_append]; omega
    have gp : ∀ i, i < p.1.length → (addO (nb m) p.1 a).getD i 0 = p.1.getD i 0 := fun i hi => by rw [he']; exact gD_app hi
    refine ⟨h1, ?_, by show (p.2 ++ [_]).length = _; simp [ih.len], fun l hl => ?_, fun j hj1 hj2 => ?_⟩
    · obtain ⟨e, he⟩ := ih.pre
      exact ⟨e ++ e', by show addO (nb m) p.1 a = _; rw [he', he, List.append_assoc]⟩
    · show (p.2 ++ [_]).getD l 0 < (addO (nb m) p.1 a).length ∧ Ner m ((addO (nb m) p.1 a).getD ((p.2 ++ [_]).getD l 0) 0) ((row ++ [a]).getD l 0)
      rw [List.length_append, List.length_singleton] at hl
      by_cases hlr : l < row.length
      · rw [gD_app (by rw [ih.len]; exact hlr), gD_app hlr]
        obtain ⟨q1, q2⟩ := ih.nx l hlr
        exact ⟨by omega, by rw [gp _ q1]; exact q2⟩
      · have hle : l = row.length := by omega
        subst hle
        rw [← ih.len, gD_last]
        rw [ih.len, gD_last]
        exact ⟨h2, h3⟩
    · have hj2 : j < (addO (nb m) p.1 a).length := hj2
      by_cases hjp : j < p.1.length
      · obtain ⟨l, hl, e⟩ := ih.new j hj1 hjp
        exact ⟨l, by simp; omega, by show (p.2 ++ [_]).getD l 0 = j; rw [gD_app (by rw [ih.len]; exact hl)]; exact e⟩
      · rcases h4 with h4 | ⟨h4, h5⟩
        · rw [h4] at hj2; exact absurd hj2 hjp
        · have hjl : j = p.1.length := by rw [h4, List.length_append, List.length_singleton] at hj2; omega
          refine ⟨row.length, by simp, ?_⟩
          show (p.2 ++ [_]).getD row.length 0 = j
          rw [← ih.len, gD_last, h5, hjl]
/-- the walk so far -/
structure GoOk (m : M) (n : Nat) (p : List Nat × List (List Nat)) : Prop where
  ord : OrdOk m p.1
  z : p.1.getD 0 0 = 0
  pos : 0 < p.1.length
  len : p.2.length = n
  row : ∀ r, r < n → (p.2.getD r []).length = m.k ∧ ∀ l, l < m.k → (p.2.getD r []).getD l 0 < p.1.length ∧ Ner m (p.1.getD ((p.2.getD r []).getD l 0) 0) (stp m.st (p.1.getD r 0) l)
  reach : ∀ j, 0 < j → j < p.1.length → ∃ r l, r < n ∧ r < j ∧ l < m.k ∧ (p.2.getD r []).getD l 0 = j
theorem goN_ok {m : M} (ok : m.ok) : ∀ n, (∀ j, j < n → j < (goN (nb m) m.st j).1.length) → GoOk m n (goN (nb m) m.st n)
  | 0, _ => ⟨⟨fun x hx => by rw [List.mem_singleton.mp hx]; exact ok.n1, fun i j hi hj _ => by have : i < 1 := hi; have : j < 1 := hj; omega⟩, rfl, Nat.one_pos, rfl, fun r hr => absurd hr (Nat.not_lt_zero _), fun j h1 h2 => absurd h2 (by show ¬ j < 1; omega)⟩
  | n + 1, h => by
    have ih := goN_ok ok n fun j hj => h j (by omega)
    have hn : n < (goN (nb m) m.st n).1.length := h n (Nat.lt_succ_self n)
    show GoOk m (n + 1) (goS (nb m) m.st (goN (nb m) m.st n))
    generalize goN (nb m) m.st n = p at ih hn ⊢
    unfold goS
    rw [ih.len]
    have hs : p.1.getD n 0 < m.st.length := ih.ord.lt _ (getD_mem hn)
    have R := goRow_ok ih.ord (m.st.getD (p.1.getD n 0) []) (ok.rs _ (getD_mem hs))
    have rl : (m.st.getD (p.1.getD n 0) []).length = m.k := ok.stOk.row hs
    generalize goRow (nb m) p.1 (m.st.getD (p.1.getD n 0) []) = q at R ⊢
    obtain ⟨e, he⟩ := R.pre
    have pl : p.1.length ≤ q.1.length := by rw [he, List.length_append]; omega
    have gp : ∀ i, i < p.1.length → q.1.getD i 0 = p.1.getD i 0 := fun i hi => by rw [he]; exact gD_app hi
    refine ⟨R.ord, by show q.1.getD 0 0 = 0; rw [gp 0 ih.pos]; exact ih.z, Nat.lt_of_lt_of_le ih.pos pl, by show (p.2 ++ [_]).length = _; simp [ih.len], fun r hr => ?_, fun j hj1 hj2 => ?_⟩
    · show ((p.2 ++ [q.2]).getD r []).length = m.k ∧ ∀ l, l < m.k → ((p.2 ++ [q.2]).getD r []).getD l 0 < q.1.length ∧ Ner m (q.1.getD (((p.2 ++ [q.2]).getD r []).getD l 0) 0) (stp m.st (q.1.getD r 0) l)
      by_cases hrn : r < n
      · rw [gD_app (by rw [ih.len]; exact hrn)]
        obtain ⟨a1, a2⟩ := ih.row r hrn
        refine ⟨a1, fun l hl => ?_⟩
        obtain ⟨b1, b2⟩ := a2 l hl
        exact ⟨by omega, by rw [gp _ b1, gp r (by omega)]; exact b2⟩
      · have hre : r = n := by omega
        subst hre
        rw [← ih.len, gD_last]
        refine ⟨by rw [R.len, rl], fun l hl => ?_⟩
        obtain ⟨b1, b2⟩ := R.nx l (by rw [rl]; exact hl)
        rw [ih.len, gp r hn]
        exact ⟨b1, b2⟩
    · show ∃ r l, r < n + 1 ∧ r < j ∧ l < m.k ∧ ((p.2 ++ [q.2]).getD r []).getD l 0 = j
      by_cases hjp : j < p.1.length
      · obtain ⟨r, l, h1, h2, h3, h4⟩ := ih.reach j hj1 hjp
        exact ⟨r, l, by omega, h2, h3, by rw [gD_app (by rw [ih.len]; exact h1)]; exact h4⟩
      · obtain ⟨l, hl, e⟩ := R.new j (by omega) hj2
        refine ⟨n, l, Nat.lt_succ_self n, by omega, by rw [← rl]; exact hl, ?_⟩
        rw [← ih.len, gD_last]
        exact e
/-- distinct numbers below N are at most N -/
theorem nodup_le : ∀ (N : Nat) (o : List Nat), o.Nodup → (∀ x ∈ o, x < N) → o.length ≤ N
  | 0, [], _, _ => Nat.le_refl _
  | 0, x :: o, _, h => absurd (h x (List.mem_cons_self ..)) (Nat.not_lt_zero _)
  | N + 1, o, nd, h => by
    have h1 : (o.erase N).length ≤ N := nodup_le N _ (nd.erase N) fun x hx => by
      have h2 := h x (List.mem_of_mem_erase hx)
      have h3 : x ≠ N := fun e => by subst e; exact (List.Nodup.not_mem_erase nd) hx
      omega
    by_cases hm : N ∈ o
    · rw [List.length_erase_of_mem hm] at h1; omega
    · rw [List.erase_of_not_mem hm] at h1; omega
theorem OrdOk.le {m : M} {o : List Nat} (h : OrdOk m o) : o.length ≤ m.st.length := by
  refine nodup_le _ o ?_ h.lt
  rw [List.nodup_iff_pairwise_ne, List.pairwise_iff_getElem]
  intro i j hi hj hij e
  have h1 : Ner m (o.getD i 0) (o.getD j 0) := by
    have e1 : o.getD i 0 = o[i] := by rw [List.getD_eq_getElem?_getD, List.getElem?_eq_getElem hi]; rfl
    have e2 : o.getD j 0 = o[j] := by rw [List.getD_eq_getElem?_getD, List.getElem?_eq_getElem hj]; rfl
    rw [e1, e2, e]
    exact .refl
  have := h.ne i j hi hj h1
  omega
theorem least_ex {m : M} (ok : m.ok) : ∃ n, LeastRes (nb m) m.st n := by
  have key : ∀ d n, n + d = m.st.length + 1 → (∀ j, j < n → j < (goN (nb m) m.st j).1.length) → ∃ n, LeastRes (nb m) m.st n := by
    intro d
    induction d with
    | zero =>
      intro n hn h
      have h1 := h (n - 1) (by omega)
      have h2 := (goN_ok ok (n - 1) fun j hj => h j (by omega)).ord.le
      omega
    | succ d ih =>
      intro n hn h
      by_cases hc : n < (goN (nb m) m.st n).1.length
      · exact ih (n + 1) (by omega) fun j hj => by
          by_cases hjn : j = n
          · subst hjn; exact hc
          · exact h j (by omega)
      · refine ⟨n, ?_, h⟩
        have G := goN_ok ok n h
        cases n with
        | zero => have := G.pos; omega
        | succ n =>
          have h1 := h n (Nat.lt_succ_self n)
          obtain ⟨e, he⟩ := goRow_pre (nb m) (goN (nb m) m.st n).1 (m.st.getD ((goN (nb m) m.st n).1.getD (goN (nb m) m.st n).2.length 0) [])
          have h2 : (goN (nb m) m.st (n + 1)).1 = (goN (nb m) m.st n).1 ++ e := he
          rw [h2, List.length_append] at hc ⊢
          omega
  exact key (m.st.length + 1) 0 (by omega) fun j hj => absurd hj (Nat.not_lt_zero _)
end TW
end

section
set_option Elab.async false
set_option linter.all false
set_option maxHeartbeats 4000000
namespace TW
open PySem PySem.Spec PyProof.Rows L2
noncomputable def smN (m : M) : Nat := @dite Nat (∃ n, LeastRes (nb m) m.st n) (Classical.propDecidable _) (fun h => Classical.choose h) (fun _ => 0)
theorem smN_res {m : M} (ok : m.ok) : LeastRes (nb m) m.st (smN m) := by
  unfold smN
  have h := least_ex ok
  rw [dif_pos h]
  exact Classical.choose_spec h
/-- the least machine -/
noncomputable def small (m : M) : M := ⟨m.k, (goN (nb m) m.st (smN m)).2, (goN (nb m) m.st (smN m)).1.map fun s => m.an.getD s 0⟩
theorem small_ok0 {m : M} (ok : m.ok) : GoOk m (smN m) (goN (nb m) m.st (smN m)) := goN_ok ok _ (smN_res ok).2
theorem getD_iff {α : Type} {xs : List α} {x d : α} (h : x ∈ xs) : ∃ i, i < xs.length ∧ xs.getD i d = x := by
  obtain ⟨i, hi, e⟩ := List.mem_iff_getElem.mp h
  exact ⟨i, hi, by rw [List.getD_eq_getElem?_getD, List.getElem?_eq_getElem hi]; exact e⟩
theorem small_ok {m : M} (ok : m.ok) : (small m).ok := by
  have G := small_ok0 ok
  have R := smN_res ok
  have hl : (goN (nb m) m.st (smN m)).2.length = smN m := G.len
  have hn : (goN (nb m) m.st (smN m)).1.length = smN m := R.1
  have hle := G.ord.le
  have hpos := G.pos
  have n8 := ok.n8
  refine ⟨ok.k1, ok.k3, ?_, ?_, ?_, fun r hr => ?_, fun r hr s hs => ?_, fun a ha => ?_⟩
  · show 1 ≤ (goN (nb m) m.st (smN m)).2.length; omega
  · show (goN (nb m) m.st (smN m)).2.length ≤ 8; omega
  · show ((goN (nb m) m.st (smN m)).1.map _).length = (goN (nb m) m.st (smN m)).2.length
    rw [List.length_map]; omega
  · obtain ⟨i, hi, rfl⟩ := getD_iff (d := []) (show r ∈ (goN (nb m) m.st (smN m)).2 from hr)
    exact (G.row i (by omega)).1
  · obtain ⟨i, hi, rfl⟩ := getD_iff (d := []) (show r ∈ (goN (nb m) m.st (smN m)).2 from hr)
    obtain ⟨a1, a2⟩ := G.row i (by omega)
    obtain ⟨l, hl', rfl⟩ := getD_iff (d := 0) hs
    have := (a2 l (by omega)).1
    show _ < (goN (nb m) m.st (smN m)).2.length
    omega
  · obtain ⟨x, hx, rfl⟩ := List.mem_map.mp (show a ∈ (goN (nb m) m.st (smN m)).1.map _ from ha)
    exact ok.a3 _ (getD_mem (by rw [ok.al]; exact G.ord.lt x hx))
theorem small_run {m : M} (ok : m.ok) : ∀ (t : List Nat) (i : Nat), i < (small m).st.length → (∀ l ∈ t, l < m.k) →
    Ner m ((goN (nb m) m.st (smN m)).1.getD (run (small m).st i t) 0) (run m.st ((goN (nb m) m.st (smN m)).1.getD i 0) t)
  | [], i, _, _ => .refl
  | l :: t, i, hi, ht => by
    have G := small_ok0 ok
    have hl := ht l (List.mem_cons_self ..)
    have hi' : i < smN m := by rw [← G.len]; exact hi
    rw [run_cons, run_cons]
    have hlt : stp (small m).st i l < (small m).st.length := (small_ok ok).stOk.lt hi hl
    have h1 := small_run ok t (stp (small m).st i l) hlt fun x hx => ht x (List.mem_cons_of_mem _ hx)
    have h2 : Ner m ((goN (nb m) m.st (smN m)).1.getD (stp (small m).st i l) 0) (stp m.st ((goN (nb m) m.st (smN m)).1.getD i 0) l) := ((G.row i hi').2 l hl).2
    exact h1.trans (h2.run fun x hx => ht x (List.mem_cons_of_mem _ hx))
theorem small_out {m : M} (ok : m.ok) {x : Nat} (hx : x < (small m).st.length) : (small m).an.getD x 0 = m.an.getD ((goN (nb m) m.st (smN m)).1.getD x 0) 0 := by
  have G := small_ok0 ok
  have R := smN_res ok
  have hx' : x < (goN (nb m) m.st (smN m)).1.length := by rw [R.1, ← G.len]; exact hx
  show ((goN (nb m) m.st (smN m)).1.map fun s => m.an.getD s 0).getD x 0 = _
  rw [List.getD_eq_getElem?_getD, List.getElem?_map, getD_some (d := 0) hx']
  rfl
theorem small_dist {m : M} (ok : m.ok) {i j : Nat} (hi : i < (small m).st.length) (hj : j < (small m).st.length) (h : Ner (small m) i j) : i = j := by
  have G := small_ok0 ok
  have R := smN_res ok
  have hl : (small m).st.length = (goN (nb m) m.st (smN m)).1.length := by rw [R.1]; exact G.len
  refine G.ord.ne i j (hl ▸ hi) (hl ▸ hj) fun t ht => ?_
  have h1 := h t ht
  rw [small_out ok ((small_ok ok).stOk.runLt t hi ht), small_out ok ((small_ok ok).stOk.runLt t hj ht)] at h1
  rw [← (small_run ok t i hi ht).out, ← (small_run ok t j hj ht).out]
  exact h1
theorem small_reach {m : M} (ok : m.ok) {j : Nat} (h0 : 0 < j) (hj : j < (small m).st.length) : ∃ r l, r < j ∧ l < m.k ∧ stp (small m).st r l = j := by
  have G := small_ok0 ok
  have R := smN_res ok
  have hl : (small m).st.length = (goN (nb m) m.st (smN m)).1.length := by rw [R.1]; exact G.len
  obtain ⟨r, l, _, h2, h3, h4⟩ := G.reach j h0 (hl ▸ hj)
  exact ⟨r, l, h2, h3, h4⟩

/-! ### lots -/
def idxL {α : Type} [DecidableEq α] (xs : List α) : List Nat := xs.map fun x => xs.idxOf x
def pics (st : List (List Nat)) (lots : List Nat) : List (List Nat) := (List.range st.length).map fun s => lots.getD s 0 :: (st.getD s []).map fun a => lots.getD a 0
theorem idxL_len {α : Type} [DecidableEq α] {xs : List α} : (idxL xs).length = xs.length := by unfold idxL; rw [List.length_map]
theorem idxL_get {α : Type} [DecidableEq α] {xs : List α} {i : Nat} (h : i < xs.length) : (idxL xs).getD i 0 = xs.idxOf xs[i] := by
  unfold idxL
  rw [List.getD_eq_getElem?_getD, List.getElem?_map, List.getElem?_eq_getElem h]; rfl
theorem idxL_eq {α : Type} [DecidableEq α] {xs : List α} {i j : Nat} (hi : i < xs.length) (hj : j < xs.length) : (idxL xs).getD i 0 = (idxL xs).getD j 0 ↔ xs[i] = xs[j] := by
  rw [idxL_get hi, idxL_get hj]
  constructor
  · intro e
    have h1 : xs[xs.idxOf xs[i]]'(List.idxOf_lt_length_of_mem (List.getElem_mem hi)) = xs[i] := List.getElem_idxOf _
    have h2 : xs[xs.idxOf xs[j]]'(List.idxOf_lt_length_of_mem (List.getElem_mem hj)) = xs[j] := List.getElem_idxOf _
    rw [← h1, ← h2]
    congr 1
  · intro e; rw [e]
theorem pics_len {st : List (List Nat)} {lots : List Nat} : (pics st lots).length = st.length := by unfold pics; simp
theorem pics_get {st : List (List Nat)} {lots : List Nat} {s : Nat} (h : s < (pics st lots).length) : (pics st lots)[s] = lots.getD s 0 :: (st.getD s []).map fun a => lots.getD a 0 := by
  unfold pics
  simp
/-- the lots as they stand in the loop -/
structure LotOk (m : M) (lots : List Nat) : Prop where
  len : lots.length = m.st.length
  form : ∀ i, i < lots.length → lots.getD i 0 ≤ i ∧ lots.getD (lots.getD i 0) 0 = lots.getD i 0
  coarse : ∀ i j, i < lots.length → j < lots.length → Ner m i j → lots.getD i 0 = lots.getD j 0
  out : ∀ i j, i < lots.length → j < lots.length → lots.getD i 0 = lots.getD j 0 → m.an.getD i 0 = m.an.getD j 0
theorem idxL_form {α : Type} [DecidableEq α] {xs : List α} {i : Nat} (h : i < xs.length) : (idxL xs).getD i 0 ≤ i ∧ (idxL xs).getD ((idxL xs).getD i 0) 0 = (idxL xs).getD i 0 := by
  have hlt : xs.idxOf xs[i] < xs.length := List.idxOf_lt_length_of_mem (List.getElem_mem h)
  have hx : xs[xs.idxOf xs[i]] = xs[i] := List.getElem_idxOf _
  refine ⟨?_, ?_⟩
  · rw [idxL_get h]
    rcases Nat.lt_or_ge i (xs.idxOf xs[i]) with z | z
    · have := List.not_of_lt_findIdx (p := (· == xs[i])) (xs := xs) (i := i) z
      simp at this
    · exact z
  · rw [idxL_get h, idxL_get hlt, hx]
theorem an_get {m : M} (al : m.an.length = m.st.length) {i : Nat} (h : i < m.an.length) : m.an[i] = m.an.getD i 0 := by
  rw [List.getD_eq_getElem?_getD, List.getElem?_eq_getElem h]; rfl
theorem lot_start {m : M} (al : m.an.length = m.st.length) : LotOk m (idxL m.an) := by
  refine ⟨by rw [idxL_len, al], fun i hi => idxL_form (by rw [idxL_len] at hi; exact hi), fun i j hi hj h => ?_, fun i j hi hj h => ?_⟩
  · rw [idxL_len] at hi hj
    rw [idxL_eq hi hj, an_get al hi, an_get al hj]
    exact h.out
  · rw [idxL_len] at hi hj
    rw [idxL_eq hi hj, an_get al hi, an_get al hj] at h
    exact h
theorem lot_next {m : M} (ok : StOk m.k m.st) {lots : List Nat} (h : LotOk m lots) : LotOk m (idxL (pics m.st lots)) := by
  have pl : (idxL (pics m.st lots)).length = m.st.length := by rw [idxL_len, pics_len]
  refine ⟨pl, fun i hi => idxL_form (by rw [idxL_len] at hi; exact hi), fun i j hi hj hn => ?_, fun i j hi hj he => ?_⟩
  · rw [pl] at hi hj
    have hi' : i < (pics m.st lots).length := by rw [pics_len]; exact hi
    have hj' : j < (pics m.st lots).length := by rw [pics_len]; exact hj
    rw [idxL_eq hi' hj', pics_get hi', pics_get hj']
    have e1 := h.coarse i j (by rw [h.len]; exact hi) (by rw [h.len]; exact hj) hn
    rw [e1]
    congr 1
    refine List.ext_getElem? fun l => ?_
    rw [List.getElem?_map, List.getElem?_map]
    by_cases hl : l < m.k
    · rw [getD_some (d := 0) (by rw [ok.row hi]; exact hl), getD_some (d := 0) (by rw [ok.row hj]; exact hl)]
      show some (lots.getD (stp m.st i l) 0) = some (lots.getD (stp m.st j l) 0)
      rw [h.coarse _ _ (by rw [h.len]; exact ok.lt hi hl) (by rw [h.len]; exact ok.lt hj hl) (hn.step hl)]
    · rw [List.getElem?_eq_none (by rw [ok.row hi]; omega), List.getElem?_eq_none (by rw [ok.row hj]; omega)]
  · rw [pl] at hi hj
    have hi' : i < (pics m.st lots).length := by rw [pics_len]; exact hi
    have hj' : j < (pics m.st lots).length := by rw [pics_len]; exact hj
    rw [idxL_eq hi' hj', pics_get hi', pics_get hj'] at he
    injection he with e1 _
    exact h.out i j (by rw [h.len]; exact hi) (by rw [h.len]; exact hj) e1
theorem lot_le {m : M} {lots : List Nat} (h : LotOk m lots) {i : Nat} (hi : i < m.st.length) : lots.getD i 0 ≤ (idxL (pics m.st lots)).getD i 0 := by
  have hi' : i < (pics m.st lots).length := by rw [pics_len]; exact hi
  have F := idxL_form hi'
  have hj : (idxL (pics m.st lots)).getD i 0 < m.st.length := Nat.lt_of_le_of_lt F.1 hi
  have hj' : (idxL (pics m.st lots)).getD i 0 < (pics m.st lots).length := by rw [pics_len]; exact hj
  have e := (idxL_eq hj' hi').mp F.2
  rw [pics_get hj', pics_get hi'] at e
  injection e with e1 _
  have := (h.form _ (by rw [h.len]; exact hj)).1
  rw [e1] at this
  exact this
theorem lot_end {m : M} (ok : StOk m.k m.st) {lots : List Nat} (h : LotOk m lots) (e : idxL (pics m.st lots) = lots) {i j : Nat} (hi : i < m.st.length) (hj : j < m.st.length) : lots.getD i 0 = lots.getD j 0 ↔ Ner m i j := by
  refine ⟨fun he => ?_, h.coarse i j (by rw [h.len]; exact hi) (by rw [h.len]; exact hj)⟩
  refine ner_of ok (fun i j => lots.getD i 0 = lots.getD j 0) (fun i j hi hj => h.out i j (by rw [h.len]; exact hi) (by rw [h.len]; exact hj)) (fun i j l hi hj hl he => ?_) hi hj he
  rw [← e] at he
  have hi' : i < (pics m.st lots).length := by rw [pics_len]; exact hi
  have hj' : j < (pics m.st lots).length := by rw [pics_len]; exact hj
  rw [idxL_eq hi' hj', pics_get hi', pics_get hj'] at he
  injection he with _ e2
  have e3 := congrArg (fun z => z[l]?) e2
  simp only [List.getElem?_map] at e3
  rw [getD_some (d := 0) (by rw [ok.row hi]; exact hl), getD_some (d := 0) (by rw [ok.row hj]; exact hl)] at e3
  exact Option.some.inj e3
/-- the measure: the sum of the lots -/
theorem sum_le : ∀ (a b : List Nat), a.length = b.length → (∀ i, i < a.length → a.getD i 0 ≤ b.getD i 0) → a.sum ≤ b.sum ∧ (a ≠ b → a.sum < b.sum)
  | [], [], _, _ => ⟨Nat.le_refl _, fun h => absurd rfl h⟩
  | x :: a, y :: b, hl, h => by
    have h0 : x ≤ y := h 0 (by simp)
    have ih := sum_le a b (by simpa using hl) fun i hi => h (i + 1) (by simpa using hi)
    simp only [List.sum_cons]
    refine ⟨by omega, fun hne => ?_⟩
    by_cases hxy : x = y
    · subst hxy
      have := ih.2 fun e => hne (by rw [e])
      omega
    · omega
theorem sum_bound : ∀ (a : List Nat) (n : Nat), (∀ x ∈ a, x ≤ n) → a.sum ≤ a.length * n
  | [], _, _ => by simp
  | x :: a, n, h => by
    have h1 := sum_bound a n fun y hy => h y (List.mem_cons_of_mem _ hy)
    have h2 := h x (List.mem_cons_self ..)
    simp only [List.sum_cons, List.length_cons, Nat.succ_mul]
    omega
theorem lot_bound {m : M} {lots : List Nat} (h : LotOk m lots) : lots.sum ≤ m.st.length * m.st.length := by
  rw [← h.len]
  refine sum_bound lots _ fun x hx => ?_
  obtain ⟨i, hi, rfl⟩ := getD_iff (d := 0) hx
  have := (h.form i hi).1
  omega
end TW
end

section
set_option Elab.async false
set_option linter.all false
set_option maxRecDepth 100000
set_option maxHeartbeats 4000000
namespace TW
open PySem PySem.Spec PyProof.Rows L2
local macro_rules | `(tactic| walk_at "aw") => `(tactic| first
  | with_reducible refine ast_seq ?_
  | with_reducible refine ast_ret ?_
  | with_reducible refine ast_if ?_
  | with_reducible refine ast_next ?_
  | with_reducible refine awt_t ?_
  | with_reducible refine awt_b ?_
  | with_reducible refine awt_and ?_
  | with_reducible refine awt_or ?_
  | with_reducible refine awt_not ?_
  | with_reducible refine awt_yes ?_
  | ((with_reducible apply awp_row0); exact rfl)
  | ((with_reducible apply awp_row1); exact rfl)
  | ((with_reducible apply awp_row2); exact rfl)
  | ((with_reducible apply awp_row3); exact rfl)
  | with_reducible refine awp_op ?_
  | with_reducible refine awp_and ?_
  | with_reducible refine awp_or ?_
  | with_reducible refine awp_not ?_
  | with_reducible refine awp_chain ?_
  | with_reducible refine awp_if ?_
  | with_reducible refine awp_isN ?_
  | with_reducible refine awp_notN ?_
  | with_reducible refine awp_int ?_
  | with_reducible refine awp_bl ?_
  | with_reducible refine awp_str ?_
  | with_reducible refine awp_non ?_
  | with_reducible refine awp_isiT ?_
  | with_reducible refine awp_isiI ?_
  | with_reducible refine awp_isiB ?_
  | with_reducible refine awp_isiS ?_
  | with_reducible refine awp_isiL ?_
  | with_reducible refine awp_isiTL ?_
  | with_reducible refine awp_cb ?_
  | with_reducible refine awp_call ?_
  | with_reducible refine aas_nil ?_
  | with_reducible refine aas_cons ?_
  | with_reducible refine rd_lt ?_
  | with_reducible refine rd_le ?_
  | with_reducible refine rd_gt ?_
  | with_reducible refine rd_ge ?_
  | with_reducible refine rd_add ?_
  | with_reducible refine rd_sub ?_
  | with_reducible refine rd_notB ?_
  | with_reducible refine rd_q0 ?_
  | with_reducible refine rd_q1 ?_
  | with_reducible refine rd_q2 ?_
  | with_reducible refine rd_eqN ?_
  | with_reducible refine rd_neN ?_
  | with_reducible refine rd_eqT ?_
  | with_reducible refine rd_neT ?_
  | with_reducible refine rd_eqL ?_
  | with_reducible refine rd_neL ?_
  | with_reducible refine rd_eqI ?_
  | with_reducible refine rd_neI ?_
  | with_reducible refine rdn_int ?_
  | with_reducible refine rdn_min ?_
  | with_reducible refine awp_rg ?_
  | with_reducible refine awi_rng ?_
  | with_reducible refine awi_list ?_
  | with_reducible refine awi_tup ?_
  | with_reducible refine awi_enumL ?_
  | with_reducible refine awi_enumT ?_
  | with_reducible refine awp_sl ?_
  | with_reducible refine awo_no ?_
  | with_reducible refine awo_some ?_
  | with_reducible refine ast_while ?_
  | with_reducible refine ast_for ?_
  | with_reducible refine exb ?_
  | with_reducible refine exn ?_
  | with_reducible refine exi ?_
  | with_reducible refine exl ?_
  | with_reducible refine ext ?_
  | with_reducible refine exlD ?_
  | with_reducible refine exnD ?_
  | with_reducible refine exsD ?_
  | with_reducible refine rdn_lenN ?_
  | with_reducible refine rdn_lenS ?_
  | with_reducible refine rdn_lenL ?_
  | with_reducible refine rdn_lenl ?_
  | ((with_reducible apply awp_v); exact rfl))
local macro_rules | `(tactic| walk_at "go") => `(tactic| (repeat (first
  | with_reducible refine ast_seq ?_
  | with_reducible refine ast_ret ?_
  | with_reducible refine ast_if ?_
  | with_reducible refine ast_next ?_
  | with_reducible refine awt_t ?_
  | with_reducible refine awt_b ?_
  | with_reducible refine awt_and ?_
  | with_reducible refine awt_or ?_
  | with_reducible refine awt_not ?_
  | with_reducible refine awt_yes ?_
  | ((with_reducible apply awp_row0); exact rfl)
  | ((with_reducible apply awp_row1); exact rfl)
  | ((with_reducible apply awp_row2); exact rfl)
  | ((with_reducible apply awp_row3); exact rfl)
  | with_reducible refine awp_op ?_
  | with_reducible refine awp_and ?_
  | with_reducible refine awp_or ?_
  | with_reducible refine awp_not ?_
  | with_reducible refine awp_chain ?_
  | with_reducible refine awp_if ?_
  | with_reducible refine awp_isN ?_
  | with_reducible refine awp_notN ?_
  | with_reducible refine awp_int ?_
  | with_reducible refine awp_bl ?_
  | with_reducible refine awp_str ?_
  | with_reducible refine awp_non ?_
  | with_reducible refine awp_isiT ?_
  | with_reducible refine awp_isiI ?_
  | with_reducible refine awp_isiB ?_
  | with_reducible refine awp_isiS ?_
  | with_reducible refine awp_isiL ?_
  | with_reducible refine awp_isiTL ?_
  | with_reducible refine awp_cb ?_
  | with_reducible refine awp_call ?_
  | with_reducible refine aas_nil ?_
  | with_reducible refine aas_cons ?_
  | with_reducible refine rd_lt ?_
  | with_reducible refine rd_le ?_
  | with_reducible refine rd_gt ?_
  | with_reducible refine rd_ge ?_
  | with_reducible refine rd_add ?_
  | with_reducible refine rd_sub ?_
  | with_reducible refine rd_notB ?_
  | with_reducible refine rd_q0 ?_
  | with_reducible refine rd_q1 ?_
  | with_reducible refine rd_q2 ?_
  | with_reducible refine rd_eqN ?_
  | with_reducible refine rd_neN ?_
  | with_reducible refine rd_eqT ?_
  | with_reducible refine rd_neT ?_
  | with_reducible refine rd_eqL ?_
  | with_reducible refine rd_neL ?_
  | with_reducible refine rd_eqI ?_
  | with_reducible refine rd_neI ?_
  | with_reducible refine rdn_int ?_
  | with_reducible refine rdn_min ?_
  | with_reducible refine awp_rg ?_
  | with_reducible refine awi_rng ?_
  | with_reducible refine awi_list ?_
  | with_reducible refine awi_tup ?_
  | with_reducible refine awi_enumL ?_
  | with_reducible refine awi_enumT ?_
  | with_reducible refine awp_sl ?_
  | with_reducible refine awo_no ?_
  | with_reducible refine awo_some ?_
  | with_reducible refine ast_while ?_
  | with_reducible refine ast_for ?_
  | with_reducible refine exb ?_
  | with_reducible refine exn ?_
  | with_reducible refine exi ?_
  | with_reducible refine exl ?_
  | with_reducible refine ext ?_
  | with_reducible refine exlD ?_
  | with_reducible refine exnD ?_
  | with_reducible refine exsD ?_
  | with_reducible refine rdn_lenN ?_
  | with_reducible refine rdn_lenS ?_
  | with_reducible refine rdn_lenL ?_
  | with_reducible refine rdn_lenl ?_
  | ((with_reducible apply awp_v); exact rfl))))

section
variable {P : Program} {w : World} {K : PySem.W.Frag} {mg : Str → Option Value} {base : Heap} {T : List Addr}
theorem isTyI {x : PyData} : isTy "int" x = match x with | .int _ => true | .bool _ => true | _ => false := by cases x <;> rfl
theorem isTyB {x : PyData} : isTy "bool" x = match x with | .bool _ => true | _ => false := by cases x <;> rfl
theorem isTyS {x : PyData} : isTy "str" x = match x with | .str _ => true | _ => false := by cases x <;> rfl
theorem isTyT {x : PyData} : isTy "tuple" x = match x with | .tuple _ => true | _ => false := by cases x <;> rfl
theorem isTyL {x : PyData} : isTy "list" x = match x with | .list _ => true | _ => false := by cases x <;> rfl
theorem sc_is_number : FnScope ["value", "low", "high"] ["value", "low", "high"] (defScope s_is_number) := ⟨rfl, rfl, rfl, by decide +kernel, rfl, by decide +kernel, by decide +kernel⟩
theorem bd_is_number : BindF "is_number" s_is_number ["value", "low", "high"] := fun _ _ _ _ _ _ us hl => match us, hl with | [_, _, _], _ => rfl
def isNum (lo hi : Int) : PyData → Bool
  | .int i => decide (lo ≤ i) && decide (i ≤ hi)
  | _ => false
theorem isNum_n {n hi : Nat} : isNum 0 (hi : Int) (iD n) = decide (n ≤ hi) := by
  unfold isNum iD
  simp only
  rw [decide_eq_true (by omega : (0 : Int) ≤ (n : Int)), Bool.true_and]
  exact decide_eq_decide.mpr ⟨fun h => by omega, fun h => by omega⟩
abbrev sp_is_number (W : Wd) : Sp := SpD W (fun a : PyData × Int × Int => [a.1, .int a.2.1, .int a.2.2]) (fun a => okD a.1 = true) (fun a r => r = .bool (isNum a.2.1 a.2.2 a.1))
theorem ok_is_number (D : Dd K mg "is_number" s_is_number) (t : Bt K mg) : Ok P w K mg base 1 "is_number" ["value", "low", "high"] (sp_is_number ⟨K, T⟩) := by
  refine ok_mk D sc_is_number rfl (fun _ => rfl) bd_is_number fun f cdv A outer s H E hr => ⟨_, (pss_one (ps_ret (pe_and (pe_callB (cIsi (K := K) rfl) (by rfl) t.isinstance (by decide +kernel) (pa_cons (pv 0) (pa_cons (pe_bltn (v := .ty "int") (by rfl) t.int (by decide +kernel) rfl) pa_nil))) (pe_and (pe_not (pe_callB (cIsi (K := K) rfl) (by rfl) t.isinstance (by decide +kernel) (pa_cons (pv 0) (pa_cons (pe_bltn (v := .ty "bool") (by rfl) t.bool (by decide +kernel) rfl) pa_nil)))) (pe_one (pe_chain op_le op_le (pv 1) (pv 0) (pv 2))))))), fun a hp => ?_⟩
  obtain ⟨x, lo, hi⟩ := a
  have ok : okD x = true := hp
  walk_at "aw"
  walk_at "aw"
  refine awp_isi (.inl rfl) ?_
  walk_at "aw"
  refine ⟨ok, _, rfl, ?_⟩
  rw [isTyI]
  cases x with
  | int i =>
    refine iteT ?_
    walk_at "aw"
    walk_at "aw"
    refine awp_isi (.inr (.inl rfl)) ?_
    walk_at "aw"
    refine ⟨ok, _, rfl, _, rfl, ?_⟩
    rw [isTyB]
    refine iteT ?_
    iterate 4 walk_at "aw"
    refine ⟨_, rfl, ?_⟩
    by_cases h : lo ≤ i
    · rw [decide_eq_true h]
      refine iteT ?_
      walk_at "aw"
      walk_at "aw"
      simp [isNum, h]
    · rw [decide_eq_false h]
      refine iteF ?_
      simp [isNum, h]
  | bool b =>
    refine iteT ?_
    walk_at "aw"
    walk_at "aw"
    refine awp_isi (.inr (.inl rfl)) ?_
    walk_at "aw"
    refine ⟨ok, _, rfl, _, rfl, ?_⟩
    rw [isTyB]
    exact iteF rfl
  | none => exact iteF rfl
  | str s => exact iteF rfl
  | list s => exact iteF rfl
  | tuple s => exact iteF rfl
  | dict s => exact iteF rfl
theorem sc_led : FnScope ["steps", "state", "text", "letter"] ["steps", "state", "text"] (defScope s_led) := ⟨rfl, rfl, rfl, by decide +kernel, rfl, by decide +kernel, by decide +kernel⟩
theorem bd_led : BindF "led" s_led ["steps", "state", "text"] := fun _ _ _ _ _ _ us hl => match us, hl with | [_, _, _], _ => rfl
abbrev sp_led (W : Wd) : Sp := SpD W (fun a : List (List Nat) × Nat × List Nat => [sD a.1, iD a.2.1, nD a.2.2]) (fun a => ∃ k, StOk k a.1 ∧ a.2.1 < a.1.length ∧ ∀ l ∈ a.2.2, l < k) (fun a r => r = iD (run a.1 a.2.1 a.2.2))
theorem ok_led (D : Dd K mg "led" s_led) (t : Bt K mg) : Ok P w K mg base 1 "led" ["steps", "state", "text"] (sp_led ⟨K, T⟩) := by
  refine ok_mk D sc_led rfl (fun _ => rfl) bd_led fun f cdv A outer s H E hr => ⟨_, (pss_cons (ps_for PassesOwn.never rfl (piT (K := K) rfl (pv 2)) (pg_name (i := 3) sc_led.nd rfl (by first | exact Or.inl rfl | exact Or.inr rfl)) (pss_one (ps_asg (pe_ix (ixT (K := K) rfl) (pe_ix (ixT (K := K) rfl) (pv 0) (pv 1) (fun _ _ => rfl)) (pv 3) (fun _ _ => rfl)) (pg_name (i := 1) sc_led.nd rfl (by first | exact Or.inl rfl | exact Or.inr rfl)))))
    (pss_one (ps_ret (pv 1)))), fun a hp => ?_⟩
  obtain ⟨st, s, tx⟩ := a
  obtain ⟨k, ok, hs, ht⟩ := hp
  iterate 4 walk_at "aw"
  refine ⟨_, rfl, fun i Γ => ∃ sl, Γ = [.d (sD st), .d (iD (run st s (tx.take i))), .d (nD tx), sl], ⟨_, rfl⟩, fun i x Γ hx hΓ => ?_, fun Γ hΓ => ?_⟩
  · obtain ⟨sl, rfl⟩ := hΓ
    rw [List.getElem?_map] at hx
    cases hi : tx[i]? with
    | none => rw [hi] at hx; cases hx
    | some l =>
      rw [hi] at hx
      cases hx
      have hlm : l ∈ tx := List.mem_of_getElem? hi
      have hlt : run st s (tx.take i) < st.length := ok.runLt _ hs fun l hl => ht l (List.mem_of_mem_take hl)
      refine atg_name ?_
      refine ast_set ?_
      iterate 4 walk_at "aw"
      refine rd_sD hlt ?_
      walk_at "aw"
      refine rd_nD (by rw [ok.row hlt]; exact ht l hlm) ?_
      have e : run st s (tx.take (i + 1)) = stp st (run st s (tx.take i)) l := by
        rw [List.take_succ, hi, run_app]; rfl
      exact ⟨.d (iD l), by rw [e]; rfl⟩
  · obtain ⟨sl, rfl⟩ := hΓ
    rw [List.length_map, List.take_length]
    walk_at "aw"
    walk_at "aw"
    rfl
theorem sc_then : FnScope ["one", "other", "state"] ["one", "other"] (defScope s_then) := ⟨rfl, rfl, rfl, by decide +kernel, rfl, by decide +kernel, by decide +kernel⟩
theorem bd_then : BindF "then" s_then ["one", "other"] := fun _ _ _ _ _ _ us hl => match us, hl with | [_, _], _ => rfl
def thenL (one other : List Nat) : List Nat := one.map fun s => other.getD s 0
abbrev sp_then (W : Wd) : Sp := SpD W (fun a : List Nat × List Nat => [nD a.1, nD a.2]) (fun a => a.1.length ≤ 1000 ∧ ∀ s ∈ a.1, s < a.2.length) (fun a r => r = nD (thenL a.1 a.2))
theorem mapN_get {ns : List Nat} {n : Nat} {x : PyData} (h : (ns.map iD)[n]? = some x) : ∃ s, ns[n]? = some s ∧ s ∈ ns ∧ x = iD s := by
  rw [List.getElem?_map] at h
  cases e : ns[n]? with
  | none => rw [e] at h; cases h
  | some s => rw [e] at h; exact ⟨s, rfl, List.mem_of_getElem? e, (Option.some.inj h).symm⟩
theorem ok_then (D : Dd K mg "then" s_then) (t : Bt K mg) : Ok P w K mg base 1 "then" ["one", "other"] (sp_then ⟨K, T⟩) := by
  refine ok_mk D sc_then rfl (fun _ => rfl) bd_then fun f cdv A outer s H E hr => ⟨_, (pss_one (ps_ret (pe_callTy (cTup (K := K) rfl) (by rfl) t.tuple (by decide +kernel) (pa_cons (pe_lc (own := [("state", 2)]) (g := gName 2) rfl sc_then.nd (piT (K := K) rfl (pv 0)) (blkOk_by (by rfl)) (fun _ _ _ _ _ => pg_name (i := 2) sc_then.nd rfl (by first | exact Or.inl rfl | exact Or.inr rfl)) (fun _ _ _ _ _ => pts_nil) (fun _ _ _ _ _ => (pe_ix (ixT (K := K) rfl) (pv 1) (pv 2) (fun _ _ => rfl)))) pa_nil)))), fun a hp => ?_⟩
  obtain ⟨one, other⟩ := a
  obtain ⟨hl, ho⟩ := hp
  walk_at "aw"
  walk_at "aw"
  walk_at "aw"
  refine awp_lcF (List.mem_singleton.mpr rfl) (awc_of ?_)
  walk_at "aw"
  walk_at "aw"
  refine ⟨_, rfl, by rw [List.length_map]; exact Nat.le_trans hl (by decide), rfl, fun x => match x with | .int i => iD (other.getD i.toNat 0) | _ => .none, fun n x hx => ?_, ?_⟩
  · obtain ⟨s, _, hs, rfl⟩ := mapN_get hx
    iterate 3 walk_at "aw"
    refine rd_nD (ho s hs) ⟨rfl, ?_⟩
    simp
  · walk_at "aw"
    refine rdn_tup ?_
    unfold nD thenL
    rw [List.map_map, List.map_map]
    congr 1
theorem sc_letter_maps : FnScope ["question", "letters", "steps", "_", "row", "letter"] ["question"] (defScope s_letter_maps) := ⟨rfl, rfl, rfl, by decide +kernel, rfl, by decide +kernel, by decide +kernel⟩
theorem bd_letter_maps : BindF "letter_maps" s_letter_maps ["question"] := fun _ _ _ _ _ _ us hl => match us, hl with | [_], _ => rfl
def colL (st : List (List Nat)) (l : Nat) : List Nat := st.map fun r => r.getD l 0
def colsL (m : M) : List (List Nat) := (List.range m.k).map (colL m.st)
def pD (ns : List Nat) : PyData := ptD (ns.map iD)
abbrev sp_letter_maps (W : Wd) : Sp := SpD W (fun m : M => [qD m]) (fun m => m.k ≤ 1000 ∧ m.st.length ≤ 1000 ∧ ∀ r ∈ m.st, r.length = m.k) (fun m r => r = .list ((colsL m).map pD))
theorem mapS_get {ns : List (List Nat)} {n : Nat} {x : PyData} (h : (ns.map nD)[n]? = some x) : ∃ s, ns[n]? = some s ∧ s ∈ ns ∧ x = nD s := by
  rw [List.getElem?_map] at h
  cases e : ns[n]? with
  | none => rw [e] at h; cases h
  | some s => rw [e] at h; exact ⟨s, rfl, List.mem_of_getElem? e, (Option.some.inj h).symm⟩
theorem ok_letter_maps (D : Dd K mg "letter_maps" s_letter_maps) (t : Bt K mg) : Ok P w K mg base 1 "letter_maps" ["question"] (sp_letter_maps ⟨K, T⟩) := by
  refine ok_mk D sc_letter_maps rfl (fun _ => rfl) bd_letter_maps fun f cdv A outer s H E hr => ⟨_, (pss_cons (ps_asg (pv 0) (pgT (K := K) rfl rfl (pgs_cons (pg_name (i := 1) sc_letter_maps.nd rfl (by first | exact Or.inl rfl | exact Or.inr rfl)) (pgs_cons (pg_name (i := 2) sc_letter_maps.nd rfl (by first | exact Or.inl rfl | exact Or.inr rfl)) (pgs_cons (pg_name (i := 3) sc_letter_maps.nd rfl (by first | exact Or.inl rfl | exact Or.inr rfl)) pgs_nil)))))
    (pss_one (ps_ret (pe_lc (own := [("letter", 5)]) (g := gName 5) rfl sc_letter_maps.nd (pi_range1 (by rfl) t.range (pa_cons (pv 1) pa_nil)) (blkOk_by (by rfl)) (fun _ _ _ _ _ => pg_name (i := 5) sc_letter_maps.nd rfl (by first | exact Or.inl rfl | exact Or.inr rfl)) (fun _ _ _ _ _ => pts_nil) (fun _ _ _ _ _ => (pe_callTy (cTup (K := K) rfl) (by rfl) t.tuple (by decide +kernel) (pa_cons (pe_lc (own := [("row", 4)]) (g := gName 4) rfl sc_letter_maps.nd (piT (K := K) rfl (pv 2)) (blkOk_by (by rfl)) (fun _ _ _ _ _ => pg_name (i := 4) sc_letter_maps.nd rfl (by first | exact Or.inl rfl | exact Or.inr rfl)) (fun _ _ _ _ _ => pts_nil) (fun _ _ _ _ _ => (pe_ix (ixT (K := K) rfl) (pv 4) (pv 5) (fun _ _ => rfl)))) pa_nil))))))), fun a hp => ?_⟩
  obtain ⟨hk, hn, hr'⟩ := hp
  walk_at "aw"
  refine ast_asg ?_
  walk_at "aw"
  refine atg_tup rfl (atgs_cons (atg_name (atgs_cons (atg_name (atgs_cons (atg_name (atgs_nil ?_)))))))
  walk_at "aw"
  refine awp_lcF (List.mem_singleton.mpr rfl) (awc_of ?_)
  walk_at "aw"
  walk_at "aw"
  refine ⟨_, rfl, by omega, by rw [rangeD_len]; omega, rfl, fun x => match x with | .int i => pD (colL a.st i.toNat) | _ => .none, fun n x hx => ?_, ?_⟩
  · obtain ⟨hn', rfl⟩ := rangeD_get hx
    walk_at "aw"
    walk_at "aw"
    refine awp_lcF (List.mem_singleton.mpr rfl) (awc_of ?_)
    walk_at "aw"
    walk_at "aw"
    refine ⟨_, rfl, by rw [List.length_map]; omega, rfl, fun x => match x with | .tuple r => r.getD n .none | _ => .none, fun j x hx => ?_, ?_⟩
    · obtain ⟨r, _, hm, rfl⟩ := mapS_get hx
      iterate 3 walk_at "aw"
      have hnr : n < r.length := by rw [hr' r hm]; exact hn'
      refine rd_nD hnr ⟨rfl, ?_⟩
      show iD (r.getD n 0) = (r.map iD).getD n .none
      rw [List.getD_eq_getElem?_getD, List.getD_eq_getElem?_getD, List.getElem?_map]
      rw [List.getElem?_eq_getElem hnr]
      try rfl
    · walk_at "aw"
      refine rdn_tupP ⟨rfl, ?_⟩
      show _ = pD (colL a.st (n : Int).toNat)
      unfold pD colL
      rw [Int.toNat_natCast, List.map_map, List.map_map]
      congr 1
      refine List.map_congr_left fun r hm => ?_
      show (r.map iD).getD n .none = iD (r.getD n 0)
      have hnr : n < r.length := by rw [hr' r hm]; exact hn'
      rw [List.getD_eq_getElem?_getD, List.getD_eq_getElem?_getD, List.getElem?_map]
      rw [List.getElem?_eq_getElem hnr]
      try rfl
  · show _ = PyData.list ((colsL a).map pD)
    unfold colsL rangeD
    rw [List.map_map, List.map_map]
    congr 1
end
end TW
end

section
set_option Elab.async false
set_option linter.all false
set_option maxRecDepth 100000
set_option maxHeartbeats 4000000
namespace TW
open PySem PySem.Spec PyProof.Rows L2
local macro_rules | `(tactic| walk_at "aw") => `(tactic| first
  | with_reducible refine ast_seq ?_
  | with_reducible refine ast_ret ?_
  | with_reducible refine ast_if ?_
  | with_reducible refine ast_next ?_
  | with_reducible refine awt_t ?_
  | with_reducible refine awt_b ?_
  | with_reducible refine awt_and ?_
  | with_reducible refine awt_or ?_
  | with_reducible refine awt_not ?_
  | with_reducible refine awt_yes ?_
  | ((with_reducible apply awp_row0); exact rfl)
  | ((with_reducible apply awp_row1); exact rfl)
  | ((with_reducible apply awp_row2); exact rfl)
  | ((with_reducible apply awp_row3); exact rfl)
  | with_reducible refine awp_op ?_
  | with_reducible refine awp_and ?_
  | with_reducible refine awp_or ?_
  | with_reducible refine awp_not ?_
  | with_reducible refine awp_chain ?_
  | with_reducible refine awp_if ?_
  | with_reducible refine awp_isN ?_
  | with_reducible refine awp_notN ?_
  | with_reducible refine awp_int ?_
  | with_reducible refine awp_bl ?_
  | with_reducible refine awp_str ?_
  | with_reducible refine awp_non ?_
  | with_reducible refine awp_isiT ?_
  | with_reducible refine awp_isiI ?_
  | with_reducible refine awp_isiB ?_
  | with_reducible refine awp_isiS ?_
  | with_reducible refine awp_isiL ?_
  | with_reducible refine awp_isiTL ?_
  | with_reducible refine awp_cb ?_
  | with_reducible refine awp_call ?_
  | with_reducible refine aas_nil ?_
  | with_reducible refine aas_cons ?_
  | with_reducible refine rd_lt ?_
  | with_reducible refine rd_le ?_
  | with_reducible refine rd_gt ?_
  | with_reducible refine rd_ge ?_
  | with_reducible refine rd_add ?_
  | with_reducible refine rd_sub ?_
  | with_reducible refine rd_notB ?_
  | with_reducible refine rd_q0 ?_
  | with_reducible refine rd_q1 ?_
  | with_reducible refine rd_q2 ?_
  | with_reducible refine rd_eqN ?_
  | with_reducible refine rd_neN ?_
  | with_reducible refine rd_eqT ?_
  | with_reducible refine rd_neT ?_
  | with_reducible refine rd_eqL ?_
  | with_reducible refine rd_neL ?_
  | with_reducible refine rd_eqI ?_
  | with_reducible refine rd_neI ?_
  | with_reducible refine rdn_int ?_
  | with_reducible refine rdn_min ?_
  | with_reducible refine awp_rg ?_
  | with_reducible refine awi_rng ?_
  | with_reducible refine awi_list ?_
  | with_reducible refine awi_tup ?_
  | with_reducible refine awi_enumL ?_
  | with_reducible refine awi_enumT ?_
  | with_reducible refine awp_sl ?_
  | with_reducible refine awo_no ?_
  | with_reducible refine awo_some ?_
  | with_reducible refine ast_while ?_
  | with_reducible refine ast_for ?_
  | with_reducible refine exb ?_
  | with_reducible refine exn ?_
  | with_reducible refine exi ?_
  | with_reducible refine exl ?_
  | with_reducible refine ext ?_
  | with_reducible refine exlD ?_
  | with_reducible refine exnD ?_
  | with_reducible refine exsD ?_
  | with_reducible refine rdn_lenN ?_
  | with_reducible refine rdn_lenS ?_
  | with_reducible refine rdn_lenL ?_
  | with_reducible refine rdn_lenl ?_
  | ((with_reducible apply awp_v); exact rfl))
local macro_rules | `(tactic| walk_at "go") => `(tactic| (repeat (first
  | with_reducible refine ast_seq ?_
  | with_reducible refine ast_ret ?_
  | with_reducible refine ast_if ?_
  | with_reducible refine ast_next ?_
  | with_reducible refine awt_t ?_
  | with_reducible refine awt_b ?_
  | with_reducible refine awt_and ?_
  | with_reducible refine awt_or ?_
  | with_reducible refine awt_not ?_
  | with_reducible refine awt_yes ?_
  | ((with_reducible apply awp_row0); exact rfl)
  | ((with_reducible apply awp_row1); exact rfl)
  | ((with_reducible apply awp_row2); exact rfl)
  | ((with_reducible apply awp_row3); exact rfl)
  | with_reducible refine awp_op ?_
  | with_reducible refine awp_and ?_
  | with_reducible refine awp_or ?_
  | with_reducible refine awp_not ?_
  | with_reducible refine awp_chain ?_
  | with_reducible refine awp_if ?_
  | with_reducible refine awp_isN ?_
  | with_reducible refine awp_notN ?_
  | with_reducible refine awp_int ?_
  | with_reducible refine awp_bl ?_
  | with_reducible refine awp_str ?_
  | with_reducible refine awp_non ?_
  | with_reducible refine awp_isiT ?_
  | with_reducible refine awp_isiI ?_
  | with_reducible refine awp_isiB ?_
  | with_reducible refine awp_isiS ?_
  | with_reducible refine awp_isiL ?_
  | with_reducible refine awp_isiTL ?_
  | with_reducible refine awp_cb ?_
  | with_reducible refine awp_call ?_
  | with_reducible refine aas_nil ?_
  | with_reducible refine aas_cons ?_
  | with_reducible refine rd_lt ?_
  | with_reducible refine rd_le ?_
  | with_reducible refine rd_gt ?_
  | with_reducible refine rd_ge ?_
  | with_reducible refine rd_add ?_
  | with_reducible refine rd_sub ?_
  | with_reducible refine rd_notB ?_
  | with_reducible refine rd_q0 ?_
  | with_reducible refine rd_q1 ?_
  | with_reducible refine rd_q2 ?_
  | with_reducible refine rd_eqN ?_
  | with_reducible refine rd_neN ?_
  | with_reducible refine rd_eqT ?_
  | with_reducible refine rd_neT ?_
  | with_reducible refine rd_eqL ?_
  | with_reducible refine rd_neL ?_
  | with_reducible refine rd_eqI ?_
  | with_reducible refine rd_neI ?_
  | with_reducible refine rdn_int ?_
  | with_reducible refine rdn_min ?_
  | with_reducible refine awp_rg ?_
  | with_reducible refine awi_rng ?_
  | with_reducible refine awi_list ?_
  | with_reducible refine awi_tup ?_
  | with_reducible refine awi_enumL ?_
  | with_reducible refine awi_enumT ?_
  | with_reducible refine awp_sl ?_
  | with_reducible refine awo_no ?_
  | with_reducible refine awo_some ?_
  | with_reducible refine ast_while ?_
  | with_reducible refine ast_for ?_
  | with_reducible refine exb ?_
  | with_reducible refine exn ?_
  | with_reducible refine exi ?_
  | with_reducible refine exl ?_
  | with_reducible refine ext ?_
  | with_reducible refine exlD ?_
  | with_reducible refine exnD ?_
  | with_reducible refine exsD ?_
  | with_reducible refine rdn_lenN ?_
  | with_reducible refine rdn_lenS ?_
  | with_reducible refine rdn_lenL ?_
  | with_reducible refine rdn_lenl ?_
  | ((with_reducible apply awp_v); exact rfl))))

section
variable {P : Program} {w : World} {K : PySem.W.Frag} {mg : Str → Option Value} {base : Heap} {T : List Addr}
theorem sc_need_world : FnScope ["value"] ["value"] (defScope s_need_world) := ⟨rfl, rfl, rfl, by decide +kernel, rfl, by decide +kernel, by decide +kernel⟩
theorem bd_need_world : BindF "need_world" s_need_world ["value"] := fun _ _ _ _ _ _ us hl => match us, hl with | [_], _ => rfl
abbrev sp_need_world (W : Wd) : Sp := SpD W (fun s : Str => [.str s]) (fun s => s ∈ wsL) (fun s r => r = .none)
theorem ok_need_world (D : Dd K mg "need_world" s_need_world) (t : Bt K mg) : Ok P w K mg base 1 "need_world" ["value"] (sp_need_world ⟨K, T⟩) := by
  obtain ⟨aW, hW, sW⟩ := t.worlds
  refine ok_mk D sc_need_world rfl (fun _ => rfl) bd_need_world fun f cdv A outer s H E hr => ⟨_, (pss_one (ps_if (PW.pt (pw_or (pt_not (pt_val (pe_callB (cIsi (K := K) rfl) (by rfl) t.isinstance (by decide +kernel) (pa_cons (pv 0) (pa_cons (pe_bltn (v := .ty "str") (by rfl) t.str (by decide +kernel) rfl) pa_nil))))) (pw_or1 (pt_cmpR (oNotIn (K := K) rfl) (pv 0) (pe_glob (v := .ref aW) rfl hW rfl) (by first | rfl | exact nomark _))))) pss_never pss_nil)), fun a hp => ?_⟩
  walk_at "aw"
  walk_at "aw"
  walk_at "aw"
  walk_at "aw"
  refine awp_isi (.inr (.inr (.inl rfl))) ?_
  walk_at "aw"
  refine ⟨rfl, _, rfl, ?_⟩
  rw [isTyS]
  refine iteF ?_
  iterate 3 walk_at "aw"
  refine awp_c (const_dv sW (by decide)) ?_
  refine rd_inS wsL (.inr rfl) ⟨_, rfl, ?_⟩
  rw [if_pos rfl, decide_eq_true (show a ∈ wsL from hp)]
  refine iteF ?_
  walk_at "aw"
  rfl
theorem sc_are_steps : FnScope ["value", "letters", "most", "state", "after"] ["value", "letters", "most"] (defScope s_are_steps) := ⟨rfl, rfl, rfl, by decide +kernel, rfl, by decide +kernel, by decide +kernel⟩
theorem bd_are_steps : BindF "are_steps" s_are_steps ["value", "letters", "most"] := fun _ _ _ _ _ _ us hl => match us, hl with | [_, _, _], _ => rfl
abbrev sp_are_steps (W : Wd) : Sp := SpD W (fun a : List (List Nat) × Nat × Int => [sD a.1, iD a.2.1, .int a.2.2]) (fun a => StOk a.2.1 a.1 ∧ 1 ≤ a.1.length ∧ (a.1.length : Int) ≤ a.2.2) (fun a r => r = .bool true)
theorem isTyT_n {ns : List Nat} : isTy "tuple" (nD ns) = true := rfl
theorem isTyT_s {ns : List (List Nat)} : isTy "tuple" (sD ns) = true := rfl
theorem isTyT_q {m : M} : isTy "tuple" (qD m) = true := rfl
theorem ok_are_steps (D : DdG K mg base T "are_steps" s_are_steps) (t : Bt K mg) (h_is_number : Ok P w K mg base 1 "is_number" ["value", "low", "high"] (sp_is_number ⟨K, T⟩)) : Ok P w K mg base 3 "are_steps" ["value", "letters", "most"] (sp_are_steps ⟨K, T⟩) := by
  refine ok_mkG D sc_are_steps rfl (fun _ => rfl) bd_are_steps fun c Pt f A outer s H E TB hPt hr => ⟨_, (pss_cons (ps_if (PW.pt (pw_or (pt_not (pt_val (pe_callB (cIsi (K := K) rfl) (by rfl) t.isinstance (by decide +kernel) (pa_cons (pv 0) (pa_cons (pe_bltn (v := .ty "tuple") (by rfl) t.tuple (by decide +kernel) rfl) pa_nil))))) (pw_or1 (pt_not (pt_chain op_le op_le pe_int (pe_callB (cLen (K := K) rfl) (by rfl) t.len (by decide +kernel) (pa_cons (pv 0) pa_nil)) (pv 2)))))) (pss_one (ps_ret pe_bl)) pss_nil)
    (pss_cons (ps_for PassesOwn.never rfl (piT (K := K) rfl (pv 0)) (pg_name (i := 3) sc_are_steps.nd rfl (by first | exact Or.inl rfl | exact Or.inr rfl)) (pss_cons (ps_if (PW.pt (pw_or (pt_not (pt_val (pe_callB (cIsi (K := K) rfl) (by rfl) t.isinstance (by decide +kernel) (pa_cons (pv 3) (pa_cons (pe_bltn (v := .ty "tuple") (by rfl) t.tuple (by decide +kernel) rfl) pa_nil))))) (pw_or1 (pt_cmpR (oNe (K := K) rfl (u64 hr)) (pe_callB (cLen (K := K) rfl) (by rfl) t.len (by decide +kernel) (pa_cons (pv 3) pa_nil)) (pv 1) (by first | rfl | exact nomark _))))) (pss_one (ps_ret pe_bl)) pss_nil)
    (pss_one (ps_if (pt_not (pt_val (pe_all1 (own := [("after", 4)]) (k := 1) hr rfl (by rfl) t.all (by decide +kernel) TB rfl sc_are_steps.nd (blkOk_by (by rfl)) (by decide +kernel) rfl (by rfl) (piT (K := K) rfl (pv 3)) (fun _ _ ce _ hce hgl => (by cases ce; cases hce; exact pg_name (i := 4) sc_are_steps.nd rfl (by first | exact Or.inl rfl | exact Or.inr rfl))) (fun _ _ ce _ hce hr1 => (by cases ce; cases hce; exact (pe_callO h_is_number (hr1.mono (by decide)) rfl (pa_cons (pv 4) (pa_cons pe_int (pa_cons (pe_op op_sub (pe_callB (cLen (K := K) rfl) (by rfl) t.len (by decide +kernel) (pa_cons (pv 0) pa_nil)) pe_int) pa_nil)))))) (fun _ => rfl)))) (pss_one (ps_ret pe_bl)) pss_nil))))
    (pss_one (ps_ret pe_bl)))), fun a hp => ?_⟩
  obtain ⟨st, k, most⟩ := a
  obtain ⟨ok, h1, h2⟩ := hp
  have h1 : 1 ≤ st.length := h1
  have h2 : (st.length : Int) ≤ most := h2
  walk_at "go"
  refine ⟨rfl, exb ?_⟩
  rw [isTyT_s]
  refine iteF ?_
  walk_at "go"
  rw [decide_eq_true (by omega)]
  refine iteT ?_
  walk_at "go"
  rw [decide_eq_true h2]
  refine iteF ?_
  walk_at "go"
  refine ⟨fun i Γ => ∃ sl, Γ = [.d (sD st), .d (iD k), .d (.int most), sl, .un], ⟨_, rfl⟩, fun i x Γ hx hΓ => ?_, fun Γ hΓ => ?_⟩
  · obtain ⟨sl, rfl⟩ := hΓ
    obtain ⟨r, _, hm, rfl⟩ := mapS_get hx
    refine atg_name ?_
    walk_at "go"
    refine ⟨rfl, exb ?_⟩
    rw [isTyT_n]
    refine iteF ?_
    walk_at "go"
    rw [decide_eq_true (show r.length = k from ok.rl r hm)]
    refine iteF ?_
    walk_at "go"
    refine awp_all (List.mem_singleton.mpr rfl) hPt (awc_of ?_)
    walk_at "go"
    refine ⟨rfl, fun _ => true, fun n x hx => ?_, ?_⟩
    · obtain ⟨s, _, hs, rfl⟩ := mapN_get hx
      walk_at "go"
      refine ⟨(iD s, 0, (st.length : Int) - 1), rfl, rfl, fun y hy => ⟨rfl, ?_⟩⟩
      have hlt : s < st.length := ok.rs r hm s hs
      rw [show y = _ from hy]
      simp only [isNum]
      rw [decide_eq_true (by omega), decide_eq_true (by omega)]
      rfl
    · refine exb ?_
      have e : ((r.map iD).all fun _ => true) = true := List.all_eq_true.mpr fun _ _ => rfl
      rw [e]
      refine iteF ?_
      walk_at "go"
      exact ⟨_, rfl⟩
  · obtain ⟨sl, rfl⟩ := hΓ
    walk_at "go"
    rfl
theorem sc_need_question : FnScope ["value", "letters", "steps", "answers", "one"] ["value"] (defScope s_need_question) := ⟨rfl, rfl, rfl, by decide +kernel, rfl, by decide +kernel, by decide +kernel⟩
theorem bd_need_question : BindF "need_question" s_need_question ["value"] := fun _ _ _ _ _ _ us hl => match us, hl with | [_], _ => rfl
abbrev sp_need_question (W : Wd) : Sp := SpD W (fun m : M => [qD m]) (fun m => m.ok) (fun m r => r = .none)
theorem ok_need_question (D : DdG K mg base T "need_question" s_need_question) (t : Bt K mg) (h_is_number : Ok P w K mg base 1 "is_number" ["value", "low", "high"] (sp_is_number ⟨K, T⟩)) (h_are_steps : Ok P w K mg base 3 "are_steps" ["value", "letters", "most"] (sp_are_steps ⟨K, T⟩)) : Ok P w K mg base 4 "need_question" ["value"] (sp_need_question ⟨K, T⟩) := by
  obtain ⟨tcl, hcl⟩ := t.c_letters
  obtain ⟨tcs, hcs⟩ := t.c_states
  obtain ⟨tca, hca⟩ := t.c_answer
  refine ok_mkG D sc_need_question rfl (fun _ => rfl) bd_need_question fun c Pt f A outer s H E TB hPt hr => ⟨_, (pss_cons (ps_if (PW.pt (pw_or (pt_not (pt_val (pe_callB (cIsi (K := K) rfl) (by rfl) t.isinstance (by decide +kernel) (pa_cons (pv 0) (pa_cons (pe_bltn (v := .ty "tuple") (by rfl) t.tuple (by decide +kernel) rfl) pa_nil))))) (pw_or1 (pt_cmpR (oNe (K := K) rfl (u64 hr)) (pe_callB (cLen (K := K) rfl) (by rfl) t.len (by decide +kernel) (pa_cons (pv 0) pa_nil)) pe_int (by first | rfl | exact nomark _))))) pss_never pss_nil)
    (pss_cons (ps_asg (pv 0) (pgT (K := K) rfl rfl (pgs_cons (pg_name (i := 1) sc_need_question.nd rfl (by first | exact Or.inl rfl | exact Or.inr rfl)) (pgs_cons (pg_name (i := 2) sc_need_question.nd rfl (by first | exact Or.inl rfl | exact Or.inr rfl)) (pgs_cons (pg_name (i := 3) sc_need_question.nd rfl (by first | exact Or.inl rfl | exact Or.inr rfl)) pgs_nil)))))
    (pss_cons (ps_if (pt_not (pt_val (pe_callO h_is_number (hr.mono (by decide)) rfl (pa_cons (pv 1) (pa_cons pe_int (pa_cons (pe_glob (v := .int 3) rfl hcl ⟨_, rfl⟩) pa_nil)))))) pss_never pss_nil)
    (pss_cons (ps_if (pt_not (pt_val (pe_callO h_are_steps (hr.mono (by decide)) rfl (pa_cons (pv 2) (pa_cons (pv 1) (pa_cons (pe_glob (v := .int 40) rfl hcs ⟨_, rfl⟩) pa_nil)))))) pss_never pss_nil)
    (pss_cons (ps_if (PW.pt (pw_or (pt_not (pt_val (pe_callB (cIsi (K := K) rfl) (by rfl) t.isinstance (by decide +kernel) (pa_cons (pv 3) (pa_cons (pe_bltn (v := .ty "tuple") (by rfl) t.tuple (by decide +kernel) rfl) pa_nil))))) (pw_or1 (pt_cmpR (oNe (K := K) rfl (u64 hr)) (pe_callB (cLen (K := K) rfl) (by rfl) t.len (by decide +kernel) (pa_cons (pv 3) pa_nil)) (pe_callB (cLen (K := K) rfl) (by rfl) t.len (by decide +kernel) (pa_cons (pv 2) pa_nil)) (by first | rfl | exact nomark _))))) pss_never pss_nil)
    (pss_one (ps_if (pt_not (pt_val (pe_all1 (own := [("one", 4)]) (k := 2) hr rfl (by rfl) t.all (by decide +kernel) TB rfl sc_need_question.nd (blkOk_by (by rfl)) (by decide +kernel) rfl (by rfl) (piT (K := K) rfl (pv 3)) (fun _ _ ce _ hce hgl => (by cases ce; cases hce; exact pg_name (i := 4) sc_need_question.nd rfl (by first | exact Or.inl rfl | exact Or.inr rfl))) (fun _ _ ce _ hce hr1 => (by cases ce; cases hce; exact (pe_callO h_is_number (hr1.mono (by decide)) rfl (pa_cons (pv 4) (pa_cons pe_int (pa_cons (pe_glob (v := .int 3) rfl hca ⟨_, rfl⟩) pa_nil)))))) (fun _ => rfl)))) pss_never pss_nil))))))), fun a hp => ?_⟩
  have ok : a.ok := hp
  have h1 := ok.k1
  have h3 := ok.k3
  have n1 := ok.n1
  have n8 := ok.n8
  walk_at "go"
  refine ⟨rfl, exb ?_⟩
  rw [isTyT_q]
  refine iteF ?_
  walk_at "go"
  refine rdn_len (.inr (.inl rfl)) ?_
  walk_at "go"
  refine iteF ?_
  walk_at "go"
  refine ast_asg ?_
  walk_at "go"
  refine atg_tup rfl (atgs_cons (atg_name (atgs_cons (atg_name (atgs_cons (atg_name (atgs_nil ?_)))))))
  walk_at "go"
  refine ⟨(iD a.k, 1, 3), rfl, rfl, fun y hy => ?_⟩
  rw [show y = _ from hy]
  simp only [isNum]
  refine exb ?_
  rw [decide_eq_true (by omega), decide_eq_true (by omega)]
  refine iteF ?_
  walk_at "go"
  refine ⟨(a.st, a.k, 40), rfl, ⟨ok.stOk, n1, by show (a.st.length : Int) ≤ 40; omega⟩, fun y hy => ?_⟩
  rw [show y = _ from hy]
  refine exb (iteF ?_)
  walk_at "go"
  refine ⟨rfl, exb ?_⟩
  rw [isTyT_n]
  refine iteF ?_
  walk_at "go"
  rw [decide_eq_true ok.al]
  refine iteF ?_
  walk_at "go"
  refine awp_all (List.mem_singleton.mpr rfl) hPt (awc_of ?_)
  walk_at "go"
  refine ⟨rfl, fun _ => true, fun n x hx => ?_, ?_⟩
  · obtain ⟨s, _, hs, rfl⟩ := mapN_get hx
    walk_at "go"
    refine ⟨(iD s, 0, 3), rfl, rfl, fun y hy => ⟨rfl, ?_⟩⟩
    have := ok.a3 s hs
    rw [show y = _ from hy]
    simp only [isNum]
    rw [decide_eq_true (by omega), decide_eq_true (by omega)]
    rfl
  · refine exb ?_
    have e : ((a.an.map iD).all fun _ => true) = true := List.all_eq_true.mpr fun _ _ => rfl
    rw [e]
    refine iteF ?_
    walk_at "go"
    first | rfl | trivial
theorem sc_law_row : FnScope ["_law_question_here", "_law_letter", "_law_state"] ["_law_question_here", "_law_letter"] (defScope s_law_row) := ⟨rfl, rfl, rfl, by decide +kernel, rfl, by decide +kernel, by decide +kernel⟩
theorem bd_law_row : BindF "_law_row" s_law_row ["_law_question_here", "_law_letter"] := fun _ _ _ _ _ _ us hl => match us, hl with | [_, _], _ => rfl
abbrev sp_law_row (W : Wd) : Sp := SpD W (fun a : M × Nat => [qD a.1, iD a.2]) (fun a => StOk a.1.k a.1.st ∧ a.1.st.length ≤ 1000 ∧ a.2 < a.1.k) (fun a r => r = lD (colL a.1.st a.2))
theorem ok_law_row (D : Dd K mg "_law_row" s_law_row) (t : Bt K mg) : Ok P w K mg base 1 "_law_row" ["_law_question_here", "_law_letter"] (sp_law_row ⟨K, T⟩) := by
  refine ok_mk D sc_law_row rfl (fun _ => rfl) bd_law_row fun f cdv A outer s H E hr => ⟨_, (pss_one (ps_ret (pe_lc (own := [("_law_state", 2)]) (g := gName 2) rfl sc_law_row.nd (piT (K := K) rfl (pe_ix (ixT (K := K) rfl) (pv 0) pe_int (fun _ _ => rfl))) (blkOk_by (by rfl)) (fun _ _ _ _ _ => pg_name (i := 2) sc_law_row.nd rfl (by first | exact Or.inl rfl | exact Or.inr rfl)) (fun _ _ _ _ _ => pts_nil) (fun _ _ _ _ _ => (pe_ix (ixT (K := K) rfl) (pv 2) (pv 1) (fun _ _ => rfl)))))), fun a hp => ?_⟩
  obtain ⟨m, l⟩ := a
  obtain ⟨ok, hn, hl⟩ := hp
  have hl : l < m.k := hl
  have hn : m.st.length ≤ 1000 := hn
  walk_at "go"
  refine awp_lcF (List.mem_singleton.mpr rfl) (awc_of ?_)
  walk_at "go"
  refine ⟨by rw [List.length_map]; omega, rfl, fun x => match x with | .tuple r => r.getD l .none | _ => .none, fun j x hx => ?_, ?_⟩
  · obtain ⟨r, _, hm, rfl⟩ := mapS_get hx
    walk_at "go"
    have hnr : l < r.length := by rw [ok.rl r hm]; exact hl
    refine rd_nD hnr ⟨rfl, ?_⟩
    show iD (r.getD l 0) = (r.map iD).getD l .none
    rw [List.getD_eq_getElem?_getD, List.getD_eq_getElem?_getD, List.getElem?_map]
    rw [List.getElem?_eq_getElem hnr]
    try rfl
  · show _ = lD (colL m.st l)
    unfold lD colL
    rw [List.map_map, List.map_map]
    congr 1
    refine List.map_congr_left fun r hm => ?_
    show (r.map iD).getD l .none = iD (r.getD l 0)
    have hnr : l < r.length := by rw [ok.rl r hm]; exact hl
    rw [List.getD_eq_getElem?_getD, List.getD_eq_getElem?_getD, List.getElem?_map]
    rw [List.getElem?_eq_getElem hnr]
    try rfl
theorem sc_law_led : FnScope ["_law_question_here", "_law_state", "_law_text_here", "_law_letter"] ["_law_question_here", "_law_state", "_law_text_here"] (defScope s_law_led) := ⟨rfl, rfl, rfl, by decide +kernel, rfl, by decide +kernel, by decide +kernel⟩
theorem bd_law_led : BindF "_law_led" s_law_led ["_law_question_here", "_law_state", "_law_text_here"] := fun _ _ _ _ _ _ us hl => match us, hl with | [_, _, _], _ => rfl
abbrev sp_law_led (W : Wd) : Sp := SpD W (fun a : M × Nat × List Nat => [qD a.1, iD a.2.1, nD a.2.2]) (fun a => StOk a.1.k a.1.st ∧ a.2.1 < a.1.st.length ∧ ∀ l ∈ a.2.2, l < a.1.k) (fun a r => r = iD (run a.1.st a.2.1 a.2.2))
theorem ok_law_led (D : Dd K mg "_law_led" s_law_led) (t : Bt K mg) : Ok P w K mg base 1 "_law_led" ["_law_question_here", "_law_state", "_law_text_here"] (sp_law_led ⟨K, T⟩) := by
  refine ok_mk D sc_law_led rfl (fun _ => rfl) bd_law_led fun f cdv A outer s H E hr => ⟨_, (pss_cons (ps_for PassesOwn.never rfl (piT (K := K) rfl (pv 2)) (pg_name (i := 3) sc_law_led.nd rfl (by first | exact Or.inl rfl | exact Or.inr rfl)) (pss_one (ps_asg (pe_ix (ixT (K := K) rfl) (pe_ix (ixT (K := K) rfl) (pe_ix (ixT (K := K) rfl) (pv 0) pe_int (fun _ _ => rfl)) (pv 1) (fun _ _ => rfl)) (pv 3) (fun _ _ => rfl)) (pg_name (i := 1) sc_law_led.nd rfl (by first | exact Or.inl rfl | exact Or.inr rfl)))))
    (pss_one (ps_ret (pv 1)))), fun a hp => ?_⟩
  obtain ⟨m, s, tx⟩ := a
  obtain ⟨ok, hs, ht⟩ := hp
  walk_at "go"
  refine ⟨fun i Γ => ∃ sl, Γ = [.d (qD m), .d (iD (run m.st s (tx.take i))), .d (nD tx), sl], ⟨_, rfl⟩, fun i x Γ hx hΓ => ?_, fun Γ hΓ => ?_⟩
  · obtain ⟨sl, rfl⟩ := hΓ
    obtain ⟨l, hi, hlm, rfl⟩ := mapN_get hx
    have hlt : run m.st s (tx.take i) < m.st.length := ok.runLt _ hs fun l hl => ht l (List.mem_of_mem_take hl)
    refine atg_name ?_
    refine ast_set ?_
    walk_at "go"
    refine rd_sD hlt ?_
    walk_at "go"
    refine rd_nD (by rw [ok.row hlt]; exact ht l hlm) ?_
    have e : run m.st s (tx.take (i + 1)) = stp m.st (run m.st s (tx.take i)) l := by
      rw [List.take_succ, hi, run_app]; rfl
    exact ⟨.d (iD l), by rw [e]; rfl⟩
  · obtain ⟨sl, rfl⟩ := hΓ
    rw [List.length_map, List.take_length]
    walk_at "go"
    rfl
end
end TW
end

section
set_option Elab.async false
set_option linter.all false
set_option maxRecDepth 100000
set_option maxHeartbeats 4000000
namespace TW
open PySem PySem.Spec PyProof.Rows L2
local macro_rules | `(tactic| walk_at "aw") => `(tactic| first
  | with_reducible refine ast_seq ?_
  | with_reducible refine ast_ret ?_
  | with_reducible refine ast_if ?_
  | with_reducible refine ast_next ?_
  | with_reducible refine awt_t ?_
  | with_reducible refine awt_b ?_
  | with_reducible refine awt_and ?_
  | with_reducible refine awt_or ?_
  | with_reducible refine awt_not ?_
  | with_reducible refine awt_yes ?_
  | ((with_reducible apply awp_row0); exact rfl)
  | ((with_reducible apply awp_row1); exact rfl)
  | ((with_reducible apply awp_row2); exact rfl)
  | ((with_reducible apply awp_row3); exact rfl)
  | with_reducible refine awp_op ?_
  | with_reducible refine awp_and ?_
  | with_reducible refine awp_or ?_
  | with_reducible refine awp_not ?_
  | with_reducible refine awp_chain ?_
  | with_reducible refine awp_if ?_
  | with_reducible refine awp_isN ?_
  | with_reducible refine awp_notN ?_
  | with_reducible refine awp_int ?_
  | with_reducible refine awp_bl ?_
  | with_reducible refine awp_str ?_
  | with_reducible refine awp_non ?_
  | with_reducible refine awp_isiT ?_
  | with_reducible refine awp_isiI ?_
  | with_reducible refine awp_isiB ?_
  | with_reducible refine awp_isiS ?_
  | with_reducible refine awp_isiL ?_
  | with_reducible refine awp_isiTL ?_
  | with_reducible refine awp_cb ?_
  | with_reducible refine awp_call ?_
  | with_reducible refine aas_nil ?_
  | with_reducible refine aas_cons ?_
  | with_reducible refine rd_lt ?_
  | with_reducible refine rd_le ?_
  | with_reducible refine rd_gt ?_
  | with_reducible refine rd_ge ?_
  | with_reducible refine rd_add ?_
  | with_reducible refine rd_sub ?_
  | with_reducible refine rd_notB ?_
  | with_reducible refine rd_q0 ?_
  | with_reducible refine rd_q1 ?_
  | with_reducible refine rd_q2 ?_
  | with_reducible refine rd_eqN ?_
  | with_reducible refine rd_neN ?_
  | with_reducible refine rd_eqT ?_
  | with_reducible refine rd_neT ?_
  | with_reducible refine rd_eqL ?_
  | with_reducible refine rd_neL ?_
  | with_reducible refine rd_eqI ?_
  | with_reducible refine rd_neI ?_
  | with_reducible refine rdn_int ?_
  | with_reducible refine rdn_min ?_
  | with_reducible refine awp_rg ?_
  | with_reducible refine awi_rng ?_
  | with_reducible refine awi_list ?_
  | with_reducible refine awi_tup ?_
  | with_reducible refine awi_enumL ?_
  | with_reducible refine awi_enumT ?_
  | with_reducible refine awp_sl ?_
  | with_reducible refine awo_no ?_
  | with_reducible refine awo_some ?_
  | with_reducible refine ast_while ?_
  | with_reducible refine ast_for ?_
  | with_reducible refine exb ?_
  | with_reducible refine exn ?_
  | with_reducible refine exi ?_
  | with_reducible refine exl ?_
  | with_reducible refine ext ?_
  | with_reducible refine exlD ?_
  | with_reducible refine exnD ?_
  | with_reducible refine exsD ?_
  | with_reducible refine rdn_lenN ?_
  | with_reducible refine rdn_lenS ?_
  | with_reducible refine rdn_lenL ?_
  | with_reducible refine rdn_lenl ?_
  | ((with_reducible apply awp_v); exact rfl))
local macro_rules | `(tactic| walk_at "go") => `(tactic| (repeat (first
  | with_reducible refine ast_seq ?_
  | with_reducible refine ast_ret ?_
  | with_reducible refine ast_if ?_
  | with_reducible refine ast_next ?_
  | with_reducible refine awt_t ?_
  | with_reducible refine awt_b ?_
  | with_reducible refine awt_and ?_
  | with_reducible refine awt_or ?_
  | with_reducible refine awt_not ?_
  | with_reducible refine awt_yes ?_
  | ((with_reducible apply awp_row0); exact rfl)
  | ((with_reducible apply awp_row1); exact rfl)
  | ((with_reducible apply awp_row2); exact rfl)
  | ((with_reducible apply awp_row3); exact rfl)
  | with_reducible refine awp_op ?_
  | with_reducible refine awp_and ?_
  | with_reducible refine awp_or ?_
  | with_reducible refine awp_not ?_
  | with_reducible refine awp_chain ?_
  | with_reducible refine awp_if ?_
  | with_reducible refine awp_isN ?_
  | with_reducible refine awp_notN ?_
  | with_reducible refine awp_int ?_
  | with_reducible refine awp_bl ?_
  | with_reducible refine awp_str ?_
  | with_reducible refine awp_non ?_
  | with_reducible refine awp_isiT ?_
  | with_reducible refine awp_isiI ?_
  | with_reducible refine awp_isiB ?_
  | with_reducible refine awp_isiS ?_
  | with_reducible refine awp_isiL ?_
  | with_reducible refine awp_isiTL ?_
  | with_reducible refine awp_cb ?_
  | with_reducible refine awp_call ?_
  | with_reducible refine aas_nil ?_
  | with_reducible refine aas_cons ?_
  | with_reducible refine rd_lt ?_
  | with_reducible refine rd_le ?_
  | with_reducible refine rd_gt ?_
  | with_reducible refine rd_ge ?_
  | with_reducible refine rd_add ?_
  | with_reducible refine rd_sub ?_
  | with_reducible refine rd_notB ?_
  | with_reducible refine rd_q0 ?_
  | with_reducible refine rd_q1 ?_
  | with_reducible refine rd_q2 ?_
  | with_reducible refine rd_eqN ?_
  | with_reducible refine rd_neN ?_
  | with_reducible refine rd_eqT ?_
  | with_reducible refine rd_neT ?_
  | with_reducible refine rd_eqL ?_
  | with_reducible refine rd_neL ?_
  | with_reducible refine rd_eqI ?_
  | with_reducible refine rd_neI ?_
  | with_reducible refine rdn_int ?_
  | with_reducible refine rdn_min ?_
  | with_reducible refine awp_rg ?_
  | with_reducible refine awi_rng ?_
  | with_reducible refine awi_list ?_
  | with_reducible refine awi_tup ?_
  | with_reducible refine awi_enumL ?_
  | with_reducible refine awi_enumT ?_
  | with_reducible refine awp_sl ?_
  | with_reducible refine awo_no ?_
  | with_reducible refine awo_some ?_
  | with_reducible refine ast_while ?_
  | with_reducible refine ast_for ?_
  | with_reducible refine exb ?_
  | with_reducible refine exn ?_
  | with_reducible refine exi ?_
  | with_reducible refine exl ?_
  | with_reducible refine ext ?_
  | with_reducible refine exlD ?_
  | with_reducible refine exnD ?_
  | with_reducible refine exsD ?_
  | with_reducible refine rdn_lenN ?_
  | with_reducible refine rdn_lenS ?_
  | with_reducible refine rdn_lenL ?_
  | with_reducible refine rdn_lenl ?_
  | ((with_reducible apply awp_v); exact rfl))))

section
variable {P : Program} {w : World} {K : PySem.W.Frag} {mg : Str → Option Value} {base : Heap} {T : List Addr}
theorem fmodN (x : Int) {m : Nat} (h : 1 ≤ m) : ∃ k : Nat, PyData.int (x.fmod (m : Int)) = iD k ∧ k < m := by
  have h1 : (0 : Int) < (m : Int) := by omega
  have h2 : 0 ≤ x.fmod m := Int.fmod_nonneg_of_pos x h1
  have h3 : x.fmod m < m := Int.fmod_lt_of_pos x h1
  refine ⟨(x.fmod m).toNat, ?_, by omega⟩
  have e : ((x.fmod m).toNat : Int) = x.fmod m := by omega
  show PyData.int _ = PyData.int _
  rw [e]
theorem sc_law_taken : FnScope ["_law_row_here", "_law_many", "_law_found", "_law_cell"] ["_law_row_here", "_law_many"] (defScope s_law_taken) := ⟨rfl, rfl, rfl, by decide +kernel, rfl, by decide +kernel, by decide +kernel⟩
theorem bd_law_taken : BindF "_law_taken" s_law_taken ["_law_row_here", "_law_many"] := fun _ _ _ _ _ _ us hl => match us, hl with | [_, _], _ => rfl
abbrev sp_law_taken (W : Wd) : Sp := SpR W (fun m : Nat => [iD m]) (fun m => 1 ≤ m ∧ m ≤ 1000) (fun m r => ∃ k : Nat, r = iD k ∧ k < m)
theorem ok_law_taken (D : Dd K mg "_law_taken" s_law_taken) (t : Bt K mg) : Ok P w K mg base 1 "_law_taken" ["_law_row_here", "_law_many"] (sp_law_taken ⟨K, T⟩) := by
  refine ok_mkR D sc_law_taken rfl (fun _ => rfl) bd_law_taken fun f cdv A outer s H E hr => ⟨_, (pss_cons (ps_if (pt_cmpR op_gt (pe_ix (ixL (K := K) rfl) (pv 0) pe_int (fun _ _ => rfl)) pe_int (by first | rfl | exact nomark _)) (pss_cons (ps_asg (pe_op op_modN (pe_callTy call_int1 (by rfl) t.int (by decide +kernel) (pa_cons (pe_ix (ixL (K := K) rfl) (pv 0) pe_int (fun _ _ => rfl)) pa_nil)) (pv 1)) (pg_name (i := 2) sc_law_taken.nd rfl (by first | exact Or.inl rfl | exact Or.inr rfl)))
    (pss_cons (ps_asg (pe_op op_fdivN (pe_ix (ixL (K := K) rfl) (pv 0) pe_int (fun _ _ => rfl)) (pv 1)) (pg_sub (pv 0) pe_int set_list))
    (pss_one (ps_ret (pv 2))))) pss_nil)
    (pss_cons (ps_asg (pe_op op_add (pe_ix (ixL (K := K) rfl) (pv 0) pe_int (fun _ _ => rfl)) pe_int) (pg_sub (pv 0) pe_int set_list))
    (pss_cons (ps_if (pt_cmpR op_gt (pe_ix (ixL (K := K) rfl) (pv 0) pe_int (fun _ _ => rfl)) (pe_callB (cLen (K := K) rfl) (by rfl) t.len (by decide +kernel) (pa_cons (pe_ix (ixL (K := K) rfl) (pv 0) pe_int (fun _ _ => rfl)) pa_nil)) (by first | rfl | exact nomark _)) (pss_cons (ps_asg (pe_op op_modN (pe_callTy call_int1 (by rfl) t.int (by decide +kernel) (pa_cons (pe_op op_add (pe_op op_mul (pe_ix (ixL (K := K) rfl) (pv 0) pe_int (fun _ _ => rfl)) pe_int) pe_int) pa_nil)) pe_int) (pg_sub (pv 0) pe_int set_list))
    (pss_one (ps_ret (pe_op op_modN (pe_callTy call_int1 (by rfl) t.int (by decide +kernel) (pa_cons (pe_op op_fdivN (pe_ix (ixL (K := K) rfl) (pv 0) pe_int (fun _ _ => rfl)) pe_int) pa_nil)) (pv 1))))) pss_nil)
    (pss_cons (ps_asg (pe_ix (ixL (K := K) rfl) (pe_ix (ixL (K := K) rfl) (pv 0) pe_int (fun _ _ => rfl)) (pe_op op_sub (pe_ix (ixL (K := K) rfl) (pv 0) pe_int (fun _ _ => rfl)) pe_int) (fun _ _ => rfl)) (pg_name (i := 3) sc_law_taken.nd rfl (by first | exact Or.inl rfl | exact Or.inr rfl)))
    (pss_cons (ps_asg (pe_op op_modN (pe_callTy call_int1 (by rfl) t.int (by decide +kernel) (pa_cons (pe_op op_add (pe_op op_add (pe_op op_mul (pe_ix (ixL (K := K) rfl) (pv 0) pe_int (fun _ _ => rfl)) pe_int) (pv 3)) pe_int) pa_nil)) pe_int) (pg_sub (pv 0) pe_int set_list))
    (pss_cons (ps_if (pt_cmpR op_ge (pv 3) (pe_op op_pow pe_int pe_int) (by first | rfl | exact nomark _)) (pss_one (ps_asg (pe_op op_fdivN (pv 3) (pv 1)) (pg_sub (pv 0) pe_int set_list))) pss_nil)
    (pss_one (ps_ret (pe_op op_modN (pe_callTy call_int1 (by rfl) t.int (by decide +kernel) (pa_cons (pv 3) pa_nil)) (pv 1)))))))))), fun r a hp => ?_⟩
  obtain ⟨m1, m2⟩ := hp
  have hm0 : (a : Int) ≠ 0 := by omega
  have hdv : CDivN 0 (a : Int) := ⟨hm0, by omega⟩
  refine ast_unrow 0 rfl fun ns i sd z b1 b2 b3 => ?_
  have md : ∀ x : Int, 0 ≤ x.fmod 2147483647 ∧ x.fmod 2147483647 < 2147483647 := fun x => ⟨Int.fmod_nonneg_of_pos x (by decide), Int.fmod_lt_of_pos x (by decide)⟩
  have hmul : CMul sd 48271 := .inr ⟨by decide, by decide⟩
  walk_at "go"
  refine ite2 (fun hz => ?_) fun hz => ?_
  · walk_at "go"
    refine ast_set ?_
    walk_at "go"
    refine rd_modN hm0 ?_
    refine ast_seq ?_
    refine ast_row 3 rfl ⟨rfl, by simp⟩ ?_
    walk_at "go"
    refine rd_fdivN ⟨hm0, hdv.2⟩ ⟨_, rfl, rfl, ?_⟩
    walk_at "go"
    exact ⟨.inr ⟨ns, i, sd, _, rfl, b1, b2, b3⟩, fmodN _ m1⟩
  · walk_at "go"
    refine ast_row 1 rfl ⟨rfl, by simp⟩ ?_
    walk_at "go"
    refine ⟨rfl, ?_⟩
    walk_at "go"
    refine rdn_len (.inr (.inr rfl)) ?_
    walk_at "go"
    rw [List.length_map]
    refine ite2 (fun hl => ?_) fun hl => ?_
    · refine ast_seq (ast_row 2 rfl ⟨rfl, by simp⟩ ?_)
      walk_at "go"
      refine rd_mul hmul ?_
      walk_at "go"
      refine rd_modN (by decide) ⟨_, rfl, rfl, ?_⟩
      walk_at "go"
      refine rd_fdivN ⟨by decide, by decide⟩ ?_
      walk_at "go"
      refine rd_modN hm0 ⟨.inr ⟨ns, _, _, z, rfl, by show 0 ≤ i + 1; omega, (md _).1, (md _).2⟩, fmodN _ m1⟩
    · have hl' : i + 1 ≤ (ns.length : Int) := by simpa using hl
      have hn : i.toNat < ns.length := by omega
      walk_at "go"
      refine ast_set ?_
      walk_at "go"
      refine rd_ixS (x := .int ns[i.toNat]) (by show 0 ≤ i + 1 - 1; omega) (by
        show (ns.map PyData.int)[(i + 1 - 1).toNat]? = _
        have e : (i + 1 - 1).toNat = i.toNat := by omega
        rw [e, List.getElem?_map, List.getElem?_eq_getElem hn]; rfl) ?_
      refine ast_seq (ast_row 2 rfl ⟨rfl, by simp⟩ ?_)
      walk_at "go"
      refine rd_mul hmul ?_
      walk_at "go"
      refine rd_modN (by decide) ⟨_, rfl, rfl, ?_⟩
      walk_at "go"
      refine rd_pow ⟨by decide, by decide, by decide⟩ ?_
      walk_at "go"
      refine ite2 (fun hc => ?_) fun hc => ?_
      · refine ast_row 3 rfl ⟨rfl, by simp⟩ ?_
        walk_at "go"
        refine rd_fdivN ⟨hm0, hdv.2⟩ ⟨_, rfl, rfl, ?_⟩
        walk_at "go"
        refine rd_modN hm0 ⟨.inr ⟨ns, _, _, _, rfl, by show 0 ≤ i + 1; omega, (md _).1, (md _).2⟩, fmodN _ m1⟩
      · walk_at "go"
        refine rd_modN hm0 ⟨.inr ⟨ns, _, _, _, rfl, by show 0 ≤ i + 1; omega, (md _).1, (md _).2⟩, fmodN _ m1⟩
theorem sc_law_pick : FnScope ["_law_row_here", "_law_things"] ["_law_row_here", "_law_things"] (defScope s_law_pick) := ⟨rfl, rfl, rfl, by decide +kernel, rfl, by decide +kernel, by decide +kernel⟩
theorem bd_law_pick : BindF "_law_pick" s_law_pick ["_law_row_here", "_law_things"] := fun _ _ _ _ _ _ us hl => match us, hl with | [_, _], _ => rfl
abbrev sp_law_pick (W : Wd) : Sp := SpR W (fun xs : List PyData => [.list xs]) (fun xs => 1 ≤ xs.length ∧ xs.length ≤ 1000) (fun xs r => ∃ k : Nat, xs[k]? = some r)
theorem ok_law_pick (D : Dd K mg "_law_pick" s_law_pick) (t : Bt K mg) (h_law_taken : Ok P w K mg base 1 "_law_taken" ["_law_row_here", "_law_many"] (sp_law_taken ⟨K, T⟩)) : Ok P w K mg base 2 "_law_pick" ["_law_row_here", "_law_things"] (sp_law_pick ⟨K, T⟩) := by
  refine ok_mkR D sc_law_pick rfl (fun _ => rfl) bd_law_pick fun f cdv A outer s H E hr => ⟨_, (pss_one (ps_ret (pe_ix (ixL (K := K) rfl) (pv 1) (pe_callO h_law_taken (hr.mono (by decide)) rfl (pa_cons (pv 0) (pa_cons (pe_callB (cLen (K := K) rfl) (by rfl) t.len (by decide +kernel) (pa_cons (pv 1) pa_nil)) pa_nil))) (fun _ _ => rfl)))), fun r a hp => ?_⟩
  obtain ⟨m1, m2⟩ := hp
  walk_at "go"
  refine awp_callR rfl ?_
  walk_at "go"
  refine ⟨rfl, a.length, rfl, ⟨m1, m2⟩, fun x hx => ?_⟩
  obtain ⟨k, rfl, hk⟩ := hx
  have e : a[k]? = some a[k] := List.getElem?_eq_getElem hk
  exact rd_ixL (by omega) (by simpa using e) ⟨.inl rfl, k, e⟩
theorem sc_law_world : FnScope ["_law_row_here", "_law_some"] ["_law_row_here"] (defScope s_law_world) := ⟨rfl, rfl, rfl, by decide +kernel, rfl, by decide +kernel, by decide +kernel⟩
theorem bd_law_world : BindF "_law_world" s_law_world ["_law_row_here"] := fun _ _ _ _ _ _ us hl => match us, hl with | [_], _ => rfl
abbrev sp_law_world (W : Wd) : Sp := SpR W (fun _ : Unit => []) (fun _ => True) (fun _ r => ∃ s ∈ wsL, r = .str s)
theorem ok_law_world (D : Dd K mg "_law_world" s_law_world) (t : Bt K mg) (h_law_pick : Ok P w K mg base 2 "_law_pick" ["_law_row_here", "_law_things"] (sp_law_pick ⟨K, T⟩)) : Ok P w K mg base 3 "_law_world" ["_law_row_here"] (sp_law_world ⟨K, T⟩) := by
  refine ok_mkR D sc_law_world rfl (fun _ => rfl) bd_law_world fun f cdv A outer s H E hr => ⟨_, (pss_cons (ps_asg (pe_lst (pa_cons pe_str (pa_cons pe_str (pa_cons pe_str (pa_cons pe_str (pa_cons pe_str (pa_cons pe_str (pa_cons pe_str (pa_cons pe_str pa_nil))))))))) (pg_name (i := 1) sc_law_world.nd rfl (by first | exact Or.inl rfl | exact Or.inr rfl)))
    (pss_one (ps_ret (pe_callO h_law_pick (hr.mono (by decide)) rfl (pa_cons (pv 0) (pa_cons (pe_op op_cat (pv 1) (pe_lst (pa_cons pe_str (pa_cons pe_str (pa_cons pe_str pa_nil))))) pa_nil)))))), fun r a hp => ?_⟩
  walk_at "go"
  refine ast_set ?_
  refine awp_lst ?_
  walk_at "go"
  refine ⟨by decide, ?_⟩
  walk_at "go"
  refine awp_callR rfl ?_
  walk_at "go"
  refine awp_lst ?_
  walk_at "go"
  refine ⟨by decide, ?_⟩
  refine rd_cat (by decide) ?_
  walk_at "go"
  refine ⟨rfl, _, rfl, ⟨by decide, by decide⟩, fun x hx => ⟨.inl rfl, ?_⟩⟩
  obtain ⟨k, hk⟩ := hx
  have hm := List.mem_of_getElem? hk
  have key : ∀ y ∈ (wsL ++ (["inout", "in", "stack"] : List Str)).map PyData.str, ∃ s ∈ wsL, y = .str s := by
    intro y hy
    obtain ⟨s, hs, rfl⟩ := List.mem_map.mp hy
    have : ∀ s ∈ wsL ++ (["inout", "in", "stack"] : List Str), s ∈ wsL := by decide +kernel
    exact ⟨s, this s hs, rfl⟩
  exact key x hm
end
end TW
end

section
set_option Elab.async false
set_option linter.all false
set_option maxRecDepth 100000
set_option maxHeartbeats 4000000
namespace TW
open PySem PySem.Spec PyProof.Rows L2
local macro_rules | `(tactic| walk_at "aw") => `(tactic| first
  | with_reducible refine ast_seq ?_
  | with_reducible refine ast_ret ?_
  | with_reducible refine ast_if ?_
  | with_reducible refine ast_next ?_
  | with_reducible refine awt_t ?_
  | with_reducible refine awt_b ?_
  | with_reducible refine awt_and ?_
  | with_reducible refine awt_or ?_
  | with_reducible refine awt_not ?_
  | with_reducible refine awt_yes ?_
  | ((with_reducible apply awp_row0); exact rfl)
  | ((with_reducible apply awp_row1); exact rfl)
  | ((with_reducible apply awp_row2); exact rfl)
  | ((with_reducible apply awp_row3); exact rfl)
  | with_reducible refine awp_op ?_
  | with_reducible refine awp_and ?_
  | with_reducible refine awp_or ?_
  | with_reducible refine awp_not ?_
  | with_reducible refine awp_chain ?_
  | with_reducible refine awp_if ?_
  | with_reducible refine awp_isN ?_
  | with_reducible refine awp_notN ?_
  | with_reducible refine awp_int ?_
  | with_reducible refine awp_bl ?_
  | with_reducible refine awp_str ?_
  | with_reducible refine awp_non ?_
  | with_reducible refine awp_isiT ?_
  | with_reducible refine awp_isiI ?_
  | with_reducible refine awp_isiB ?_
  | with_reducible refine awp_isiS ?_
  | with_reducible refine awp_isiL ?_
  | with_reducible refine awp_isiTL ?_
  | with_reducible refine awp_cb ?_
  | with_reducible refine awp_call ?_
  | with_reducible refine aas_nil ?_
  | with_reducible refine aas_cons ?_
  | with_reducible refine rd_lt ?_
  | with_reducible refine rd_le ?_
  | with_reducible refine rd_gt ?_
  | with_reducible refine rd_ge ?_
  | with_reducible refine rd_add ?_
  | with_reducible refine rd_sub ?_
  | with_reducible refine rd_notB ?_
  | with_reducible refine rd_q0 ?_
  | with_reducible refine rd_q1 ?_
  | with_reducible refine rd_q2 ?_
  | with_reducible refine rd_eqN ?_
  | with_reducible refine rd_neN ?_
  | with_reducible refine rd_eqT ?_
  | with_reducible refine rd_neT ?_
  | with_reducible refine rd_eqL ?_
  | with_reducible refine rd_neL ?_
  | with_reducible refine rd_eqI ?_
  | with_reducible refine rd_neI ?_
  | with_reducible refine rdn_int ?_
  | with_reducible refine rdn_min ?_
  | with_reducible refine awp_rg ?_
  | with_reducible refine awi_rng ?_
  | with_reducible refine awi_list ?_
  | with_reducible refine awi_tup ?_
  | with_reducible refine awi_enumL ?_
  | with_reducible refine awi_enumT ?_
  | with_reducible refine awp_sl ?_
  | with_reducible refine awo_no ?_
  | with_reducible refine awo_some ?_
  | with_reducible refine ast_while ?_
  | with_reducible refine ast_for ?_
  | with_reducible refine exb ?_
  | with_reducible refine exn ?_
  | with_reducible refine exi ?_
  | with_reducible refine exl ?_
  | with_reducible refine ext ?_
  | with_reducible refine exlD ?_
  | with_reducible refine exnD ?_
  | with_reducible refine exsD ?_
  | with_reducible refine rdn_lenN ?_
  | with_reducible refine rdn_lenS ?_
  | with_reducible refine rdn_lenL ?_
  | with_reducible refine rdn_lenl ?_
  | ((with_reducible apply awp_v); exact rfl))
local macro_rules | `(tactic| walk_at "go") => `(tactic| (repeat (first
  | with_reducible refine ast_seq ?_
  | with_reducible refine ast_ret ?_
  | with_reducible refine ast_if ?_
  | with_reducible refine ast_next ?_
  | with_reducible refine awt_t ?_
  | with_reducible refine awt_b ?_
  | with_reducible refine awt_and ?_
  | with_reducible refine awt_or ?_
  | with_reducible refine awt_not ?_
  | with_reducible refine awt_yes ?_
  | ((with_reducible apply awp_row0); exact rfl)
  | ((with_reducible apply awp_row1); exact rfl)
  | ((with_reducible apply awp_row2); exact rfl)
  | ((with_reducible apply awp_row3); exact rfl)
  | with_reducible refine awp_op ?_
  | with_reducible refine awp_and ?_
  | with_reducible refine awp_or ?_
  | with_reducible refine awp_not ?_
  | with_reducible refine awp_chain ?_
  | with_reducible refine awp_if ?_
  | with_reducible refine awp_isN ?_
  | with_reducible refine awp_notN ?_
  | with_reducible refine awp_int ?_
  | with_reducible refine awp_bl ?_
  | with_reducible refine awp_str ?_
  | with_reducible refine awp_non ?_
  | with_reducible refine awp_isiT ?_
  | with_reducible refine awp_isiI ?_
  | with_reducible refine awp_isiB ?_
  | with_reducible refine awp_isiS ?_
  | with_reducible refine awp_isiL ?_
  | with_reducible refine awp_isiTL ?_
  | with_reducible refine awp_cb ?_
  | with_reducible refine awp_call ?_
  | with_reducible refine aas_nil ?_
  | with_reducible refine aas_cons ?_
  | with_reducible refine rd_lt ?_
  | with_reducible refine rd_le ?_
  | with_reducible refine rd_gt ?_
  | with_reducible refine rd_ge ?_
  | with_reducible refine rd_add ?_
  | with_reducible refine rd_sub ?_
  | with_reducible refine rd_notB ?_
  | with_reducible refine rd_q0 ?_
  | with_reducible refine rd_q1 ?_
  | with_reducible refine rd_q2 ?_
  | with_reducible refine rd_eqN ?_
  | with_reducible refine rd_neN ?_
  | with_reducible refine rd_eqT ?_
  | with_reducible refine rd_neT ?_
  | with_reducible refine rd_eqL ?_
  | with_reducible refine rd_neL ?_
  | with_reducible refine rd_eqI ?_
  | with_reducible refine rd_neI ?_
  | with_reducible refine rdn_int ?_
  | with_reducible refine rdn_min ?_
  | with_reducible refine awp_rg ?_
  | with_reducible refine awi_rng ?_
  | with_reducible refine awi_list ?_
  | with_reducible refine awi_tup ?_
  | with_reducible refine awi_enumL ?_
  | with_reducible refine awi_enumT ?_
  | with_reducible refine awp_sl ?_
  | with_reducible refine awo_no ?_
  | with_reducible refine awo_some ?_
  | with_reducible refine ast_while ?_
  | with_reducible refine ast_for ?_
  | with_reducible refine exb ?_
  | with_reducible refine exn ?_
  | with_reducible refine exi ?_
  | with_reducible refine exl ?_
  | with_reducible refine ext ?_
  | with_reducible refine exlD ?_
  | with_reducible refine exnD ?_
  | with_reducible refine exsD ?_
  | with_reducible refine rdn_lenN ?_
  | with_reducible refine rdn_lenS ?_
  | with_reducible refine rdn_lenL ?_
  | with_reducible refine rdn_lenl ?_
  | ((with_reducible apply awp_v); exact rfl))))

section
variable {P : Program} {w : World} {K : PySem.W.Frag} {mg : Str → Option Value} {base : Heap} {T : List Addr}
theorem int1 (n : Nat) : PyData.int (1 + (n : Int)) = iD (n + 1) := by
  show PyData.int _ = PyData.int _
  congr 1; omega
theorem int2 (n : Nat) : PyData.int (2 + (n : Int)) = iD (n + 2) := by
  show PyData.int _ = PyData.int _
  congr 1; omega
theorem map_erase {f : Nat → PyData} : ∀ (ls : List Nat) (k : Nat), (ls.map f).eraseIdx k = (ls.eraseIdx k).map f
  | [], _ => rfl
  | _ :: _, 0 => rfl
  | a :: ls, k + 1 => by rw [List.map_cons, List.eraseIdx_cons_succ, List.eraseIdx_cons_succ, List.map_cons, map_erase ls k]
theorem listN {p : Nat → Prop} : ∀ {ys : List PyData}, (∀ y ∈ ys, ∃ u : Nat, y = iD u ∧ p u) → ∃ q : List Nat, ys = q.map iD ∧ ∀ u ∈ q, p u
  | [], _ => ⟨[], rfl, fun u hu => by simp at hu⟩
  | y :: ys, h => by
    obtain ⟨u, rfl, hu⟩ := h y (List.mem_cons_self ..)
    obtain ⟨q, rfl, hq⟩ := listN fun z hz => h z (List.mem_cons_of_mem _ hz)
    exact ⟨u :: q, rfl, fun v hv => by
      rcases List.mem_cons.mp hv with rfl | hv
      · exact hu
      · exact hq v hv⟩
theorem listS {p : List Nat → Prop} : ∀ {ys : List PyData}, (∀ y ∈ ys, ∃ u : List Nat, y = nD u ∧ p u) → ∃ q : List (List Nat), ys = q.map nD ∧ ∀ u ∈ q, p u
  | [], _ => ⟨[], rfl, fun u hu => by simp at hu⟩
  | y :: ys, h => by
    obtain ⟨u, rfl, hu⟩ := h y (List.mem_cons_self ..)
    obtain ⟨q, rfl, hq⟩ := listS fun z hz => h z (List.mem_cons_of_mem _ hz)
    exact ⟨u :: q, rfl, fun v hv => by
      rcases List.mem_cons.mp hv with rfl | hv
      · exact hu
      · exact hq v hv⟩
theorem mem_rel {Pr : PyData → PyData → Prop} {p : PyData → Prop} {xs ys : List PyData} (hl : ys.length = xs.length) (h : ∀ (n : Nat) (x y : PyData), xs[n]? = some x → ys[n]? = some y → Pr x y) (hp : ∀ x y, Pr x y → p y) : ∀ y ∈ ys, p y := fun y hy => by
  obtain ⟨n, hn, rfl⟩ := List.mem_iff_getElem.mp hy
  exact hp _ _ (h n _ _ (List.getElem?_eq_getElem (by omega)) (List.getElem?_eq_getElem hn))
/-- what the if leaves -/
def QJ (r : Addr) (L : Nat) (Γ : List SV) : Prop := Γ.length = 19 ∧ Γ[0]? = some (.o (.row r)) ∧ Γ[1]? = some (.d (iD L)) ∧ (∃ s, Γ[10]? = some s ∧ s.no = true) ∧
  ∃ ss : List (List Nat), Γ[7]? = some (.d (.list (ss.map nD))) ∧ 1 ≤ ss.length ∧ ss.length ≤ 8 ∧ StOk L ss
theorem sc_law_question : FnScope ["_law_row_here", "_law_letters", "_law_way", "_law_moduli", "_law_weights", "_law_letter", "_law_top", "_law_steps", "_law_one", "_law_two", "_law_state", "_law_add", "_law_more", "_law_total", "_law_many", "_law_rows", "_law_left", "_law_order", "_law_most"] ["_law_row_here"] (defScope s_law_question) := ⟨rfl, rfl, rfl, by decide +kernel, rfl, by decide +kernel, by decide +kernel⟩
theorem bd_law_question : BindF "_law_question" s_law_question ["_law_row_here"] := fun _ _ _ _ _ _ us hl => match us, hl with | [_], _ => rfl
abbrev sp_law_question (W : Wd) : Sp := SpR W (fun _ : Unit => []) (fun _ => True) (fun _ r => ∃ m : M, m.ok ∧ r = qD m)
theorem ok_law_question (D : Dd K mg "_law_question" s_law_question) (t : Bt K mg) (h_law_pick : Ok P w K mg base 2 "_law_pick" ["_law_row_here", "_law_things"] (sp_law_pick ⟨K, T⟩)) (h_law_taken : Ok P w K mg base 1 "_law_taken" ["_law_row_here", "_law_many"] (sp_law_taken ⟨K, T⟩)) : Ok P w K mg base 3 "_law_question" ["_law_row_here"] (sp_law_question ⟨K, T⟩) := by
  refine ok_mkR D sc_law_question rfl (fun _ => rfl) bd_law_question fun f cdv A outer s H E hr => ⟨_, (pss_cons (ps_asg (pe_tup (pa_cons (pe_op op_add pe_int (pe_callO h_law_taken (hr.mono (by decide)) rfl (pa_cons (pv 0) (pa_cons pe_int pa_nil)))) (pa_cons (pe_callO h_law_taken (hr.mono (by decide)) rfl (pa_cons (pv 0) (pa_cons pe_int pa_nil))) pa_nil))) (pgT (K := K) rfl rfl (pgs_cons (pg_name (i := 1) sc_law_question.nd rfl (by first | exact Or.inl rfl | exact Or.inr rfl)) (pgs_cons (pg_name (i := 2) sc_law_question.nd rfl (by first | exact Or.inl rfl | exact Or.inr rfl)) pgs_nil))))
    (pss_cons (ps_if (pt_cmpR op_lt (pv 2) pe_int (by first | rfl | exact nomark _)) (pss_cons (ps_asg (pe_tup (pa_cons (pe_op op_add pe_int (pe_callO h_law_taken (hr.mono (by decide)) rfl (pa_cons (pv 0) (pa_cons pe_int pa_nil)))) (pa_cons (pe_op op_add pe_int (pe_callO h_law_taken (hr.mono (by decide)) rfl (pa_cons (pv 0) (pa_cons pe_int pa_nil)))) pa_nil))) (pg_name (i := 3) sc_law_question.nd rfl (by first | exact Or.inl rfl | exact Or.inr rfl)))
    (pss_cons (ps_setLc (i := 4) (own := [("_law_letter", 5)]) (g := gName 5) rfl sc_law_question.nd rfl rfl (sw_true rfl rfl rfl (by decide +kernel)) (pi_range1 (by rfl) t.range (pa_cons (pv 1) pa_nil)) (blkOk_by (by rfl)) (fun _ _ _ _ _ => pg_name (i := 5) sc_law_question.nd rfl (by first | exact Or.inl rfl | exact Or.inr rfl)) (fun _ _ _ _ _ => pts_nil) (fun _ _ _ _ _ => (pe_tup (pa_cons (pe_callO h_law_taken (hr.mono (by decide)) rfl (pa_cons (pv 0) (pa_cons (pe_ix (ixT (K := K) rfl) (pv 3) pe_int (fun _ _ => rfl)) pa_nil))) (pa_cons (pe_callO h_law_taken (hr.mono (by decide)) rfl (pa_cons (pv 0) (pa_cons (pe_ix (ixT (K := K) rfl) (pv 3) pe_int (fun _ _ => rfl)) pa_nil))) pa_nil)))))
    (pss_cons (ps_asg (pe_ifExp (pt_cmpR (oEq (K := K) rfl (u64 hr)) (pv 2) pe_int (by first | rfl | exact nomark _)) (pe_ix (ixT (K := K) rfl) (pv 3) pe_int (fun _ _ => rfl)) (pe_op op_sub (pe_ix (ixT (K := K) rfl) (pv 3) pe_int (fun _ _ => rfl)) pe_int)) (pg_name (i := 6) sc_law_question.nd rfl (by first | exact Or.inl rfl | exact Or.inr rfl)))
    (pss_cons (ps_asg (pe_lst pa_nil) (pg_name (i := 7) sc_law_question.nd rfl (by first | exact Or.inl rfl | exact Or.inr rfl)))
    (pss_one (ps_for PassesOwn.never rfl (pi_range1 (by rfl) t.range (pa_cons (pe_ix (ixT (K := K) rfl) (pv 3) pe_int (fun _ _ => rfl)) pa_nil)) (pg_name (i := 8) sc_law_question.nd rfl (by first | exact Or.inl rfl | exact Or.inr rfl)) (pss_one (ps_for PassesOwn.never rfl (pi_range1 (by rfl) t.range (pa_cons (pe_ix (ixT (K := K) rfl) (pv 3) pe_int (fun _ _ => rfl)) pa_nil)) (pg_name (i := 9) sc_law_question.nd rfl (by first | exact Or.inl rfl | exact Or.inr rfl)) (pss_cons (ps_asg (pe_lst pa_nil) (pg_name (i := 10) sc_law_question.nd rfl (by first | exact Or.inl rfl | exact Or.inr rfl)))
    (pss_cons (ps_for PassesOwn.never rfl (piL (K := K) rfl (pv 4)) (pgT (K := K) rfl rfl (pgs_cons (pg_name (i := 11) sc_law_question.nd rfl (by first | exact Or.inl rfl | exact Or.inr rfl)) (pgs_cons (pg_name (i := 12) sc_law_question.nd rfl (by first | exact Or.inl rfl | exact Or.inr rfl)) pgs_nil))) (pss_cons (ps_asg (pe_ifExp (pt_cmpR (oEq (K := K) rfl (u64 hr)) (pv 2) pe_int (by first | rfl | exact nomark _)) (pe_op op_modN (pe_callTy call_int1 (by rfl) t.int (by decide +kernel) (pa_cons (pe_op op_add (pv 8) (pv 11)) pa_nil)) (pe_ix (ixT (K := K) rfl) (pv 3) pe_int (fun _ _ => rfl))) (pe_callB (call_min2 rfl) (by rfl) t.min (by decide +kernel) (pa_cons (pv 6) (pa_cons (pe_op op_add (pv 8) (pv 11)) pa_nil)))) (pg_name (i := 13) sc_law_question.nd rfl (by first | exact Or.inl rfl | exact Or.inr rfl)))
    (pss_one (ps_expr (pBm (K := K) rfl PySem.F.plainAttrs_list PySem.F.slot_list_append PySem.F.type_list_append mt_append (pv 10) (pa_cons (pe_op op_add (pe_op op_mul (pv 13) (pe_ix (ixT (K := K) rfl) (pv 3) pe_int (fun _ _ => rfl))) (pe_op op_modN (pe_callTy call_int1 (by rfl) t.int (by decide +kernel) (pa_cons (pe_op op_add (pv 9) (pv 12)) pa_nil)) (pe_ix (ixT (K := K) rfl) (pv 3) pe_int (fun _ _ => rfl)))) pa_nil))))))
    (pss_one (ps_expr (pBm (K := K) rfl PySem.F.plainAttrs_list PySem.F.slot_list_append PySem.F.type_list_append mt_append (pv 7) (pa_cons (pe_callTy (cTup (K := K) rfl) (by rfl) t.tuple (by decide +kernel) (pa_cons (pv 10) pa_nil)) pa_nil)))))))))))))) (pss_cons (ps_asg (pe_op op_add pe_int (pe_callO h_law_taken (hr.mono (by decide)) rfl (pa_cons (pv 0) (pa_cons pe_int pa_nil)))) (pg_name (i := 14) sc_law_question.nd rfl (by first | exact Or.inl rfl | exact Or.inr rfl)))
    (pss_cons (ps_asg (pe_lst pa_nil) (pg_name (i := 15) sc_law_question.nd rfl (by first | exact Or.inl rfl | exact Or.inr rfl)))
    (pss_cons (ps_for PassesOwn.never rfl (pi_range1 (by rfl) t.range (pa_cons (pv 1) pa_nil)) (pg_name (i := 5) sc_law_question.nd rfl (by first | exact Or.inl rfl | exact Or.inr rfl)) (pss_cons (ps_par (i := 16) (j := 17) (by rfl) sc_law_question.nd rfl rfl (by decide) rfl rfl (pa_cons (pe_listRg rfl (by rfl) t.list (prg_1 (by rfl) t.range (pv 14))) (pa_cons (pe_lst pa_nil) pa_nil)) (by rfl))
    (pss_cons (ps_while PassesOwn.never (pt_cmpR (oNe (K := K) rfl (u64 hr)) (pv 16) (pe_lst pa_nil) (by first | rfl | exact nomark _)) (pss_one (ps_expr (pBm (K := K) rfl PySem.F.plainAttrs_list PySem.F.slot_list_append PySem.F.type_list_append mt_append (pv 17) (pa_cons (pBm (K := K) rfl PySem.F.plainAttrs_list PySem.F.slot_list_pop PySem.F.type_list_pop mt_popAt (pv 16) (pa_cons (pe_callO h_law_taken (hr.mono (by decide)) rfl (pa_cons (pv 0) (pa_cons (pe_callB (cLen (K := K) rfl) (by rfl) t.len (by decide +kernel) (pa_cons (pv 16) pa_nil)) pa_nil))) pa_nil)) pa_nil)))))
    (pss_one (ps_expr (pBm (K := K) rfl PySem.F.plainAttrs_list PySem.F.slot_list_append PySem.F.type_list_append mt_append (pv 15) (pa_cons (pe_ifExp (pt_cmpR (oEq (K := K) rfl (u64 hr)) (pv 2) pe_int (by first | rfl | exact nomark _)) (pv 17) (pe_lc (own := [("_law_state", 10)]) (g := gName 10) rfl sc_law_question.nd (pi_range1 (by rfl) t.range (pa_cons (pv 14) pa_nil)) (blkOk_by (by rfl)) (fun _ _ _ _ _ => pg_name (i := 10) sc_law_question.nd rfl (by first | exact Or.inl rfl | exact Or.inr rfl)) (fun _ _ _ _ _ => pts_nil) (fun _ _ _ _ _ => (pe_callO h_law_taken (hr.mono (by decide)) rfl (pa_cons (pv 0) (pa_cons (pv 14) pa_nil)))))) pa_nil)))))))
    (pss_one (ps_setLc (i := 7) (own := [("_law_state", 10)]) (g := gName 10) rfl sc_law_question.nd rfl rfl (sw_true rfl rfl rfl (by decide +kernel)) (pi_range1 (by rfl) t.range (pa_cons (pv 14) pa_nil)) (blkOk_by (by rfl)) (fun _ _ _ _ _ => pg_name (i := 10) sc_law_question.nd rfl (by first | exact Or.inl rfl | exact Or.inr rfl)) (fun _ _ _ _ _ => pts_nil) (fun _ _ _ _ _ => (pe_callTy (cTup (K := K) rfl) (by rfl) t.tuple (by decide +kernel) (pa_cons (pe_lc (own := [("_law_letter", 5)]) (g := gName 5) rfl sc_law_question.nd (pi_range1 (by rfl) t.range (pa_cons (pv 1) pa_nil)) (blkOk_by (by rfl)) (fun _ _ _ _ _ => pg_name (i := 5) sc_law_question.nd rfl (by first | exact Or.inl rfl | exact Or.inr rfl)) (fun _ _ _ _ _ => pts_nil) (fun _ _ _ _ _ => (pe_ix (ixL (K := K) rfl) (pe_ix (ixL (K := K) rfl) (pv 15) (pv 5) (fun _ _ => rfl)) (pv 10) (fun _ _ => rfl)))) pa_nil)))))))))
    (pss_cons (ps_asg (pe_callO h_law_pick (hr.mono (by decide)) rfl (pa_cons (pv 0) (pa_cons (pe_lst (pa_cons pe_int (pa_cons pe_int (pa_cons pe_int pa_nil)))) pa_nil))) (pg_name (i := 18) sc_law_question.nd rfl (by first | exact Or.inl rfl | exact Or.inr rfl)))
    (pss_one (ps_ret (pe_tup (pa_cons (pv 1) (pa_cons (pe_callTy (cTup (K := K) rfl) (by rfl) t.tuple (by decide +kernel) (pa_cons (pv 7) pa_nil)) (pa_cons (pe_callTy (cTup (K := K) rfl) (by rfl) t.tuple (by decide +kernel) (pa_cons (pe_lc (own := [("_law_state", 10)]) (g := gName 10) rfl sc_law_question.nd (piL (K := K) rfl (pv 7)) (blkOk_by (by rfl)) (fun _ _ _ _ _ => pg_name (i := 10) sc_law_question.nd rfl (by first | exact Or.inl rfl | exact Or.inr rfl)) (fun _ _ _ _ _ => pts_nil) (fun _ _ _ _ _ => (pe_callO h_law_taken (hr.mono (by decide)) rfl (pa_cons (pv 0) (pa_cons (pv 18) pa_nil))))) pa_nil)) pa_nil))))))))), fun r a hp => ?_⟩
  refine ast_seq (ast_asg (awp_tup ?_))
  walk_at "go"
  refine awp_callR rfl ?_
  walk_at "go"
  refine ⟨rfl, 3, rfl, ⟨by decide, by decide⟩, fun x hx => ?_⟩
  obtain ⟨k1, rfl, hk1⟩ := hx
  walk_at "go"
  rw [int1]
  refine awp_callR rfl ?_
  walk_at "go"
  refine ⟨rfl, 5, rfl, ⟨by decide, by decide⟩, fun x hx => ?_⟩
  obtain ⟨wy, rfl, hwy⟩ := hx
  walk_at "go"
  refine ⟨by simp, atg_tup rfl (atgs_cons (atg_name (atgs_cons (atg_name (atgs_nil ?_)))))⟩
  generalize hL : k1 + 1 = L
  have L1 : 1 ≤ L := by omega
  have L3 : L ≤ 3 := by omega
  refine ast_seq (ast_ifJ (QJ r L) ?_ fun Γ hJ => ?_)
  · walk_at "go"
    refine ite2 (fun hw => ?_) fun hw => ?_
    · refine ast_ghost ?_
      refine ast_seq (ast_set (awp_tup ?_))
      walk_at "go"
      refine awp_callR rfl ?_
      walk_at "go"
      refine ⟨rfl, 3, rfl, ⟨by decide, by decide⟩, fun x hx => ?_⟩
      obtain ⟨k2, rfl, hk2⟩ := hx
      walk_at "go"
      rw [int2]
      refine awp_callR rfl ?_
      walk_at "go"
      refine ⟨rfl, 2, rfl, ⟨by decide, by decide⟩, fun x hx => ?_⟩
      obtain ⟨k3, rfl, hk3⟩ := hx
      walk_at "go"
      rw [int1]
      walk_at "go"
      refine ⟨by simp, ?_⟩
      generalize hm0 : k2 + 2 = m0
      generalize hm1 : k3 + 1 = m1
      have em : PyData.tuple [iD m0, iD m1] = nD [m0, m1] := rfl
      rw [em]
      have im0 : ∀ {Kp : PyData → Prop}, Kp (iD m0) → RD ⟨K, T⟩ (rIxT K) (nD [m0, m1]) (.int 0) Kp := fun k => rd_nD (i := 0) (by simp) k
      have im1 : ∀ {Kp : PyData → Prop}, Kp (iD m1) → RD ⟨K, T⟩ (rIxT K) (nD [m0, m1]) (.int 1) Kp := fun k => rd_nD (i := 1) (by simp) k
      refine ast_seq (ast_set ?_)
      refine awp_lcR (List.mem_singleton.mpr rfl) (awc_of ?_)
      walk_at "go"
      refine ⟨by omega, by rw [rangeD_len]; omega, rfl, fun _ y => ∃ a b, y = nD [a, b] ∧ a < m0 ∧ b < m1, fun n x hx => ?_, fun ys hys hp => ?_⟩
      · refine awp_tup ?_
        walk_at "go"
        refine awp_callR rfl ?_
        walk_at "go"
        refine im0 ?_
        walk_at "go"
        refine ⟨rfl, m0, rfl, ⟨by omega, by omega⟩, fun x hx => ?_⟩
        obtain ⟨a, rfl, ha⟩ := hx
        walk_at "go"
        refine awp_callR rfl ?_
        walk_at "go"
        refine im1 ?_
        walk_at "go"
        refine ⟨rfl, m1, rfl, ⟨by omega, by omega⟩, fun x hx => ?_⟩
        obtain ⟨b, rfl, hb⟩ := hx
        walk_at "go"
        exact ⟨by simp, rfl, a, b, rfl, ha, hb⟩
      · rw [rangeD_len] at hys
        have hpw : ∀ (n : Nat) (y : PyData), ys[n]? = some y → ∃ a b, y = nD [a, b] ∧ a < m0 ∧ b < m1 := fun n y hy => by
          have hn : n < ys.length := (List.getElem?_eq_some_iff.mp hy).1
          exact hp n _ y (List.getElem?_eq_getElem (by rw [rangeD_len]; omega)) hy
        have em0 : (m0 : Int) - 1 = ((m0 - 1 : Nat) : Int) := by omega
        refine ast_seq (ast_set (awp_cut (fun x => ∃ n : Nat, x = iD n ∧ (wy = 0 ∨ n < m0)) ?_ fun x hx => ?_))
        · walk_at "go"
          refine ite2 (fun hz => ?_) fun hz => ?_
          · walk_at "go"
            refine im0 ⟨rfl, m0, rfl, .inl ?_⟩
            have := of_decide_eq_true hz
            omega
          · walk_at "go"
            refine im0 ?_
            walk_at "go"
            refine ⟨rfl, m0 - 1, ?_, .inr (by omega)⟩
            rw [em0]
        obtain ⟨tp, rfl, htp⟩ := hx
        refine ast_seq (ast_setX (awx_lst (aas_nil ⟨by decide, ?_⟩)))
        walk_at "go"
        refine im0 ?_
        walk_at "go"
        refine ⟨by omega, fun i Γ => ∃ (ss : List (List Nat)) (s5 s8 s9 s10 s11 s12 s13 : SV), Γ = [.o (.row r), .d (iD L), .d (iD wy), .d (nD [m0, m1]), .d (.list ys), s5, .d (iD tp), .o (.lst (ss.map nD)), s8, s9, s10, s11, s12, s13, .un, .un, .un, .un, .un] ∧
          ss.length = i * m1 ∧ ∀ q ∈ ss, q.length = L ∧ ∀ u ∈ q, u < m0 * m1, ⟨[], _, _, _, _, _, _, _, rfl, by simp, fun q hq => by simp at hq⟩, fun i x Γ hx hΓ => ?_, fun Γ hΓ => ?_⟩
        · obtain ⟨ss, s5, s8, s9, s10, s11, s12, s13, rfl, hss, hq⟩ := hΓ
          obtain ⟨hi, rfl⟩ := rangeD_get hx
          refine atg_name ?_
          walk_at "go"
          refine im1 ?_
          walk_at "go"
          refine ⟨by omega, fun j Γ => ∃ (ss : List (List Nat)) (s9 s10 s11 s12 s13 : SV), Γ = [.o (.row r), .d (iD L), .d (iD wy), .d (nD [m0, m1]), .d (.list ys), s5, .d (iD tp), .o (.lst (ss.map nD)), .d (iD i), s9, s10, s11, s12, s13, .un, .un, .un, .un, .un] ∧
            ss.length = i * m1 + j ∧ ∀ q ∈ ss, q.length = L ∧ ∀ u ∈ q, u < m0 * m1, ⟨ss, _, _, _, _, _, rfl, by omega, hq⟩, fun j x Γ hx hΓ => ?_, fun Γ hΓ => ?_⟩
          · obtain ⟨ss, s9, s10, s11, s12, s13, rfl, hss, hq⟩ := hΓ
            obtain ⟨hj, rfl⟩ := rangeD_get hx
            refine atg_name ?_
            refine ast_seq (ast_setX (awx_lst (aas_nil ⟨by decide, ?_⟩)))
            walk_at "go"
            refine ⟨fun n Γ => ∃ (q : List Nat) (s11 s12 s13 : SV), Γ = [.o (.row r), .d (iD L), .d (iD wy), .d (nD [m0, m1]), .d (.list ys), s5, .d (iD tp), .o (.lst (ss.map nD)), .d (iD i), .d (iD j), .o (.lst (q.map iD)), s11, s12, s13, .un, .un, .un, .un, .un] ∧
              q.length = n ∧ ∀ u ∈ q, u < m0 * m1, ⟨[], _, _, _, rfl, rfl, fun u hu => by simp at hu⟩, fun n x Γ hx hΓ => ?_, fun Γ hΓ => ?_⟩
            · obtain ⟨q, s11, s12, s13, rfl, hqn, hqu⟩ := hΓ
              obtain ⟨a, b, rfl, ha, hb⟩ := hpw n x hx
              refine atg_tup rfl (atgs_cons (atg_name (atgs_cons (atg_name (atgs_nil ?_)))))
              refine ast_seq (ast_set (awp_cut (fun x => ∃ n : Nat, x = iD n ∧ n < m0) ?_ fun x hx => ?_))
              · walk_at "go"
                refine ite2 (fun hz => ?_) fun hz => ?_
                · walk_at "go"
                  refine im0 ?_
                  exact rd_modN (by omega) ⟨rfl, fmodN _ (by omega)⟩
                · walk_at "go"
                  have hz' : ¬ wy = 0 := fun e => hz (decide_eq_true (by omega))
                  refine ⟨rfl, (if ((i : Int) + (a : Int)) < tp then i + a else tp), ?_, ?_⟩
                  · show PyData.int _ = PyData.int _
                    congr 1
                    by_cases h : ((i : Int) + (a : Int)) < tp
                    · rw [if_pos h, if_pos h] <;> omega
                    · rw [if_neg h, if_neg h] <;> omega
                  · by_cases h : ((i : Int) + (a : Int)) < tp
                    · rw [if_pos h]; omega
                    · rw [if_neg h]; omega
              obtain ⟨tt, rfl, htt⟩ := hx
              refine ast_append rfl ?_
              walk_at "go"
              refine im1 ?_
              refine rd_mul (.inr ⟨by omega, by omega⟩) ?_
              walk_at "go"
              refine im1 ?_
              refine rd_modN (by omega) ?_
              obtain ⟨k, ek, hk⟩ := fmodN ((j : Int) + (b : Int)) (m := m1) (by omega)
              injection ek with ek
              rw [ek]
              walk_at "go"
              have e2 : PyData.int ((tt : Int) * (m1 : Int) + (k : Int)) = iD (tt * m1 + k) := by
                show PyData.int _ = PyData.int _
                exact congrArg PyData.int (by rw [Int.natCast_add, Int.natCast_mul])
              have hlt : tt * m1 + k < m0 * m1 := by
                have h1 : tt * m1 + m1 ≤ m0 * m1 := by rw [← Nat.succ_mul]; exact Nat.mul_le_mul_right _ htt
                omega
              have hql : q.length < ys.length := by rw [hqn]; exact (List.getElem?_eq_some_iff.mp hx).1
              refine ⟨_, rfl, by rw [List.length_map]; omega, q ++ [tt * m1 + k], .d (iD a), .d (iD b), .d (iD tt), ?_, by simp [hqn], ?_⟩
              · rw [e2, List.map_append]; rfl
              · intro u hu
                rcases List.mem_append.mp hu with hu | hu
                · exact hqu u hu
                · rw [List.mem_singleton.mp hu]; exact hlt
            · obtain ⟨q, s11, s12, s13, rfl, hqn, hqu⟩ := hΓ
              refine ast_freeze 10 rfl (by rw [List.length_map]; omega) ?_
              refine ast_append rfl ?_
              walk_at "go"
              refine rdn_tup ?_
              have hssl : ss.length ≤ 8 := by
                have h1 : i * m1 + m1 ≤ m0 * m1 := by rw [← Nat.succ_mul]; exact Nat.mul_le_mul_right _ hi
                have h2 : m0 * m1 ≤ 4 * 2 := Nat.mul_le_mul (by omega) (by omega)
                omega
              refine ⟨_, rfl, by rw [List.length_map]; omega, ss ++ [q], .d (iD j), .d (.list (q.map iD)), s11, s12, s13, ?_, by simp [hss]; omega, ?_⟩
              · rw [List.map_append]; rfl
              · intro u hu
                rcases List.mem_append.mp hu with hu | hu
                · exact hq u hu
                · rw [List.mem_singleton.mp hu]; exact ⟨by omega, hqu⟩
          · obtain ⟨ss, s9, s10, s11, s12, s13, rfl, hss, hq⟩ := hΓ
            rw [rangeD_len] at hss
            exact ⟨ss, _, _, _, _, _, _, _, rfl, by rw [hss, Nat.succ_mul], hq⟩
        · obtain ⟨ss, s5, s8, s9, s10, s11, s12, s13, rfl, hss, hq⟩ := hΓ
          rw [rangeD_len] at hss
          have h2 : m0 * m1 ≤ 4 * 2 := Nat.mul_le_mul (by omega) (by omega)
          have h1 : 1 * 1 ≤ m0 * m1 := Nat.mul_le_mul (by omega) (by omega)
          refine ast_freeze 7 rfl (by rw [List.length_map]; omega) (ast_any 10 (ast_next ?_))
          exact ⟨rfl, rfl, rfl, ⟨_, rfl, rfl⟩, ss, rfl, by omega, by omega, fun q hm => (hq q hm).1, fun q hm u hu => by rw [hss]; exact (hq q hm).2 u hu⟩
    · refine ast_seq (ast_set ?_)
      walk_at "go"
      refine awp_callR rfl ?_
      walk_at "go"
      refine ⟨rfl, 5, rfl, ⟨by decide, by decide⟩, fun x hx => ?_⟩
      obtain ⟨k2, rfl, hk2⟩ := hx
      walk_at "go"
      rw [int1]
      generalize hn0 : k2 + 1 = n0
      refine ast_setX (awx_lst (aas_nil ⟨by decide, ?_⟩))
      walk_at "go"
      refine ⟨by omega, fun i Γ => ∃ (rs : List (List Nat)) (s5 s16 s17 : SV), Γ = [.o (.row r), .d (iD L), .d (iD wy), .un, .un, s5, .un, .un, .un, .un, .un, .un, .un, .un, .d (iD n0), .o (.lst (rs.map lD)), s16, s17, .un] ∧
        (rs.length = i ∧ ∀ q ∈ rs, q.length = n0 ∧ ∀ u ∈ q, u < n0) ∧ s5.no = true, ⟨[], _, _, _, rfl, ⟨rfl, fun q hq => by simp at hq⟩, rfl⟩, fun i x Γ hx hΓ => ?_, fun Γ hΓ => ?_⟩
      · obtain ⟨rs, s5, s16, s17, rfl, ⟨hrs, hq⟩, _⟩ := hΓ
        obtain ⟨hi, rfl⟩ := rangeD_get hx
        refine atg_name ?_
        refine ast_seq (ast_par (aax_cons (awx_rg ?_)))
        walk_at "go"
        refine ⟨by omega, aax_cons (awx_lst (aas_nil ⟨by decide, aax_nil ⟨_, _, rfl, ?_⟩⟩))⟩
        walk_at "go"
        refine ⟨fun m Γ => ∃ ls os : List Nat, Γ = [.o (.row r), .d (iD L), .d (iD wy), .un, .un, .d (iD i), .un, .un, .un, .un, .un, .un, .un, .un, .d (iD n0), .o (.lst (rs.map lD)), .o (.lst (ls.map iD)), .o (.lst (os.map iD)), .un] ∧
          ls.length = m ∧ os.length + ls.length = n0 ∧ (∀ u ∈ ls, u < n0) ∧ ∀ u ∈ os, u < n0, ⟨n0, List.range n0, [], rfl, by simp, by simp, fun u hu => List.mem_range.mp hu, fun u hu => by simp at hu⟩, fun m Γ hΓ => ?_⟩
        obtain ⟨ls, os, rfl, hm, hlo, hls, hos⟩ := hΓ
        walk_at "aw"
        refine awp_view (i := 16) rfl (by rw [List.length_map]; omega) ?_
        walk_at "go"
        refine awp_lst (aas_nil ⟨by decide, ?_⟩)
        refine rd_neL (i := ls) (j := []) ⟨rfl, exb ?_⟩
        by_cases hl0 : ls = []
        · rw [decide_eq_true hl0]
          refine iteF ?_
          subst hl0
          refine ast_freeze 17 rfl (by rw [List.length_map]; simp at hlo; omega) ?_
          refine ast_append rfl (awp_cut (fun x => ∃ q : List Nat, x = lD q ∧ q.length = n0 ∧ ∀ u ∈ q, u < n0) ?_ fun x hx => ?_)
          · walk_at "go"
            refine ite2 (fun hz => ?_) fun hz => ?_
            · walk_at "go"
              exact ⟨rfl, os, rfl, by simpa using hlo, hos⟩
            · refine awp_lcR (List.mem_singleton.mpr rfl) (awc_of ?_)
              walk_at "go"
              refine ⟨by omega, by rw [rangeD_len]; omega, rfl, fun _ y => ∃ u : Nat, y = iD u ∧ u < n0, fun n x hx => ?_, fun ys hys hp => ?_⟩
              · refine awp_callR rfl ?_
                walk_at "go"
                refine ⟨rfl, n0, rfl, ⟨by omega, by omega⟩, fun x hx => ⟨rfl, hx⟩⟩
              · obtain ⟨q, rfl, hq2⟩ := listN (mem_rel hys hp fun _ _ h => h)
                rw [rangeD_len, List.length_map] at hys
                exact ⟨rfl, q, rfl, hys, hq2⟩
          · obtain ⟨q, rfl, hqn, hqu⟩ := hx
            refine ⟨_, rfl, by rw [List.length_map]; omega, rs ++ [q], .d (iD i), .o (.lst []), .d (.list (os.map iD)), ?_, ⟨by simp [hrs], ?_⟩, rfl⟩
            · rw [List.map_append]; rfl
            · intro u hu
              rcases List.mem_append.mp hu with hu | hu
              · exact hq u hu
              · rw [List.mem_singleton.mp hu]; exact ⟨hqn, hqu⟩
        · rw [decide_eq_false hl0]
          refine iteT ?_
          have hpos : 1 ≤ ls.length := by
            cases ls with
            | nil => exact absurd rfl hl0
            | cons a l => simp
          refine ast_append rfl (awp_pop rfl ?_)
          refine awp_callR rfl ?_
          refine aas_cons (awp_view (i := 16) rfl (by rw [List.length_map]; omega) ?_)
          walk_at "go"
          refine ⟨rfl, ?_⟩
          walk_at "go"
          refine ⟨rfl, ls.length, by rw [List.length_map], ⟨hpos, by omega⟩, fun x hx => ?_⟩
          obtain ⟨k, rfl, hk⟩ := hx
          refine ⟨k, _, iD ls[k], rfl, by omega, rfl, by rw [List.getElem?_map, List.getElem?_eq_getElem hk]; rfl, _, rfl, by rw [List.length_map]; omega, m - 1, by omega, ls.eraseIdx k, os ++ [ls[k]], ?_, by rw [List.length_eraseIdx_of_lt hk]; omega, ?_, ?_, ?_⟩
          · rw [List.map_append, ← map_erase]; rfl
          · rw [List.length_eraseIdx_of_lt hk]; simp; omega
          · exact fun u hu => hls u (List.mem_of_mem_eraseIdx hu)
          · intro u hu
            rcases List.mem_append.mp hu with hu | hu
            · exact hos u hu
            · rw [List.mem_singleton.mp hu]; exact hls _ (List.getElem_mem hk)
      · obtain ⟨rs, s5, s16, s17, rfl, ⟨hrs, hq⟩, h5⟩ := hΓ
        rw [rangeD_len] at hrs
        refine ast_freeze 15 rfl (by rw [List.length_map]; omega) (ast_set ?_)
        refine awp_lcR (List.mem_singleton.mpr rfl) (awc_of ?_)
        walk_at "go"
        refine ⟨by omega, by rw [rangeD_len]; omega, rfl, fun _ y => ∃ q : List Nat, y = nD q ∧ q.length = L ∧ ∀ u ∈ q, u < n0, fun n x hx => ?_, fun ys hys hp => ?_⟩
        · obtain ⟨hn, rfl⟩ := rangeD_get hx
          walk_at "go"
          refine awp_lcR (List.mem_singleton.mpr rfl) (awc_of ?_)
          walk_at "go"
          refine ⟨by omega, by rw [rangeD_len]; omega, by simp [noOwn, wipeA, h5], fun _ y => ∃ u : Nat, y = iD u ∧ u < n0, fun l x hx => ?_, fun zs hzs hp => ?_⟩
          · obtain ⟨hl, rfl⟩ := rangeD_get hx
            walk_at "go"
            have hlr : l < rs.length := by omega
            refine rd_ixL (x := lD rs[l]) (by omega) (by rw [Int.toNat_natCast, List.getElem?_map, List.getElem?_eq_getElem hlr]; rfl) ?_
            walk_at "go"
            have hm := hq rs[l] (List.getElem_mem hlr)
            refine rd_lD (by rw [hm.1]; exact hn) ⟨rfl, _, rfl, hm.2 _ (getD_mem (by rw [hm.1]; exact hn))⟩
          · obtain ⟨q, rfl, hq2⟩ := listN (mem_rel hzs hp fun _ _ h => h)
            rw [rangeD_len, List.length_map] at hzs
            walk_at "go"
            exact rdn_tup ⟨rfl, q, rfl, hzs, hq2⟩
        · obtain ⟨ss, rfl, hss⟩ := listS (mem_rel hys hp fun _ _ h => h)
          rw [rangeD_len, List.length_map] at hys
          exact ⟨rfl, rfl, rfl, ⟨_, rfl, rfl⟩, ss, rfl, by omega, by omega, fun q hm => (hss q hm).1, fun q hm u hu => by rw [hys]; exact (hss q hm).2 u hu⟩
  · obtain ⟨hlen, e0, e1, ⟨s10, e10, h10⟩, ss, e7, n1, n8, ok⟩ := hJ
    match Γ, hlen, e0, e1, e10, e7 with
    | [a0, a1, a2, a3, a4, a5, a6, a7, a8, a9, a10, a11, a12, a13, a14, a15, a16, a17, a18], _, e0, e1, e10, e7 =>
      obtain rfl : a0 = _ := Option.some.inj e0
      obtain rfl : a1 = _ := Option.some.inj e1
      obtain rfl : a7 = _ := Option.some.inj e7
      obtain rfl : a10 = _ := Option.some.inj e10
      refine ast_seq (ast_set ?_)
      refine awp_callR rfl ?_
      walk_at "go"
      refine awp_lst ?_
      walk_at "go"
      refine ⟨by decide, ?_⟩
      walk_at "go"
      refine ⟨rfl, _, rfl, ⟨by decide, by decide⟩, fun x hx => ?_⟩
      obtain ⟨ms, rfl, hms1, hms4⟩ : ∃ ms : Nat, x = iD ms ∧ 1 ≤ ms ∧ ms ≤ 4 := by
        obtain ⟨k, hk⟩ := hx
        have hm := List.mem_of_getElem? hk
        simp at hm
        rcases hm with rfl | rfl
        · exact ⟨2, rfl, by decide, by decide⟩
        · exact ⟨4, rfl, by decide, by decide⟩
      refine ast_ret (awp_tup ?_)
      walk_at "go"
      refine rdn_tup ?_
      refine aas_cons ?_
      walk_at "go"
      refine awp_lcR (List.mem_singleton.mpr rfl) (awc_of ?_)
      walk_at "go"
      refine ⟨by rw [List.length_map]; omega, by simp [noOwn, h10], fun _ y => ∃ u : Nat, y = iD u ∧ u < ms, fun l x hx => ?_, fun zs hzs hp => ?_⟩
      · refine awp_callR rfl ?_
        walk_at "go"
        refine ⟨rfl, ms, rfl, ⟨hms1, by omega⟩, fun x hx => ⟨rfl, hx⟩⟩
      · obtain ⟨q, rfl, hq2⟩ := listN (mem_rel hzs hp fun _ _ h => h)
        rw [List.length_map, List.length_map] at hzs
        walk_at "go"
        refine rdn_tup ?_
        walk_at "go"
        refine ⟨by simp, .inl rfl, ⟨L, ss, q⟩, ⟨L1, L3, n1, n8, hzs, ok.rl, ok.rs, fun a ha => ?_⟩, rfl⟩
        have := hq2 a ha
        omega
end
end TW
end

section
set_option Elab.async false
set_option linter.all false
set_option maxRecDepth 100000
set_option maxHeartbeats 4000000
namespace TW
open PySem PySem.Spec PyProof.Rows L2
local macro_rules | `(tactic| walk_at "aw") => `(tactic| first
  | with_reducible refine ast_seq ?_
  | with_reducible refine ast_ret ?_
  | with_reducible refine ast_if ?_
  | with_reducible refine ast_next ?_
  | with_reducible refine awt_t ?_
  | with_reducible refine awt_b ?_
  | with_reducible refine awt_and ?_
  | with_reducible refine awt_or ?_
  | with_reducible refine awt_not ?_
  | with_reducible refine awt_yes ?_
  | ((with_reducible apply awp_row0); exact rfl)
  | ((with_reducible apply awp_row1); exact rfl)
  | ((with_reducible apply awp_row2); exact rfl)
  | ((with_reducible apply awp_row3); exact rfl)
  | with_reducible refine awp_op ?_
  | with_reducible refine awp_and ?_
  | with_reducible refine awp_or ?_
  | with_reducible refine awp_not ?_
  | with_reducible refine awp_chain ?_
  | with_reducible refine awp_if ?_
  | with_reducible refine awp_isN ?_
  | with_reducible refine awp_notN ?_
  | with_reducible refine awp_int ?_
  | with_reducible refine awp_bl ?_
  | with_reducible refine awp_str ?_
  | with_reducible refine awp_non ?_
  | with_reducible refine awp_isiT ?_
  | with_reducible refine awp_isiI ?_
  | with_reducible refine awp_isiB ?_
  | with_reducible refine awp_isiS ?_
  | with_reducible refine awp_isiL ?_
  | with_reducible refine awp_isiTL ?_
  | with_reducible refine awp_cb ?_
  | with_reducible refine awp_call ?_
  | with_reducible refine aas_nil ?_
  | with_reducible refine aas_cons ?_
  | with_reducible refine rd_lt ?_
  | with_reducible refine rd_le ?_
  | with_reducible refine rd_gt ?_
  | with_reducible refine rd_ge ?_
  | with_reducible refine rd_add ?_
  | with_reducible refine rd_sub ?_
  | with_reducible refine rd_notB ?_
  | with_reducible refine rd_q0 ?_
  | with_reducible refine rd_q1 ?_
  | with_reducible refine rd_q2 ?_
  | with_reducible refine rd_eqN ?_
  | with_reducible refine rd_neN ?_
  | with_reducible refine rd_eqT ?_
  | with_reducible refine rd_neT ?_
  | with_reducible refine rd_eqL ?_
  | with_reducible refine rd_neL ?_
  | with_reducible refine rd_eqI ?_
  | with_reducible refine rd_neI ?_
  | with_reducible refine rdn_int ?_
  | with_reducible refine rdn_min ?_
  | with_reducible refine awp_rg ?_
  | with_reducible refine awi_rng ?_
  | with_reducible refine awi_list ?_
  | with_reducible refine awi_tup ?_
  | with_reducible refine awi_enumL ?_
  | with_reducible refine awi_enumT ?_
  | with_reducible refine awp_sl ?_
  | with_reducible refine awo_no ?_
  | with_reducible refine awo_some ?_
  | with_reducible refine ast_while ?_
  | with_reducible refine ast_for ?_
  | with_reducible refine exb ?_
  | with_reducible refine exn ?_
  | with_reducible refine exi ?_
  | with_reducible refine exl ?_
  | with_reducible refine ext ?_
  | with_reducible refine exlD ?_
  | with_reducible refine exnD ?_
  | with_reducible refine exsD ?_
  | with_reducible refine rdn_lenN ?_
  | with_reducible refine rdn_lenS ?_
  | with_reducible refine rdn_lenL ?_
  | with_reducible refine rdn_lenl ?_
  | ((with_reducible apply awp_v); exact rfl))
local macro_rules | `(tactic| walk_at "go") => `(tactic| (repeat (first
  | with_reducible refine ast_seq ?_
  | with_reducible refine ast_ret ?_
  | with_reducible refine ast_if ?_
  | with_reducible refine ast_next ?_
  | with_reducible refine awt_t ?_
  | with_reducible refine awt_b ?_
  | with_reducible refine awt_and ?_
  | with_reducible refine awt_or ?_
  | with_reducible refine awt_not ?_
  | with_reducible refine awt_yes ?_
  | ((with_reducible apply awp_row0); exact rfl)
  | ((with_reducible apply awp_row1); exact rfl)
  | ((with_reducible apply awp_row2); exact rfl)
  | ((with_reducible apply awp_row3); exact rfl)
  | with_reducible refine awp_op ?_
  | with_reducible refine awp_and ?_
  | with_reducible refine awp_or ?_
  | with_reducible refine awp_not ?_
  | with_reducible refine awp_chain ?_
  | with_reducible refine awp_if ?_
  | with_reducible refine awp_isN ?_
  | with_reducible refine awp_notN ?_
  | with_reducible refine awp_int ?_
  | with_reducible refine awp_bl ?_
  | with_reducible refine awp_str ?_
  | with_reducible refine awp_non ?_
  | with_reducible refine awp_isiT ?_
  | with_reducible refine awp_isiI ?_
  | with_reducible refine awp_isiB ?_
  | with_reducible refine awp_isiS ?_
  | with_reducible refine awp_isiL ?_
  | with_reducible refine awp_isiTL ?_
  | with_reducible refine awp_cb ?_
  | with_reducible refine awp_call ?_
  | with_reducible refine aas_nil ?_
  | with_reducible refine aas_cons ?_
  | with_reducible refine rd_lt ?_
  | with_reducible refine rd_le ?_
  | with_reducible refine rd_gt ?_
  | with_reducible refine rd_ge ?_
  | with_reducible refine rd_add ?_
  | with_reducible refine rd_sub ?_
  | with_reducible refine rd_notB ?_
  | with_reducible refine rd_q0 ?_
  | with_reducible refine rd_q1 ?_
  | with_reducible refine rd_q2 ?_
  | with_reducible refine rd_eqN ?_
  | with_reducible refine rd_neN ?_
  | with_reducible refine rd_eqT ?_
  | with_reducible refine rd_neT ?_
  | with_reducible refine rd_eqL ?_
  | with_reducible refine rd_neL ?_
  | with_reducible refine rd_eqI ?_
  | with_reducible refine rd_neI ?_
  | with_reducible refine rdn_int ?_
  | with_reducible refine rdn_min ?_
  | with_reducible refine awp_rg ?_
  | with_reducible refine awi_rng ?_
  | with_reducible refine awi_list ?_
  | with_reducible refine awi_tup ?_
  | with_reducible refine awi_enumL ?_
  | with_reducible refine awi_enumT ?_
  | with_reducible refine awp_sl ?_
  | with_reducible refine awo_no ?_
  | with_reducible refine awo_some ?_
  | with_reducible refine ast_while ?_
  | with_reducible refine ast_for ?_
  | with_reducible refine exb ?_
  | with_reducible refine exn ?_
  | with_reducible refine exi ?_
  | with_reducible refine exl ?_
  | with_reducible refine ext ?_
  | with_reducible refine exlD ?_
  | with_reducible refine exnD ?_
  | with_reducible refine exsD ?_
  | with_reducible refine rdn_lenN ?_
  | with_reducible refine rdn_lenS ?_
  | with_reducible refine rdn_lenL ?_
  | with_reducible refine rdn_lenl ?_
  | ((with_reducible apply awp_v); exact rfl))))

section
variable {P : Program} {w : World} {K : PySem.W.Frag} {mg : Str → Option Value} {base : Heap} {T : List Addr}
theorem sc_parted : FnScope ["steps", "answers", "lots", "one", "pictures", "after", "state", "finer", "picture"] ["steps", "answers"] (defScope s_parted) := ⟨rfl, rfl, rfl, by decide +kernel, rfl, by decide +kernel, by decide +kernel⟩
theorem bd_parted : BindF "parted" s_parted ["steps", "answers"] := fun _ _ _ _ _ _ us hl => match us, hl with | [_, _], _ => rfl
abbrev sp_parted (W : Wd) : Sp := SpD W (fun m : M => [sD m.st, lD m.an]) (fun m => StOk m.k m.st ∧ m.an.length = m.st.length ∧ m.st.length ≤ 1000 ∧ m.k ≤ 1000) (fun m r => ∃ lots : List Nat, r = lD lots ∧ lots.length = m.st.length ∧ ∀ i j, i < m.st.length → j < m.st.length → (lots.getD i 0 = lots.getD j 0 ↔ Ner m i j))
theorem ok_parted (D : Dd K mg "parted" s_parted) (t : Bt K mg) : Ok P w K mg base 1 "parted" ["steps", "answers"] (sp_parted ⟨K, T⟩) := by
  refine ok_mk D sc_parted rfl (fun _ => rfl) bd_parted fun f cdv A outer s H E hr => ⟨_, (pss_cons (ps_asg (pe_lc (own := [("one", 3)]) (g := gName 3) rfl sc_parted.nd (piL (K := K) rfl (pv 1)) (blkOk_by (by rfl)) (fun _ _ _ _ _ => pg_name (i := 3) sc_parted.nd rfl (by first | exact Or.inl rfl | exact Or.inr rfl)) (fun _ _ _ _ _ => pts_nil) (fun _ _ _ _ _ => (pBm (K := K) rfl PySem.F.plainAttrs_list PySem.F.slot_list_index PySem.F.type_list_index (mIndexD (K := K) rfl (u65 hr)) (pv 1) (pa_cons (pv 3) pa_nil)))) (pg_name (i := 2) sc_parted.nd rfl (by first | exact Or.inl rfl | exact Or.inr rfl)))
    (pss_one (ps_while PassesOwn.never (pt_val pe_bl) (pss_cons (ps_asg (pe_lc (own := [("state", 6)]) (g := gName 6) rfl sc_parted.nd (pi_range1 (by rfl) t.range (pa_cons (pe_callB (cLen (K := K) rfl) (by rfl) t.len (by decide +kernel) (pa_cons (pv 0) pa_nil)) pa_nil)) (blkOk_by (by rfl)) (fun _ _ _ _ _ => pg_name (i := 6) sc_parted.nd rfl (by first | exact Or.inl rfl | exact Or.inr rfl)) (fun _ _ _ _ _ => pts_nil) (fun _ _ _ _ _ => (pe_op (oCatA (K := K) rfl) (pe_tup (pa_cons (pe_ix (ixL (K := K) rfl) (pv 2) (pv 6) (fun _ _ => rfl)) pa_nil)) (pe_callTy (cTup (K := K) rfl) (by rfl) t.tuple (by decide +kernel) (pa_cons (pe_lc (own := [("after", 5)]) (g := gName 5) rfl sc_parted.nd (piT (K := K) rfl (pe_ix (ixT (K := K) rfl) (pv 0) (pv 6) (fun _ _ => rfl))) (blkOk_by (by rfl)) (fun _ _ _ _ _ => pg_name (i := 5) sc_parted.nd rfl (by first | exact Or.inl rfl | exact Or.inr rfl)) (fun _ _ _ _ _ => pts_nil) (fun _ _ _ _ _ => (pe_ix (ixL (K := K) rfl) (pv 2) (pv 5) (fun _ _ => rfl)))) pa_nil))))) (pg_name (i := 4) sc_parted.nd rfl (by first | exact Or.inl rfl | exact Or.inr rfl)))
    (pss_cons (ps_setLc (i := 7) (own := [("picture", 8)]) (g := gName 8) rfl sc_parted.nd rfl rfl (sw_true rfl rfl rfl (by decide +kernel)) (piL (K := K) rfl (pv 4)) (blkOk_by (by rfl)) (fun _ _ _ _ _ => pg_name (i := 8) sc_parted.nd rfl (by first | exact Or.inl rfl | exact Or.inr rfl)) (fun _ _ _ _ _ => pts_nil) (fun _ _ _ _ _ => (pBm (K := K) rfl PySem.F.plainAttrs_list PySem.F.slot_list_index PySem.F.type_list_index (mIndexD (K := K) rfl (u65 hr)) (pv 4) (pa_cons (pv 8) pa_nil))))
    (pss_cons (ps_if (pt_cmpR (oEq (K := K) rfl (u64 hr)) (pv 7) (pv 2) (by first | rfl | exact nomark _)) (pss_one (ps_ret (pv 2))) pss_nil)
    (pss_one (ps_asg (pv 7) (pg_name (i := 2) sc_parted.nd rfl (by first | exact Or.inl rfl | exact Or.inr rfl)))))))))), fun a hp => ?_⟩
  obtain ⟨ok, al, n8, k8⟩ := hp
  refine ast_seq (ast_set ?_)
  refine awp_lcM (List.mem_singleton.mpr rfl) (awc_of ?_)
  walk_at "go"
  refine ⟨Nat, a.an, iD, fun x => iD (a.an.idxOf x), rfl, by omega, rfl, fun x hx => ?_, ?_⟩
  · refine awp_ixG (f := iD) (fun _ _ => eqv_iD) (fun _ => rfl) (fun _ => shaped_lD) ?_
    walk_at "go"
    refine ⟨a.an, rfl, ?_⟩
    walk_at "go"
    exact ⟨hx, rfl, rfl⟩
  have e0 : PyData.list (a.an.map fun x => iD (a.an.idxOf x)) = lD (idxL a.an) := by unfold lD idxL; rw [List.map_map]; rfl
  rw [e0]
  refine ast_while ⟨fun m Γ => ∃ (lots : List Nat) (s4 s7 : SV), Γ = [.d (sD a.st), .d (lD a.an), .d (lD lots), .un, s4, .un, .un, s7, .un] ∧ LotOk a lots ∧ m + lots.sum = a.st.length * a.st.length, ⟨a.st.length * a.st.length - (idxL a.an).sum, idxL a.an, _, _, rfl, lot_start al, by have := lot_bound (lot_start al); omega⟩, fun m Γ hΓ => ?_⟩
  obtain ⟨lots, s4, s7, rfl, hL, hm⟩ := hΓ
  walk_at "go"
  refine iteT ?_
  refine ast_seq (ast_set ?_)
  refine awp_lcM (List.mem_singleton.mpr rfl) (awc_of ?_)
  walk_at "go"
  refine ⟨by omega, Nat, List.range a.st.length, iD, fun s => nD (lots.getD s 0 :: (a.st.getD s []).map fun x => lots.getD x 0), rfl, by simp; omega, rfl, fun s hs => ?_, ?_⟩
  · have hs : s < a.st.length := List.mem_range.mp hs
    walk_at "go"
    refine awp_tup ?_
    walk_at "go"
    refine rd_lD (by rw [hL.len]; exact hs) ?_
    walk_at "go"
    refine ⟨by simp, ?_⟩
    walk_at "go"
    refine awp_lcM (List.mem_singleton.mpr rfl) (awc_of ?_)
    walk_at "go"
    refine rd_sD hs ?_
    walk_at "go"
    have rl := ok.row hs
    have k3 : (a.st.getD s []).length = a.k := rl
    refine ⟨Nat, a.st.getD s [], iD, fun x => iD (lots.getD x 0), rfl, ?_, rfl, fun x hx => ?_, ?_⟩
    · rw [rl]; omega
    · walk_at "go"
      exact rd_lD (by rw [hL.len]; exact ok.rs _ (getD_mem hs) x hx) ⟨rfl, rfl⟩
    · walk_at "go"
      refine rdn_tup ?_
      refine rd_catA ?_ ⟨rfl, ?_⟩
      · rw [List.length_map, rl]; simp; omega
      · show PyData.tuple ([iD (lots.getD s 0)] ++ _) = nD (_ :: _)
        unfold nD
        rw [List.map_cons, List.map_map]
        rfl
  have e1 : PyData.list ((List.range a.st.length).map fun s => nD (lots.getD s 0 :: (a.st.getD s []).map fun x => lots.getD x 0)) = .list ((pics a.st lots).map nD) := by unfold pics; rw [List.map_map]; rfl
  rw [e1]
  refine ast_seq (ast_set ?_)
  refine awp_lcM (List.mem_singleton.mpr rfl) (awc_of ?_)
  walk_at "go"
  refine ⟨List Nat, pics a.st lots, nD, fun p => iD (@List.idxOf _ instBEqOfDecidableEq p (pics a.st lots)), rfl, by rw [pics_len]; omega, rfl, fun p hpm => ?_, ?_⟩
  · refine awp_ixG (f := nD) (fun _ _ => eqv_nD) (fun _ => shaped_nD) shaped_lnD ?_
    walk_at "go"
    refine ⟨pics a.st lots, rfl, ?_⟩
    walk_at "go"
    exact ⟨p, rfl, hpm, rfl, rfl⟩
  have e2 : PyData.list ((pics a.st lots).map fun p => iD (@List.idxOf _ instBEqOfDecidableEq p (pics a.st lots))) = lD (idxL (pics a.st lots)) := by unfold lD idxL; rw [List.map_map]; rfl
  rw [e2]
  walk_at "go"
  by_cases he : idxL (pics a.st lots) = lots
  · rw [decide_eq_true he]
    refine iteT ?_
    walk_at "go"
    exact ⟨lots, rfl, hL.len, fun i j hi hj => lot_end ok hL he hi hj⟩
  · rw [decide_eq_false he]
    refine iteF ?_
    walk_at "go"
    refine ast_set ?_
    walk_at "go"
    have hN := lot_next ok hL
    have hb := lot_bound hN
    have hlt := (sum_le lots (idxL (pics a.st lots)) (by rw [hL.len, hN.len]) fun i hi => lot_le hL (by rw [hL.len] at hi; exact hi)).2 (Ne.symm he)
    exact ⟨a.st.length * a.st.length - (idxL (pics a.st lots)).sum, by omega, _, _, _, rfl, hN, by omega⟩
end
end TW
end

section
set_option Elab.async false
set_option linter.all false
set_option maxRecDepth 100000
set_option maxHeartbeats 4000000
namespace TW
open PySem PySem.Spec PyProof.Rows L2
local macro_rules | `(tactic| walk_at "aw") => `(tactic| first
  | with_reducible refine ast_seq ?_
  | with_reducible refine ast_ret ?_
  | with_reducible refine ast_if ?_
  | with_reducible refine ast_next ?_
  | with_reducible refine awt_t ?_
  | with_reducible refine awt_b ?_
  | with_reducible refine awt_and ?_
  | with_reducible refine awt_or ?_
  | with_reducible refine awt_not ?_
  | with_reducible refine awt_yes ?_
  | ((with_reducible apply awp_row0); exact rfl)
  | ((with_reducible apply awp_row1); exact rfl)
  | ((with_reducible apply awp_row2); exact rfl)
  | ((with_reducible apply awp_row3); exact rfl)
  | with_reducible refine awp_op ?_
  | with_reducible refine awp_and ?_
  | with_reducible refine awp_or ?_
  | with_reducible refine awp_not ?_
  | with_reducible refine awp_chain ?_
  | with_reducible refine awp_if ?_
  | with_reducible refine awp_isN ?_
  | with_reducible refine awp_notN ?_
  | with_reducible refine awp_int ?_
  | with_reducible refine awp_bl ?_
  | with_reducible refine awp_str ?_
  | with_reducible refine awp_non ?_
  | with_reducible refine awp_isiT ?_
  | with_reducible refine awp_isiI ?_
  | with_reducible refine awp_isiB ?_
  | with_reducible refine awp_isiS ?_
  | with_reducible refine awp_isiL ?_
  | with_reducible refine awp_isiTL ?_
  | with_reducible refine awp_cb ?_
  | with_reducible refine awp_call ?_
  | with_reducible refine aas_nil ?_
  | with_reducible refine aas_cons ?_
  | with_reducible refine rd_lt ?_
  | with_reducible refine rd_le ?_
  | with_reducible refine rd_gt ?_
  | with_reducible refine rd_ge ?_
  | with_reducible refine rd_add ?_
  | with_reducible refine rd_sub ?_
  | with_reducible refine rd_notB ?_
  | with_reducible refine rd_q0 ?_
  | with_reducible refine rd_q1 ?_
  | with_reducible refine rd_q2 ?_
  | with_reducible refine rd_eqN ?_
  | with_reducible refine rd_neN ?_
  | with_reducible refine rd_eqT ?_
  | with_reducible refine rd_neT ?_
  | with_reducible refine rd_eqL ?_
  | with_reducible refine rd_neL ?_
  | with_reducible refine rd_eqI ?_
  | with_reducible refine rd_neI ?_
  | with_reducible refine rdn_int ?_
  | with_reducible refine rdn_min ?_
  | with_reducible refine awp_rg ?_
  | with_reducible refine awi_rng ?_
  | with_reducible refine awi_list ?_
  | with_reducible refine awi_tup ?_
  | with_reducible refine awi_enumL ?_
  | with_reducible refine awi_enumT ?_
  | with_reducible refine awp_sl ?_
  | with_reducible refine awo_no ?_
  | with_reducible refine awo_some ?_
  | with_reducible refine ast_while ?_
  | with_reducible refine ast_for ?_
  | with_reducible refine exb ?_
  | with_reducible refine exn ?_
  | with_reducible refine exi ?_
  | with_reducible refine exl ?_
  | with_reducible refine ext ?_
  | with_reducible refine exlD ?_
  | with_reducible refine exnD ?_
  | with_reducible refine exsD ?_
  | with_reducible refine rdn_lenN ?_
  | with_reducible refine rdn_lenS ?_
  | with_reducible refine rdn_lenL ?_
  | with_reducible refine rdn_lenl ?_
  | ((with_reducible apply awp_v); exact rfl))
local macro_rules | `(tactic| walk_at "go") => `(tactic| (repeat (first
  | with_reducible refine ast_seq ?_
  | with_reducible refine ast_ret ?_
  | with_reducible refine ast_if ?_
  | with_reducible refine ast_next ?_
  | with_reducible refine awt_t ?_
  | with_reducible refine awt_b ?_
  | with_reducible refine awt_and ?_
  | with_reducible refine awt_or ?_
  | with_reducible refine awt_not ?_
  | with_reducible refine awt_yes ?_
  | ((with_reducible apply awp_row0); exact rfl)
  | ((with_reducible apply awp_row1); exact rfl)
  | ((with_reducible apply awp_row2); exact rfl)
  | ((with_reducible apply awp_row3); exact rfl)
  | with_reducible refine awp_op ?_
  | with_reducible refine awp_and ?_
  | with_reducible refine awp_or ?_
  | with_reducible refine awp_not ?_
  | with_reducible refine awp_chain ?_
  | with_reducible refine awp_if ?_
  | with_reducible refine awp_isN ?_
  | with_reducible refine awp_notN ?_
  | with_reducible refine awp_int ?_
  | with_reducible refine awp_bl ?_
  | with_reducible refine awp_str ?_
  | with_reducible refine awp_non ?_
  | with_reducible refine awp_isiT ?_
  | with_reducible refine awp_isiI ?_
  | with_reducible refine awp_isiB ?_
  | with_reducible refine awp_isiS ?_
  | with_reducible refine awp_isiL ?_
  | with_reducible refine awp_isiTL ?_
  | with_reducible refine awp_cb ?_
  | with_reducible refine awp_call ?_
  | with_reducible refine aas_nil ?_
  | with_reducible refine aas_cons ?_
  | with_reducible refine rd_lt ?_
  | with_reducible refine rd_le ?_
  | with_reducible refine rd_gt ?_
  | with_reducible refine rd_ge ?_
  | with_reducible refine rd_add ?_
  | with_reducible refine rd_sub ?_
  | with_reducible refine rd_notB ?_
  | with_reducible refine rd_q0 ?_
  | with_reducible refine rd_q1 ?_
  | with_reducible refine rd_q2 ?_
  | with_reducible refine rd_eqN ?_
  | with_reducible refine rd_neN ?_
  | with_reducible refine rd_eqT ?_
  | with_reducible refine rd_neT ?_
  | with_reducible refine rd_eqL ?_
  | with_reducible refine rd_neL ?_
  | with_reducible refine rd_eqI ?_
  | with_reducible refine rd_neI ?_
  | with_reducible refine rdn_int ?_
  | with_reducible refine rdn_min ?_
  | with_reducible refine awp_rg ?_
  | with_reducible refine awi_rng ?_
  | with_reducible refine awi_list ?_
  | with_reducible refine awi_tup ?_
  | with_reducible refine awi_enumL ?_
  | with_reducible refine awi_enumT ?_
  | with_reducible refine awp_sl ?_
  | with_reducible refine awo_no ?_
  | with_reducible refine awo_some ?_
  | with_reducible refine ast_while ?_
  | with_reducible refine ast_for ?_
  | with_reducible refine exb ?_
  | with_reducible refine exn ?_
  | with_reducible refine exi ?_
  | with_reducible refine exl ?_
  | with_reducible refine ext ?_
  | with_reducible refine exlD ?_
  | with_reducible refine exnD ?_
  | with_reducible refine exsD ?_
  | with_reducible refine rdn_lenN ?_
  | with_reducible refine rdn_lenS ?_
  | with_reducible refine rdn_lenL ?_
  | with_reducible refine rdn_lenl ?_
  | ((with_reducible apply awp_v); exact rfl))))

section
variable {P : Program} {w : World} {K : PySem.W.Frag} {mg : Str → Option Value} {base : Heap} {T : List Addr}
/-- the numbers of the lots -/
def numsF (lots : List Nat) : Nat → List Nat → List (Int × PyData)
  | _, [] => []
  | s, x :: o => (((lots.getD x 0 : Nat) : Int), iD s) :: numsF lots (s + 1) o
theorem numsF_len {lots : List Nat} : ∀ (o : List Nat) (s : Nat), (numsF lots s o).length = o.length
  | [], _ => rfl
  | _ :: o, s => by show (numsF lots (s + 1) o).length + 1 = _; rw [numsF_len o]; rfl
theorem numsF_snoc {lots : List Nat} {a : Nat} : ∀ (o : List Nat) (s : Nat), numsF lots s (o ++ [a]) = numsF lots s o ++ [(((lots.getD a 0 : Nat) : Int), iD (s + o.length))]
  | [], s => rfl
  | x :: o, s => by
    show _ :: numsF lots (s + 1) (o ++ [a]) = _ :: (numsF lots (s + 1) o ++ _)
    rw [numsF_snoc o (s + 1)]
    have e : s + 1 + o.length = s + (x :: o).length := by rw [List.length_cons]; omega
    rw [e]
theorem numsF_get {lots : List Nat} {a : Nat} {p : Nat → Bool} : ∀ (o : List Nat) (s : Nat), (∀ x ∈ o, p x = decide (lots.getD x 0 = lots.getD a 0)) →
    (o.any p = true → kget (numsF lots s o) ((lots.getD a 0 : Nat) : Int) = some (iD (s + o.findIdx p))) ∧ (o.any p = false → kget (numsF lots s o) ((lots.getD a 0 : Nat) : Int) = none)
  | [], s, _ => ⟨fun h => (by cases h), fun _ => rfl⟩
  | x :: o, s, h => by
    have ih := numsF_get (a := a) (p := p) o (s + 1) fun y hy => h y (List.mem_cons_of_mem _ hy)
    have hx := h x (List.mem_cons_self ..)
    show (_ → (if ((lots.getD x 0 : Nat) : Int) = ((lots.getD a 0 : Nat) : Int) then _ else kget (numsF lots (s + 1) o) _) = _) ∧ (_ → (if ((lots.getD x 0 : Nat) : Int) = ((lots.getD a 0 : Nat) : Int) then _ else kget (numsF lots (s + 1) o) _) = _)
    by_cases e : lots.getD x 0 = lots.getD a 0
    · rw [decide_eq_true e] at hx
      rw [if_pos (by rw [e])]
      refine ⟨fun _ => ?_, fun hf => ?_⟩
      · rw [List.findIdx_cons, hx]; rfl
      · rw [List.any_cons, hx] at hf; cases hf
    · rw [decide_eq_false e] at hx
      rw [if_neg (fun z => e (by omega))]
      refine ⟨fun hf => ?_, fun hf => ?_⟩
      · rw [List.any_cons, hx, Bool.false_or] at hf
        rw [ih.1 hf, List.findIdx_cons, hx]
        show some (PyData.int _) = some (PyData.int _)
        congr 2
        simp
        omega
      · rw [List.any_cons, hx, Bool.false_or] at hf
        exact ih.2 hf
theorem goRow_take {eq : Nat → Nat → Bool} {o row : List Nat} {i a : Nat} (h : row[i]? = some a) : goRow eq o (row.take (i + 1)) = rowS eq (goRow eq o (row.take i)) a := by
  rw [List.take_succ, h]
  exact goRow_snoc eq o (row.take i) a
theorem sc_shrunk : FnScope ["steps", "answers", "lots", "numbers", "order", "found", "at", "row", "after", "state"] ["steps", "answers"] (defScope s_shrunk) := ⟨rfl, rfl, rfl, by decide +kernel, rfl, by decide +kernel, by decide +kernel⟩
theorem bd_shrunk : BindF "shrunk" s_shrunk ["steps", "answers"] := fun _ _ _ _ _ _ us hl => match us, hl with | [_, _], _ => rfl
abbrev sp_shrunk (W : Wd) : Sp := SpD W (fun m : M => [sD m.st, nD m.an]) (fun m => m.ok) (fun m r => r = .tuple [sD (small m).st, nD (small m).an])
theorem ok_shrunk (D : Dd K mg "shrunk" s_shrunk) (t : Bt K mg) (h_parted : Ok P w K mg base 1 "parted" ["steps", "answers"] (sp_parted ⟨K, T⟩)) : Ok P w K mg base 2 "shrunk" ["steps", "answers"] (sp_shrunk ⟨K, T⟩) := by
  refine ok_mk D sc_shrunk rfl (fun _ => rfl) bd_shrunk fun f cdv A outer s H E hr => ⟨_, (pss_cons (ps_asg (pe_callO h_parted (hr.mono (by decide)) rfl (pa_cons (pv 0) (pa_cons (pe_callTy (cList (K := K) rfl) (by rfl) t.list (by decide +kernel) (pa_cons (pv 1) pa_nil)) pa_nil))) (pg_name (i := 2) sc_shrunk.nd rfl (by first | exact Or.inl rfl | exact Or.inr rfl)))
    (pss_cons (ps_asg (pe_tup (pa_cons (pe_disp (pps_cons (pe_ix (ixL (K := K) rfl) (pv 2) pe_int (fun _ _ => rfl)) pe_int pps_nil) (by rfl) (by rfl) (fun z => by cases z) (by decide)) (pa_cons (pe_lst (pa_cons pe_int pa_nil)) (pa_cons (pe_lst pa_nil) (pa_cons pe_int pa_nil))))) (pgT (K := K) rfl rfl (pgs_cons (pg_name (i := 3) sc_shrunk.nd rfl (by first | exact Or.inl rfl | exact Or.inr rfl)) (pgs_cons (pg_name (i := 4) sc_shrunk.nd rfl (by first | exact Or.inl rfl | exact Or.inr rfl)) (pgs_cons (pg_name (i := 5) sc_shrunk.nd rfl (by first | exact Or.inl rfl | exact Or.inr rfl)) (pgs_cons (pg_name (i := 6) sc_shrunk.nd rfl (by first | exact Or.inl rfl | exact Or.inr rfl)) pgs_nil))))))
    (pss_cons (ps_while PassesOwn.never (pt_cmpR op_lt (pv 6) (pe_callB (cLen (K := K) rfl) (by rfl) t.len (by decide +kernel) (pa_cons (pv 4) pa_nil)) (by first | rfl | exact nomark _)) (pss_cons (ps_asg (pe_lst pa_nil) (pg_name (i := 7) sc_shrunk.nd rfl (by first | exact Or.inl rfl | exact Or.inr rfl)))
    (pss_cons (ps_for PassesOwn.never rfl (piT (K := K) rfl (pe_ix (ixT (K := K) rfl) (pv 0) (pe_ix (ixL (K := K) rfl) (pv 4) (pv 6) (fun _ _ => rfl)) (fun _ _ => rfl))) (pg_name (i := 8) sc_shrunk.nd rfl (by first | exact Or.inl rfl | exact Or.inr rfl)) (pss_cons (ps_if (pt_cmp (pc_dnotin (u1 hr) (pe_ix (ixL (K := K) rfl) (pv 2) (pv 8) (fun _ _ => rfl)) (pv 3)) (by first | rfl | exact nobehind _ (by decide) (by decide))) (pss_cons (ps_dput (u1 hr) (pv 3) (pe_ix (ixL (K := K) rfl) (pv 2) (pv 8) (fun _ _ => rfl)) (pe_callB (cLen (K := K) rfl) (by rfl) t.len (by decide +kernel) (pa_cons (pv 4) pa_nil)) rfl)
    (pss_one (ps_expr (pBm (K := K) rfl PySem.F.plainAttrs_list PySem.F.slot_list_append PySem.F.type_list_append mt_append (pv 4) (pa_cons (pv 8) pa_nil))))) pss_nil)
    (pss_one (ps_expr (pBm (K := K) rfl PySem.F.plainAttrs_list PySem.F.slot_list_append PySem.F.type_list_append mt_append (pv 7) (pa_cons (pe_dget (u1 hr) (pv 3) (pe_ix (ixL (K := K) rfl) (pv 2) (pv 8) (fun _ _ => rfl)) (fun _ _ => rfl)) pa_nil))))))
    (pss_cons (ps_expr (pBm (K := K) rfl PySem.F.plainAttrs_list PySem.F.slot_list_append PySem.F.type_list_append mt_append (pv 5) (pa_cons (pe_callTy (cTup (K := K) rfl) (by rfl) t.tuple (by decide +kernel) (pa_cons (pv 7) pa_nil)) pa_nil)))
    (pss_one (ps_aug (i := 6) sc_shrunk.nd rfl (by first | exact Or.inl rfl | exact Or.inr rfl) pe_int ip_add))))))
    (pss_one (ps_ret (pe_tup (pa_cons (pe_callTy (cTup (K := K) rfl) (by rfl) t.tuple (by decide +kernel) (pa_cons (pv 5) pa_nil)) (pa_cons (pe_callTy (cTup (K := K) rfl) (by rfl) t.tuple (by decide +kernel) (pa_cons (pe_lc (own := [("state", 9)]) (g := gName 9) rfl sc_shrunk.nd (piL (K := K) rfl (pv 4)) (blkOk_by (by rfl)) (fun _ _ _ _ _ => pg_name (i := 9) sc_shrunk.nd rfl (by first | exact Or.inl rfl | exact Or.inr rfl)) (fun _ _ _ _ _ => pts_nil) (fun _ _ _ _ _ => (pe_ix (ixT (K := K) rfl) (pv 1) (pv 9) (fun _ _ => rfl)))) pa_nil)) pa_nil)))))))), fun a hp => ?_⟩
  have ok : a.ok := hp
  have n1 := ok.n1
  have n8 := ok.n8
  have k3 := ok.k3
  refine ast_seq (ast_set ?_)
  walk_at "go"
  refine rdn_list (.inr rfl) ?_
  walk_at "go"
  refine ⟨a, rfl, ⟨ok.stOk, ok.al, by omega, by omega⟩, fun x hx => ?_⟩
  obtain ⟨lots, rfl, hll, hlo⟩ := hx
  have hnb : ∀ x y, x < a.st.length → y < a.st.length → nb a x y = decide (lots.getD x 0 = lots.getD y 0) := fun x y hx hy => by
    by_cases h : lots.getD x 0 = lots.getD y 0
    · rw [decide_eq_true h]; exact nb_iff.mpr ((hlo x y hx hy).mp h)
    · rw [decide_eq_false h]
      exact Bool.eq_false_iff.mpr fun z => h ((hlo x y hx hy).mpr (nb_iff.mp z))
  refine ast_seq (ast_tupx [3, 4, 5, 6] rfl ?_)
  refine aax_cons (awx_dk1 ?_)
  walk_at "go"
  refine rd_lD (i := 0) (by omega) ?_
  walk_at "go"
  refine aax_cons (awx_lst ?_)
  walk_at "go"
  refine ⟨by decide, aax_cons (awx_lst (aas_nil ⟨by decide, ?_⟩))⟩
  refine aax_cons (awx_of (awp_int (aax_nil ⟨rfl, by show 4 ≤ 1000; decide, ?_⟩)))
  refine ast_seq ?_
  refine ast_while ⟨fun d Γ => ∃ (n : Nat) (s7 s8 : SV), Γ = [.d (sD a.st), .d (nD a.an), .d (lD lots), .o (.dk (numsF lots 0 (goN (nb a) a.st n).1)), .o (.lst ((goN (nb a) a.st n).1.map iD)), .o (.lst ((goN (nb a) a.st n).2.map nD)), .d (iD n), s7, s8, .un] ∧
    (∀ j, j < n → j < (goN (nb a) a.st j).1.length) ∧ n ≤ (goN (nb a) a.st n).1.length ∧ d + n = 100, ⟨100, 0, _, _, rfl, fun j hj => absurd hj (Nat.not_lt_zero _), Nat.zero_le _, rfl⟩, fun d Γ hΓ => ?_⟩
  obtain ⟨n, s7, s8, rfl, hpre, hnle, hd⟩ := hΓ
  have G := goN_ok ok n hpre
  have hol := G.ord.le
  have hrl := G.len
  have gl := goN_len (nb a) a.st n
  refine awt_t ?_
  walk_at "aw"
  walk_at "aw"
  refine awp_view (i := 4) rfl (by rw [List.length_map]; omega) ?_
  walk_at "go"
  refine ⟨rfl, ?_⟩
  walk_at "go"
  rw [List.length_map]
  by_cases hn : n < (goN (nb a) a.st n).1.length
  · rw [decide_eq_true (by omega)]
    refine iteT ?_
    refine ast_seq (ast_setX (awx_lst (aas_nil ⟨by decide, ?_⟩)))
    have hs : (goN (nb a) a.st n).1.getD n 0 < a.st.length := G.ord.lt _ (getD_mem hn)
    have rl := ok.stOk.row hs
    generalize hrow : a.st.getD ((goN (nb a) a.st n).1.getD n 0) [] = row at rl
    have hrow' : ∀ x ∈ row, x < a.st.length := by rw [← hrow]; exact ok.rs _ (getD_mem hs)
    refine ast_seq (ast_for ?_)
    refine awi_tup ?_
    walk_at "aw"
    walk_at "aw"
    refine awp_view (i := 4) rfl (by rw [List.length_map]; omega) ?_
    walk_at "go"
    refine rd_ixL (x := iD ((goN (nb a) a.st n).1.getD n 0)) (by omega) (by simpa using nD_get hn) ⟨rfl, ?_⟩
    refine rd_sD hs ?_
    rw [hrow]
    walk_at "go"
    have RO : ∀ i, RowOk a (goN (nb a) a.st n).1 (row.take i) (goRow (nb a) (goN (nb a) a.st n).1 (row.take i)) := fun i => goRow_ok G.ord (row.take i) fun x hx => hrow' x (List.mem_of_mem_take hx)
    refine ⟨fun i Γ => ∃ (s8 : SV), Γ = [.d (sD a.st), .d (nD a.an), .d (lD lots), .o (.dk (numsF lots 0 (goRow (nb a) (goN (nb a) a.st n).1 (row.take i)).1)), .o (.lst ((goRow (nb a) (goN (nb a) a.st n).1 (row.take i)).1.map iD)), .o (.lst ((goN (nb a) a.st n).2.map nD)), .d (iD n),
      .o (.lst ((goRow (nb a) (goN (nb a) a.st n).1 (row.take i)).2.map iD)), s8, .un], ⟨_, rfl⟩, fun i x Γ hx hΓ => ?_, fun Γ hΓ => ?_⟩
    · obtain ⟨s8, rfl⟩ := hΓ
      obtain ⟨y, hy, hym, rfl⟩ := mapN_get hx
      have hyl := hrow' y hym
      have R0 := RO i
      have R1 := RO (i + 1)
      rw [goRow_take hy] at R1
      have h0l := R0.ord.le
      dsimp only
      rw [goRow_take hy]
      have h2l : (goRow (nb a) (goN (nb a) a.st n).1 (row.take i)).2.length ≤ row.length := by rw [R0.len, List.length_take]; omega
      generalize goRow (nb a) (goN (nb a) a.st n).1 (row.take i) = q at R0 R1 h0l h2l ⊢
      have hpx : ∀ x ∈ q.1, nb a x y = decide (lots.getD x 0 = lots.getD y 0) := fun x hx => hnb x y (R0.ord.lt x hx) hyl
      have key := numsF_get (lots := lots) (a := y) (p := fun x => nb a x y) q.1 0 hpx
      refine atg_name ?_
      have yl : y < lots.length := by omega
      -- the number of y, once it is there
      have app : ∀ (o : List Nat) {nx bk ct : List SV → Prop} {rt : List SV → PyData → Prop}, (∀ x ∈ o, x < a.st.length) → o.any (fun x => nb a x y) = true →
          nx [.d (sD a.st), .d (nD a.an), .d (lD lots), .o (.dk (numsF lots 0 o)), .o (.lst (o.map iD)), .o (.lst ((goN (nb a) a.st n).2.map nD)), .d (iD n), .o (.lst ((q.2 ++ [o.findIdx fun x => nb a x y]).map iD)), .d (iD y), .un] →
          ASt ⟨K, T⟩ (tDrop (tBM K "list" rAppend (tVar 7) (tCons (tDGet (tVar 3) (tOp (rIxL K) (tVar 2) (tVar 8))) tNil)))
          [.d (sD a.st), .d (nD a.an), .d (lD lots), .o (.dk (numsF lots 0 o)), .o (.lst (o.map iD)), .o (.lst ((goN (nb a) a.st n).2.map nD)), .d (iD n), .o (.lst (q.2.map iD)), .d (iD y), .un] nx rt bk ct := by
        intro o nx bk ct rt hoy hany k
        refine ast_append rfl (awp_dgetK rfl ?_)
        walk_at "go"
        refine rd_lD yl ?_
        have k2 := (numsF_get (lots := lots) (a := y) (p := fun x => nb a x y) o 0 fun x hx => hnb x y (hoy x hx) hyl).1 hany
        refine ⟨_, _, _, rfl, rfl, k2, _, rfl, by rw [List.length_map]; omega, ?_⟩
        rw [List.map_append, Nat.zero_add] at *
        exact k
      refine ast_seq (ast_if (awt_b (awp_dninK ?_)))
      walk_at "go"
      refine rd_lD yl ⟨_, _, rfl, rfl, exb ?_⟩
      cases hany : q.1.any (fun x => nb a x y) with
      | true =>
        rw [key.1 hany]
        refine iteF (ast_next ?_)
        have e : addO (nb a) q.1 y = q.1 := by unfold addO; rw [if_pos hany]
        have er : rowS (nb a) q y = (q.1, q.2 ++ [q.1.findIdx fun x => nb a x y]) := by unfold rowS; rw [e]
        rw [er]
        exact app q.1 R0.ord.lt hany ⟨_, rfl⟩
      | false =>
        rw [key.2 hany]
        refine iteT ?_
        have e : addO (nb a) q.1 y = q.1 ++ [y] := by unfold addO; rw [if_neg (by rw [hany]; exact Bool.false_ne_true)]
        have er : rowS (nb a) q y = (q.1 ++ [y], q.2 ++ [(q.1 ++ [y]).findIdx fun x => nb a x y]) := by unfold rowS; rw [e]
        rw [er]
        refine ast_seq (ast_dputK (awp_view (i := 4) rfl (by rw [List.length_map]; omega) ?_))
        walk_at "go"
        refine ⟨rfl, ⟨_, rfl⟩, ?_⟩
        walk_at "go"
        refine rd_lD yl ⟨_, _, rfl, rfl, by rw [numsF_len]; omega, key.2 hany, ?_⟩
        refine ast_append rfl ?_
        walk_at "go"
        refine ⟨_, rfl, by rw [List.length_map]; omega, ?_⟩
        refine ast_eq ?_ (app (q.1 ++ [y]) (fun x hx => ?_) (by rw [List.any_append]; simp [nb_iff.mpr (Ner.refl (m := a) (i := y))]) ⟨_, rfl⟩)
        · rw [numsF_snoc, List.map_append, List.length_map, Nat.zero_add]
          rfl
        · rcases List.mem_append.mp hx with hx | hx
          · exact R0.ord.lt x hx
          · rw [List.mem_singleton.mp hx]; exact hyl
    · obtain ⟨s8, rfl⟩ := hΓ
      rw [List.length_map, List.take_length]
      have R1 := RO row.length
      rw [List.take_length] at R1
      have e : goN (nb a) a.st (n + 1) = ((goRow (nb a) (goN (nb a) a.st n).1 row).1, (goN (nb a) a.st n).2 ++ [(goRow (nb a) (goN (nb a) a.st n).1 row).2]) := by
        show goS (nb a) a.st (goN (nb a) a.st n) = _
        unfold goS
        rw [gl, hrow]
      have h2l := R1.len
      have G2 := goN_ok ok (n + 1) fun j hj => by
        by_cases hjn : j = n
        · subst hjn; exact hn
        · exact hpre j (by omega)
      have hle2 := G2.ord.le
      refine ast_freeze 7 rfl (by rw [List.length_map]; omega) ?_
      refine ast_seq (ast_append rfl ?_)
      walk_at "go"
      refine rdn_tup ⟨_, rfl, by rw [List.length_map]; omega, ?_⟩
      refine ast_aug (a := (n : Int)) rfl ?_
      walk_at "go"
      obtain ⟨e', he'⟩ := R1.pre
      refine ⟨99 - n, by omega, n + 1, .d (lD (goRow (nb a) (goN (nb a) a.st n).1 row).2), s8, ?_, fun j hj => ?_, ?_, by omega⟩
      · rw [e, List.map_append]
        rfl
      · by_cases hjn : j = n
        · subst hjn; exact hn
        · exact hpre j (by omega)
      · rw [e]
        show n + 1 ≤ (goRow (nb a) (goN (nb a) a.st n).1 row).1.length
        rw [he', List.length_append]
        omega
  · rw [decide_eq_false (by omega)]
    refine iteF ?_
    have hne : (goN (nb a) a.st n).1.length = n := by omega
    have hsm : n = smN a := LeastRes.uniq (nb a) ⟨hne, hpre⟩ (smN_res ok)
    subst hsm
    refine ast_freeze 4 rfl (by rw [List.length_map]; omega) ?_
    refine ast_freeze 5 rfl (by rw [List.length_map]; omega) ?_
    refine ast_ret (awp_tup ?_)
    walk_at "go"
    refine rdn_tup ?_
    refine aas_cons ?_
    walk_at "go"
    refine awp_lcM (List.mem_singleton.mpr rfl) (awc_of ?_)
    walk_at "go"
    refine ⟨Nat, (goN (nb a) a.st (smN a)).1, iD, fun x => iD (a.an.getD x 0), rfl, by omega, rfl, fun x hx => ?_, ?_⟩
    · walk_at "go"
      exact rd_nD (by rw [ok.al]; exact G.ord.lt x hx) ⟨rfl, rfl⟩
    · walk_at "go"
      refine rdn_tup ?_
      walk_at "go"
      refine ⟨by simp, ?_⟩
      show PyData.tuple [_, _] = PyData.tuple [sD (goN (nb a) a.st (smN a)).2, nD ((goN (nb a) a.st (smN a)).1.map fun s => a.an.getD s 0)]
      unfold sD nD
      rw [List.map_map]
      rfl
theorem sc_least_of : FnScope ["question", "steps", "answers"] ["question"] (defScope s_least_of) := ⟨rfl, rfl, rfl, by decide +kernel, rfl, by decide +kernel, by decide +kernel⟩
theorem bd_least_of : BindF "least_of" s_least_of ["question"] := fun _ _ _ _ _ _ us hl => match us, hl with | [_], _ => rfl
abbrev sp_least_of (W : Wd) : Sp := SpD W (fun m : M => [qD m]) (fun m => m.ok) (fun m r => r = qD (small m))
theorem ok_least_of (D : Dd K mg "least_of" s_least_of) (t : Bt K mg) (h_shrunk : Ok P w K mg base 2 "shrunk" ["steps", "answers"] (sp_shrunk ⟨K, T⟩)) : Ok P w K mg base 3 "least_of" ["question"] (sp_least_of ⟨K, T⟩) := by
  refine ok_mk D sc_least_of rfl (fun _ => rfl) bd_least_of fun f cdv A outer s H E hr => ⟨_, (pss_cons (ps_asg (pe_callO h_shrunk (hr.mono (by decide)) rfl (pa_cons (pe_ix (ixT (K := K) rfl) (pv 0) pe_int (fun _ _ => rfl)) (pa_cons (pe_ix (ixT (K := K) rfl) (pv 0) pe_int (fun _ _ => rfl)) pa_nil))) (pgT (K := K) rfl rfl (pgs_cons (pg_name (i := 1) sc_least_of.nd rfl (by first | exact Or.inl rfl | exact Or.inr rfl)) (pgs_cons (pg_name (i := 2) sc_least_of.nd rfl (by first | exact Or.inl rfl | exact Or.inr rfl)) pgs_nil))))
    (pss_one (ps_ret (pe_tup (pa_cons (pe_ix (ixT (K := K) rfl) (pv 0) pe_int (fun _ _ => rfl)) (pa_cons (pv 1) (pa_cons (pv 2) pa_nil))))))), fun a hp => ?_⟩
  have ok : a.ok := hp
  refine ast_seq (ast_asg ?_)
  walk_at "go"
  refine ⟨a, rfl, ok, fun x hx => ?_⟩
  rw [show x = _ from hx]
  refine atg_tup rfl (atgs_cons (atg_name (atgs_cons (atg_name (atgs_nil ?_)))))
  refine ast_ret (awp_tup ?_)
  walk_at "go"
  exact ⟨by simp, rfl⟩
end
end TW
end

section
set_option Elab.async false
set_option linter.all false
set_option maxRecDepth 100000
set_option maxHeartbeats 4000000
namespace TW
open PySem PySem.Spec PyProof.Rows L2
local macro_rules | `(tactic| walk_at "aw") => `(tactic| first
  | with_reducible refine ast_seq ?_
  | with_reducible refine ast_ret ?_
  | with_reducible refine ast_if ?_
  | with_reducible refine ast_next ?_
  | with_reducible refine awt_t ?_
  | with_reducible refine awt_b ?_
  | with_reducible refine awt_and ?_
  | with_reducible refine awt_or ?_
  | with_reducible refine awt_not ?_
  | with_reducible refine awt_yes ?_
  | ((with_reducible apply awp_row0); exact rfl)
  | ((with_reducible apply awp_row1); exact rfl)
  | ((with_reducible apply awp_row2); exact rfl)
  | ((with_reducible apply awp_row3); exact rfl)
  | with_reducible refine awp_op ?_
  | with_reducible refine awp_and ?_
  | with_reducible refine awp_or ?_
  | with_reducible refine awp_not ?_
  | with_reducible refine awp_chain ?_
  | with_reducible refine awp_if ?_
  | with_reducible refine awp_isN ?_
  | with_reducible refine awp_notN ?_
  | with_reducible refine awp_int ?_
  | with_reducible refine awp_bl ?_
  | with_reducible refine awp_str ?_
  | with_reducible refine awp_non ?_
  | with_reducible refine awp_isiT ?_
  | with_reducible refine awp_isiI ?_
  | with_reducible refine awp_isiB ?_
  | with_reducible refine awp_isiS ?_
  | with_reducible refine awp_isiL ?_
  | with_reducible refine awp_isiTL ?_
  | with_reducible refine awp_cb ?_
  | with_reducible refine awp_call ?_
  | with_reducible refine aas_nil ?_
  | with_reducible refine aas_cons ?_
  | with_reducible refine rd_lt ?_
  | with_reducible refine rd_le ?_
  | with_reducible refine rd_gt ?_
  | with_reducible refine rd_ge ?_
  | with_reducible refine rd_add ?_
  | with_reducible refine rd_sub ?_
  | with_reducible refine rd_notB ?_
  | with_reducible refine rd_q0 ?_
  | with_reducible refine rd_q1 ?_
  | with_reducible refine rd_q2 ?_
  | with_reducible refine rd_eqN ?_
  | with_reducible refine rd_neN ?_
  | with_reducible refine rd_eqT ?_
  | with_reducible refine rd_neT ?_
  | with_reducible refine rd_eqL ?_
  | with_reducible refine rd_neL ?_
  | with_reducible refine rd_eqI ?_
  | with_reducible refine rd_neI ?_
  | with_reducible refine rdn_int ?_
  | with_reducible refine rdn_min ?_
  | with_reducible refine awp_rg ?_
  | with_reducible refine awi_rng ?_
  | with_reducible refine awi_list ?_
  | with_reducible refine awi_tup ?_
  | with_reducible refine awi_enumL ?_
  | with_reducible refine awi_enumT ?_
  | with_reducible refine awp_sl ?_
  | with_reducible refine awo_no ?_
  | with_reducible refine awo_some ?_
  | with_reducible refine ast_while ?_
  | with_reducible refine ast_for ?_
  | with_reducible refine exb ?_
  | with_reducible refine exn ?_
  | with_reducible refine exi ?_
  | with_reducible refine exl ?_
  | with_reducible refine ext ?_
  | with_reducible refine exlD ?_
  | with_reducible refine exnD ?_
  | with_reducible refine exsD ?_
  | with_reducible refine rdn_lenN ?_
  | with_reducible refine rdn_lenS ?_
  | with_reducible refine rdn_lenL ?_
  | with_reducible refine rdn_lenl ?_
  | ((with_reducible apply awp_v); exact rfl))
local macro_rules | `(tactic| walk_at "go") => `(tactic| (repeat (first
  | with_reducible refine ast_seq ?_
  | with_reducible refine ast_ret ?_
  | with_reducible refine ast_if ?_
  | with_reducible refine ast_next ?_
  | with_reducible refine awt_t ?_
  | with_reducible refine awt_b ?_
  | with_reducible refine awt_and ?_
  | with_reducible refine awt_or ?_
  | with_reducible refine awt_not ?_
  | with_reducible refine awt_yes ?_
  | ((with_reducible apply awp_row0); exact rfl)
  | ((with_reducible apply awp_row1); exact rfl)
  | ((with_reducible apply awp_row2); exact rfl)
  | ((with_reducible apply awp_row3); exact rfl)
  | with_reducible refine awp_op ?_
  | with_reducible refine awp_and ?_
  | with_reducible refine awp_or ?_
  | with_reducible refine awp_not ?_
  | with_reducible refine awp_chain ?_
  | with_reducible refine awp_if ?_
  | with_reducible refine awp_isN ?_
  | with_reducible refine awp_notN ?_
  | with_reducible refine awp_int ?_
  | with_reducible refine awp_bl ?_
  | with_reducible refine awp_str ?_
  | with_reducible refine awp_non ?_
  | with_reducible refine awp_isiT ?_
  | with_reducible refine awp_isiI ?_
  | with_reducible refine awp_isiB ?_
  | with_reducible refine awp_isiS ?_
  | with_reducible refine awp_isiL ?_
  | with_reducible refine awp_isiTL ?_
  | with_reducible refine awp_cb ?_
  | with_reducible refine awp_call ?_
  | with_reducible refine aas_nil ?_
  | with_reducible refine aas_cons ?_
  | with_reducible refine rd_lt ?_
  | with_reducible refine rd_le ?_
  | with_reducible refine rd_gt ?_
  | with_reducible refine rd_ge ?_
  | with_reducible refine rd_add ?_
  | with_reducible refine rd_sub ?_
  | with_reducible refine rd_notB ?_
  | with_reducible refine rd_q0 ?_
  | with_reducible refine rd_q1 ?_
  | with_reducible refine rd_q2 ?_
  | with_reducible refine rd_eqN ?_
  | with_reducible refine rd_neN ?_
  | with_reducible refine rd_eqT ?_
  | with_reducible refine rd_neT ?_
  | with_reducible refine rd_eqL ?_
  | with_reducible refine rd_neL ?_
  | with_reducible refine rd_eqI ?_
  | with_reducible refine rd_neI ?_
  | with_reducible refine rdn_int ?_
  | with_reducible refine rdn_min ?_
  | with_reducible refine awp_rg ?_
  | with_reducible refine awi_rng ?_
  | with_reducible refine awi_list ?_
  | with_reducible refine awi_tup ?_
  | with_reducible refine awi_enumL ?_
  | with_reducible refine awi_enumT ?_
  | with_reducible refine awp_sl ?_
  | with_reducible refine awo_no ?_
  | with_reducible refine awo_some ?_
  | with_reducible refine ast_while ?_
  | with_reducible refine ast_for ?_
  | with_reducible refine exb ?_
  | with_reducible refine exn ?_
  | with_reducible refine exi ?_
  | with_reducible refine exl ?_
  | with_reducible refine ext ?_
  | with_reducible refine exlD ?_
  | with_reducible refine exnD ?_
  | with_reducible refine exsD ?_
  | with_reducible refine rdn_lenN ?_
  | with_reducible refine rdn_lenS ?_
  | with_reducible refine rdn_lenL ?_
  | with_reducible refine rdn_lenl ?_
  | ((with_reducible apply awp_v); exact rfl))))

section
variable {P : Program} {w : World} {K : PySem.W.Frag} {mg : Str → Option Value} {base : Heap} {T : List Addr}
def cP (p : Nat × Nat) : Int × Int := ((p.1 : Int), (p.2 : Int))
theorem cP_inj {p q : Nat × Nat} (h : cP p = cP q) : p = q := by
  obtain ⟨a, b⟩ := p
  obtain ⟨c, d⟩ := q
  unfold cP at h
  injection h with h1 h2
  have h1 : (a : Int) = (c : Int) := h1
  have h1 : a = c := by omega
  have h2 : (b : Int) = (d : Int) := h2
  have h2 : b = d := by omega
  rw [h1, h2]
def kvT (ks : List (Nat × Nat)) : List ((Int × Int) × PyData) := (ks.map cP).map fun p => (p, PyData.bool true)
theorem kget_map {ks : List (Int × Int)} {n : Int × Int} : kget (ks.map fun p => (p, PyData.bool true)) n = if n ∈ ks then some (.bool true) else none := by
  induction ks with
  | nil => rfl
  | cons k ks ih =>
    rw [List.map_cons]
    unfold kget
    by_cases h : k = n
    · subst h; simp
    · rw [if_neg h, ih]
      simp [Ne.symm h]
theorem cP_mem {ks : List (Nat × Nat)} {p : Nat × Nat} : cP p ∈ ks.map cP ↔ p ∈ ks := by
  rw [List.mem_map]
  exact ⟨fun ⟨q, hq, e⟩ => cP_inj e ▸ hq, fun h => ⟨p, h, rfl⟩⟩
theorem kvT_none {ks : List (Nat × Nat)} {p : Nat × Nat} : (kget (kvT ks) (cP p)).isNone = !decide (p ∈ ks) := by
  unfold kvT
  rw [kget_map]
  by_cases h : p ∈ ks
  · rw [if_pos (cP_mem.mpr h), decide_eq_true h]; rfl
  · rw [if_neg (fun z => h (cP_mem.mp z)), decide_eq_false h]; rfl
theorem kvT_some {ks : List (Nat × Nat)} {p : Nat × Nat} : (kget (kvT ks) (cP p)).isSome = decide (p ∈ ks) := by
  unfold kvT
  rw [kget_map]
  by_cases h : p ∈ ks
  · rw [if_pos (cP_mem.mpr h), decide_eq_true h]; rfl
  · rw [if_neg (fun z => h (cP_mem.mp z)), decide_eq_false h]; rfl
structure KsOk (m : M) (ks : List (Nat × Nat)) : Prop where
  nd : ks.Nodup
  ok : ∀ p ∈ ks, p.1 < m.st.length ∧ p.2 < m.st.length ∧ ¬ Ner m p.1 p.2
def ClAt (m : M) (ks : List (Nat × Nat)) (i j : Nat) : Prop := (i, j) ∉ ks → m.an.getD i 0 = m.an.getD j 0 ∧ ∀ l, l < m.k → (stp m.st i l, stp m.st j l) ∉ ks
theorem pairs_le {n : Nat} {ks : List (Nat × Nat)} (nd : ks.Nodup) (hok : ∀ p ∈ ks, p.1 < n ∧ p.2 < n) : ks.length ≤ n * n := by
  have h1 : (ks.map fun p => p.1 * n + p.2).Nodup := by
    have hok := hok
    induction ks with
    | nil => exact List.nodup_nil
    | cons p ks ih =>
      rw [List.map_cons, List.nodup_cons]
      rw [List.nodup_cons] at nd
      refine ⟨fun hm => ?_, ih nd.2 (fun q hq => hok q (List.mem_cons_of_mem _ hq)) fun q hq => hok q (List.mem_cons_of_mem _ hq)⟩
      obtain ⟨q, hq, e⟩ := List.mem_map.mp hm
      obtain ⟨a1, a2⟩ := hok q (List.mem_cons_of_mem _ hq)
      obtain ⟨b1, b2⟩ := hok p (List.mem_cons_self ..)
      have hn : 0 < n := by omega
      have e1 : q.1 = p.1 := by
        have x1 : (q.1 * n + q.2) / n = q.1 := by rw [Nat.mul_comm, Nat.mul_add_div hn, Nat.div_eq_of_lt a2]; rfl
        have x2 : (p.1 * n + p.2) / n = p.1 := by rw [Nat.mul_comm, Nat.mul_add_div hn, Nat.div_eq_of_lt b2]; rfl
        rw [← x1, ← x2, e]
      have e2 : q.2 = p.2 := by rw [e1] at e; omega
      exact nd.1 (by rw [show p = q from Prod.ext e1.symm e2.symm]; exact hq)
  have h2 := nodup_le (n * n) _ h1 fun x hx => by
    obtain ⟨p, hp, rfl⟩ := List.mem_map.mp hx
    obtain ⟨a1, a2⟩ := hok p hp
    have : p.1 * n + n ≤ n * n := by rw [← Nat.succ_mul]; exact Nat.mul_le_mul_right _ a1
    omega
  rw [List.length_map] at h2
  exact h2
theorem KsOk.le {m : M} {ks : List (Nat × Nat)} (h : KsOk m ks) : ks.length ≤ m.st.length * m.st.length := pairs_le h.nd fun p hp => ⟨(h.ok p hp).1, (h.ok p hp).2.1⟩
theorem ks_end {m : M} (ok : StOk m.k m.st) {ks : List (Nat × Nat)} (h : KsOk m ks) (hc : ∀ i j, i < m.st.length → j < m.st.length → ClAt m ks i j) {i j : Nat} (hi : i < m.st.length) (hj : j < m.st.length) : (i, j) ∈ ks ↔ ¬ Ner m i j := by
  refine ⟨fun hm => (h.ok _ hm).2.2, fun hn => ?_⟩
  by_cases hm : (i, j) ∈ ks
  · exact hm
  · exact absurd (ner_of ok (fun i j => (i, j) ∉ ks) (fun i j hi hj h => (hc i j hi hj h).1) (fun i j l hi hj hl h => (hc i j hi hj h).2 l hl) hi hj hm) hn
theorem ks_add {m : M} {ks : List (Nat × Nat)} (h : KsOk m ks) {i j : Nat} (hi : i < m.st.length) (hj : j < m.st.length) (hm : (i, j) ∉ ks) (hd : m.an.getD i 0 ≠ m.an.getD j 0 ∨ ∃ l, l < m.k ∧ (stp m.st i l, stp m.st j l) ∈ ks) : KsOk m (ks ++ [(i, j)]) := by
  refine ⟨?_, fun p hp => ?_⟩
  · rw [List.nodup_append]
    refine ⟨h.nd, by simp, fun a ha b hb e => ?_⟩
    rw [List.mem_singleton.mp hb] at e
    exact hm (e ▸ ha)
  · rcases List.mem_append.mp hp with hp | hp
    · exact h.ok p hp
    · rw [List.mem_singleton.mp hp]
      refine ⟨hi, hj, fun hn => ?_⟩
      rcases hd with hd | ⟨l, hl, hd⟩
      · exact hd hn.out
      · exact (h.ok _ hd).2.2 (hn.step hl)
theorem sc_law_unlike : FnScope ["_law_question_here", "_law_many", "_law_found", "_law_grown", "_law_one", "_law_other", "_law_apart", "_law_letter"] ["_law_question_here"] (defScope s_law_unlike) := ⟨rfl, rfl, rfl, by decide +kernel, rfl, by decide +kernel, by decide +kernel⟩
theorem bd_law_unlike : BindF "_law_unlike" s_law_unlike ["_law_question_here"] := fun _ _ _ _ _ _ us hl => match us, hl with | [_], _ => rfl
abbrev sp_law_unlike (W : Wd) : Sp := SpD W (fun m : M => [qD m]) (fun m => m.ok) (fun m r => ∃ ks : List (Int × Int), r = dtD ks ∧ ∀ i j, i < m.st.length → j < m.st.length → (cP (i, j) ∈ ks ↔ ¬ Ner m i j))
theorem ok_law_unlike (D : Dd K mg "_law_unlike" s_law_unlike) (t : Bt K mg) : Ok P w K mg base 1 "_law_unlike" ["_law_question_here"] (sp_law_unlike ⟨K, T⟩) := by
  refine ok_mk D sc_law_unlike rfl (fun _ => rfl) bd_law_unlike fun f cdv A outer s H E hr => ⟨_, (pss_cons (ps_par3 (i := 1) (j := 2) (l := 3) (by rfl) sc_law_unlike.nd rfl rfl rfl (by decide) (by decide) (by decide) rfl rfl rfl (pa_cons (pe_callB (cLen (K := K) rfl) (by rfl) t.len (by decide +kernel) (pa_cons (pe_ix (ixT (K := K) rfl) (pv 0) pe_int (fun _ _ => rfl)) pa_nil)) (pa_cons pe_dnewT (pa_cons pe_bl pa_nil))) (by rfl))
    (pss_cons (ps_while PassesOwn.never (pt_val (pv 3)) (pss_cons (ps_asg pe_bl (pg_name (i := 3) sc_law_unlike.nd rfl (by first | exact Or.inl rfl | exact Or.inr rfl)))
    (pss_one (ps_for PassesOwn.never rfl (pi_range1 (by rfl) t.range (pa_cons (pv 1) pa_nil)) (pg_name (i := 4) sc_law_unlike.nd rfl (by first | exact Or.inl rfl | exact Or.inr rfl)) (pss_one (ps_for PassesOwn.never rfl (pi_range1 (by rfl) t.range (pa_cons (pv 1) pa_nil)) (pg_name (i := 5) sc_law_unlike.nd rfl (by first | exact Or.inl rfl | exact Or.inr rfl)) (pss_one (ps_if (pt_cmp (pc_dnotin (u1 hr) (pe_tup (pa_cons (pv 4) (pa_cons (pv 5) pa_nil))) (pv 2)) (by first | rfl | exact nobehind _ (by decide) (by decide))) (pss_cons (ps_asg (pe_cmpR (oNe (K := K) rfl (u64 hr)) (pe_ix (ixT (K := K) rfl) (pe_ix (ixT (K := K) rfl) (pv 0) pe_int (fun _ _ => rfl)) (pv 4) (fun _ _ => rfl)) (pe_ix (ixT (K := K) rfl) (pe_ix (ixT (K := K) rfl) (pv 0) pe_int (fun _ _ => rfl)) (pv 5) (fun _ _ => rfl)) (by first | rfl | exact nomark _)) (pg_name (i := 6) sc_law_unlike.nd rfl (by first | exact Or.inl rfl | exact Or.inr rfl)))
    (pss_cons (ps_for PassesOwn.never rfl (pi_range1 (by rfl) t.range (pa_cons (pe_ix (ixT (K := K) rfl) (pv 0) pe_int (fun _ _ => rfl)) pa_nil)) (pg_name (i := 7) sc_law_unlike.nd rfl (by first | exact Or.inl rfl | exact Or.inr rfl)) (pss_one (ps_asg (pe_or (pv 6) (pe_one (pe_cmp (pc_din (u1 hr) (pe_tup (pa_cons (pe_ix (ixT (K := K) rfl) (pe_ix (ixT (K := K) rfl) (pe_ix (ixT (K := K) rfl) (pv 0) pe_int (fun _ _ => rfl)) (pv 4) (fun _ _ => rfl)) (pv 7) (fun _ _ => rfl)) (pa_cons (pe_ix (ixT (K := K) rfl) (pe_ix (ixT (K := K) rfl) (pe_ix (ixT (K := K) rfl) (pv 0) pe_int (fun _ _ => rfl)) (pv 5) (fun _ _ => rfl)) (pv 7) (fun _ _ => rfl)) pa_nil))) (pv 2)) (by first | rfl | exact nobehind _ (by decide) (by decide))))) (pg_name (i := 6) sc_law_unlike.nd rfl (by first | exact Or.inl rfl | exact Or.inr rfl)))))
    (pss_one (ps_if (pt_val (pv 6)) (pss_one (ps_asg (pe_tup (pa_cons pe_bl (pa_cons pe_bl pa_nil))) (pgT (K := K) rfl rfl (pgs_cons (pg_sub (pv 2) (pe_tup (pa_cons (pv 4) (pa_cons (pv 5) pa_nil))) (pset_d (u1 hr))) (pgs_cons (pg_name (i := 3) sc_law_unlike.nd rfl (by first | exact Or.inl rfl | exact Or.inr rfl)) pgs_nil))))) pss_nil)))) pss_nil))))))))
    (pss_one (ps_ret (pv 2))))), fun a hp => ?_⟩
  have ok : a.ok := hp
  have n1 := ok.n1
  have n8 := ok.n8
  have k3 := ok.k3
  have al := ok.al
  refine ast_seq (ast_par3 (aax_cons (awx_of ?_)))
  walk_at "go"
  refine aax_cons (awx_dt0 (aax_cons (awx_of (awp_bl (aax_nil ⟨_, _, _, rfl, ?_⟩)))))
  refine ast_seq (ast_while ⟨fun d Γ => ∃ (ks : List (Nat × Nat)) (g : Bool) (s4 s5 s6 s7 : SV), Γ = [.d (qD a), .d (iD a.st.length), .o (.dt (kvT ks)), .d (.bool g), s4, s5, s6, s7] ∧ KsOk a ks ∧ (g = false → ∀ i j, i < a.st.length → j < a.st.length → ClAt a ks i j) ∧
    d + 2 * ks.length = 2 * (a.st.length * a.st.length) + (if g = true then 1 else 0), ⟨2 * (a.st.length * a.st.length) + 1, [], true, _, _, _, _, rfl, ⟨List.nodup_nil, fun p hp => by simp at hp⟩, fun h => (by cases h), rfl⟩, fun d Γ hΓ => ?_⟩)
  obtain ⟨ks0, g, s4, s5, s6, s7, rfl, hK0, hg0, hd⟩ := hΓ
  have hk0 := hK0.le
  have n64 : a.st.length * a.st.length ≤ 8 * 8 := Nat.mul_le_mul n8 n8
  walk_at "go"
  cases g with
  | false =>
    refine iteF ?_
    refine ast_freezeT 2 rfl ?_
    walk_at "go"
    exact ⟨_, rfl, fun i j hi hj => by rw [cP_mem]; exact ks_end ok.stOk hK0 (hg0 rfl) hi hj⟩
  | true =>
    refine iteT ?_
    refine ast_seq (ast_set ?_)
    walk_at "go"
    refine ⟨by omega, fun i Γ => ∃ (ks : List (Nat × Nat)) (g : Bool) (s4 s5 s6 s7 : SV), Γ = [.d (qD a), .d (iD a.st.length), .o (.dt (kvT ks)), .d (.bool g), s4, s5, s6, s7] ∧ KsOk a ks ∧
      ((g = true ∧ ks0.length < ks.length) ∨ (g = false ∧ ks = ks0 ∧ ∀ i', i' < i → ∀ j, j < a.st.length → ClAt a ks0 i' j)), ⟨ks0, false, _, _, _, _, rfl, hK0, .inr ⟨rfl, rfl, fun i' h => absurd h (Nat.not_lt_zero _)⟩⟩, fun i x Γ hx hΓ => ?_, fun Γ hΓ => ?_⟩
    · obtain ⟨ks1, g1, s4, s5, s6, s7, rfl, hK1, hc1⟩ := hΓ
      obtain ⟨hi, rfl⟩ := rangeD_get hx
      refine atg_name ?_
      walk_at "go"
      refine ⟨by omega, fun j Γ => ∃ (ks : List (Nat × Nat)) (g : Bool) (s5 s6 s7 : SV), Γ = [.d (qD a), .d (iD a.st.length), .o (.dt (kvT ks)), .d (.bool g), .d (iD i), s5, s6, s7] ∧ KsOk a ks ∧
        ((g = true ∧ ks0.length < ks.length) ∨ (g = false ∧ ks = ks0 ∧ (∀ i', i' < i → ∀ j, j < a.st.length → ClAt a ks0 i' j) ∧ ∀ j', j' < j → ClAt a ks0 i j')), ⟨ks1, g1, _, _, _, rfl, hK1, ?_⟩, fun j x Γ hx hΓ => ?_, fun Γ hΓ => ?_⟩
      · rcases hc1 with h | ⟨h1, h2, h3⟩
        · exact .inl h
        · exact .inr ⟨h1, h2, h3, fun j' h => absurd h (Nat.not_lt_zero _)⟩
      · obtain ⟨ks, g, s5, s6, s7, rfl, hK, hc⟩ := hΓ
        obtain ⟨hj, rfl⟩ := rangeD_get hx
        have hkl := hK.le
        refine atg_name ?_
        refine ast_if (awt_b (awp_dninT (awp_tupK ?_)))
        walk_at "go"
        refine ⟨cP (i, j), rfl, cP (i, j), kvT ks, rfl, rfl, exb ?_⟩
        rw [kvT_none]
        by_cases hm : (i, j) ∈ ks
        · rw [decide_eq_true hm]
          refine iteF (ast_next ?_)
          refine ⟨ks, g, _, _, _, rfl, hK, ?_⟩
          rcases hc with h | ⟨h1, h2, h3, h4⟩
          · exact .inl h
          · refine .inr ⟨h1, h2, h3, fun j' h => ?_⟩
            by_cases e : j' = j
            · subst e; exact fun z => absurd (h2 ▸ hm) z
            · exact h4 j' (by omega)
        · rw [decide_eq_false hm]
          refine iteT ?_
          refine ast_seq (ast_set ?_)
          walk_at "go"
          refine rd_nD (by rw [al]; exact hi) ?_
          walk_at "go"
          refine rd_nD (by rw [al]; exact hj) ?_
          refine rd_neN ?_
          refine ast_seq ?_
          walk_at "go"
          refine ⟨by omega, fun l Γ => ∃ (b : Bool) (s7 : SV), Γ = [.d (qD a), .d (iD a.st.length), .o (.dt (kvT ks)), .d (.bool g), .d (iD i), .d (iD j), .d (.bool b), s7] ∧ (b = true ↔ (a.an.getD i 0 ≠ a.an.getD j 0 ∨ ∃ l', l' < l ∧ (stp a.st i l', stp a.st j l') ∈ ks)), ⟨_, _, rfl, by simp⟩, fun l x Γ hx hΓ => ?_, fun Γ hΓ => ?_⟩
          · obtain ⟨b, s7, rfl, hb⟩ := hΓ
            obtain ⟨hl, rfl⟩ := rangeD_get hx
            refine atg_name ?_
            refine ast_set ?_
            walk_at "go"
            cases b with
            | true =>
              refine iteT ⟨true, _, rfl, ?_⟩
              refine ⟨fun _ => ?_, fun _ => rfl⟩
              rcases hb.mp rfl with h | ⟨l', h1, h2⟩
              · exact .inl h
              · exact .inr ⟨l', by omega, h2⟩
            | false =>
              refine iteF (awp_dinT (awp_tupK ?_))
              walk_at "go"
              refine rd_sD hi ?_
              walk_at "go"
              refine rd_nD (by rw [ok.stOk.row hi]; exact hl) ?_
              walk_at "go"
              refine rd_sD hj ?_
              walk_at "go"
              refine rd_nD (by rw [ok.stOk.row hj]; exact hl) ?_
              walk_at "go"
              refine ⟨cP (stp a.st i l, stp a.st j l), rfl, cP (stp a.st i l, stp a.st j l), kvT ks, rfl, rfl, ?_⟩
              rw [kvT_some]
              refine ⟨_, _, rfl, ?_⟩
              rw [decide_eq_true_iff]
              refine ⟨fun h => .inr ⟨l, by omega, h⟩, fun h => ?_⟩
              rcases h with h | ⟨l', h1, h2⟩
              · exact absurd (hb.mpr (.inl h)) Bool.false_ne_true
              · by_cases e : l' = l
                · subst e; exact h2
                · exact absurd (hb.mpr (.inr ⟨l', by omega, h2⟩)) Bool.false_ne_true
          · obtain ⟨b, s7, rfl, hb⟩ := hΓ
            rw [rangeD_len] at hb
            walk_at "go"
            cases b with
            | true =>
              refine iteT ?_
              refine ast_asg (awp_tup ?_)
              walk_at "go"
              refine ⟨by simp, atg_tup rfl (atgs_cons (atg_subT rfl (awp_tupK ?_)))⟩
              walk_at "go"
              have hn : kget (kvT ks) (cP (i, j)) = none := by
                have := kvT_none (ks := ks) (p := (i, j))
                rw [decide_eq_false hm] at this
                cases h : kget (kvT ks) (cP (i, j)) with
                | none => rfl
                | some v => rw [h] at this; cases this
              have hlk : (kvT ks).length = ks.length := by unfold kvT; rw [List.length_map, List.length_map]
              refine ⟨cP (i, j), rfl, cP (i, j), kvT ks, rfl, rfl, by omega, hn, atgs_cons (atg_name (atgs_nil ?_))⟩
              refine ⟨ks ++ [(i, j)], true, .d (iD j), .d (.bool true), s7, ?_, ks_add hK hi hj hm (hb.mp rfl), .inl ⟨rfl, ?_⟩⟩
              · unfold kvT
                rw [List.map_append, List.map_append]
                rfl
              · rw [List.length_append, List.length_singleton]
                rcases hc with ⟨_, h⟩ | ⟨_, h2, _⟩
                · omega
                · rw [h2]; omega
            | false =>
              refine iteF (ast_next ?_)
              refine ⟨ks, g, _, _, _, rfl, hK, ?_⟩
              rcases hc with h | ⟨h1, h2, h3, h4⟩
              · exact .inl h
              · refine .inr ⟨h1, h2, h3, fun j' h => ?_⟩
                by_cases e : j' = j
                · subst e
                  intro _
                  subst h2
                  refine ⟨?_, fun l hl hin => Bool.false_ne_true (hb.mpr (.inr ⟨l, hl, hin⟩))⟩
                  by_cases he : a.an.getD i 0 = a.an.getD j' 0
                  · exact he
                  · exact absurd (hb.mpr (.inl he)) Bool.false_ne_true
                · exact h4 j' (by omega)
      · obtain ⟨ks, g, s5, s6, s7, rfl, hK, hc⟩ := hΓ
        rw [rangeD_len] at hc
        refine ⟨ks, g, _, _, _, _, rfl, hK, ?_⟩
        rcases hc with h | ⟨h1, h2, h3, h4⟩
        · exact .inl h
        · refine .inr ⟨h1, h2, fun i' h => ?_⟩
          by_cases e : i' = i
          · subst e; exact h4
          · exact h3 i' (by omega)
    · obtain ⟨ks, g, s4, s5, s6, s7, rfl, hK, hc⟩ := hΓ
      rw [rangeD_len] at hc
      have hkl := hK.le
      rw [if_pos rfl] at hd
      rcases hc with ⟨h1, h2⟩ | ⟨h1, h2, h3⟩
      · exact ⟨2 * (a.st.length * a.st.length) + 1 - 2 * ks.length, by omega, ks, g, _, _, _, _, rfl, hK, fun h => (by rw [h1] at h; cases h), by rw [h1, if_pos rfl]; omega⟩
      · subst h2
        exact ⟨2 * (a.st.length * a.st.length) - 2 * ks.length, by omega, ks, g, _, _, _, _, rfl, hK, fun _ i j hi hj => h3 i hi j hj, by rw [h1, if_neg Bool.false_ne_true]; omega⟩
end
end TW
end

section
set_option Elab.async false
set_option linter.all false
set_option maxRecDepth 100000
set_option maxHeartbeats 4000000
namespace TW
open PySem PySem.Spec PyProof.Rows L2
local macro_rules | `(tactic| walk_at "aw") => `(tactic| first
  | with_reducible refine ast_seq ?_
  | with_reducible refine ast_ret ?_
  | with_reducible refine ast_if ?_
  | with_reducible refine ast_next ?_
  | with_reducible refine awt_t ?_
  | with_reducible refine awt_b ?_
  | with_reducible refine awt_and ?_
  | with_reducible refine awt_or ?_
  | with_reducible refine awt_not ?_
  | with_reducible refine awt_yes ?_
  | ((with_reducible apply awp_row0); exact rfl)
  | ((with_reducible apply awp_row1); exact rfl)
  | ((with_reducible apply awp_row2); exact rfl)
  | ((with_reducible apply awp_row3); exact rfl)
  | with_reducible refine awp_op ?_
  | with_reducible refine awp_and ?_
  | with_reducible refine awp_or ?_
  | with_reducible refine awp_not ?_
  | with_reducible refine awp_chain ?_
  | with_reducible refine awp_if ?_
  | with_reducible refine awp_isN ?_
  | with_reducible refine awp_notN ?_
  | with_reducible refine awp_int ?_
  | with_reducible refine awp_bl ?_
  | with_reducible refine awp_str ?_
  | with_reducible refine awp_non ?_
  | with_reducible refine awp_isiT ?_
  | with_reducible refine awp_isiI ?_
  | with_reducible refine awp_isiB ?_
  | with_reducible refine awp_isiS ?_
  | with_reducible refine awp_isiL ?_
  | with_reducible refine awp_isiTL ?_
  | with_reducible refine awp_cb ?_
  | with_reducible refine awp_call ?_
  | with_reducible refine aas_nil ?_
  | with_reducible refine aas_cons ?_
  | with_reducible refine rd_lt ?_
  | with_reducible refine rd_le ?_
  | with_reducible refine rd_gt ?_
  | with_reducible refine rd_ge ?_
  | with_reducible refine rd_add ?_
  | with_reducible refine rd_sub ?_
  | with_reducible refine rd_notB ?_
  | with_reducible refine rd_q0 ?_
  | with_reducible refine rd_q1 ?_
  | with_reducible refine rd_q2 ?_
  | with_reducible refine rd_eqN ?_
  | with_reducible refine rd_neN ?_
  | with_reducible refine rd_eqT ?_
  | with_reducible refine rd_neT ?_
  | with_reducible refine rd_eqL ?_
  | with_reducible refine rd_neL ?_
  | with_reducible refine rd_eqI ?_
  | with_reducible refine rd_neI ?_
  | with_reducible refine rdn_int ?_
  | with_reducible refine rdn_min ?_
  | with_reducible refine awp_rg ?_
  | with_reducible refine awi_rng ?_
  | with_reducible refine awi_list ?_
  | with_reducible refine awi_tup ?_
  | with_reducible refine awi_enumL ?_
  | with_reducible refine awi_enumT ?_
  | with_reducible refine awp_sl ?_
  | with_reducible refine awo_no ?_
  | with_reducible refine awo_some ?_
  | with_reducible refine ast_while ?_
  | with_reducible refine ast_for ?_
  | with_reducible refine exb ?_
  | with_reducible refine exn ?_
  | with_reducible refine exi ?_
  | with_reducible refine exl ?_
  | with_reducible refine ext ?_
  | with_reducible refine exlD ?_
  | with_reducible refine exnD ?_
  | with_reducible refine exsD ?_
  | with_reducible refine rdn_lenN ?_
  | with_reducible refine rdn_lenS ?_
  | with_reducible refine rdn_lenL ?_
  | with_reducible refine rdn_lenl ?_
  | ((with_reducible apply awp_v); exact rfl))
local macro_rules | `(tactic| walk_at "go") => `(tactic| (repeat (first
  | with_reducible refine ast_seq ?_
  | with_reducible refine ast_ret ?_
  | with_reducible refine ast_if ?_
  | with_reducible refine ast_next ?_
  | with_reducible refine awt_t ?_
  | with_reducible refine awt_b ?_
  | with_reducible refine awt_and ?_
  | with_reducible refine awt_or ?_
  | with_reducible refine awt_not ?_
  | with_reducible refine awt_yes ?_
  | ((with_reducible apply awp_row0); exact rfl)
  | ((with_reducible apply awp_row1); exact rfl)
  | ((with_reducible apply awp_row2); exact rfl)
  | ((with_reducible apply awp_row3); exact rfl)
  | with_reducible refine awp_op ?_
  | with_reducible refine awp_and ?_
  | with_reducible refine awp_or ?_
  | with_reducible refine awp_not ?_
  | with_reducible refine awp_chain ?_
  | with_reducible refine awp_if ?_
  | with_reducible refine awp_isN ?_
  | with_reducible refine awp_notN ?_
  | with_reducible refine awp_int ?_
  | with_reducible refine awp_bl ?_
  | with_reducible refine awp_str ?_
  | with_reducible refine awp_non ?_
  | with_reducible refine awp_isiT ?_
  | with_reducible refine awp_isiI ?_
  | with_reducible refine awp_isiB ?_
  | with_reducible refine awp_isiS ?_
  | with_reducible refine awp_isiL ?_
  | with_reducible refine awp_isiTL ?_
  | with_reducible refine awp_cb ?_
  | with_reducible refine awp_call ?_
  | with_reducible refine aas_nil ?_
  | with_reducible refine aas_cons ?_
  | with_reducible refine rd_lt ?_
  | with_reducible refine rd_le ?_
  | with_reducible refine rd_gt ?_
  | with_reducible refine rd_ge ?_
  | with_reducible refine rd_add ?_
  | with_reducible refine rd_sub ?_
  | with_reducible refine rd_notB ?_
  | with_reducible refine rd_q0 ?_
  | with_reducible refine rd_q1 ?_
  | with_reducible refine rd_q2 ?_
  | with_reducible refine rd_eqN ?_
  | with_reducible refine rd_neN ?_
  | with_reducible refine rd_eqT ?_
  | with_reducible refine rd_neT ?_
  | with_reducible refine rd_eqL ?_
  | with_reducible refine rd_neL ?_
  | with_reducible refine rd_eqI ?_
  | with_reducible refine rd_neI ?_
  | with_reducible refine rdn_int ?_
  | with_reducible refine rdn_min ?_
  | with_reducible refine awp_rg ?_
  | with_reducible refine awi_rng ?_
  | with_reducible refine awi_list ?_
  | with_reducible refine awi_tup ?_
  | with_reducible refine awi_enumL ?_
  | with_reducible refine awi_enumT ?_
  | with_reducible refine awp_sl ?_
  | with_reducible refine awo_no ?_
  | with_reducible refine awo_some ?_
  | with_reducible refine ast_while ?_
  | with_reducible refine ast_for ?_
  | with_reducible refine exb ?_
  | with_reducible refine exn ?_
  | with_reducible refine exi ?_
  | with_reducible refine exl ?_
  | with_reducible refine ext ?_
  | with_reducible refine exlD ?_
  | with_reducible refine exnD ?_
  | with_reducible refine exsD ?_
  | with_reducible refine rdn_lenN ?_
  | with_reducible refine rdn_lenS ?_
  | with_reducible refine rdn_lenL ?_
  | with_reducible refine rdn_lenl ?_
  | ((with_reducible apply awp_v); exact rfl))))

section
variable {P : Program} {w : World} {K : PySem.W.Frag} {mg : Str → Option Value} {base : Heap} {T : List Addr}
def un1 : PyData → Nat
  | .int i => i.toNat
  | _ => 0
theorem un1_iD (n : Nat) : un1 (iD n) = n := rfl
theorem filt_map {p : Nat → Bool} {o : List Nat} : (o.map iD).filter (fun x => p (un1 x)) = (o.filter p).map iD := by
  induction o with
  | nil => rfl
  | cons x o ih =>
    rw [List.map_cons, List.filter_cons, List.filter_cons, ih]
    show (if p x = true then _ else _) = _
    split <;> rfl
theorem head_filt {p : Nat → Bool} : ∀ {o : List Nat}, o.any p = true → (o.filter p).getD 0 0 = o.getD (o.findIdx p) 0 ∧ o.filter p ≠ []
  | [], h => by cases h
  | x :: o, h => by
    by_cases hx : p x = true
    · rw [List.filter_cons, if_pos hx, List.findIdx_cons, hx]
      exact ⟨rfl, fun z => by cases z⟩
    · have hx' : p x = false := by simpa using hx
      rw [List.any_cons, hx', Bool.false_or] at h
      rw [List.filter_cons, if_neg hx, List.findIdx_cons, hx']
      exact head_filt h
theorem filt_none {p : Nat → Bool} : ∀ {o : List Nat}, o.any p = false → o.filter p = []
  | [], _ => rfl
  | x :: o, h => by
    rw [List.any_cons] at h
    have h1 : p x = false := by cases hx : p x with
      | true => rw [hx] at h; cases h
      | false => rfl
    rw [h1, Bool.false_or] at h
    rw [List.filter_cons, h1]
    exact filt_none h
theorem idx_ord {m : M} {o : List Nat} (h : OrdOk m o) {i : Nat} (hi : i < o.length) : o.idxOf (o.getD i 0) = i := by
  have hm : o.getD i 0 ∈ o := getD_mem hi
  have hlt := List.idxOf_lt_length_of_mem hm
  have hx : o[o.idxOf (o.getD i 0)] = o.getD i 0 := List.getElem_idxOf hlt
  refine h.ne _ _ hlt hi ?_
  have e : o.getD (o.idxOf (o.getD i 0)) 0 = o[o.idxOf (o.getD i 0)] := by rw [List.getD_eq_getElem?_getD, List.getElem?_eq_getElem hlt]; rfl
  rw [e, hx]
  exact .refl
theorem sc_law_least : FnScope ["_law_question_here", "_law_apart", "_law_order", "_law_steps", "_law_at", "_law_state", "_law_after", "_law_like", "_law_one"] ["_law_question_here"] (defScope s_law_least) := ⟨rfl, rfl, rfl, by decide +kernel, rfl, by decide +kernel, by decide +kernel⟩
theorem bd_law_least : BindF "_law_least" s_law_least ["_law_question_here"] := fun _ _ _ _ _ _ us hl => match us, hl with | [_], _ => rfl
abbrev sp_law_least (W : Wd) : Sp := SpD W (fun m : M => [qD m]) (fun m => m.ok) (fun m r => r = qD (small m))
theorem ok_law_least (D : Dd K mg "_law_least" s_law_least) (t : Bt K mg) (h_law_unlike : Ok P w K mg base 1 "_law_unlike" ["_law_question_here"] (sp_law_unlike ⟨K, T⟩)) : Ok P w K mg base 2 "_law_least" ["_law_question_here"] (sp_law_least ⟨K, T⟩) := by
  refine ok_mk D sc_law_least rfl (fun _ => rfl) bd_law_least fun f cdv A outer s H E hr => ⟨_, (pss_cons (ps_asg (pe_tup (pa_cons (pe_callO h_law_unlike (hr.mono (by decide)) rfl (pa_cons (pv 0) pa_nil)) (pa_cons (pe_lst (pa_cons pe_int pa_nil)) (pa_cons (pe_lst pa_nil) pa_nil)))) (pgT (K := K) rfl rfl (pgs_cons (pg_name (i := 1) sc_law_least.nd rfl (by first | exact Or.inl rfl | exact Or.inr rfl)) (pgs_cons (pg_name (i := 2) sc_law_least.nd rfl (by first | exact Or.inl rfl | exact Or.inr rfl)) (pgs_cons (pg_name (i := 3) sc_law_least.nd rfl (by first | exact Or.inl rfl | exact Or.inr rfl)) pgs_nil)))))
    (pss_cons (ps_asg pe_int (pg_name (i := 4) sc_law_least.nd rfl (by first | exact Or.inl rfl | exact Or.inr rfl)))
    (pss_cons (ps_while PassesOwn.never (pt_cmpR op_lt (pv 4) (pe_callB (cLen (K := K) rfl) (by rfl) t.len (by decide +kernel) (pa_cons (pv 2) pa_nil)) (by first | rfl | exact nomark _)) (pss_cons (ps_asg (pe_lst pa_nil) (pg_name (i := 5) sc_law_least.nd rfl (by first | exact Or.inl rfl | exact Or.inr rfl)))
    (pss_cons (ps_for PassesOwn.never rfl (piT (K := K) rfl (pe_ix (ixT (K := K) rfl) (pe_ix (ixT (K := K) rfl) (pv 0) pe_int (fun _ _ => rfl)) (pe_ix (ixL (K := K) rfl) (pv 2) (pv 4) (fun _ _ => rfl)) (fun _ _ => rfl))) (pg_name (i := 6) sc_law_least.nd rfl (by first | exact Or.inl rfl | exact Or.inr rfl)) (pss_cons (ps_setLc (i := 7) (own := [("_law_one", 8)]) (g := gName 8) rfl sc_law_least.nd rfl rfl (sw_true rfl rfl rfl (by decide +kernel)) (piL (K := K) rfl (pv 2)) (blkOk_by (by rfl)) (fun _ _ _ _ _ => pg_name (i := 8) sc_law_least.nd rfl (by first | exact Or.inl rfl | exact Or.inr rfl)) (fun _ _ _ _ _ => (pts_one (pt_cmp (pc_dnotin (u1 hr) (pe_tup (pa_cons (pv 8) (pa_cons (pv 6) pa_nil))) (pv 1)) (by first | rfl | exact nobehind _ (by decide) (by decide))))) (fun _ _ _ _ _ => (pv 8)))
    (pss_cons (ps_if (pt_cmpR (oEq (K := K) rfl (u64 hr)) (pv 7) (pe_lst pa_nil) (by first | rfl | exact nomark _)) (pss_cons (ps_expr (pBm (K := K) rfl PySem.F.plainAttrs_list PySem.F.slot_list_append PySem.F.type_list_append mt_append (pv 2) (pa_cons (pv 6) pa_nil)))
    (pss_one (ps_asg (pe_lst (pa_cons (pv 6) pa_nil)) (pg_name (i := 7) sc_law_least.nd rfl (by first | exact Or.inl rfl | exact Or.inr rfl))))) pss_nil)
    (pss_one (ps_expr (pBm (K := K) rfl PySem.F.plainAttrs_list PySem.F.slot_list_append PySem.F.type_list_append mt_append (pv 5) (pa_cons (pBm (K := K) rfl PySem.F.plainAttrs_list PySem.F.slot_list_index PySem.F.type_list_index (mIndexD (K := K) rfl (u65 hr)) (pv 2) (pa_cons (pe_ix (ixL (K := K) rfl) (pv 7) pe_int (fun _ _ => rfl)) pa_nil)) pa_nil)))))))
    (pss_cons (ps_expr (pBm (K := K) rfl PySem.F.plainAttrs_list PySem.F.slot_list_append PySem.F.type_list_append mt_append (pv 3) (pa_cons (pe_callTy (cTup (K := K) rfl) (by rfl) t.tuple (by decide +kernel) (pa_cons (pv 5) pa_nil)) pa_nil)))
    (pss_one (ps_asg (pe_op op_add (pv 4) pe_int) (pg_name (i := 4) sc_law_least.nd rfl (by first | exact Or.inl rfl | exact Or.inr rfl))))))))
    (pss_one (ps_ret (pe_tup (pa_cons (pe_ix (ixT (K := K) rfl) (pv 0) pe_int (fun _ _ => rfl)) (pa_cons (pe_callTy (cTup (K := K) rfl) (by rfl) t.tuple (by decide +kernel) (pa_cons (pv 3) pa_nil)) (pa_cons (pe_callTy (cTup (K := K) rfl) (by rfl) t.tuple (by decide +kernel) (pa_cons (pe_lc (own := [("_law_state", 5)]) (g := gName 5) rfl sc_law_least.nd (piL (K := K) rfl (pv 2)) (blkOk_by (by rfl)) (fun _ _ _ _ _ => pg_name (i := 5) sc_law_least.nd rfl (by first | exact Or.inl rfl | exact Or.inr rfl)) (fun _ _ _ _ _ => pts_nil) (fun _ _ _ _ _ => (pe_ix (ixT (K := K) rfl) (pe_ix (ixT (K := K) rfl) (pv 0) pe_int (fun _ _ => rfl)) (pv 5) (fun _ _ => rfl)))) pa_nil)) pa_nil))))))))), fun a hp => ?_⟩
  have ok : a.ok := hp
  have n1 := ok.n1
  have n8 := ok.n8
  have k3 := ok.k3
  refine ast_seq (ast_tupx [1, 2, 3] rfl ?_)
  refine aax_cons (awx_of ?_)
  walk_at "go"
  refine ⟨a, rfl, ok, fun x hx => ?_⟩
  obtain ⟨ks, rfl, hks⟩ := hx
  have hnb : ∀ x y, x < a.st.length → y < a.st.length → (!decide (cP (x, y) ∈ ks)) = nb a x y := fun x y hx hy => by
    by_cases h : cP (x, y) ∈ ks
    · rw [decide_eq_true h]
      exact (Bool.eq_false_iff.mpr fun z => (hks x y hx hy).mp h (nb_iff.mp z)).symm
    · rw [decide_eq_false h]
      refine (nb_iff.mpr ?_).symm
      refine Classical.byContradiction fun hn => h ((hks x y hx hy).mpr hn)
  refine aax_cons (awx_lst ?_)
  walk_at "go"
  refine ⟨by decide, aax_cons (awx_lst (aas_nil ⟨by decide, aax_nil ⟨rfl, by show 3 ≤ 1000; decide, ?_⟩⟩))⟩
  refine ast_seq (ast_set ?_)
  walk_at "aw"
  refine ast_seq (ast_while ⟨fun d Γ => ∃ (n : Nat) (s5 s6 s7 : SV), Γ = [.d (qD a), .d (dtD ks), .o (.lst ((goN (nb a) a.st n).1.map iD)), .o (.lst ((goN (nb a) a.st n).2.map nD)), .d (iD n), s5, s6, s7, .un] ∧
    (∀ j, j < n → j < (goN (nb a) a.st j).1.length) ∧ n ≤ (goN (nb a) a.st n).1.length ∧ d + n = 100 ∧ s5.no = true, ⟨100, 0, _, _, _, rfl, fun j hj => absurd hj (Nat.not_lt_zero _), Nat.zero_le _, rfl, rfl⟩, fun d Γ hΓ => ?_⟩)
  obtain ⟨n, s5, s6, s7, rfl, hpre, hnle, hd, h5⟩ := hΓ
  have G := goN_ok ok n hpre
  have hol := G.ord.le
  have hrl := G.len
  have gl := goN_len (nb a) a.st n
  refine awt_t ?_
  walk_at "aw"
  walk_at "aw"
  refine awp_view (i := 2) rfl (by rw [List.length_map]; omega) ?_
  walk_at "go"
  refine ⟨rfl, ?_⟩
  walk_at "go"
  rw [List.length_map]
  by_cases hn : n < (goN (nb a) a.st n).1.length
  · rw [decide_eq_true (by omega)]
    refine iteT ?_
    refine ast_seq (ast_setX (awx_lst (aas_nil ⟨by decide, ?_⟩)))
    have hs : (goN (nb a) a.st n).1.getD n 0 < a.st.length := G.ord.lt _ (getD_mem hn)
    have rl := ok.stOk.row hs
    generalize hrow : a.st.getD ((goN (nb a) a.st n).1.getD n 0) [] = row at rl
    have hrow' : ∀ x ∈ row, x < a.st.length := by rw [← hrow]; exact ok.rs _ (getD_mem hs)
    refine ast_seq (ast_for ?_)
    refine awi_tup ?_
    walk_at "aw"
    walk_at "aw"
    walk_at "aw"
    walk_at "aw"
    walk_at "aw"
    refine awp_view (i := 2) rfl (by rw [List.length_map]; omega) ?_
    walk_at "go"
    refine rd_ixL (x := iD ((goN (nb a) a.st n).1.getD n 0)) (by omega) (by simpa using nD_get hn) ⟨rfl, ?_⟩
    refine rd_sD hs ?_
    rw [hrow]
    walk_at "go"
    have RO : ∀ i, RowOk a (goN (nb a) a.st n).1 (row.take i) (goRow (nb a) (goN (nb a) a.st n).1 (row.take i)) := fun i => goRow_ok G.ord (row.take i) fun x hx => hrow' x (List.mem_of_mem_take hx)
    refine ⟨fun i Γ => ∃ (s6 s7 : SV), Γ = [.d (qD a), .d (dtD ks), .o (.lst ((goRow (nb a) (goN (nb a) a.st n).1 (row.take i)).1.map iD)), .o (.lst ((goN (nb a) a.st n).2.map nD)), .d (iD n),
      .o (.lst ((goRow (nb a) (goN (nb a) a.st n).1 (row.take i)).2.map iD)), s6, s7, .un], ⟨_, _, rfl⟩, fun i x Γ hx hΓ => ?_, fun Γ hΓ => ?_⟩
    · obtain ⟨s6, s7, rfl⟩ := hΓ
      obtain ⟨y, hy, hym, rfl⟩ := mapN_get hx
      have hyl := hrow' y hym
      have R0 := RO i
      have h0l := R0.ord.le
      dsimp only
      rw [goRow_take hy]
      have h2l : (goRow (nb a) (goN (nb a) a.st n).1 (row.take i)).2.length ≤ row.length := by rw [R0.len, List.length_take]; omega
      generalize goRow (nb a) (goN (nb a) a.st n).1 (row.take i) = q at R0 h0l h2l ⊢
      refine atg_name ?_
      have A := addO_ok R0.ord hyl
      -- the number of y in the order o, where like[0] is told
      have app : ∀ (o lk : List Nat) {nx bk ct : List SV → Prop} {rt : List SV → PyData → Prop}, OrdOk a o → o.findIdx (fun x => nb a x y) < o.length → lk ≠ [] → lk.getD 0 0 = o.getD (o.findIdx fun x => nb a x y) 0 →
          nx [.d (qD a), .d (dtD ks), .o (.lst (o.map iD)), .o (.lst ((goN (nb a) a.st n).2.map nD)), .d (iD n), .o (.lst ((q.2 ++ [o.findIdx fun x => nb a x y]).map iD)), .d (iD y), .d (lD lk), .un] →
          ASt ⟨K, T⟩ (tDrop (tBM K "list" rAppend (tVar 5) (tCons (tBM K "list" (rIndexD K) (tVar 2) (tCons (tOp (rIxL K) (tVar 7) (tC (.int 0))) tNil)) tNil)))
          [.d (qD a), .d (dtD ks), .o (.lst (o.map iD)), .o (.lst ((goN (nb a) a.st n).2.map nD)), .d (iD n), .o (.lst (q.2.map iD)), .d (iD y), .d (lD lk), .un] nx rt bk ct := by
        intro o lk nx bk ct rt ho hf hne hlk k
        have hole := ho.le
        refine ast_append rfl (awp_view (i := 2) rfl (by rw [List.length_map]; omega) ?_)
        refine awp_ixG (f := iD) (fun _ _ => eqv_iD) (fun _ => rfl) (fun _ => shaped_lD) ?_
        walk_at "go"
        refine ⟨o, rfl, ?_⟩
        walk_at "go"
        have hpos : 0 < lk.length := List.length_pos_iff.mpr hne
        refine rd_lD (i := 0) hpos ?_
        rw [hlk]
        refine ⟨o.getD (o.findIdx fun x => nb a x y) 0, rfl, getD_mem hf, rfl, _, rfl, by rw [List.length_map]; omega, ?_⟩
        have e : @List.idxOf Nat instBEqOfDecidableEq (o.getD (o.findIdx fun x => nb a x y) 0) o = o.findIdx fun x => nb a x y := idx_ord ho hf
        rw [e]
        rw [List.map_append] at k
        exact k
      refine ast_seq (ast_set ?_)
      refine awp_lcT (List.mem_singleton.mpr rfl) (awc_own rfl ⟨by rw [List.length_map]; omega, rfl, by show 8 < 9; decide, fun x => nb a (un1 x) y, fun j x hx => ?_, ?_⟩)
      · obtain ⟨z, _, hz, rfl⟩ := mapN_get hx
        refine awt_b (awp_dninD (awp_tupK ?_))
        walk_at "go"
        refine ⟨cP (z, y), rfl, cP (z, y), ks, rfl, rfl, exb ⟨rfl, ?_⟩⟩
        rw [hnb z y (R0.ord.lt z hz) hyl]
        rfl
      · have e1 : (q.1.map iD).filter (fun x => nb a (un1 x) y) = (q.1.filter fun x => nb a x y).map iD := filt_map (p := fun x => nb a x y)
        rw [e1]
        refine ast_seq (ast_if ?_)
        walk_at "aw"
        walk_at "aw"
        walk_at "aw"
        refine awp_lst (aas_nil ⟨by decide, ?_⟩)
        refine rd_eqL (i := q.1.filter fun x => nb a x y) (j := []) (exb ?_)
        cases hany : q.1.any (fun x => nb a x y) with
        | true =>
          obtain ⟨hh, hne⟩ := head_filt hany
          rw [decide_eq_false hne]
          refine iteF (ast_next ?_)
          have e : addO (nb a) q.1 y = q.1 := by unfold addO; rw [if_pos hany]
          rw [e] at A
          have er : rowS (nb a) q y = (q.1, q.2 ++ [q.1.findIdx fun x => nb a x y]) := by unfold rowS; rw [e]
          rw [er]
          exact app q.1 _ R0.ord A.2.1 hne hh ⟨_, _, rfl⟩
        | false =>
          rw [decide_eq_true (filt_none hany)]
          refine iteT ?_
          have e : addO (nb a) q.1 y = q.1 ++ [y] := by unfold addO; rw [if_neg (by rw [hany]; exact Bool.false_ne_true)]
          rw [e] at A
          have er : rowS (nb a) q y = (q.1 ++ [y], q.2 ++ [(q.1 ++ [y]).findIdx fun x => nb a x y]) := by unfold rowS; rw [e]
          rw [er]
          refine ast_seq (ast_append rfl ?_)
          walk_at "go"
          refine ⟨_, rfl, by rw [List.length_map]; omega, ?_⟩
          refine ast_set (awp_lst ?_)
          walk_at "go"
          refine ⟨by simp, ?_⟩
          have hidx : (q.1 ++ [y]).findIdx (fun x => nb a x y) = q.1.length := by
            rcases A.2.2.2 with h | ⟨_, h⟩
            · have := congrArg List.length h
              rw [List.length_append, List.length_singleton] at this
              omega
            · exact h
          refine ast_eq ?_ (app (q.1 ++ [y]) [y] A.1 A.2.1 (fun z => by cases z) (by rw [hidx, gD_last]; rfl) ⟨_, _, rfl⟩)
          rw [List.map_append]
          rfl
    · obtain ⟨s6, s7, rfl⟩ := hΓ
      rw [List.length_map, List.take_length]
      have R1 := RO row.length
      rw [List.take_length] at R1
      have e : goN (nb a) a.st (n + 1) = ((goRow (nb a) (goN (nb a) a.st n).1 row).1, (goN (nb a) a.st n).2 ++ [(goRow (nb a) (goN (nb a) a.st n).1 row).2]) := by
        show goS (nb a) a.st (goN (nb a) a.st n) = _
        unfold goS
        rw [gl, hrow]
      have h2l := R1.len
      refine ast_freeze 5 rfl (by rw [List.length_map]; omega) ?_
      refine ast_seq (ast_append rfl ?_)
      walk_at "go"
      refine rdn_tup ⟨_, rfl, by rw [List.length_map]; omega, ?_⟩
      refine ast_set ?_
      walk_at "go"
      obtain ⟨e', he'⟩ := R1.pre
      refine ⟨99 - n, by omega, n + 1, .d (lD (goRow (nb a) (goN (nb a) a.st n).1 row).2), s6, s7, ?_, fun j hj => ?_, ?_, by omega, rfl⟩
      · rw [e, List.map_append]
        rfl
      · by_cases hjn : j = n
        · subst hjn; exact hn
        · exact hpre j (by omega)
      · rw [e]
        show n + 1 ≤ (goRow (nb a) (goN (nb a) a.st n).1 row).1.length
        rw [he', List.length_append]
        omega
  · rw [decide_eq_false (by omega)]
    refine iteF ?_
    have hne : (goN (nb a) a.st n).1.length = n := by omega
    have hsm : n = smN a := LeastRes.uniq (nb a) ⟨hne, hpre⟩ (smN_res ok)
    subst hsm
    refine ast_freeze 2 rfl (by rw [List.length_map]; omega) ?_
    refine ast_freeze 3 rfl (by rw [List.length_map]; omega) ?_
    refine ast_ret (awp_tup ?_)
    walk_at "go"
    refine rdn_tup ?_
    refine aas_cons ?_
    walk_at "go"
    refine awp_lcM (List.mem_singleton.mpr rfl) (awc_of ?_)
    walk_at "go"
    refine ⟨Nat, (goN (nb a) a.st (smN a)).1, iD, fun x => iD (a.an.getD x 0), rfl, by omega, by simp [noOwn, h5], fun x hx => ?_, ?_⟩
    · walk_at "go"
      exact rd_nD (by rw [ok.al]; exact G.ord.lt x hx) ⟨rfl, rfl⟩
    · walk_at "go"
      refine rdn_tup ?_
      walk_at "go"
      refine ⟨by simp, ?_⟩
      show PyData.tuple [_, _, _] = PyData.tuple [iD a.k, sD (goN (nb a) a.st (smN a)).2, nD ((goN (nb a) a.st (smN a)).1.map fun s => a.an.getD s 0)]
      unfold sD nD
      rw [List.map_map]
      rfl
end
end TW
end

section
set_option Elab.async false
set_option linter.all false
set_option maxRecDepth 100000
set_option maxHeartbeats 4000000
namespace TW
open PySem PySem.Spec PyProof.Rows L2
local macro_rules | `(tactic| walk_at "aw") => `(tactic| first
  | with_reducible refine ast_seq ?_
  | with_reducible refine ast_ret ?_
  | with_reducible refine ast_if ?_
  | with_reducible refine ast_next ?_
  | with_reducible refine awt_t ?_
  | with_reducible refine awt_b ?_
  | with_reducible refine awt_and ?_
  | with_reducible refine awt_or ?_
  | with_reducible refine awt_not ?_
  | with_reducible refine awt_yes ?_
  | ((with_reducible apply awp_row0); exact rfl)
  | ((with_reducible apply awp_row1); exact rfl)
  | ((with_reducible apply awp_row2); exact rfl)
  | ((with_reducible apply awp_row3); exact rfl)
  | with_reducible refine awp_op ?_
  | with_reducible refine awp_and ?_
  | with_reducible refine awp_or ?_
  | with_reducible refine awp_not ?_
  | with_reducible refine awp_chain ?_
  | with_reducible refine awp_if ?_
  | with_reducible refine awp_isN ?_
  | with_reducible refine awp_notN ?_
  | with_reducible refine awp_int ?_
  | with_reducible refine awp_bl ?_
  | with_reducible refine awp_str ?_
  | with_reducible refine awp_non ?_
  | with_reducible refine awp_isiT ?_
  | with_reducible refine awp_isiI ?_
  | with_reducible refine awp_isiB ?_
  | with_reducible refine awp_isiS ?_
  | with_reducible refine awp_isiL ?_
  | with_reducible refine awp_isiTL ?_
  | with_reducible refine awp_cb ?_
  | with_reducible refine awp_call ?_
  | with_reducible refine aas_nil ?_
  | with_reducible refine aas_cons ?_
  | with_reducible refine rd_lt ?_
  | with_reducible refine rd_le ?_
  | with_reducible refine rd_gt ?_
  | with_reducible refine rd_ge ?_
  | with_reducible refine rd_add ?_
  | with_reducible refine rd_sub ?_
  | with_reducible refine rd_notB ?_
  | with_reducible refine rd_q0 ?_
  | with_reducible refine rd_q1 ?_
  | with_reducible refine rd_q2 ?_
  | with_reducible refine rd_eqN ?_
  | with_reducible refine rd_neN ?_
  | with_reducible refine rd_eqT ?_
  | with_reducible refine rd_neT ?_
  | with_reducible refine rd_eqL ?_
  | with_reducible refine rd_neL ?_
  | with_reducible refine rd_eqI ?_
  | with_reducible refine rd_neI ?_
  | with_reducible refine rdn_int ?_
  | with_reducible refine rdn_min ?_
  | with_reducible refine awp_rg ?_
  | with_reducible refine awi_rng ?_
  | with_reducible refine awi_list ?_
  | with_reducible refine awi_tup ?_
  | with_reducible refine awi_enumL ?_
  | with_reducible refine awi_enumT ?_
  | with_reducible refine awp_sl ?_
  | with_reducible refine awo_no ?_
  | with_reducible refine awo_some ?_
  | with_reducible refine ast_while ?_
  | with_reducible refine ast_for ?_
  | with_reducible refine exb ?_
  | with_reducible refine exn ?_
  | with_reducible refine exi ?_
  | with_reducible refine exl ?_
  | with_reducible refine ext ?_
  | with_reducible refine exlD ?_
  | with_reducible refine exnD ?_
  | with_reducible refine exsD ?_
  | with_reducible refine rdn_lenN ?_
  | with_reducible refine rdn_lenS ?_
  | with_reducible refine rdn_lenL ?_
  | with_reducible refine rdn_lenl ?_
  | ((with_reducible apply awp_v); exact rfl))
local macro_rules | `(tactic| walk_at "go") => `(tactic| (repeat (first
  | with_reducible refine ast_seq ?_
  | with_reducible refine ast_ret ?_
  | with_reducible refine ast_if ?_
  | with_reducible refine ast_next ?_
  | with_reducible refine awt_t ?_
  | with_reducible refine awt_b ?_
  | with_reducible refine awt_and ?_
  | with_reducible refine awt_or ?_
  | with_reducible refine awt_not ?_
  | with_reducible refine awt_yes ?_
  | ((with_reducible apply awp_row0); exact rfl)
  | ((with_reducible apply awp_row1); exact rfl)
  | ((with_reducible apply awp_row2); exact rfl)
  | ((with_reducible apply awp_row3); exact rfl)
  | with_reducible refine awp_op ?_
  | with_reducible refine awp_and ?_
  | with_reducible refine awp_or ?_
  | with_reducible refine awp_not ?_
  | with_reducible refine awp_chain ?_
  | with_reducible refine awp_if ?_
  | with_reducible refine awp_isN ?_
  | with_reducible refine awp_notN ?_
  | with_reducible refine awp_int ?_
  | with_reducible refine awp_bl ?_
  | with_reducible refine awp_str ?_
  | with_reducible refine awp_non ?_
  | with_reducible refine awp_isiT ?_
  | with_reducible refine awp_isiI ?_
  | with_reducible refine awp_isiB ?_
  | with_reducible refine awp_isiS ?_
  | with_reducible refine awp_isiL ?_
  | with_reducible refine awp_isiTL ?_
  | with_reducible refine awp_cb ?_
  | with_reducible refine awp_call ?_
  | with_reducible refine aas_nil ?_
  | with_reducible refine aas_cons ?_
  | with_reducible refine rd_lt ?_
  | with_reducible refine rd_le ?_
  | with_reducible refine rd_gt ?_
  | with_reducible refine rd_ge ?_
  | with_reducible refine rd_add ?_
  | with_reducible refine rd_sub ?_
  | with_reducible refine rd_notB ?_
  | with_reducible refine rd_q0 ?_
  | with_reducible refine rd_q1 ?_
  | with_reducible refine rd_q2 ?_
  | with_reducible refine rd_eqN ?_
  | with_reducible refine rd_neN ?_
  | with_reducible refine rd_eqT ?_
  | with_reducible refine rd_neT ?_
  | with_reducible refine rd_eqL ?_
  | with_reducible refine rd_neL ?_
  | with_reducible refine rd_eqI ?_
  | with_reducible refine rd_neI ?_
  | with_reducible refine rdn_int ?_
  | with_reducible refine rdn_min ?_
  | with_reducible refine awp_rg ?_
  | with_reducible refine awi_rng ?_
  | with_reducible refine awi_list ?_
  | with_reducible refine awi_tup ?_
  | with_reducible refine awi_enumL ?_
  | with_reducible refine awi_enumT ?_
  | with_reducible refine awp_sl ?_
  | with_reducible refine awo_no ?_
  | with_reducible refine awo_some ?_
  | with_reducible refine ast_while ?_
  | with_reducible refine ast_for ?_
  | with_reducible refine exb ?_
  | with_reducible refine exn ?_
  | with_reducible refine exi ?_
  | with_reducible refine exl ?_
  | with_reducible refine ext ?_
  | with_reducible refine exlD ?_
  | with_reducible refine exnD ?_
  | with_reducible refine exsD ?_
  | with_reducible refine rdn_lenN ?_
  | with_reducible refine rdn_lenS ?_
  | with_reducible refine rdn_lenL ?_
  | with_reducible refine rdn_lenl ?_
  | ((with_reducible apply awp_v); exact rfl))))

section
variable {P : Program} {w : World} {K : PySem.W.Frag} {mg : Str → Option Value} {base : Heap} {T : List Addr}
/-- what was found: keys with their texts, in order -/
def asc {κ : Type} [DecidableEq κ] : List (κ × List Nat) → κ → Option (List Nat)
  | [], _ => none
  | (k, t) :: r, x => if k = x then some t else asc r x
theorem asc_some {κ : Type} [DecidableEq κ] {x : κ} {t : List Nat} : ∀ {fd : List (κ × List Nat)}, asc fd x = some t → (x, t) ∈ fd
  | [], h => by cases h
  | (k, u) :: r, h => by
    unfold asc at h
    by_cases e : k = x
    · rw [if_pos e] at h; cases h; subst e; exact List.mem_cons_self ..
    · rw [if_neg e] at h; exact List.mem_cons_of_mem _ (asc_some h)
theorem asc_none {κ : Type} [DecidableEq κ] {x : κ} : ∀ {fd : List (κ × List Nat)}, asc fd x = none ↔ x ∉ fd.map (·.1)
  | [] => ⟨fun _ h => (by cases h), fun _ => rfl⟩
  | (k, u) :: r => by
    unfold asc
    by_cases e : k = x
    · rw [if_pos e]; simp [e]
    · rw [if_neg e, asc_none (fd := r)]; simp [Ne.symm e]
def fdK {κ μ : Type} (c : κ → μ) (fd : List (κ × List Nat)) : List (μ × PyData) := fd.map fun p => (c p.1, nD p.2)
theorem kget_fd {κ μ : Type} [DecidableEq κ] [DecidableEq μ] {c : κ → μ} (hc : ∀ x y, c x = c y → x = y) {x : κ} : ∀ {fd : List (κ × List Nat)}, kget (fdK c fd) (c x) = (asc fd x).map nD
  | [] => rfl
  | (k, u) :: r => by
    show (if c k = c x then some (nD u) else kget (fdK c r) (c x)) = (if k = x then some u else asc r x).map nD
    by_cases e : k = x
    · rw [if_pos (by rw [e]), if_pos e]; rfl
    · rw [if_neg (fun z => e (hc _ _ z)), if_neg e, kget_fd hc]
theorem fdK_len {κ μ : Type} {c : κ → μ} {fd : List (κ × List Nat)} : (fdK c fd).length = fd.length := List.length_map ..
theorem fdK_snoc {κ μ : Type} {c : κ → μ} {fd : List (κ × List Nat)} {x : κ} {t : List Nat} : fdK c (fd ++ [(x, t)]) = fdK c fd ++ [(c x, nD t)] := by unfold fdK; rw [List.map_append]; rfl
def cN (n : Nat) : Int := (n : Int)
theorem cN_inj : ∀ x y, cN x = cN y → x = y := fun x y h => by unfold cN at h; omega
/-- the texts lead there -/
structure FdOk {κ : Type} (P : κ → List Nat → Prop) (k : Nat) (fd : List (κ × List Nat)) : Prop where
  nd : (fd.map (·.1)).Nodup
  tx : ∀ i x t, fd[i]? = some (x, t) → P x t ∧ (∀ l ∈ t, l < k) ∧ t.length ≤ i
theorem FdOk.mem {κ : Type} {P : κ → List Nat → Prop} {k : Nat} {fd : List (κ × List Nat)} (h : FdOk P k fd) {x : κ} {t : List Nat} (hm : (x, t) ∈ fd) : P x t ∧ (∀ l ∈ t, l < k) ∧ t.length + 1 ≤ fd.length := by
  obtain ⟨i, hi, e⟩ := List.mem_iff_getElem.mp hm
  obtain ⟨a1, a2, a3⟩ := h.tx i x t (by rw [List.getElem?_eq_getElem hi, e])
  exact ⟨a1, a2, by omega⟩
theorem FdOk.add {κ : Type} {P : κ → List Nat → Prop} {k : Nat} {fd : List (κ × List Nat)} (h : FdOk P k fd) {x y : κ} {t : List Nat} {l : Nat} (hm : (x, t) ∈ fd) (hl : l < k) (hy : y ∉ fd.map (·.1)) (hP : P x t → P y (t ++ [l])) : FdOk P k (fd ++ [(y, t ++ [l])]) := by
  obtain ⟨a1, a2, a3⟩ := h.mem hm
  refine ⟨?_, fun i z u e => ?_⟩
  · rw [List.map_append, List.nodup_append]
    refine ⟨h.nd, by simp, fun a ha b hb e => ?_⟩
    have hb' : b = y := by simpa using hb
    exact hy (hb' ▸ e ▸ ha)
  · by_cases hi : i < fd.length
    · rw [List.getElem?_append_left hi] at e
      exact h.tx i z u e
    · rw [List.getElem?_append_right (by omega)] at e
      have hi0 : i - fd.length = 0 := by
        have := (List.getElem?_eq_some_iff.mp e).1
        simp at this
        omega
      rw [hi0] at e
      cases e
      refine ⟨hP a1, fun x hx => ?_, by rw [List.length_append, List.length_singleton]; omega⟩
      rcases List.mem_append.mp hx with hx | hx
      · exact a2 x hx
      · rw [List.mem_singleton.mp hx]; exact hl
def Reach (m : M) : Prop := ∀ j, 0 < j → j < m.st.length → ∃ r l, r < j ∧ l < m.k ∧ stp m.st r l = j
theorem run_snoc {st : List (List Nat)} {s l : Nat} {t : List Nat} : run st s (t ++ [l]) = stp st (run st s t) l := by rw [run_app]; rfl
theorem sc_texts_to : FnScope ["question", "found", "layer", "later", "state", "letter", "after"] ["question"] (defScope s_texts_to) := ⟨rfl, rfl, rfl, by decide +kernel, rfl, by decide +kernel, by decide +kernel⟩
theorem bd_texts_to : BindF "texts_to" s_texts_to ["question"] := fun _ _ _ _ _ _ us hl => match us, hl with | [_], _ => rfl
def TxOk (m : M) (texts : List (List Nat)) : Prop := texts.length = m.st.length ∧ ∀ i, i < m.st.length → run m.st 0 (texts.getD i []) = i ∧ (∀ l ∈ texts.getD i [], l < m.k) ∧ (texts.getD i []).length ≤ 8
abbrev sp_texts_to (W : Wd) : Sp := SpD W (fun m : M => [qD m]) (fun m => m.ok ∧ Reach m) (fun m r => ∃ texts : List (List Nat), r = .list (texts.map nD) ∧ TxOk m texts)
theorem ok_texts_to (D : Dd K mg "texts_to" s_texts_to) (t : Bt K mg) : Ok P w K mg base 1 "texts_to" ["question"] (sp_texts_to ⟨K, T⟩) := by
  refine ok_mk D sc_texts_to rfl (fun _ => rfl) bd_texts_to fun f cdv A outer s H E hr => ⟨_, (pss_cons (ps_asg (pe_tup (pa_cons (pe_disp (pps_cons pe_int (pe_tup pa_nil) pps_nil) (by rfl) (by rfl) (fun z => by cases z) (by decide)) (pa_cons (pe_lst (pa_cons pe_int pa_nil)) pa_nil))) (pgT (K := K) rfl rfl (pgs_cons (pg_name (i := 1) sc_texts_to.nd rfl (by first | exact Or.inl rfl | exact Or.inr rfl)) (pgs_cons (pg_name (i := 2) sc_texts_to.nd rfl (by first | exact Or.inl rfl | exact Or.inr rfl)) pgs_nil))))
    (pss_cons (ps_while PassesOwn.never (ptTr (K := K) rfl (pv 2)) (pss_cons (ps_asg (pe_lst pa_nil) (pg_name (i := 3) sc_texts_to.nd rfl (by first | exact Or.inl rfl | exact Or.inr rfl)))
    (pss_cons (ps_for PassesOwn.never rfl (piL (K := K) rfl (pv 2)) (pg_name (i := 4) sc_texts_to.nd rfl (by first | exact Or.inl rfl | exact Or.inr rfl)) (pss_one (ps_for PassesOwn.never rfl (piEnT (K := K) rfl (by rfl) t.enumerate (pa_cons (pe_ix (ixT (K := K) rfl) (pe_ix (ixT (K := K) rfl) (pv 0) pe_int (fun _ _ => rfl)) (pv 4) (fun _ _ => rfl)) pa_nil)) (pgT (K := K) rfl rfl (pgs_cons (pg_name (i := 5) sc_texts_to.nd rfl (by first | exact Or.inl rfl | exact Or.inr rfl)) (pgs_cons (pg_name (i := 6) sc_texts_to.nd rfl (by first | exact Or.inl rfl | exact Or.inr rfl)) pgs_nil))) (pss_one (ps_if (pt_cmp (pc_dnotin (u1 hr) (pv 6) (pv 1)) (by first | rfl | exact nobehind _ (by decide) (by decide))) (pss_cons (ps_dput (u1 hr) (pv 1) (pv 6) (pe_op (oCatA (K := K) rfl) (pe_dget (u1 hr) (pv 1) (pv 4) (fun _ _ => rfl)) (pe_tup (pa_cons (pv 5) pa_nil))) rfl)
    (pss_one (ps_expr (pBm (K := K) rfl PySem.F.plainAttrs_list PySem.F.slot_list_append PySem.F.type_list_append mt_append (pv 3) (pa_cons (pv 6) pa_nil))))) pss_nil)))))
    (pss_one (ps_asg (pv 3) (pg_name (i := 2) sc_texts_to.nd rfl (by first | exact Or.inl rfl | exact Or.inr rfl)))))))
    (pss_one (ps_ret (pe_lc (own := [("state", 4)]) (g := gName 4) rfl sc_texts_to.nd (pi_range1 (by rfl) t.range (pa_cons (pe_callB (cLen (K := K) rfl) (by rfl) t.len (by decide +kernel) (pa_cons (pe_ix (ixT (K := K) rfl) (pv 0) pe_int (fun _ _ => rfl)) pa_nil)) pa_nil)) (blkOk_by (by rfl)) (fun _ _ _ _ _ => pg_name (i := 4) sc_texts_to.nd rfl (by first | exact Or.inl rfl | exact Or.inr rfl)) (fun _ _ _ _ _ => pts_nil) (fun _ _ _ _ _ => (pe_dget (u1 hr) (pv 1) (pv 4) (fun _ _ => rfl)))))))), fun a hp => ?_⟩
  obtain ⟨ok, hreach⟩ := hp
  have n1 := ok.n1
  have n8 := ok.n8
  have k3 := ok.k3
  refine ast_seq (ast_tupx [1, 2] rfl ?_)
  refine aax_cons (awx_dk1 ?_)
  walk_at "go"
  refine awp_tup (aas_nil ⟨by decide, ?_⟩)
  refine aax_cons (awx_of (awp_lst ?_))
  walk_at "go"
  refine ⟨by decide, aax_nil ⟨rfl, by show 2 ≤ 1000; decide, ?_⟩⟩
  refine ast_seq (ast_while ⟨fun d Γ => ∃ (fd : List (Nat × List Nat)) (ly : List Nat) (s3 s4 s5 s6 : SV), Γ = [.d (qD a), .o (.dk (fdK cN fd)), .d (lD ly), s3, s4, s5, s6] ∧
    FdOk (fun s t => run a.st 0 t = s) a.k fd ∧ (∀ s ∈ ly, s ∈ fd.map (·.1)) ∧ (∀ s ∈ fd.map (·.1), s ∉ ly → ∀ l, l < a.k → stp a.st s l ∈ fd.map (·.1)) ∧ 0 ∈ fd.map (·.1) ∧ s4.no = true ∧
    d + 2 * fd.length = 2 * a.st.length + (if ly = [] then 0 else 1), ⟨2 * a.st.length - 1, [(0, [])], [0], _, _, _, _, rfl, ⟨by simp, fun i x t e => ?_⟩, fun s hs => by simpa using hs, fun s hs hn => absurd (by simpa using hs) hn, by simp, rfl, by simp; omega⟩, fun d Γ hΓ => ?_⟩)
  · have hi : i = 0 := by
      have := (List.getElem?_eq_some_iff.mp e).1
      simp at this
      exact this
    subst hi
    cases e
    exact ⟨rfl, fun l hl => by simp at hl, Nat.le_refl _⟩
  obtain ⟨fd0, ly, s3, s4, s5, s6, rfl, hF0, hly, hcl, hz, h4, hd⟩ := hΓ
  have keyN : ∀ {fd : List (Nat × List Nat)}, FdOk (fun s t => run a.st 0 t = s) a.k fd → fd.length ≤ a.st.length := fun {fd} hF => by
    have h := nodup_le a.st.length (fd.map (·.1)) hF.nd fun x hx => by
      obtain ⟨p, hp, rfl⟩ := List.mem_map.mp hx
      obtain ⟨b1, b2, _⟩ := hF.mem (x := p.1) (t := p.2) hp
      rw [← b1]
      exact ok.stOk.runLt _ n1 b2
    rwa [List.length_map] at h
  have hlen0 := keyN hF0
  refine awt_trL ?_
  walk_at "go"
  cases hlye : ly with
  | nil =>
    refine iteF ?_
    subst hlye
    have hall : ∀ j, j < a.st.length → j ∈ fd0.map (·.1) := by
      intro j
      induction j using Nat.strongRecOn with
      | ind j ih =>
        intro hj
        by_cases h0 : j = 0
        · subst h0; exact hz
        · obtain ⟨r, l, h1, h2, h3⟩ := hreach j (by omega) hj
          rw [← h3]
          exact hcl r (ih r h1 (by omega)) (by simp) l h2
    walk_at "go"
    refine awp_lcM (List.mem_singleton.mpr rfl) (awc_of ?_)
    walk_at "go"
    refine ⟨by omega, Nat, List.range a.st.length, iD, fun s => nD ((asc fd0 s).getD []), rfl, by simp; omega, by simp [noOwn, h4], fun s hs => ?_, ?_⟩
    · have hs : s < a.st.length := List.mem_range.mp hs
      refine awp_dgetK rfl ?_
      walk_at "go"
      have hk := kget_fd cN_inj (x := s) (fd := fd0)
      cases hasc : asc fd0 s with
      | none => exact absurd (hall s hs) (asc_none.mp hasc)
      | some t =>
        rw [hasc] at hk
        exact ⟨_, _, _, rfl, rfl, hk, rfl, by show nD t = nD ((asc fd0 s).getD []); rw [hasc]; rfl⟩
    · refine ⟨(List.range a.st.length).map fun s => (asc fd0 s).getD [], by rw [List.map_map]; rfl, by simp, fun i hi => ?_⟩
      have e : ((List.range a.st.length).map fun s => (asc fd0 s).getD []).getD i [] = (asc fd0 i).getD [] := by
        rw [List.getD_eq_getElem?_getD, List.getElem?_map, List.getElem?_range hi]; rfl
      rw [e]
      cases hasc : asc fd0 i with
      | none => exact absurd (hall i hi) (asc_none.mp hasc)
      | some t =>
        obtain ⟨b1, b2, b3⟩ := hF0.mem (asc_some hasc)
        exact ⟨b1, b2, by show t.length ≤ 8; omega⟩
  | cons s0 ly0 =>
    refine iteT ?_
    rw [← hlye]
    have hd : d + 2 * fd0.length = 2 * a.st.length + 1 := by rw [hd, hlye]; rfl
    refine ast_seq (ast_setX (awx_lst (aas_nil ⟨by decide, ?_⟩)))
    refine ast_seq ?_
    walk_at "go"
    refine ⟨fun i Γ => ∃ (fd : List (Nat × List Nat)) (nw : List Nat) (s4 s5 s6 : SV), Γ = [.d (qD a), .o (.dk (fdK cN fd)), .d (lD ly), .o (.lst (nw.map iD)), s4, s5, s6] ∧ FdOk (fun s t => run a.st 0 t = s) a.k fd ∧ fd.map (·.1) = fd0.map (·.1) ++ nw ∧
      s4.no = true ∧ ∀ s ∈ fd0.map (·.1), (s ∉ ly ∨ s ∈ ly.take i) → ∀ l, l < a.k → stp a.st s l ∈ fd.map (·.1), ⟨fd0, [], _, _, _, rfl, hF0, by simp, h4, fun s hs h l hl => ?_⟩, fun i x Γ hx hΓ => ?_, fun Γ hΓ => ?_⟩
    · rcases h with h | h
      · exact hcl s hs h l hl
      · simp at h
    · obtain ⟨fd1, nw1, s4, s5, s6, rfl, hF1, hk1, _, hcl1⟩ := hΓ
      obtain ⟨s, hsi, hsm, rfl⟩ := mapN_get hx
      have hs0 := hly s hsm
      have hsn : s < a.st.length := by
        obtain ⟨p, hp, rfl⟩ := List.mem_map.mp hs0
        obtain ⟨b1, b2, _⟩ := hF0.mem (x := p.1) (t := p.2) hp
        rw [← b1]
        exact ok.stOk.runLt _ n1 b2
      have rl := ok.stOk.row hsn
      refine atg_name ?_
      walk_at "go"
      refine rd_sD hsn ?_
      refine ⟨(a.st.getD s []).map iD, .inl rfl, fun l Γ => ∃ (fd : List (Nat × List Nat)) (nw : List Nat) (s5 s6 : SV), Γ = [.d (qD a), .o (.dk (fdK cN fd)), .d (lD ly), .o (.lst (nw.map iD)), .d (iD s), s5, s6] ∧ FdOk (fun s t => run a.st 0 t = s) a.k fd ∧ fd.map (·.1) = fd0.map (·.1) ++ nw ∧
        (∀ z ∈ fd0.map (·.1), (z ∉ ly ∨ z ∈ ly.take i) → ∀ l, l < a.k → stp a.st z l ∈ fd.map (·.1)) ∧ ∀ l', l' < l → stp a.st s l' ∈ fd.map (·.1), ⟨fd1, nw1, _, _, rfl, hF1, hk1, hcl1, fun l' h => absurd h (Nat.not_lt_zero _)⟩, fun l x Γ hx hΓ => ?_, fun Γ hΓ => ?_⟩
      · obtain ⟨fd, nw, s5, s6, rfl, hF, hk, hcl2, hll⟩ := hΓ
        obtain ⟨d0, hd0, rfl⟩ := enumD_get hx
        obtain ⟨y, hyl, hym, rfl⟩ := mapN_get hd0
        have hlen := keyN hF
        have hlk : l < a.k := by rw [← rl]; exact (List.getElem?_eq_some_iff.mp hyl).1
        have hys : stp a.st s l = y := by
          unfold stp
          rw [List.getD_eq_getElem?_getD, hyl]; rfl
        refine atg_tup rfl (atgs_cons (atg_name (atgs_cons (atg_name (atgs_nil ?_)))))
        refine ast_if (awt_b (awp_dninK ?_))
        walk_at "go"
        refine ⟨_, _, rfl, rfl, exb ?_⟩
        have hkg := kget_fd cN_inj (x := y) (fd := fd)
        cases hasc : asc fd y with
        | some t =>
          rw [hasc] at hkg
          rw [show kget (fdK cN fd) (y : Int) = _ from hkg]
          refine iteF (ast_next ?_)
          refine ⟨fd, nw, _, _, rfl, hF, hk, hcl2, fun l' h => ?_⟩
          by_cases e : l' = l
          · subst e; rw [hys]; exact List.mem_map.mpr ⟨_, asc_some hasc, rfl⟩
          · exact hll l' (by omega)
        | none =>
          rw [hasc] at hkg
          rw [show kget (fdK cN fd) (y : Int) = _ from hkg]
          refine iteT ?_
          have hsk : s ∈ fd.map (·.1) := by rw [hk]; exact List.mem_append_left _ hs0
          cases hascs : asc fd s with
          | none => exact absurd hsk (asc_none.mp hascs)
          | some t =>
            have hkgs := kget_fd cN_inj (x := s) (fd := fd)
            rw [hascs] at hkgs
            have hm := asc_some hascs
            obtain ⟨b1, b2, b3⟩ := hF.mem hm
            have hF' := hF.add (y := y) (l := l) hm hlk (asc_none.mp hasc) fun h => by rw [run_snoc, h, hys]
            have hlen' := keyN hF'
            rw [List.length_append, List.length_singleton] at hlen'
            have hnwl : nw.length ≤ fd.length := by
              have := congrArg List.length hk
              rw [List.length_append, List.length_map, List.length_map] at this
              omega
            refine ast_seq (ast_dputK (awp_op (awp_dgetK rfl ?_)))
            walk_at "go"
            refine ⟨_, _, _, rfl, rfl, hkgs, awp_tup ?_⟩
            walk_at "go"
            refine ⟨by simp, rd_catA (by rw [List.length_map]; simp; omega) ⟨⟨_, rfl⟩, ?_⟩⟩
            walk_at "go"
            refine ⟨_, _, rfl, rfl, by rw [fdK_len]; omega, hkg, ?_⟩
            refine ast_append rfl ?_
            walk_at "go"
            refine ⟨_, rfl, by rw [List.length_map]; omega, fd ++ [(y, t ++ [l])], nw ++ [y], .d (iD l), .d (iD y), ?_, hF', ?_, fun z hz h l' hl' => ?_, fun l' h => ?_⟩
            · rw [fdK_snoc, List.map_append]
              show _ = [_, SV.o (.dk (fdK cN fd ++ [(cN y, PyData.tuple ((t ++ [l]).map iD))])), _, _, _, _, _]
              rw [List.map_append]
              rfl
            · rw [List.map_append, hk, List.append_assoc]; rfl
            · rw [List.map_append]; exact List.mem_append_left _ (hcl2 z hz h l' hl')
            · rw [List.map_append]
              by_cases e : l' = l
              · subst e; rw [hys]; exact List.mem_append_right _ (by simp)
              · exact List.mem_append_left _ (hll l' (by omega))
      · obtain ⟨fd, nw, s5, s6, rfl, hF, hk, hcl2, hll⟩ := hΓ
        rw [enumD_len, List.length_map, rl] at hll
        refine ⟨fd, nw, _, _, _, rfl, hF, hk, rfl, fun z hz h l' hl' => ?_⟩
        rw [List.take_succ, hsi] at h
        by_cases e : z = s
        · subst e; exact hll l' hl'
        · refine hcl2 z hz ?_ l' hl'
          rcases h with h | h
          · exact .inl h
          · rcases List.mem_append.mp h with h | h
            · exact .inr h
            · exact absurd (by simpa using h) e
    · obtain ⟨fd, nw, s4, s5, s6, rfl, hF, hk, h4, hcl2⟩ := hΓ
      rw [List.length_map, List.take_length] at hcl2
      have hlen := keyN hF
      have hkl : fd.length = fd0.length + nw.length := by
        have := congrArg List.length hk
        rwa [List.length_append, List.length_map, List.length_map] at this
      refine ast_freeze 3 rfl (by rw [List.length_map]; omega) (ast_set ?_)
      walk_at "go"
      by_cases hnw : nw = []
      · refine ⟨d - 1, by omega, fd, nw, _, _, _, _, rfl, hF, fun s hs => ?_, fun s hs hn => ?_, ?_, h4, ?_⟩
        · rw [hnw] at hs; simp at hs
        · rw [hk, hnw, List.append_nil] at hs
          exact hcl2 s hs (Classical.em (s ∈ ly) |>.symm)
        · rw [hk]; exact List.mem_append_left _ hz
        · rw [if_pos hnw]
          have : nw.length = 0 := by rw [hnw]; rfl
          omega
      · have hpos : 0 < nw.length := List.length_pos_iff.mpr hnw
        refine ⟨2 * a.st.length + 1 - 2 * fd.length, by omega, fd, nw, _, _, _, _, rfl, hF, fun s hs => ?_, fun s hs hn => ?_, ?_, h4, ?_⟩
        · rw [hk]; exact List.mem_append_right _ hs
        · rw [hk] at hs
          rcases List.mem_append.mp hs with hs | hs
          · exact hcl2 s hs (Classical.em (s ∈ ly) |>.symm)
          · exact absurd hs hn
        · rw [hk]; exact List.mem_append_left _ hz
        · rw [if_neg hnw]; omega
end
end TW
end

section
set_option Elab.async false
set_option linter.all false
set_option maxRecDepth 100000
set_option maxHeartbeats 4000000
namespace TW
open PySem PySem.Spec PyProof.Rows L2
local macro_rules | `(tactic| walk_at "aw") => `(tactic| first
  | with_reducible refine ast_seq ?_
  | with_reducible refine ast_ret ?_
  | with_reducible refine ast_if ?_
  | with_reducible refine ast_next ?_
  | with_reducible refine awt_t ?_
  | with_reducible refine awt_b ?_
  | with_reducible refine awt_and ?_
  | with_reducible refine awt_or ?_
  | with_reducible refine awt_not ?_
  | with_reducible refine awt_yes ?_
  | ((with_reducible apply awp_row0); exact rfl)
  | ((with_reducible apply awp_row1); exact rfl)
  | ((with_reducible apply awp_row2); exact rfl)
  | ((with_reducible apply awp_row3); exact rfl)
  | with_reducible refine awp_op ?_
  | with_reducible refine awp_and ?_
  | with_reducible refine awp_or ?_
  | with_reducible refine awp_not ?_
  | with_reducible refine awp_chain ?_
  | with_reducible refine awp_if ?_
  | with_reducible refine awp_isN ?_
  | with_reducible refine awp_notN ?_
  | with_reducible refine awp_int ?_
  | with_reducible refine awp_bl ?_
  | with_reducible refine awp_str ?_
  | with_reducible refine awp_non ?_
  | with_reducible refine awp_isiT ?_
  | with_reducible refine awp_isiI ?_
  | with_reducible refine awp_isiB ?_
  | with_reducible refine awp_isiS ?_
  | with_reducible refine awp_isiL ?_
  | with_reducible refine awp_isiTL ?_
  | with_reducible refine awp_cb ?_
  | with_reducible refine awp_call ?_
  | with_reducible refine aas_nil ?_
  | with_reducible refine aas_cons ?_
  | with_reducible refine rd_lt ?_
  | with_reducible refine rd_le ?_
  | with_reducible refine rd_gt ?_
  | with_reducible refine rd_ge ?_
  | with_reducible refine rd_add ?_
  | with_reducible refine rd_sub ?_
  | with_reducible refine rd_notB ?_
  | with_reducible refine rd_q0 ?_
  | with_reducible refine rd_q1 ?_
  | with_reducible refine rd_q2 ?_
  | with_reducible refine rd_eqN ?_
  | with_reducible refine rd_neN ?_
  | with_reducible refine rd_eqT ?_
  | with_reducible refine rd_neT ?_
  | with_reducible refine rd_eqL ?_
  | with_reducible refine rd_neL ?_
  | with_reducible refine rd_eqI ?_
  | with_reducible refine rd_neI ?_
  | with_reducible refine rdn_int ?_
  | with_reducible refine rdn_min ?_
  | with_reducible refine awp_rg ?_
  | with_reducible refine awi_rng ?_
  | with_reducible refine awi_list ?_
  | with_reducible refine awi_tup ?_
  | with_reducible refine awi_enumL ?_
  | with_reducible refine awi_enumT ?_
  | with_reducible refine awp_sl ?_
  | with_reducible refine awo_no ?_
  | with_reducible refine awo_some ?_
  | with_reducible refine ast_while ?_
  | with_reducible refine ast_for ?_
  | with_reducible refine exb ?_
  | with_reducible refine exn ?_
  | with_reducible refine exi ?_
  | with_reducible refine exl ?_
  | with_reducible refine ext ?_
  | with_reducible refine exlD ?_
  | with_reducible refine exnD ?_
  | with_reducible refine exsD ?_
  | with_reducible refine rdn_lenN ?_
  | with_reducible refine rdn_lenS ?_
  | with_reducible refine rdn_lenL ?_
  | with_reducible refine rdn_lenl ?_
  | ((with_reducible apply awp_v); exact rfl))
local macro_rules | `(tactic| walk_at "go") => `(tactic| (repeat (first
  | with_reducible refine ast_seq ?_
  | with_reducible refine ast_ret ?_
  | with_reducible refine ast_if ?_
  | with_reducible refine ast_next ?_
  | with_reducible refine awt_t ?_
  | with_reducible refine awt_b ?_
  | with_reducible refine awt_and ?_
  | with_reducible refine awt_or ?_
  | with_reducible refine awt_not ?_
  | with_reducible refine awt_yes ?_
  | ((with_reducible apply awp_row0); exact rfl)
  | ((with_reducible apply awp_row1); exact rfl)
  | ((with_reducible apply awp_row2); exact rfl)
  | ((with_reducible apply awp_row3); exact rfl)
  | with_reducible refine awp_op ?_
  | with_reducible refine awp_and ?_
  | with_reducible refine awp_or ?_
  | with_reducible refine awp_not ?_
  | with_reducible refine awp_chain ?_
  | with_reducible refine awp_if ?_
  | with_reducible refine awp_isN ?_
  | with_reducible refine awp_notN ?_
  | with_reducible refine awp_int ?_
  | with_reducible refine awp_bl ?_
  | with_reducible refine awp_str ?_
  | with_reducible refine awp_non ?_
  | with_reducible refine awp_isiT ?_
  | with_reducible refine awp_isiI ?_
  | with_reducible refine awp_isiB ?_
  | with_reducible refine awp_isiS ?_
  | with_reducible refine awp_isiL ?_
  | with_reducible refine awp_isiTL ?_
  | with_reducible refine awp_cb ?_
  | with_reducible refine awp_call ?_
  | with_reducible refine aas_nil ?_
  | with_reducible refine aas_cons ?_
  | with_reducible refine rd_lt ?_
  | with_reducible refine rd_le ?_
  | with_reducible refine rd_gt ?_
  | with_reducible refine rd_ge ?_
  | with_reducible refine rd_add ?_
  | with_reducible refine rd_sub ?_
  | with_reducible refine rd_notB ?_
  | with_reducible refine rd_q0 ?_
  | with_reducible refine rd_q1 ?_
  | with_reducible refine rd_q2 ?_
  | with_reducible refine rd_eqN ?_
  | with_reducible refine rd_neN ?_
  | with_reducible refine rd_eqT ?_
  | with_reducible refine rd_neT ?_
  | with_reducible refine rd_eqL ?_
  | with_reducible refine rd_neL ?_
  | with_reducible refine rd_eqI ?_
  | with_reducible refine rd_neI ?_
  | with_reducible refine rdn_int ?_
  | with_reducible refine rdn_min ?_
  | with_reducible refine awp_rg ?_
  | with_reducible refine awi_rng ?_
  | with_reducible refine awi_list ?_
  | with_reducible refine awi_tup ?_
  | with_reducible refine awi_enumL ?_
  | with_reducible refine awi_enumT ?_
  | with_reducible refine awp_sl ?_
  | with_reducible refine awo_no ?_
  | with_reducible refine awo_some ?_
  | with_reducible refine ast_while ?_
  | with_reducible refine ast_for ?_
  | with_reducible refine exb ?_
  | with_reducible refine exn ?_
  | with_reducible refine exi ?_
  | with_reducible refine exl ?_
  | with_reducible refine ext ?_
  | with_reducible refine exlD ?_
  | with_reducible refine exnD ?_
  | with_reducible refine exsD ?_
  | with_reducible refine rdn_lenN ?_
  | with_reducible refine rdn_lenS ?_
  | with_reducible refine rdn_lenL ?_
  | with_reducible refine rdn_lenl ?_
  | ((with_reducible apply awp_v); exact rfl))))

section
variable {P : Program} {w : World} {K : PySem.W.Frag} {mg : Str → Option Value} {base : Heap} {T : List Addr}
def kpP (p : Nat × Nat) : PyData := kpD (cP p)
theorem cP_inj' : ∀ x y, cP x = cP y → x = y := fun _ _ h => cP_inj h
/-- the texts lead the two states there -/
def PrP (m : M) (i j : Nat) (p : Nat × Nat) (t : List Nat) : Prop := run m.st i t = p.1 ∧ run m.st j t = p.2
/-- a pair is looked through -/
def PtAt (m : M) (ks : List (Nat × Nat)) (p : Nat × Nat) : Prop := m.an.getD p.1 0 = m.an.getD p.2 0 ∧ ∀ l, l < m.k → (stp m.st p.1 l, stp m.st p.2 l) ∈ ks
theorem sc_parting : FnScope ["question", "one", "other", "found", "layer", "later", "pair", "letter", "after"] ["question", "one", "other"] (defScope s_parting) := ⟨rfl, rfl, rfl, by decide +kernel, rfl, by decide +kernel, by decide +kernel⟩
theorem bd_parting : BindF "parting" s_parting ["question", "one", "other"] := fun _ _ _ _ _ _ us hl => match us, hl with | [_, _, _], _ => rfl
def PtOk (m : M) (i j : Nat) (t : List Nat) : Prop := (∀ l ∈ t, l < m.k) ∧ t.length ≤ 64 ∧ m.an.getD (run m.st i t) 0 ≠ m.an.getD (run m.st j t) 0
abbrev sp_parting (W : Wd) : Sp := SpD W (fun a : M × Nat × Nat => [qD a.1, iD a.2.1, iD a.2.2]) (fun a => a.1.ok ∧ a.2.1 < a.1.st.length ∧ a.2.2 < a.1.st.length ∧ ¬ Ner a.1 a.2.1 a.2.2) (fun a r => ∃ t, r = nD t ∧ PtOk a.1 a.2.1 a.2.2 t)
theorem ok_parting (D : Dd K mg "parting" s_parting) (t : Bt K mg) : Ok P w K mg base 1 "parting" ["question", "one", "other"] (sp_parting ⟨K, T⟩) := by
  refine ok_mk D sc_parting rfl (fun _ => rfl) bd_parting fun f cdv A outer s H E hr => ⟨_, (pss_cons (ps_par (i := 3) (j := 4) (by rfl) sc_parting.nd rfl rfl (by decide) rfl rfl (pa_cons (pe_dispT (u1 hr) (pe_tup (pa_cons (pv 1) (pa_cons (pv 2) pa_nil))) (pe_tup pa_nil)) (pa_cons (pe_lst (pa_cons (pe_tup (pa_cons (pv 1) (pa_cons (pv 2) pa_nil))) pa_nil)) pa_nil)) (by rfl))
    (pss_cons (ps_while PassesOwn.never (ptTr (K := K) rfl (pv 4)) (pss_cons (ps_asg (pe_lst pa_nil) (pg_name (i := 5) sc_parting.nd rfl (by first | exact Or.inl rfl | exact Or.inr rfl)))
    (pss_cons (ps_for PassesOwn.never rfl (piL (K := K) rfl (pv 4)) (pg_name (i := 6) sc_parting.nd rfl (by first | exact Or.inl rfl | exact Or.inr rfl)) (pss_cons (ps_if (pt_cmpR (oNe (K := K) rfl (u64 hr)) (pe_ix (ixT (K := K) rfl) (pe_ix (ixT (K := K) rfl) (pv 0) pe_int (fun _ _ => rfl)) (pe_ix (ixT (K := K) rfl) (pv 6) pe_int (fun _ _ => rfl)) (fun _ _ => rfl)) (pe_ix (ixT (K := K) rfl) (pe_ix (ixT (K := K) rfl) (pv 0) pe_int (fun _ _ => rfl)) (pe_ix (ixT (K := K) rfl) (pv 6) pe_int (fun _ _ => rfl)) (fun _ _ => rfl)) (by first | rfl | exact nomark _)) (pss_one (ps_ret (pe_dget (u1 hr) (pv 3) (pv 6) (fun _ _ => rfl)))) pss_nil)
    (pss_one (ps_for PassesOwn.never rfl (pi_range1 (by rfl) t.range (pa_cons (pe_ix (ixT (K := K) rfl) (pv 0) pe_int (fun _ _ => rfl)) pa_nil)) (pg_name (i := 7) sc_parting.nd rfl (by first | exact Or.inl rfl | exact Or.inr rfl)) (pss_cons (ps_asg (pe_tup (pa_cons (pe_ix (ixT (K := K) rfl) (pe_ix (ixT (K := K) rfl) (pe_ix (ixT (K := K) rfl) (pv 0) pe_int (fun _ _ => rfl)) (pe_ix (ixT (K := K) rfl) (pv 6) pe_int (fun _ _ => rfl)) (fun _ _ => rfl)) (pv 7) (fun _ _ => rfl)) (pa_cons (pe_ix (ixT (K := K) rfl) (pe_ix (ixT (K := K) rfl) (pe_ix (ixT (K := K) rfl) (pv 0) pe_int (fun _ _ => rfl)) (pe_ix (ixT (K := K) rfl) (pv 6) pe_int (fun _ _ => rfl)) (fun _ _ => rfl)) (pv 7) (fun _ _ => rfl)) pa_nil))) (pg_name (i := 8) sc_parting.nd rfl (by first | exact Or.inl rfl | exact Or.inr rfl)))
    (pss_one (ps_if (pt_cmp (pc_dnotin (u1 hr) (pv 8) (pv 3)) (by first | rfl | exact nobehind _ (by decide) (by decide))) (pss_cons (ps_dput (u1 hr) (pv 3) (pv 8) (pe_op (oCatA (K := K) rfl) (pe_dget (u1 hr) (pv 3) (pv 6) (fun _ _ => rfl)) (pe_tup (pa_cons (pv 7) pa_nil))) rfl)
    (pss_one (ps_expr (pBm (K := K) rfl PySem.F.plainAttrs_list PySem.F.slot_list_append PySem.F.type_list_append mt_append (pv 5) (pa_cons (pv 8) pa_nil))))) pss_nil)))))))
    (pss_one (ps_asg (pv 5) (pg_name (i := 4) sc_parting.nd rfl (by first | exact Or.inl rfl | exact Or.inr rfl)))))))
    (pss_one (ps_ret pe_non)))), fun a hp => ?_⟩
  obtain ⟨a, i0, j0⟩ := a
  obtain ⟨ok, hi0, hj0, hne⟩ := hp
  have hi0 : i0 < a.st.length := hi0
  have hj0 : j0 < a.st.length := hj0
  have hne : ¬ Ner a i0 j0 := hne
  have ok : a.ok := ok
  have n1 := ok.n1
  have n8 := ok.n8
  have k3 := ok.k3
  have al := ok.al
  have n64 : a.st.length * a.st.length ≤ 8 * 8 := Nat.mul_le_mul n8 n8
  refine ast_seq (ast_par (aax_cons (awx_dt1 (awp_tupK ?_))))
  walk_at "go"
  refine ⟨cP (i0, j0), rfl, cP (i0, j0), rfl, awp_tup (aas_nil ⟨by decide, ?_⟩)⟩
  refine aax_cons (awx_of (awp_lst (aas_cons (awp_tupK ?_))))
  walk_at "go"
  refine ⟨cP (i0, j0), rfl, ?_⟩
  walk_at "go"
  refine ⟨by simp, aax_nil ⟨_, _, rfl, ?_⟩⟩
  refine ast_seq (ast_while ⟨fun d Γ => ∃ (fd : List ((Nat × Nat) × List Nat)) (ly : List (Nat × Nat)) (s5 s6 s7 s8 : SV), Γ = [.d (qD a), .d (iD i0), .d (iD j0), .o (.dt (fdK cP fd)), .d (.list (ly.map kpP)), s5, s6, s7, s8] ∧
    FdOk (PrP a i0 j0) a.k fd ∧ (∀ s ∈ ly, s ∈ fd.map (·.1)) ∧ (∀ s ∈ fd.map (·.1), s ∉ ly → PtAt a (fd.map (·.1)) s) ∧ (i0, j0) ∈ fd.map (·.1) ∧
    d + 2 * fd.length = 2 * (a.st.length * a.st.length) + (if ly = [] then 0 else 1), ⟨2 * (a.st.length * a.st.length) - 1, [((i0, j0), [])], [(i0, j0)], _, _, _, _, rfl, ⟨by simp, fun i x t e => ?_⟩, fun s hs => by simpa using hs, fun s hs hn => absurd (by simpa using hs) hn, by simp, ?_⟩, fun d Γ hΓ => ?_⟩)
  · have hi : i = 0 := by
      have := (List.getElem?_eq_some_iff.mp e).1
      simp at this
      exact this
    subst hi
    cases e
    exact ⟨⟨rfl, rfl⟩, fun l hl => by simp at hl, Nat.le_refl _⟩
  · have : 1 * 1 ≤ a.st.length * a.st.length := Nat.mul_le_mul n1 n1
    simp
    omega
  obtain ⟨fd0, ly, s5, s6, s7, s8, rfl, hF0, hly, hcl, hz, hd⟩ := hΓ
  have inN : ∀ {fd : List ((Nat × Nat) × List Nat)}, FdOk (PrP a i0 j0) a.k fd → ∀ p ∈ fd.map (·.1), p.1 < a.st.length ∧ p.2 < a.st.length := fun {fd} hF p hp => by
    obtain ⟨q, hq, rfl⟩ := List.mem_map.mp hp
    obtain ⟨⟨b1, b1'⟩, b2, _⟩ := hF.mem (x := q.1) (t := q.2) hq
    rw [← b1, ← b1']
    exact ⟨ok.stOk.runLt _ hi0 b2, ok.stOk.runLt _ hj0 b2⟩
  have keyN : ∀ {fd : List ((Nat × Nat) × List Nat)}, FdOk (PrP a i0 j0) a.k fd → fd.length ≤ a.st.length * a.st.length := fun {fd} hF => by
    have h := pairs_le hF.nd (inN hF)
    rwa [List.length_map] at h
  have hlen0 := keyN hF0
  refine awt_trL ?_
  walk_at "go"
  cases hlye : ly with
  | nil =>
    subst hlye
    exact absurd (ner_of ok.stOk (fun i j => (i, j) ∈ fd0.map (·.1)) (fun i j _ _ h => (hcl _ h (by simp)).1) (fun i j l _ _ hl h => (hcl _ h (by simp)).2 l hl) hi0 hj0 hz) hne
  | cons s0 ly0 =>
    refine iteT ?_
    rw [← hlye]
    have hd : d + 2 * fd0.length = 2 * (a.st.length * a.st.length) + 1 := by rw [hd, hlye]; rfl
    refine ast_seq (ast_setX (awx_lst (aas_nil ⟨by decide, ?_⟩)))
    refine ast_seq ?_
    walk_at "go"
    refine ⟨fun i Γ => ∃ (fd : List ((Nat × Nat) × List Nat)) (nw : List (Nat × Nat)) (s6 s7 s8 : SV), Γ = [.d (qD a), .d (iD i0), .d (iD j0), .o (.dt (fdK cP fd)), .d (.list (ly.map kpP)), .o (.lst (nw.map kpP)), s6, s7, s8] ∧ FdOk (PrP a i0 j0) a.k fd ∧ fd.map (·.1) = fd0.map (·.1) ++ nw ∧
      ∀ s ∈ fd0.map (·.1), (s ∉ ly ∨ s ∈ ly.take i) → PtAt a (fd.map (·.1)) s, ⟨fd0, [], _, _, _, rfl, hF0, by simp, fun s hs h => ?_⟩, fun i x Γ hx hΓ => ?_, fun Γ hΓ => ?_⟩
    · rcases h with h | h
      · exact hcl s hs h
      · simp at h
    · obtain ⟨fd1, nw1, s6, s7, s8, rfl, hF1, hk1, hcl1⟩ := hΓ
      obtain ⟨s, hsi, hsm, rfl⟩ : ∃ s, ly[i]? = some s ∧ s ∈ ly ∧ x = kpP s := by
        rw [List.getElem?_map] at hx
        cases e : ly[i]? with
        | none => rw [e] at hx; cases hx
        | some s => rw [e] at hx; exact ⟨s, rfl, List.mem_of_getElem? e, (Option.some.inj hx).symm⟩
      have hs0 := hly s hsm
      obtain ⟨hs1, hs2⟩ := inN hF0 s hs0
      refine atg_name ?_
      walk_at "go"
      refine rd_ixP0 (p := cP s) ?_
      refine rd_nD (i := s.1) (by rw [al]; exact hs1) ?_
      walk_at "go"
      refine rd_ixP1 (p := cP s) ?_
      refine rd_nD (i := s.2) (by rw [al]; exact hs2) ?_
      refine rd_neN (exb ?_)
      by_cases he : a.an.getD s.1 0 = a.an.getD s.2 0
      · rw [decide_eq_true he]
        refine iteF (ast_next ?_)
        walk_at "go"
        refine ⟨by omega, fun l Γ => ∃ (fd : List ((Nat × Nat) × List Nat)) (nw : List (Nat × Nat)) (s7 s8 : SV), Γ = [.d (qD a), .d (iD i0), .d (iD j0), .o (.dt (fdK cP fd)), .d (.list (ly.map kpP)), .o (.lst (nw.map kpP)), .d (kpP s), s7, s8] ∧ FdOk (PrP a i0 j0) a.k fd ∧ fd.map (·.1) = fd0.map (·.1) ++ nw ∧
          (∀ z ∈ fd0.map (·.1), (z ∉ ly ∨ z ∈ ly.take i) → PtAt a (fd.map (·.1)) z) ∧ ∀ l', l' < l → (stp a.st s.1 l', stp a.st s.2 l') ∈ fd.map (·.1), ⟨fd1, nw1, _, _, rfl, hF1, hk1, hcl1, fun l' h => absurd h (Nat.not_lt_zero _)⟩, fun l x Γ hx hΓ => ?_, fun Γ hΓ => ?_⟩
        · obtain ⟨fd, nw, s7, s8, rfl, hF, hk, hcl2, hll⟩ := hΓ
          obtain ⟨hlk, rfl⟩ := rangeD_get hx
          have hlen := keyN hF
          refine atg_name ?_
          refine ast_seq (ast_set (awp_tupK ?_))
          walk_at "go"
          refine rd_ixP0 (p := cP s) ?_
          refine rd_sD (i := s.1) hs1 ?_
          walk_at "go"
          refine rd_nD (by rw [ok.stOk.row hs1]; exact hlk) ?_
          walk_at "go"
          refine rd_ixP1 (p := cP s) ?_
          refine rd_sD (i := s.2) hs2 ?_
          walk_at "go"
          refine rd_nD (by rw [ok.stOk.row hs2]; exact hlk) ?_
          walk_at "go"
          generalize hy : (stp a.st s.1 l, stp a.st s.2 l) = y
          have hyc : ((((stp a.st s.1 l : Nat) : Int)), (((stp a.st s.2 l : Nat) : Int))) = cP y := by rw [← hy]; rfl
          refine ⟨cP y, by rw [← hyc]; rfl, ?_⟩
          refine ast_if (awt_b (awp_dninT ?_))
          walk_at "go"
          refine ⟨cP y, _, rfl, rfl, exb ?_⟩
          have hkg := kget_fd cP_inj' (x := y) (fd := fd)
          cases hasc : asc fd y with
          | some t =>
            rw [hasc] at hkg
            rw [hkg]
            refine iteF (ast_next ?_)
            refine ⟨fd, nw, _, _, rfl, hF, hk, hcl2, fun l' h => ?_⟩
            by_cases e : l' = l
            · subst e; rw [hy]; exact List.mem_map.mpr ⟨_, asc_some hasc, rfl⟩
            · exact hll l' (by omega)
          | none =>
            rw [hasc] at hkg
            rw [hkg]
            refine iteT ?_
            have hsk : s ∈ fd.map (·.1) := by rw [hk]; exact List.mem_append_left _ hs0
            cases hascs : asc fd s with
            | none => exact absurd hsk (asc_none.mp hascs)
            | some t =>
              have hkgs := kget_fd cP_inj' (x := s) (fd := fd)
              rw [hascs] at hkgs
              have hm := asc_some hascs
              obtain ⟨b1, b2, b3⟩ := hF.mem hm
              have hF' := hF.add (y := y) (l := l) hm hlk (asc_none.mp hasc) fun h => by
                obtain ⟨h1, h2⟩ := h
                refine ⟨?_, ?_⟩
                · rw [run_snoc, h1, ← hy]
                · rw [run_snoc, h2, ← hy]
              have hlen' := keyN hF'
              rw [List.length_append, List.length_singleton] at hlen'
              have hnwl : nw.length ≤ fd.length := by
                have := congrArg List.length hk
                rw [List.length_append, List.length_map, List.length_map] at this
                omega
              refine ast_seq (ast_dputT (awp_op (awp_dgetT rfl ?_)))
              walk_at "go"
              refine ⟨cP s, _, _, rfl, rfl, hkgs, awp_tup ?_⟩
              walk_at "go"
              refine ⟨by simp, rd_catA (by rw [List.length_map]; simp; omega) ⟨⟨_, rfl⟩, ?_⟩⟩
              walk_at "go"
              refine ⟨cP y, _, rfl, rfl, by rw [fdK_len]; omega, hkg, ?_⟩
              refine ast_append rfl ?_
              walk_at "go"
              refine ⟨_, rfl, by rw [List.length_map]; omega, fd ++ [(y, t ++ [l])], nw ++ [y], .d (iD l), .d (kpP y), ?_, hF', ?_, fun z hz h => ?_, fun l' h => ?_⟩
              · rw [fdK_snoc, List.map_append]
                show _ = [_, _, _, SV.o (.dt (fdK cP fd ++ [(cP y, PyData.tuple ((t ++ [l]).map iD))])), _, _, _, _, _]
                rw [List.map_append]
                rfl
              · rw [List.map_append, hk, List.append_assoc]; rfl
              · obtain ⟨c1, c2⟩ := hcl2 z hz h
                exact ⟨c1, fun l' hl' => by rw [List.map_append]; exact List.mem_append_left _ (c2 l' hl')⟩
              · rw [List.map_append]
                by_cases e : l' = l
                · subst e; rw [hy]; exact List.mem_append_right _ (by simp)
                · exact List.mem_append_left _ (hll l' (by omega))
        · obtain ⟨fd, nw, s7, s8, rfl, hF, hk, hcl2, hll⟩ := hΓ
          rw [rangeD_len] at hll
          refine ⟨fd, nw, _, _, _, rfl, hF, hk, fun z hz h => ?_⟩
          rw [List.take_succ, hsi] at h
          by_cases e : z = s
          · subst e; exact ⟨he, hll⟩
          · refine hcl2 z hz ?_
            rcases h with h | h
            · exact .inl h
            · rcases List.mem_append.mp h with h | h
              · exact .inr h
              · exact absurd (by simpa using h) e
      · rw [decide_eq_false he]
        refine iteT (ast_ret (awp_dgetT rfl ?_))
        have hsk : s ∈ fd1.map (·.1) := by rw [hk1]; exact List.mem_append_left _ hs0
        cases hascs : asc fd1 s with
        | none => exact absurd hsk (asc_none.mp hascs)
        | some t =>
          have hkgs := kget_fd cP_inj' (x := s) (fd := fd1)
          rw [hascs] at hkgs
          obtain ⟨⟨b1, b1'⟩, b2, b3⟩ := hF1.mem (asc_some hascs)
          have hlen1 := keyN hF1
          walk_at "go"
          exact ⟨cP s, _, _, rfl, rfl, hkgs, t, rfl, b2, by omega, by show a.an.getD (run a.st i0 t) 0 ≠ a.an.getD (run a.st j0 t) 0; rw [b1, b1']; exact he⟩
    · obtain ⟨fd, nw, s6, s7, s8, rfl, hF, hk, hcl2⟩ := hΓ
      rw [List.length_map, List.take_length] at hcl2
      have hlen := keyN hF
      have hkl : fd.length = fd0.length + nw.length := by
        have := congrArg List.length hk
        rwa [List.length_append, List.length_map, List.length_map] at this
      refine ast_freeze 5 rfl (by rw [List.length_map]; omega) (ast_set ?_)
      walk_at "go"
      by_cases hnw : nw = []
      · refine ⟨d - 1, by omega, fd, nw, _, _, _, _, rfl, hF, fun s hs => ?_, fun s hs hn => ?_, ?_, ?_⟩
        · rw [hnw] at hs; simp at hs
        · rw [hk, hnw, List.append_nil] at hs
          exact hcl2 s hs (Classical.em (s ∈ ly) |>.symm)
        · rw [hk]; exact List.mem_append_left _ hz
        · rw [if_pos hnw]
          have : nw.length = 0 := by rw [hnw]; rfl
          omega
      · have hpos : 0 < nw.length := List.length_pos_iff.mpr hnw
        refine ⟨2 * (a.st.length * a.st.length) + 1 - 2 * fd.length, by omega, fd, nw, _, _, _, _, rfl, hF, fun s hs => ?_, fun s hs hn => ?_, ?_, ?_⟩
        · rw [hk]; exact List.mem_append_right _ hs
        · rw [hk] at hs
          rcases List.mem_append.mp hs with hs | hs
          · exact hcl2 s hs (Classical.em (s ∈ ly) |>.symm)
          · exact absurd hs hn
        · rw [hk]; exact List.mem_append_left _ hz
        · rw [if_neg hnw]; omega
end
end TW
end

section
set_option Elab.async false
set_option linter.all false
set_option maxRecDepth 100000
set_option maxHeartbeats 4000000
namespace TW
open PySem PySem.Spec PyProof.Rows L2
local macro_rules | `(tactic| walk_at "aw") => `(tactic| first
  | with_reducible refine ast_seq ?_
  | with_reducible refine ast_ret ?_
  | with_reducible refine ast_if ?_
  | with_reducible refine ast_next ?_
  | with_reducible refine awt_t ?_
  | with_reducible refine awt_b ?_
  | with_reducible refine awt_and ?_
  | with_reducible refine awt_or ?_
  | with_reducible refine awt_not ?_
  | with_reducible refine awt_yes ?_
  | ((with_reducible apply awp_row0); exact rfl)
  | ((with_reducible apply awp_row1); exact rfl)
  | ((with_reducible apply awp_row2); exact rfl)
  | ((with_reducible apply awp_row3); exact rfl)
  | with_reducible refine awp_op ?_
  | with_reducible refine awp_and ?_
  | with_reducible refine awp_or ?_
  | with_reducible refine awp_not ?_
  | with_reducible refine awp_chain ?_
  | with_reducible refine awp_if ?_
  | with_reducible refine awp_isN ?_
  | with_reducible refine awp_notN ?_
  | with_reducible refine awp_int ?_
  | with_reducible refine awp_bl ?_
  | with_reducible refine awp_str ?_
  | with_reducible refine awp_non ?_
  | with_reducible refine awp_isiT ?_
  | with_reducible refine awp_isiI ?_
  | with_reducible refine awp_isiB ?_
  | with_reducible refine awp_isiS ?_
  | with_reducible refine awp_isiL ?_
  | with_reducible refine awp_isiTL ?_
  | with_reducible refine awp_cb ?_
  | with_reducible refine awp_call ?_
  | with_reducible refine aas_nil ?_
  | with_reducible refine aas_cons ?_
  | with_reducible refine rd_lt ?_
  | with_reducible refine rd_le ?_
  | with_reducible refine rd_gt ?_
  | with_reducible refine rd_ge ?_
  | with_reducible refine rd_add ?_
  | with_reducible refine rd_sub ?_
  | with_reducible refine rd_notB ?_
  | with_reducible refine rd_q0 ?_
  | with_reducible refine rd_q1 ?_
  | with_reducible refine rd_q2 ?_
  | with_reducible refine rd_eqN ?_
  | with_reducible refine rd_neN ?_
  | with_reducible refine rd_eqT ?_
  | with_reducible refine rd_neT ?_
  | with_reducible refine rd_eqL ?_
  | with_reducible refine rd_neL ?_
  | with_reducible refine rd_eqI ?_
  | with_reducible refine rd_neI ?_
  | with_reducible refine rdn_int ?_
  | with_reducible refine rdn_min ?_
  | with_reducible refine awp_rg ?_
  | with_reducible refine awi_rng ?_
  | with_reducible refine awi_list ?_
  | with_reducible refine awi_tup ?_
  | with_reducible refine awi_enumL ?_
  | with_reducible refine awi_enumT ?_
  | with_reducible refine awp_sl ?_
  | with_reducible refine awo_no ?_
  | with_reducible refine awo_some ?_
  | with_reducible refine ast_while ?_
  | with_reducible refine ast_for ?_
  | with_reducible refine exb ?_
  | with_reducible refine exn ?_
  | with_reducible refine exi ?_
  | with_reducible refine exl ?_
  | with_reducible refine ext ?_
  | with_reducible refine exlD ?_
  | with_reducible refine exnD ?_
  | with_reducible refine exsD ?_
  | with_reducible refine rdn_lenN ?_
  | with_reducible refine rdn_lenS ?_
  | with_reducible refine rdn_lenL ?_
  | with_reducible refine rdn_lenl ?_
  | ((with_reducible apply awp_v); exact rfl))
local macro_rules | `(tactic| walk_at "go") => `(tactic| (repeat (first
  | with_reducible refine ast_seq ?_
  | with_reducible refine ast_ret ?_
  | with_reducible refine ast_if ?_
  | with_reducible refine ast_next ?_
  | with_reducible refine awt_t ?_
  | with_reducible refine awt_b ?_
  | with_reducible refine awt_and ?_
  | with_reducible refine awt_or ?_
  | with_reducible refine awt_not ?_
  | with_reducible refine awt_yes ?_
  | ((with_reducible apply awp_row0); exact rfl)
  | ((with_reducible apply awp_row1); exact rfl)
  | ((with_reducible apply awp_row2); exact rfl)
  | ((with_reducible apply awp_row3); exact rfl)
  | with_reducible refine awp_op ?_
  | with_reducible refine awp_and ?_
  | with_reducible refine awp_or ?_
  | with_reducible refine awp_not ?_
  | with_reducible refine awp_chain ?_
  | with_reducible refine awp_if ?_
  | with_reducible refine awp_isN ?_
  | with_reducible refine awp_notN ?_
  | with_reducible refine awp_int ?_
  | with_reducible refine awp_bl ?_
  | with_reducible refine awp_str ?_
  | with_reducible refine awp_non ?_
  | with_reducible refine awp_isiT ?_
  | with_reducible refine awp_isiI ?_
  | with_reducible refine awp_isiB ?_
  | with_reducible refine awp_isiS ?_
  | with_reducible refine awp_isiL ?_
  | with_reducible refine awp_isiTL ?_
  | with_reducible refine awp_cb ?_
  | with_reducible refine awp_call ?_
  | with_reducible refine aas_nil ?_
  | with_reducible refine aas_cons ?_
  | with_reducible refine rd_lt ?_
  | with_reducible refine rd_le ?_
  | with_reducible refine rd_gt ?_
  | with_reducible refine rd_ge ?_
  | with_reducible refine rd_add ?_
  | with_reducible refine rd_sub ?_
  | with_reducible refine rd_notB ?_
  | with_reducible refine rd_q0 ?_
  | with_reducible refine rd_q1 ?_
  | with_reducible refine rd_q2 ?_
  | with_reducible refine rd_eqN ?_
  | with_reducible refine rd_neN ?_
  | with_reducible refine rd_eqT ?_
  | with_reducible refine rd_neT ?_
  | with_reducible refine rd_eqL ?_
  | with_reducible refine rd_neL ?_
  | with_reducible refine rd_eqI ?_
  | with_reducible refine rd_neI ?_
  | with_reducible refine rdn_int ?_
  | with_reducible refine rdn_min ?_
  | with_reducible refine awp_rg ?_
  | with_reducible refine awi_rng ?_
  | with_reducible refine awi_list ?_
  | with_reducible refine awi_tup ?_
  | with_reducible refine awi_enumL ?_
  | with_reducible refine awi_enumT ?_
  | with_reducible refine awp_sl ?_
  | with_reducible refine awo_no ?_
  | with_reducible refine awo_some ?_
  | with_reducible refine ast_while ?_
  | with_reducible refine ast_for ?_
  | with_reducible refine exb ?_
  | with_reducible refine exn ?_
  | with_reducible refine exi ?_
  | with_reducible refine exl ?_
  | with_reducible refine ext ?_
  | with_reducible refine exlD ?_
  | with_reducible refine exnD ?_
  | with_reducible refine exsD ?_
  | with_reducible refine rdn_lenN ?_
  | with_reducible refine rdn_lenS ?_
  | with_reducible refine rdn_lenL ?_
  | with_reducible refine rdn_lenl ?_
  | ((with_reducible apply awp_v); exact rfl))))

section
variable {P : Program} {w : World} {K : PySem.W.Frag} {mg : Str → Option Value} {base : Heap} {T : List Addr}
theorem awp_ptv {W : Wd} {Γ : List SV} {Kk : List SV → PyData → Prop} {i : Nat} {ds : List PyData} (hi : Γ[i]? = some (.d (ptD ds))) (k : Kk Γ (.tuple ds)) : AWp W (tVar i) Γ Kk := fun c B σ H Q R q => by
  obtain ⟨v, e, h⟩ := R.sl i _ hi
  exact ⟨v, e, q v _ B H Γ k .rfl' R h.unpt⟩
/-! ### plain -/
theorem sub_len : ∀ (ks ns : List Int), ks.Nodup → (∀ k ∈ ks, k ∈ ns) → ks.length ≤ ns.length
  | [], _, _, _ => Nat.zero_le _
  | k :: ks, ns, nd, h => by
    rw [List.nodup_cons] at nd
    have hk := h k (List.mem_cons_self ..)
    have h1 := sub_len ks (ns.erase k) nd.2 fun x hx => by
      have hne : x ≠ k := fun e => nd.1 (e ▸ hx)
      exact (List.mem_erase_of_ne hne).mpr (h x (List.mem_cons_of_mem _ hx))
    rw [List.length_erase_of_mem hk] at h1
    have := List.length_pos_of_mem hk
    rw [List.length_cons]
    omega
theorem dup_ex : ∀ (ns : List Int), ¬ ns.Nodup → ∃ x, x ∈ ns ∧ x ∈ ns.erase x
  | [], h => absurd List.nodup_nil h
  | y :: ns, h => by
    by_cases hy : y ∈ ns
    · exact ⟨y, List.mem_cons_self .., by rw [List.erase_cons_head]; exact hy⟩
    · have h2 : ¬ ns.Nodup := fun nd => h (List.nodup_cons.mpr ⟨hy, nd⟩)
      obtain ⟨x, h3, h4⟩ := dup_ex ns h2
      have hne : y ≠ x := fun e => hy (e ▸ h3)
      refine ⟨x, List.mem_cons_of_mem _ h3, ?_⟩
      rw [List.erase_cons_tail (by simpa using hne)]
      exact List.mem_cons_of_mem _ h4
theorem set_len {ks ns : List Int} (nd : ks.Nodup) (hm : ∀ k, k ∈ ks ↔ k ∈ ns) : ks.length = ns.length ↔ ns.Nodup := by
  constructor
  · intro e
    refine Classical.byContradiction fun h => ?_
    obtain ⟨x, hx, hx2⟩ := dup_ex ns h
    have h1 := sub_len ks (ns.erase x) nd fun k hk => by
      by_cases e : k = x
      · subst e; exact hx2
      · exact (List.mem_erase_of_ne e).mpr ((hm k).mp hk)
    rw [List.length_erase_of_mem hx] at h1
    have := List.length_pos_of_mem hx
    omega
  · intro h
    exact Nat.le_antisymm (sub_len ks ns nd fun k hk => (hm k).mp hk) (sub_len ns ks h fun k hk => (hm k).mpr hk)
theorem nodup_cast {ns : List Nat} : (ns.map fun n : Nat => (n : Int)).Nodup ↔ ns.Nodup := by
  induction ns with
  | nil => simp
  | cons n ns ih =>
    rw [List.map_cons, List.nodup_cons, List.nodup_cons, ih, List.mem_map]
    refine and_congr_left fun _ => not_congr ⟨fun ⟨a, ha, e⟩ => ?_, fun h => ⟨n, h, rfl⟩⟩
    have : a = n := by omega
    exact this ▸ ha
def inj1 (m : M) : Bool := (colsL m).all fun row => decide row.Nodup
def comm (m : M) : Bool := (colsL m).all fun one => (colsL m).all fun other => decide (thenL one other = thenL other one)
def canB (w : Str) (m : M) : Bool := if (decide (w ∈ otoL) && !inj1 m) = true then false else (!decide (w ∈ ordL) || comm m)
theorem colsL_mem {m : M} {row : List Nat} (h : row ∈ colsL m) : ∃ l, l < m.k ∧ row = colL m.st l := by
  obtain ⟨l, hl, rfl⟩ := List.mem_map.mp h
  exact ⟨l, List.mem_range.mp hl, rfl⟩
theorem colL_len {st : List (List Nat)} {l : Nat} : (colL st l).length = st.length := by unfold colL; simp
theorem colL_get {st : List (List Nat)} {l s : Nat} (h : s < st.length) : (colL st l).getD s 0 = stp st s l := by
  unfold colL stp
  rw [List.getD_eq_getElem?_getD, List.getElem?_map, getD_some (d := []) h]
  rfl
theorem colL_lt {m : M} (ok : StOk m.k m.st) {l : Nat} (hl : l < m.k) : ∀ s ∈ colL m.st l, s < m.st.length := fun s hs => by
  obtain ⟨i, hi, rfl⟩ := getD_iff (d := 0) hs
  rw [colL_len] at hi
  rw [colL_get hi]
  exact ok.lt hi hl
theorem mapP_get {ns : List (List Nat)} {n : Nat} {x : PyData} (h : (ns.map pD)[n]? = some x) : ∃ s, ns[n]? = some s ∧ s ∈ ns ∧ x = pD s := by
  rw [List.getElem?_map] at h
  cases e : ns[n]? with
  | none => rw [e] at h; cases h
  | some s => rw [e] at h; exact ⟨s, rfl, List.mem_of_getElem? e, (Option.some.inj h).symm⟩
theorem lm_pre {m : M} (ok : m.ok) : m.k ≤ 1000 ∧ m.st.length ≤ 1000 ∧ ∀ r ∈ m.st, r.length = m.k := by
  have := ok.k3
  have := ok.n8
  exact ⟨by omega, by omega, ok.rl⟩
theorem all_map {α : Type} {f : α → PyData} {p : PyData → Bool} {q : α → Bool} {xs : List α} (h : ∀ x ∈ xs, p (f x) = q x) : (xs.map f).all p = xs.all q := by
  induction xs with
  | nil => rfl
  | cons x xs ih => rw [List.map_cons, List.all_cons, List.all_cons, h x (List.mem_cons_self ..), ih fun y hy => h y (List.mem_cons_of_mem _ hy)]
def unR : PyData → List Nat
  | .dict [(_, .list ds)] => ds.map fun x => match x with | .int i => i.toNat | _ => 0
  | .tuple ds => ds.map fun x => match x with | .int i => i.toNat | _ => 0
  | _ => []
theorem unR_p (ns : List Nat) : unR (pD ns) = ns := by
  show (ns.map iD).map _ = ns
  rw [List.map_map]
  conv => rhs; rw [← List.map_id ns]
  rfl
theorem unR_n (ns : List Nat) : unR (nD ns) = ns := by
  show (ns.map iD).map _ = ns
  rw [List.map_map]
  conv => rhs; rw [← List.map_id ns]
  rfl
theorem sc_are_one_to_one : FnScope ["question", "row"] ["question"] (defScope s_are_one_to_one) := ⟨rfl, rfl, rfl, by decide +kernel, rfl, by decide +kernel, by decide +kernel⟩
theorem bd_are_one_to_one : BindF "are_one_to_one" s_are_one_to_one ["question"] := fun _ _ _ _ _ _ us hl => match us, hl with | [_], _ => rfl
abbrev sp_are_one_to_one (W : Wd) : Sp := SpD W (fun m : M => [qD m]) (fun m => m.ok) (fun m r => r = .bool (inj1 m))
theorem ok_are_one_to_one (D : DdG K mg base T "are_one_to_one" s_are_one_to_one) (t : Bt K mg) (h_letter_maps : Ok P w K mg base 1 "letter_maps" ["question"] (sp_letter_maps ⟨K, T⟩)) : Ok P w K mg base 3 "are_one_to_one" ["question"] (sp_are_one_to_one ⟨K, T⟩) := by
  refine ok_mkG D sc_are_one_to_one rfl (fun _ => rfl) bd_are_one_to_one fun c Pt f A outer s H E TB hPt hr => ⟨_, (pss_one (ps_ret (pe_all1 (own := [("row", 1)]) (k := 1) hr rfl (by rfl) t.all (by decide +kernel) TB rfl sc_are_one_to_one.nd (blkOk_by (by rfl)) (by decide +kernel) rfl (by rfl) (piL (K := K) rfl (pe_callO h_letter_maps (hr.mono (by decide)) rfl (pa_cons (pv 0) pa_nil))) (fun _ _ ce _ hce hgl => (by cases ce; cases hce; exact pg_name (i := 1) sc_are_one_to_one.nd rfl (by first | exact Or.inl rfl | exact Or.inr rfl))) (fun _ _ ce _ hce hr1 => (by cases ce; cases hce; exact (pe_cmpR (oEq (K := K) rfl (u64 hr1)) (pLenSet (K := K) rfl (by rfl) t.len (by rfl) t.set rfl (pv 1)) (pe_callB (cLen (K := K) rfl) (by rfl) t.len (by decide +kernel) (pa_cons (pv 1) pa_nil)) (by first | rfl | exact nomark _)))) (fun _ => rfl)))), fun a hp => ?_⟩
  have ok : a.ok := hp
  have n8 := ok.n8
  walk_at "go"
  refine awp_all (List.mem_singleton.mpr rfl) hPt (awc_of ?_)
  walk_at "go"
  refine ⟨a, rfl, lm_pre ok, fun x hx => ?_⟩
  rw [show x = _ from hx]
  refine exl ⟨rfl, fun x => decide (unR x).Nodup, fun n x hx => ?_, ?_⟩
  · obtain ⟨row, _, hm, rfl⟩ := mapP_get hx
    obtain ⟨l, hl, rfl⟩ := colsL_mem hm
    walk_at "aw"
    refine awp_lenSet (awp_ptv rfl ⟨(colL a.st l).map fun n : Nat => (n : Int), by rw [List.map_map]; rfl, by rw [List.length_map, colL_len]; omega, fun ks nd hk => ?_⟩)
    walk_at "aw"
    refine aas_cons (awp_ptv rfl ?_)
    walk_at "go"
    refine rdn_len (.inr (.inl rfl)) ?_
    refine rd_eqN ⟨rfl, ?_⟩
    show PyData.bool _ = PyData.bool _
    congr 1
    show decide _ = decide (unR (pD (colL a.st l))).Nodup
    rw [unR_p]
    have h1 := set_len nd hk
    rw [List.length_map] at h1
    rw [List.length_map]
    exact decide_eq_decide.mpr (h1.trans nodup_cast)
  · show PyData.bool _ = PyData.bool (inj1 a)
    congr 1
    exact all_map fun row _ => by rw [unR_p]
theorem sc_do_commute : FnScope ["question", "rows", "one", "other"] ["question"] (defScope s_do_commute) := ⟨rfl, rfl, rfl, by decide +kernel, rfl, by decide +kernel, by decide +kernel⟩
theorem bd_do_commute : BindF "do_commute" s_do_commute ["question"] := fun _ _ _ _ _ _ us hl => match us, hl with | [_], _ => rfl
abbrev sp_do_commute (W : Wd) : Sp := SpD W (fun m : M => [qD m]) (fun m => m.ok) (fun m r => r = .bool (comm m))
theorem ok_do_commute (D : DdG K mg base T "do_commute" s_do_commute) (t : Bt K mg) (h_letter_maps : Ok P w K mg base 1 "letter_maps" ["question"] (sp_letter_maps ⟨K, T⟩)) (h_then : Ok P w K mg base 1 "then" ["one", "other"] (sp_then ⟨K, T⟩)) : Ok P w K mg base 3 "do_commute" ["question"] (sp_do_commute ⟨K, T⟩) := by
  refine ok_mkG D sc_do_commute rfl (fun _ => rfl) bd_do_commute fun c Pt f A outer s H E TB hPt hr => ⟨_, (pss_cons (ps_asg (pe_callO h_letter_maps (hr.mono (by decide)) rfl (pa_cons (pv 0) pa_nil)) (pg_name (i := 1) sc_do_commute.nd rfl (by first | exact Or.inl rfl | exact Or.inr rfl)))
    (pss_one (ps_ret (pe_all2 (own := [("one", 2), ("other", 3)]) (k := 1) hr rfl (by rfl) t.all (by decide +kernel) TB rfl sc_do_commute.nd (blkOk_by (by rfl)) (by decide +kernel) rfl (by rfl) (piL (K := K) rfl (pv 1)) (fun _ _ ce _ hce => (by cases ce; cases hce; exact pg_name (i := 2) sc_do_commute.nd rfl (by first | exact Or.inl rfl | exact Or.inr rfl))) (fun _ _ ce _ hce => (by cases ce; cases hce; exact pg_name (i := 3) sc_do_commute.nd rfl (by first | exact Or.inl rfl | exact Or.inr rfl))) (fun _ _ ce _ hce => (by cases ce; cases hce; exact (piL (K := K) rfl (pv 1)))) (fun _ _ ce _ hce hr1 => (by cases ce; cases hce; exact (pe_cmpR (oEq (K := K) rfl (u64 hr1)) (pe_callO h_then (hr1.mono (by decide)) rfl (pa_cons (pv 2) (pa_cons (pv 3) pa_nil))) (pe_callO h_then (hr1.mono (by decide)) rfl (pa_cons (pv 3) (pa_cons (pv 2) pa_nil))) (by first | rfl | exact nomark _)))) (fun _ => rfl) (fun _ _ => rfl))))), fun a hp => ?_⟩
  have ok : a.ok := hp
  have n8 := ok.n8
  refine ast_seq (ast_set ?_)
  walk_at "go"
  refine ⟨a, rfl, lm_pre ok, fun x hx => ?_⟩
  rw [show x = _ from hx]
  have epD : (colsL a).map pD = ((colsL a).map fun r => r.map iD).map ptD := by rw [List.map_map]; rfl
  have enD : ((colsL a).map fun r => r.map iD).map PyData.tuple = (colsL a).map nD := by rw [List.map_map]; rfl
  refine ast_unpts 1 (dss := (colsL a).map fun r => r.map iD) (by rw [epD]; rfl) ?_
  rw [enD]
  walk_at "go"
  refine awp_all2 (i := 2) (j := 3) (by simp) (by simp) (by decide) hPt (awc_of ?_)
  walk_at "go"
  refine ⟨rfl, fun x y => decide (thenL (unR x) (unR y) = thenL (unR y) (unR x)), (colsL a).map nD, fun n x hx => ?_, ?_⟩
  · obtain ⟨one, _, hm, rfl⟩ := mapS_get hx
    obtain ⟨l, hl, rfl⟩ := colsL_mem hm
    walk_at "go"
    refine ⟨rfl, rfl, fun n1 x1 hx1 => ?_⟩
    obtain ⟨other, _, hm1, rfl⟩ := mapS_get hx1
    obtain ⟨l1, hl1, rfl⟩ := colsL_mem hm1
    walk_at "go"
    refine ⟨(colL a.st l, colL a.st l1), rfl, ⟨by show (colL a.st l).length ≤ 1000; rw [colL_len]; omega, fun s hs => by show s < (colL a.st l1).length; rw [colL_len]; exact colL_lt ok.stOk hl s hs⟩, fun y hy => ?_⟩
    rw [show y = _ from hy]
    walk_at "go"
    refine ⟨(colL a.st l1, colL a.st l), rfl, ⟨by show (colL a.st l1).length ≤ 1000; rw [colL_len]; omega, fun s hs => by show s < (colL a.st l).length; rw [colL_len]; exact colL_lt ok.stOk hl1 s hs⟩, fun z hz => ?_⟩
    rw [show z = _ from hz]
    refine rd_eqT ⟨rfl, ?_⟩
    show _ = PyData.bool (decide (thenL (unR (nD _)) (unR (nD _)) = thenL (unR (nD _)) (unR (nD _))))
    rw [unR_n, unR_n]
  · show PyData.bool _ = PyData.bool (comm a)
    congr 1
    exact all_map fun one _ => all_map fun other _ => by
      show decide (thenL (unR (nD one)) (unR (nD other)) = thenL (unR (nD other)) (unR (nD one))) = _
      rw [unR_n, unR_n]
theorem sc_can : FnScope ["world", "question"] ["world", "question"] (defScope s_can) := ⟨rfl, rfl, rfl, by decide +kernel, rfl, by decide +kernel, by decide +kernel⟩
theorem bd_can : BindF "can" s_can ["world", "question"] := fun _ _ _ _ _ _ us hl => match us, hl with | [_, _], _ => rfl
abbrev sp_can (W : Wd) : Sp := SpD W (fun a : Str × M => [.str a.1, qD a.2]) (fun a => a.2.ok) (fun a r => r = .bool (canB a.1 a.2))
theorem ok_can (D : Dd K mg "can" s_can) (t : Bt K mg) (h_do_commute : Ok P w K mg base 3 "do_commute" ["question"] (sp_do_commute ⟨K, T⟩)) (h_are_one_to_one : Ok P w K mg base 3 "are_one_to_one" ["question"] (sp_are_one_to_one ⟨K, T⟩)) : Ok P w K mg base 4 "can" ["world", "question"] (sp_can ⟨K, T⟩) := by
  obtain ⟨aO, hO, sO⟩ := t.oto
  obtain ⟨aR, hR, sR⟩ := t.orderless
  refine ok_mk D sc_can rfl (fun _ => rfl) bd_can fun f cdv A outer s H E hr => ⟨_, (pss_cons (ps_if (PW.pt (pw_and (pt_cmpR (oIn (K := K) rfl) (pv 0) (pe_glob (v := .ref aO) rfl hO rfl) (by first | rfl | exact nomark _)) (pw_and1 (pt_not (pt_val (pe_callO h_are_one_to_one (hr.mono (by decide)) rfl (pa_cons (pv 1) pa_nil))))))) (pss_one (ps_ret pe_bl)) pss_nil)
    (pss_one (ps_ret (pe_or (pe_cmpR (oNotIn (K := K) rfl) (pv 0) (pe_glob (v := .ref aR) rfl hR rfl) (by first | rfl | exact nomark _)) (pe_one (pe_callO h_do_commute (hr.mono (by decide)) rfl (pa_cons (pv 1) pa_nil))))))), fun a hp => ?_⟩
  obtain ⟨ws, a⟩ := a
  have ok : a.ok := hp
  walk_at "go"
  refine awp_c (const_dv sO (by decide)) ?_
  refine rd_inS otoL (.inr rfl) (exb ?_)
  rw [if_neg Bool.false_ne_true]
  by_cases hO : ws ∈ otoL
  · rw [decide_eq_true hO]
    refine iteT ?_
    walk_at "go"
    refine ⟨a, rfl, ok, fun x hx => ?_⟩
    rw [show x = _ from hx]
    refine exb ?_
    cases hi : inj1 a with
    | true =>
      refine iteF ?_
      walk_at "go"
      refine awp_c (const_dv sR (by decide)) ?_
      refine rd_inS ordL (.inr rfl) (exb ?_)
      rw [if_pos rfl]
      by_cases hR : ws ∈ ordL
      · rw [decide_eq_true hR]
        refine iteF ?_
        walk_at "go"
        refine ⟨a, rfl, ok, fun x hx => ?_⟩
        rw [show x = _ from hx]
        show PyData.bool _ = PyData.bool (canB ws a)
        unfold canB
        rw [decide_eq_true hO, hi, decide_eq_true hR]
        rfl
      · rw [decide_eq_false hR]
        refine iteT ?_
        show PyData.bool _ = PyData.bool (canB ws a)
        unfold canB
        rw [decide_eq_true hO, hi, decide_eq_false hR]
        rfl
    | false =>
      refine iteT ?_
      walk_at "go"
      show PyData.bool _ = PyData.bool (canB ws a)
      unfold canB
      rw [decide_eq_true hO, hi]
      rfl
  · rw [decide_eq_false hO]
    refine iteF (iteF ?_)
    walk_at "go"
    refine awp_c (const_dv sR (by decide)) ?_
    refine rd_inS ordL (.inr rfl) (exb ?_)
    rw [if_pos rfl]
    by_cases hR : ws ∈ ordL
    · rw [decide_eq_true hR]
      refine iteF ?_
      walk_at "go"
      refine ⟨a, rfl, ok, fun x hx => ?_⟩
      rw [show x = _ from hx]
      show PyData.bool _ = PyData.bool (canB ws a)
      unfold canB
      rw [decide_eq_false hO, decide_eq_true hR]
      rfl
    · rw [decide_eq_false hR]
      refine iteT ?_
      show PyData.bool _ = PyData.bool (canB ws a)
      unfold canB
      rw [decide_eq_false hO, decide_eq_false hR]
      rfl
end
end TW
end

section
set_option Elab.async false
set_option linter.all false
set_option maxRecDepth 100000
set_option maxHeartbeats 4000000
namespace TW
open PySem PySem.Spec PyProof.Rows L2
local macro_rules | `(tactic| walk_at "aw") => `(tactic| first
  | with_reducible refine ast_seq ?_
  | with_reducible refine ast_ret ?_
  | with_reducible refine ast_if ?_
  | with_reducible refine ast_next ?_
  | with_reducible refine awt_t ?_
  | with_reducible refine awt_b ?_
  | with_reducible refine awt_and ?_
  | with_reducible refine awt_or ?_
  | with_reducible refine awt_not ?_
  | with_reducible refine awt_yes ?_
  | ((with_reducible apply awp_row0); exact rfl)
  | ((with_reducible apply awp_row1); exact rfl)
  | ((with_reducible apply awp_row2); exact rfl)
  | ((with_reducible apply awp_row3); exact rfl)
  | with_reducible refine awp_op ?_
  | with_reducible refine awp_and ?_
  | with_reducible refine awp_or ?_
  | with_reducible refine awp_not ?_
  | with_reducible refine awp_chain ?_
  | with_reducible refine awp_if ?_
  | with_reducible refine awp_isN ?_
  | with_reducible refine awp_notN ?_
  | with_reducible refine awp_int ?_
  | with_reducible refine awp_bl ?_
  | with_reducible refine awp_str ?_
  | with_reducible refine awp_non ?_
  | with_reducible refine awp_isiT ?_
  | with_reducible refine awp_isiI ?_
  | with_reducible refine awp_isiB ?_
  | with_reducible refine awp_isiS ?_
  | with_reducible refine awp_isiL ?_
  | with_reducible refine awp_isiTL ?_
  | with_reducible refine awp_cb ?_
  | with_reducible refine awp_call ?_
  | with_reducible refine aas_nil ?_
  | with_reducible refine aas_cons ?_
  | with_reducible refine rd_lt ?_
  | with_reducible refine rd_le ?_
  | with_reducible refine rd_gt ?_
  | with_reducible refine rd_ge ?_
  | with_reducible refine rd_add ?_
  | with_reducible refine rd_sub ?_
  | with_reducible refine rd_notB ?_
  | with_reducible refine rd_q0 ?_
  | with_reducible refine rd_q1 ?_
  | with_reducible refine rd_q2 ?_
  | with_reducible refine rd_eqN ?_
  | with_reducible refine rd_neN ?_
  | with_reducible refine rd_eqT ?_
  | with_reducible refine rd_neT ?_
  | with_reducible refine rd_eqL ?_
  | with_reducible refine rd_neL ?_
  | with_reducible refine rd_eqI ?_
  | with_reducible refine rd_neI ?_
  | with_reducible refine rdn_int ?_
  | with_reducible refine rdn_min ?_
  | with_reducible refine awp_rg ?_
  | with_reducible refine awi_rng ?_
  | with_reducible refine awi_list ?_
  | with_reducible refine awi_tup ?_
  | with_reducible refine awi_enumL ?_
  | with_reducible refine awi_enumT ?_
  | with_reducible refine awp_sl ?_
  | with_reducible refine awo_no ?_
  | with_reducible refine awo_some ?_
  | with_reducible refine ast_while ?_
  | with_reducible refine ast_for ?_
  | with_reducible refine exb ?_
  | with_reducible refine exn ?_
  | with_reducible refine exi ?_
  | with_reducible refine exl ?_
  | with_reducible refine ext ?_
  | with_reducible refine exlD ?_
  | with_reducible refine exnD ?_
  | with_reducible refine exsD ?_
  | with_reducible refine rdn_lenN ?_
  | with_reducible refine rdn_lenS ?_
  | with_reducible refine rdn_lenL ?_
  | with_reducible refine rdn_lenl ?_
  | ((with_reducible apply awp_v); exact rfl))
local macro_rules | `(tactic| walk_at "go") => `(tactic| (repeat (first
  | with_reducible refine ast_seq ?_
  | with_reducible refine ast_ret ?_
  | with_reducible refine ast_if ?_
  | with_reducible refine ast_next ?_
  | with_reducible refine awt_t ?_
  | with_reducible refine awt_b ?_
  | with_reducible refine awt_and ?_
  | with_reducible refine awt_or ?_
  | with_reducible refine awt_not ?_
  | with_reducible refine awt_yes ?_
  | ((with_reducible apply awp_row0); exact rfl)
  | ((with_reducible apply awp_row1); exact rfl)
  | ((with_reducible apply awp_row2); exact rfl)
  | ((with_reducible apply awp_row3); exact rfl)
  | with_reducible refine awp_op ?_
  | with_reducible refine awp_and ?_
  | with_reducible refine awp_or ?_
  | with_reducible refine awp_not ?_
  | with_reducible refine awp_chain ?_
  | with_reducible refine awp_if ?_
  | with_reducible refine awp_isN ?_
  | with_reducible refine awp_notN ?_
  | with_reducible refine awp_int ?_
  | with_reducible refine awp_bl ?_
  | with_reducible refine awp_str ?_
  | with_reducible refine awp_non ?_
  | with_reducible refine awp_isiT ?_
  | with_reducible refine awp_isiI ?_
  | with_reducible refine awp_isiB ?_
  | with_reducible refine awp_isiS ?_
  | with_reducible refine awp_isiL ?_
  | with_reducible refine awp_isiTL ?_
  | with_reducible refine awp_cb ?_
  | with_reducible refine awp_call ?_
  | with_reducible refine aas_nil ?_
  | with_reducible refine aas_cons ?_
  | with_reducible refine rd_lt ?_
  | with_reducible refine rd_le ?_
  | with_reducible refine rd_gt ?_
  | with_reducible refine rd_ge ?_
  | with_reducible refine rd_add ?_
  | with_reducible refine rd_sub ?_
  | with_reducible refine rd_notB ?_
  | with_reducible refine rd_q0 ?_
  | with_reducible refine rd_q1 ?_
  | with_reducible refine rd_q2 ?_
  | with_reducible refine rd_eqN ?_
  | with_reducible refine rd_neN ?_
  | with_reducible refine rd_eqT ?_
  | with_reducible refine rd_neT ?_
  | with_reducible refine rd_eqL ?_
  | with_reducible refine rd_neL ?_
  | with_reducible refine rd_eqI ?_
  | with_reducible refine rd_neI ?_
  | with_reducible refine rdn_int ?_
  | with_reducible refine rdn_min ?_
  | with_reducible refine awp_rg ?_
  | with_reducible refine awi_rng ?_
  | with_reducible refine awi_list ?_
  | with_reducible refine awi_tup ?_
  | with_reducible refine awi_enumL ?_
  | with_reducible refine awi_enumT ?_
  | with_reducible refine awp_sl ?_
  | with_reducible refine awo_no ?_
  | with_reducible refine awo_some ?_
  | with_reducible refine ast_while ?_
  | with_reducible refine ast_for ?_
  | with_reducible refine exb ?_
  | with_reducible refine exn ?_
  | with_reducible refine exi ?_
  | with_reducible refine exl ?_
  | with_reducible refine ext ?_
  | with_reducible refine exlD ?_
  | with_reducible refine exnD ?_
  | with_reducible refine exsD ?_
  | with_reducible refine rdn_lenN ?_
  | with_reducible refine rdn_lenS ?_
  | with_reducible refine rdn_lenL ?_
  | with_reducible refine rdn_lenl ?_
  | ((with_reducible apply awp_v); exact rfl))))

section
variable {P : Program} {w : World} {K : PySem.W.Frag} {mg : Str → Option Value} {base : Heap} {T : List Addr}
/-- a least machine -/
structure Lst (m : M) : Prop where
  ok : m.ok
  reach : Reach m
  dist : ∀ i j, i < m.st.length → j < m.st.length → Ner m i j → i = j
theorem small_lst {m : M} (ok : m.ok) : Lst (small m) := ⟨small_ok ok, fun j h0 hj => small_reach ok h0 hj, fun i j hi hj h => small_dist ok hi hj h⟩
def OrdG (m : M) (t : List Nat) (i j : Nat) (u : List Nat) : Prop := i < m.k ∧ j < m.k ∧ (∀ l ∈ t, l < m.k) ∧ (∀ l ∈ u, l < m.k) ∧ t.length ≤ 8 ∧ u.length ≤ 64 ∧
  m.an.getD (run m.st 0 (t ++ [i, j] ++ u)) 0 ≠ m.an.getD (run m.st 0 (t ++ [j, i] ++ u)) 0
def MrgG (m : M) (t u : List Nat) (i : Nat) (v : List Nat) : Prop := i < m.k ∧ (∀ l ∈ t, l < m.k) ∧ (∀ l ∈ u, l < m.k) ∧ (∀ l ∈ v, l < m.k) ∧ t.length ≤ 8 ∧ u.length ≤ 8 ∧ v.length ≤ 64 ∧
  m.an.getD (run m.st 0 (t ++ v)) 0 ≠ m.an.getD (run m.st 0 (u ++ v)) 0 ∧ run m.st 0 (t ++ [i]) = run m.st 0 (u ++ [i])
def ordD (t : List Nat) (i j : Nat) (u : List Nat) : PyData := .tuple [.str "order", nD t, iD i, iD j, nD u]
def mrgD (t u : List Nat) (i : Nat) (v : List Nat) : PyData := .tuple [.str "merge", nD t, nD u, iD i, nD v]
theorem colsL_get {m : M} {l : Nat} (hl : l < m.k) : (colsL m)[l]? = some (colL m.st l) := by
  unfold colsL
  rw [List.getElem?_map, List.getElem?_range hl]; rfl
theorem colsL_len {m : M} : (colsL m).length = m.k := by unfold colsL; simp
theorem thenL_get {m : M} (ok : StOk m.k m.st) {i j s : Nat} (hi : i < m.k) (hs : s < m.st.length) : (thenL (colL m.st i) (colL m.st j)).getD s 0 = stp m.st (stp m.st s i) j := by
  unfold thenL
  rw [List.getD_eq_getElem?_getD, List.getElem?_map, getD_some (d := 0) (by rw [colL_len]; exact hs), colL_get hs]
  exact colL_get (ok.lt hs hi)
theorem thenL_len {m : M} {i j : Nat} : (thenL (colL m.st i) (colL m.st j)).length = m.st.length := by unfold thenL; rw [List.length_map, colL_len]
theorem ext_getD {a b : List Nat} (hl : a.length = b.length) (h : ∀ i, i < a.length → a.getD i 0 = b.getD i 0) : a = b := by
  refine List.ext_getElem? fun i => ?_
  by_cases hi : i < a.length
  · rw [getD_some (d := 0) hi, getD_some (d := 0) (hl ▸ hi), h i hi]
  · rw [List.getElem?_eq_none (by omega), List.getElem?_eq_none (by omega)]
theorem comm_of {m : M} (ok : StOk m.k m.st) (h : ∀ i, i < m.k → ∀ j, j < m.k → ∀ s, s < m.st.length → stp m.st (stp m.st s i) j = stp m.st (stp m.st s j) i) : comm m = true := by
  unfold comm
  refine List.all_eq_true.mpr fun one h1 => List.all_eq_true.mpr fun other h2 => decide_eq_true ?_
  obtain ⟨i, hi, rfl⟩ := colsL_mem h1
  obtain ⟨j, hj, rfl⟩ := colsL_mem h2
  refine ext_getD (by rw [thenL_len, thenL_len]) fun s hs => ?_
  rw [thenL_len] at hs
  rw [thenL_get ok hi hs, thenL_get ok hj hs]
  exact h i hi j hj s hs
theorem comm_no {m : M} (ok : StOk m.k m.st) {i j s : Nat} (hi : i < m.k) (hj : j < m.k) (hs : s < m.st.length) (h : stp m.st (stp m.st s i) j ≠ stp m.st (stp m.st s j) i) : comm m = false := by
  refine Bool.eq_false_iff.mpr fun z => h ?_
  unfold comm at z
  have h1 := List.all_eq_true.mp z _ (List.mem_of_getElem? (colsL_get hi))
  have h2 := of_decide_eq_true (List.all_eq_true.mp h1 _ (List.mem_of_getElem? (colsL_get hj)))
  have h3 : (thenL (colL m.st i) (colL m.st j)).getD s 0 = (thenL (colL m.st j) (colL m.st i)).getD s 0 := by rw [h2]
  rw [thenL_get ok hi hs, thenL_get ok hj hs] at h3
  exact h3
theorem tx_get {m : M} {texts : List (List Nat)} (h : TxOk m texts) {s : Nat} {x : PyData} (hx : (texts.map nD)[s]? = some x) : s < m.st.length ∧ x = nD (texts.getD s []) := by
  rw [List.getElem?_map] at hx
  by_cases hs : s < texts.length
  · rw [getD_some (d := []) hs] at hx
    exact ⟨h.1 ▸ hs, (Option.some.inj hx).symm⟩
  · rw [List.getElem?_eq_none (by omega)] at hx
    cases hx
theorem enumM_get {f : List Nat → PyData} {xs : List (List Nat)} {i : Nat} {x : PyData} (h : (enumD (xs.map f))[i]? = some x) : ∃ r, xs[i]? = some r ∧ x = .tuple [iD i, f r] := by
  obtain ⟨d, hd, rfl⟩ := enumD_get h
  rw [List.getElem?_map] at hd
  cases e : xs[i]? with
  | none => rw [e] at hd; cases hd
  | some r => rw [e] at hd; exact ⟨r, rfl, by rw [← Option.some.inj hd]⟩
theorem colsL_inv {m : M} {l : Nat} {r : List Nat} (h : (colsL m)[l]? = some r) : l < m.k ∧ r = colL m.st l := by
  have hl : l < m.k := by have := (List.getElem?_eq_some_iff.mp h).1; rwa [colsL_len] at this
  rw [colsL_get hl] at h
  exact ⟨hl, (Option.some.inj h).symm⟩
theorem sc_order_reason : FnScope ["question", "rows", "texts", "one", "row", "other", "column", "state", "text", "ends"] ["question"] (defScope s_order_reason) := ⟨rfl, rfl, rfl, by decide +kernel, rfl, by decide +kernel, by decide +kernel⟩
theorem bd_order_reason : BindF "order_reason" s_order_reason ["question"] := fun _ _ _ _ _ _ us hl => match us, hl with | [_], _ => rfl
abbrev sp_order_reason (W : Wd) : Sp := SpD W (fun m : M => [qD m]) (fun m => Lst m) (fun m r => (r = .none ∧ comm m = true) ∨ ∃ t i j u, r = ordD t i j u ∧ OrdG m t i j u ∧ comm m = false)
theorem ok_order_reason (D : Dd K mg "order_reason" s_order_reason) (t : Bt K mg) (h_letter_maps : Ok P w K mg base 1 "letter_maps" ["question"] (sp_letter_maps ⟨K, T⟩)) (h_texts_to : Ok P w K mg base 1 "texts_to" ["question"] (sp_texts_to ⟨K, T⟩)) (h_then : Ok P w K mg base 1 "then" ["one", "other"] (sp_then ⟨K, T⟩)) (h_parting : Ok P w K mg base 1 "parting" ["question", "one", "other"] (sp_parting ⟨K, T⟩)) : Ok P w K mg base 2 "order_reason" ["question"] (sp_order_reason ⟨K, T⟩) := by
  refine ok_mk D sc_order_reason rfl (fun _ => rfl) bd_order_reason fun f cdv A outer s H E hr => ⟨_, (pss_cons (ps_par (i := 1) (j := 2) (by rfl) sc_order_reason.nd rfl rfl (by decide) rfl rfl (pa_cons (pe_callO h_letter_maps (hr.mono (by decide)) rfl (pa_cons (pv 0) pa_nil)) (pa_cons (pe_callO h_texts_to (hr.mono (by decide)) rfl (pa_cons (pv 0) pa_nil)) pa_nil)) (by rfl))
    (pss_cons (ps_for PassesOwn.never rfl (piEnL (K := K) rfl (by rfl) t.enumerate (pa_cons (pv 1) pa_nil)) (pgT (K := K) rfl rfl (pgs_cons (pg_name (i := 3) sc_order_reason.nd rfl (by first | exact Or.inl rfl | exact Or.inr rfl)) (pgs_cons (pg_name (i := 4) sc_order_reason.nd rfl (by first | exact Or.inl rfl | exact Or.inr rfl)) pgs_nil))) (pss_one (ps_for PassesOwn.never rfl (piEnL (K := K) rfl (by rfl) t.enumerate (pa_cons (pv 1) pa_nil)) (pgT (K := K) rfl rfl (pgs_cons (pg_name (i := 5) sc_order_reason.nd rfl (by first | exact Or.inl rfl | exact Or.inr rfl)) (pgs_cons (pg_name (i := 6) sc_order_reason.nd rfl (by first | exact Or.inl rfl | exact Or.inr rfl)) pgs_nil))) (pss_one (ps_for PassesOwn.never rfl (piEnL (K := K) rfl (by rfl) t.enumerate (pa_cons (pv 2) pa_nil)) (pgT (K := K) rfl rfl (pgs_cons (pg_name (i := 7) sc_order_reason.nd rfl (by first | exact Or.inl rfl | exact Or.inr rfl)) (pgs_cons (pg_name (i := 8) sc_order_reason.nd rfl (by first | exact Or.inl rfl | exact Or.inr rfl)) pgs_nil))) (pss_cons (ps_asg (pe_tup (pa_cons (pe_ix (ixT (K := K) rfl) (pe_callO h_then (hr.mono (by decide)) rfl (pa_cons (pv 4) (pa_cons (pv 6) pa_nil))) (pv 7) (fun _ _ => rfl)) (pa_cons (pe_ix (ixT (K := K) rfl) (pe_callO h_then (hr.mono (by decide)) rfl (pa_cons (pv 6) (pa_cons (pv 4) pa_nil))) (pv 7) (fun _ _ => rfl)) pa_nil))) (pg_name (i := 9) sc_order_reason.nd rfl (by first | exact Or.inl rfl | exact Or.inr rfl)))
    (pss_one (ps_if (pt_cmpR (oNe (K := K) rfl (u64 hr)) (pe_ix (ixT (K := K) rfl) (pv 9) pe_int (fun _ _ => rfl)) (pe_ix (ixT (K := K) rfl) (pv 9) pe_int (fun _ _ => rfl)) (by first | rfl | exact nomark _)) (pss_one (ps_ret (pe_tup (pa_cons pe_str (pa_cons (pv 8) (pa_cons (pv 3) (pa_cons (pv 5) (pa_cons (pe_callO h_parting (hr.mono (by decide)) rfl (pa_cons (pv 0) (pa_cons (pe_ix (ixT (K := K) rfl) (pv 9) pe_int (fun _ _ => rfl)) (pa_cons (pe_ix (ixT (K := K) rfl) (pv 9) pe_int (fun _ _ => rfl)) pa_nil)))) pa_nil)))))))) pss_nil))))))))
    (pss_one (ps_ret pe_non)))), fun a hp => ?_⟩
  have L : Lst a := hp
  have ok := L.ok
  have n8 := ok.n8
  have k3 := ok.k3
  refine ast_seq (ast_par (aax_cons (awx_of ?_)))
  walk_at "go"
  refine ⟨a, rfl, lm_pre ok, fun x hx => ?_⟩
  rw [show x = _ from hx]
  refine aax_cons (awx_of ?_)
  walk_at "go"
  refine ⟨a, rfl, ⟨ok, L.reach⟩, fun y hy => ?_⟩
  obtain ⟨texts, rfl, hT⟩ := hy
  refine aax_nil ⟨_, _, rfl, ?_⟩
  have epD : (colsL a).map pD = ((colsL a).map fun r => r.map iD).map ptD := by rw [List.map_map]; rfl
  have enD : ((colsL a).map fun r => r.map iD).map PyData.tuple = (colsL a).map nD := by rw [List.map_map]; rfl
  refine ast_unpts 1 (dss := (colsL a).map fun r => r.map iD) (by rw [epD]; rfl) ?_
  rw [enD]
  refine ast_seq ?_
  walk_at "go"
  let C := fun i j s => stp a.st (stp a.st s i) j = stp a.st (stp a.st s j) i
  refine ⟨fun i Γ => ∃ s3 s4 s5 s6 s7 s8 s9 : SV, Γ = [.d (qD a), .d (.list ((colsL a).map nD)), .d (.list (texts.map nD)), s3, s4, s5, s6, s7, s8, s9] ∧ ∀ i', i' < i → ∀ j, j < a.k → ∀ s, s < a.st.length → C i' j s, ⟨_, _, _, _, _, _, _, rfl, fun i' h => absurd h (Nat.not_lt_zero _)⟩, fun i x Γ hx hΓ => ?_, fun Γ hΓ => ?_⟩
  · obtain ⟨s3, s4, s5, s6, s7, s8, s9, rfl, hc1⟩ := hΓ
    obtain ⟨row, hr', rfl⟩ := enumM_get hx
    obtain ⟨hik, rfl⟩ := colsL_inv hr'
    refine atg_tup rfl (atgs_cons (atg_name (atgs_cons (atg_name (atgs_nil ?_)))))
    walk_at "go"
    refine ⟨fun j Γ => ∃ s5 s6 s7 s8 s9 : SV, Γ = [.d (qD a), .d (.list ((colsL a).map nD)), .d (.list (texts.map nD)), .d (iD i), .d (nD (colL a.st i)), s5, s6, s7, s8, s9] ∧ ∀ j', j' < j → ∀ s, s < a.st.length → C i j' s, ⟨_, _, _, _, _, rfl, fun i' h => absurd h (Nat.not_lt_zero _)⟩, fun j x Γ hx hΓ => ?_, fun Γ hΓ => ?_⟩
    · obtain ⟨s5, s6, s7, s8, s9, rfl, hc2⟩ := hΓ
      obtain ⟨col, hc', rfl⟩ := enumM_get hx
      obtain ⟨hjk, rfl⟩ := colsL_inv hc'
      refine atg_tup rfl (atgs_cons (atg_name (atgs_cons (atg_name (atgs_nil ?_)))))
      walk_at "go"
      refine ⟨fun s Γ => ∃ s7 s8 s9 : SV, Γ = [.d (qD a), .d (.list ((colsL a).map nD)), .d (.list (texts.map nD)), .d (iD i), .d (nD (colL a.st i)), .d (iD j), .d (nD (colL a.st j)), s7, s8, s9] ∧ ∀ s', s' < s → C i j s', ⟨_, _, _, rfl, fun i' h => absurd h (Nat.not_lt_zero _)⟩, fun s x Γ hx hΓ => ?_, fun Γ hΓ => ?_⟩
      · obtain ⟨s7, s8, s9, rfl, hc3⟩ := hΓ
        obtain ⟨d0, hd0, rfl⟩ := enumD_get hx
        obtain ⟨hs, rfl⟩ := tx_get hT hd0
        obtain ⟨t1, t2, t3⟩ := hT.2 s hs
        refine atg_tup rfl (atgs_cons (atg_name (atgs_cons (atg_name (atgs_nil ?_)))))
        have pre : ∀ i j, i < a.k → (colL a.st i).length ≤ 1000 ∧ ∀ s ∈ colL a.st i, s < (colL a.st j).length := fun i j hi => ⟨by rw [colL_len]; omega, fun s hs => by rw [colL_len]; exact colL_lt ok.stOk hi s hs⟩
        refine ast_seq (ast_set (awp_tup ?_))
        walk_at "go"
        refine ⟨(colL a.st i, colL a.st j), rfl, pre i j hik, fun y hy => ?_⟩
        rw [show y = _ from hy]
        walk_at "go"
        refine rd_nD (by show s < (thenL (colL a.st i) (colL a.st j)).length; rw [thenL_len]; exact hs) ?_
        walk_at "go"
        refine ⟨(colL a.st j, colL a.st i), rfl, pre j i hjk, fun y hy => ?_⟩
        rw [show y = _ from hy]
        walk_at "go"
        refine rd_nD (by show s < (thenL (colL a.st j) (colL a.st i)).length; rw [thenL_len]; exact hs) ?_
        show AAs _ _ _ _
        rw [show (thenL (colL a.st i, colL a.st j).1 (colL a.st i, colL a.st j).2).getD s 0 = _ from thenL_get ok.stOk hik hs, show (thenL (colL a.st j, colL a.st i).1 (colL a.st j, colL a.st i).2).getD s 0 = _ from thenL_get ok.stOk hjk hs]
        walk_at "go"
        refine ⟨by simp, ?_⟩
        have hx1 : stp a.st (stp a.st s i) j < a.st.length := ok.stOk.lt (ok.stOk.lt hs hik) hjk
        have hx2 : stp a.st (stp a.st s j) i < a.st.length := ok.stOk.lt (ok.stOk.lt hs hjk) hik
        have e0 : PyData.tuple [iD (stp a.st (stp a.st s i) j), iD (stp a.st (stp a.st s j) i)] = nD [stp a.st (stp a.st s i) j, stp a.st (stp a.st s j) i] := rfl
        rw [e0]
        have i0 : ∀ {Kp : PyData → Prop}, Kp (iD (stp a.st (stp a.st s i) j)) → RD ⟨K, T⟩ (rIxT K) (nD [stp a.st (stp a.st s i) j, stp a.st (stp a.st s j) i]) (.int 0) Kp := fun k => rd_nD (i := 0) (by simp) k
        have i1 : ∀ {Kp : PyData → Prop}, Kp (iD (stp a.st (stp a.st s j) i)) → RD ⟨K, T⟩ (rIxT K) (nD [stp a.st (stp a.st s i) j, stp a.st (stp a.st s j) i]) (.int 1) Kp := fun k => rd_nD (i := 1) (by simp) k
        walk_at "go"
        refine i0 ?_
        walk_at "go"
        refine i1 (rd_neN (exb ?_))
        by_cases he : stp a.st (stp a.st s i) j = stp a.st (stp a.st s j) i
        · rw [decide_eq_true he]
          refine iteF (ast_next ?_)
          refine ⟨_, _, _, rfl, fun s' h => ?_⟩
          by_cases e : s' = s
          · subst e; exact he
          · exact hc3 s' (by omega)
        · rw [decide_eq_false he]
          refine iteT (ast_ret (awp_tup ?_))
          walk_at "go"
          refine i0 ?_
          walk_at "go"
          refine i1 ?_
          walk_at "go"
          refine ⟨(a, stp a.st (stp a.st s i) j, stp a.st (stp a.st s j) i), rfl, ⟨ok, hx1, hx2, fun h => he (L.dist _ _ hx1 hx2 h)⟩, fun y hy => ?_⟩
          obtain ⟨u, rfl, u1, u2, u3⟩ := hy
          walk_at "go"
          refine ⟨by simp, .inr ⟨texts.getD s [], i, j, u, rfl, ⟨hik, hjk, t2, u1, t3, u2, ?_⟩, comm_no ok.stOk hik hjk hs he⟩⟩
          rw [run_app, run_app, run_app, run_app, t1]
          exact u3
      · obtain ⟨s7, s8, s9, rfl, hc3⟩ := hΓ
        rw [enumD_len, List.length_map, hT.1] at hc3
        refine ⟨_, _, _, _, _, rfl, fun j' h => ?_⟩
        by_cases e : j' = j
        · subst e; exact hc3
        · exact hc2 j' (by omega)
    · obtain ⟨s5, s6, s7, s8, s9, rfl, hc2⟩ := hΓ
      rw [enumD_len, List.length_map, colsL_len] at hc2
      refine ⟨_, _, _, _, _, _, _, rfl, fun i' h => ?_⟩
      by_cases e : i' = i
      · subst e; exact hc2
      · exact hc1 i' (by omega)
  · obtain ⟨s3, s4, s5, s6, s7, s8, s9, rfl, hc1⟩ := hΓ
    rw [enumD_len, List.length_map, colsL_len] at hc1
    walk_at "go"
    exact .inl ⟨rfl, comm_of ok.stOk hc1⟩
end
end TW
end

section
set_option Elab.async false
set_option linter.all false
set_option maxRecDepth 100000
set_option maxHeartbeats 4000000
namespace TW
open PySem PySem.Spec PyProof.Rows L2
local macro_rules | `(tactic| walk_at "aw") => `(tactic| first
  | with_reducible refine ast_seq ?_
  | with_reducible refine ast_ret ?_
  | with_reducible refine ast_if ?_
  | with_reducible refine ast_next ?_
  | with_reducible refine awt_t ?_
  | with_reducible refine awt_b ?_
  | with_reducible refine awt_and ?_
  | with_reducible refine awt_or ?_
  | with_reducible refine awt_not ?_
  | with_reducible refine awt_yes ?_
  | ((with_reducible apply awp_row0); exact rfl)
  | ((with_reducible apply awp_row1); exact rfl)
  | ((with_reducible apply awp_row2); exact rfl)
  | ((with_reducible apply awp_row3); exact rfl)
  | with_reducible refine awp_op ?_
  | with_reducible refine awp_and ?_
  | with_reducible refine awp_or ?_
  | with_reducible refine awp_not ?_
  | with_reducible refine awp_chain ?_
  | with_reducible refine awp_if ?_
  | with_reducible refine awp_isN ?_
  | with_reducible refine awp_notN ?_
  | with_reducible refine awp_int ?_
  | with_reducible refine awp_bl ?_
  | with_reducible refine awp_str ?_
  | with_reducible refine awp_non ?_
  | with_reducible refine awp_isiT ?_
  | with_reducible refine awp_isiI ?_
  | with_reducible refine awp_isiB ?_
  | with_reducible refine awp_isiS ?_
  | with_reducible refine awp_isiL ?_
  | with_reducible refine awp_isiTL ?_
  | with_reducible refine awp_cb ?_
  | with_reducible refine awp_call ?_
  | with_reducible refine aas_nil ?_
  | with_reducible refine aas_cons ?_
  | with_reducible refine rd_lt ?_
  | with_reducible refine rd_le ?_
  | with_reducible refine rd_gt ?_
  | with_reducible refine rd_ge ?_
  | with_reducible refine rd_add ?_
  | with_reducible refine rd_sub ?_
  | with_reducible refine rd_notB ?_
  | with_reducible refine rd_q0 ?_
  | with_reducible refine rd_q1 ?_
  | with_reducible refine rd_q2 ?_
  | with_reducible refine rd_eqN ?_
  | with_reducible refine rd_neN ?_
  | with_reducible refine rd_eqT ?_
  | with_reducible refine rd_neT ?_
  | with_reducible refine rd_eqL ?_
  | with_reducible refine rd_neL ?_
  | with_reducible refine rd_eqI ?_
  | with_reducible refine rd_neI ?_
  | with_reducible refine rdn_int ?_
  | with_reducible refine rdn_min ?_
  | with_reducible refine awp_rg ?_
  | with_reducible refine awi_rng ?_
  | with_reducible refine awi_list ?_
  | with_reducible refine awi_tup ?_
  | with_reducible refine awi_enumL ?_
  | with_reducible refine awi_enumT ?_
  | with_reducible refine awp_sl ?_
  | with_reducible refine awo_no ?_
  | with_reducible refine awo_some ?_
  | with_reducible refine ast_while ?_
  | with_reducible refine ast_for ?_
  | with_reducible refine exb ?_
  | with_reducible refine exn ?_
  | with_reducible refine exi ?_
  | with_reducible refine exl ?_
  | with_reducible refine ext ?_
  | with_reducible refine exlD ?_
  | with_reducible refine exnD ?_
  | with_reducible refine exsD ?_
  | with_reducible refine rdn_lenN ?_
  | with_reducible refine rdn_lenS ?_
  | with_reducible refine rdn_lenL ?_
  | with_reducible refine rdn_lenl ?_
  | ((with_reducible apply awp_v); exact rfl))
local macro_rules | `(tactic| walk_at "go") => `(tactic| (repeat (first
  | with_reducible refine ast_seq ?_
  | with_reducible refine ast_ret ?_
  | with_reducible refine ast_if ?_
  | with_reducible refine ast_next ?_
  | with_reducible refine awt_t ?_
  | with_reducible refine awt_b ?_
  | with_reducible refine awt_and ?_
  | with_reducible refine awt_or ?_
  | with_reducible refine awt_not ?_
  | with_reducible refine awt_yes ?_
  | ((with_reducible apply awp_row0); exact rfl)
  | ((with_reducible apply awp_row1); exact rfl)
  | ((with_reducible apply awp_row2); exact rfl)
  | ((with_reducible apply awp_row3); exact rfl)
  | with_reducible refine awp_op ?_
  | with_reducible refine awp_and ?_
  | with_reducible refine awp_or ?_
  | with_reducible refine awp_not ?_
  | with_reducible refine awp_chain ?_
  | with_reducible refine awp_if ?_
  | with_reducible refine awp_isN ?_
  | with_reducible refine awp_notN ?_
  | with_reducible refine awp_int ?_
  | with_reducible refine awp_bl ?_
  | with_reducible refine awp_str ?_
  | with_reducible refine awp_non ?_
  | with_reducible refine awp_isiT ?_
  | with_reducible refine awp_isiI ?_
  | with_reducible refine awp_isiB ?_
  | with_reducible refine awp_isiS ?_
  | with_reducible refine awp_isiL ?_
  | with_reducible refine awp_isiTL ?_
  | with_reducible refine awp_cb ?_
  | with_reducible refine awp_call ?_
  | with_reducible refine aas_nil ?_
  | with_reducible refine aas_cons ?_
  | with_reducible refine rd_lt ?_
  | with_reducible refine rd_le ?_
  | with_reducible refine rd_gt ?_
  | with_reducible refine rd_ge ?_
  | with_reducible refine rd_add ?_
  | with_reducible refine rd_sub ?_
  | with_reducible refine rd_notB ?_
  | with_reducible refine rd_q0 ?_
  | with_reducible refine rd_q1 ?_
  | with_reducible refine rd_q2 ?_
  | with_reducible refine rd_eqN ?_
  | with_reducible refine rd_neN ?_
  | with_reducible refine rd_eqT ?_
  | with_reducible refine rd_neT ?_
  | with_reducible refine rd_eqL ?_
  | with_reducible refine rd_neL ?_
  | with_reducible refine rd_eqI ?_
  | with_reducible refine rd_neI ?_
  | with_reducible refine rdn_int ?_
  | with_reducible refine rdn_min ?_
  | with_reducible refine awp_rg ?_
  | with_reducible refine awi_rng ?_
  | with_reducible refine awi_list ?_
  | with_reducible refine awi_tup ?_
  | with_reducible refine awi_enumL ?_
  | with_reducible refine awi_enumT ?_
  | with_reducible refine awp_sl ?_
  | with_reducible refine awo_no ?_
  | with_reducible refine awo_some ?_
  | with_reducible refine ast_while ?_
  | with_reducible refine ast_for ?_
  | with_reducible refine exb ?_
  | with_reducible refine exn ?_
  | with_reducible refine exi ?_
  | with_reducible refine exl ?_
  | with_reducible refine ext ?_
  | with_reducible refine exlD ?_
  | with_reducible refine exnD ?_
  | with_reducible refine exsD ?_
  | with_reducible refine rdn_lenN ?_
  | with_reducible refine rdn_lenS ?_
  | with_reducible refine rdn_lenL ?_
  | with_reducible refine rdn_lenl ?_
  | ((with_reducible apply awp_v); exact rfl))))

section
variable {P : Program} {w : World} {K : PySem.W.Frag} {mg : Str → Option Value} {base : Heap} {T : List Addr}
theorem gD_el {xs : List Nat} {i : Nat} (h : i < xs.length) : xs.getD i 0 = xs[i] := by rw [List.getD_eq_getElem?_getD, List.getElem?_eq_getElem h]; rfl
theorem idx_first {xs : List Nat} {x : Nat} (hm : x ∈ xs) : xs.idxOf x < xs.length ∧ xs.getD (xs.idxOf x) 0 = x ∧ ∀ m, m < xs.idxOf x → xs[m]? ≠ some x := by
  have hlt := List.idxOf_lt_length_of_mem hm
  have hx : xs[xs.idxOf x] = x := List.getElem_idxOf hlt
  refine ⟨hlt, by rw [gD_el hlt, hx], fun m hm' he => ?_⟩
  have := List.not_of_lt_findIdx (p := (· == x)) (xs := xs) (i := m) hm'
  rw [List.getElem?_eq_getElem (by omega)] at he
  simp [Option.some.inj he] at this
theorem nodup_idx {xs : List Nat} (h : ∀ s, s < xs.length → xs.idxOf (xs.getD s 0) = s) : xs.Nodup := by
  rw [List.nodup_iff_pairwise_ne, List.pairwise_iff_getElem]
  intro i j hi hj hij e
  have h1 := h i hi
  have h2 := h j hj
  rw [gD_el hi] at h1
  rw [gD_el hj, ← e] at h2
  omega
theorem nodup_no {xs : List Nat} {i j : Nat} (hi : i < xs.length) (hj : j < xs.length) (hij : i ≠ j) (e : xs.getD i 0 = xs.getD j 0) : ¬ xs.Nodup := fun nd => by
  rw [List.nodup_iff_pairwise_ne, List.pairwise_iff_getElem] at nd
  rw [gD_el hi, gD_el hj] at e
  rcases Nat.lt_or_gt_of_ne hij with h | h
  · exact nd i j hi hj h e
  · exact nd j i hj hi h e.symm
theorem sc_merge_reason : FnScope ["question", "texts", "letter", "row", "state", "after", "first"] ["question"] (defScope s_merge_reason) := ⟨rfl, rfl, rfl, by decide +kernel, rfl, by decide +kernel, by decide +kernel⟩
theorem bd_merge_reason : BindF "merge_reason" s_merge_reason ["question"] := fun _ _ _ _ _ _ us hl => match us, hl with | [_], _ => rfl
abbrev sp_merge_reason (W : Wd) : Sp := SpD W (fun m : M => [qD m]) (fun m => Lst m) (fun m r => (r = .none ∧ inj1 m = true) ∨ ∃ t u i v, r = mrgD t u i v ∧ MrgG m t u i v ∧ inj1 m = false)
theorem ok_merge_reason (D : Dd K mg "merge_reason" s_merge_reason) (t : Bt K mg) (h_texts_to : Ok P w K mg base 1 "texts_to" ["question"] (sp_texts_to ⟨K, T⟩)) (h_letter_maps : Ok P w K mg base 1 "letter_maps" ["question"] (sp_letter_maps ⟨K, T⟩)) (h_parting : Ok P w K mg base 1 "parting" ["question", "one", "other"] (sp_parting ⟨K, T⟩)) : Ok P w K mg base 2 "merge_reason" ["question"] (sp_merge_reason ⟨K, T⟩) := by
  refine ok_mk D sc_merge_reason rfl (fun _ => rfl) bd_merge_reason fun f cdv A outer s H E hr => ⟨_, (pss_cons (ps_asg (pe_callO h_texts_to (hr.mono (by decide)) rfl (pa_cons (pv 0) pa_nil)) (pg_name (i := 1) sc_merge_reason.nd rfl (by first | exact Or.inl rfl | exact Or.inr rfl)))
    (pss_cons (ps_for PassesOwn.never rfl (piEnL (K := K) rfl (by rfl) t.enumerate (pa_cons (pe_callO h_letter_maps (hr.mono (by decide)) rfl (pa_cons (pv 0) pa_nil)) pa_nil)) (pgT (K := K) rfl rfl (pgs_cons (pg_name (i := 2) sc_merge_reason.nd rfl (by first | exact Or.inl rfl | exact Or.inr rfl)) (pgs_cons (pg_name (i := 3) sc_merge_reason.nd rfl (by first | exact Or.inl rfl | exact Or.inr rfl)) pgs_nil))) (pss_one (ps_for PassesOwn.never rfl (piEnT (K := K) rfl (by rfl) t.enumerate (pa_cons (pv 3) pa_nil)) (pgT (K := K) rfl rfl (pgs_cons (pg_name (i := 4) sc_merge_reason.nd rfl (by first | exact Or.inl rfl | exact Or.inr rfl)) (pgs_cons (pg_name (i := 5) sc_merge_reason.nd rfl (by first | exact Or.inl rfl | exact Or.inr rfl)) pgs_nil))) (pss_cons (ps_asg (pe_bmF PySem.F.plainAttrs_tuple PySem.F.slot_tuple_index PySem.F.type_tuple_index (mIxI (K := K) rfl) (pv 3) (pa_cons (pv 5) pa_nil)) (pg_name (i := 6) sc_merge_reason.nd rfl (by first | exact Or.inl rfl | exact Or.inr rfl)))
    (pss_one (ps_if (pt_cmpR (oNe (K := K) rfl (u64 hr)) (pv 6) (pv 4) (by first | rfl | exact nomark _)) (pss_one (ps_ret (pe_tup (pa_cons pe_str (pa_cons (pe_ix (ixL (K := K) rfl) (pv 1) (pv 6) (fun _ _ => rfl)) (pa_cons (pe_ix (ixL (K := K) rfl) (pv 1) (pv 4) (fun _ _ => rfl)) (pa_cons (pv 2) (pa_cons (pe_callO h_parting (hr.mono (by decide)) rfl (pa_cons (pv 0) (pa_cons (pv 6) (pa_cons (pv 4) pa_nil)))) pa_nil)))))))) pss_nil))))))
    (pss_one (ps_ret pe_non)))), fun a hp => ?_⟩
  have L : Lst a := hp
  have ok := L.ok
  have n8 := ok.n8
  have k3 := ok.k3
  refine ast_seq (ast_set ?_)
  walk_at "go"
  refine ⟨a, rfl, ⟨ok, L.reach⟩, fun y hy => ?_⟩
  obtain ⟨texts, rfl, hT⟩ := hy
  walk_at "go"
  refine ⟨a, rfl, lm_pre ok, fun x hx => ?_⟩
  rw [show x = _ from hx]
  refine exl ⟨fun i Γ => ∃ s2 s3 s4 s5 s6 : SV, Γ = [.d (qD a), .d (.list (texts.map nD)), s2, s3, s4, s5, s6] ∧ ∀ i', i' < i → ∀ s, s < a.st.length → (colL a.st i').idxOf ((colL a.st i').getD s 0) = s, ⟨_, _, _, _, _, rfl, fun i' h => absurd h (Nat.not_lt_zero _)⟩, fun i x Γ hx hΓ => ?_, fun Γ hΓ => ?_⟩
  · obtain ⟨s2, s3, s4, s5, s6, rfl, hc1⟩ := hΓ
    obtain ⟨row, hr', rfl⟩ := enumM_get hx
    obtain ⟨hik, rfl⟩ := colsL_inv hr'
    refine atg_tup rfl (atgs_cons (atg_name (atgs_cons (atg_name (atgs_nil ?_)))))
    walk_at "go"
    refine ⟨(colL a.st i).map iD, .inr rfl, fun s Γ => ∃ s4 s5 s6 : SV, Γ = [.d (qD a), .d (.list (texts.map nD)), .d (iD i), .d (pD (colL a.st i)), s4, s5, s6] ∧ ∀ s', s' < s → (colL a.st i).idxOf ((colL a.st i).getD s' 0) = s', ⟨_, _, _, rfl, fun i' h => absurd h (Nat.not_lt_zero _)⟩, fun s x Γ hx hΓ => ?_, fun Γ hΓ => ?_⟩
    · obtain ⟨s4, s5, s6, rfl, hc2⟩ := hΓ
      obtain ⟨d0, hd0, rfl⟩ := enumD_get hx
      obtain ⟨y, hyl, hym, rfl⟩ := mapN_get hd0
      have hs : s < (colL a.st i).length := (List.getElem?_eq_some_iff.mp hyl).1
      have hsn : s < a.st.length := by rwa [colL_len] at hs
      have hgy : (colL a.st i).getD s 0 = y := by rw [List.getD_eq_getElem?_getD, hyl]; rfl
      obtain ⟨f1, f2, f3⟩ := idx_first hym
      refine atg_tup rfl (atgs_cons (atg_name (atgs_cons (atg_name (atgs_nil ?_)))))
      refine ast_seq (ast_set (awp_ixOfT ?_))
      walk_at "go"
      refine ⟨(colL a.st i).map fun n : Nat => (n : Int), by rw [List.map_map]; rfl, ?_⟩
      walk_at "go"
      refine ⟨(y : Int), (colL a.st i).idxOf y, rfl, ?_, fun m hm he => ?_, ?_⟩
      · rw [List.getElem?_map, getD_some (d := 0) f1, f2]; rfl
      · rw [List.getElem?_map] at he
        cases hz : (colL a.st i)[m]? with
        | none => rw [hz] at he; cases he
        | some z =>
          rw [hz] at he
          have hzy : (z : Int) = (y : Int) := Option.some.inj he
          have : z = y := by omega
          exact f3 m hm (this ▸ hz)
      · walk_at "go"
        have f1n : (colL a.st i).idxOf y < a.st.length := by rwa [colL_len] at f1
        by_cases he : (colL a.st i).idxOf y = s
        · rw [decide_eq_true he]
          refine iteF (ast_next ?_)
          refine ⟨_, _, _, rfl, fun s' h => ?_⟩
          by_cases e : s' = s
          · subst e; rw [hgy]; exact he
          · exact hc2 s' (by omega)
        · rw [decide_eq_false he]
          refine iteT (ast_ret (awp_tup ?_))
          obtain ⟨a1, a2, a3⟩ := hT.2 _ f1n
          obtain ⟨b1, b2, b3⟩ := hT.2 _ hsn
          walk_at "go"
          refine rd_ixL (x := nD (texts.getD ((colL a.st i).idxOf y) [])) (by omega) (by rw [Int.toNat_natCast, List.getElem?_map, getD_some (d := []) (by rw [hT.1]; exact f1n)]; rfl) ?_
          walk_at "go"
          refine rd_ixL (x := nD (texts.getD s [])) (by omega) (by rw [Int.toNat_natCast, List.getElem?_map, getD_some (d := []) (by rw [hT.1]; exact hsn)]; rfl) ?_
          walk_at "go"
          refine ⟨(a, (colL a.st i).idxOf y, s), rfl, ⟨ok, f1n, hsn, fun h => he (L.dist _ _ f1n hsn h)⟩, fun z hz => ?_⟩
          obtain ⟨v, rfl, v1, v2, v3⟩ := hz
          walk_at "go"
          have e2 : (colL a.st i).getD ((colL a.st i).idxOf y) 0 = (colL a.st i).getD s 0 := by rw [f2, hgy]
          refine ⟨by simp, .inr ⟨_, _, i, v, rfl, ⟨hik, a2, b2, v1, a3, b3, v2, ?_, ?_⟩, ?_⟩⟩
          · rw [run_app, run_app, a1, b1]; exact v3
          · rw [run_snoc, run_snoc, a1, b1]
            rw [colL_get f1n, colL_get hsn] at e2
            exact e2
          · refine Bool.eq_false_iff.mpr fun hz => ?_
            have h1 := List.all_eq_true.mp hz _ (List.mem_of_getElem? (colsL_get hik))
            exact nodup_no f1 hs he e2 (of_decide_eq_true h1)
    · obtain ⟨s4, s5, s6, rfl, hc2⟩ := hΓ
      rw [enumD_len, List.length_map, colL_len] at hc2
      refine ⟨_, _, _, _, _, rfl, fun i' h => ?_⟩
      by_cases e : i' = i
      · subst e; exact hc2
      · exact hc1 i' (by omega)
  · obtain ⟨s2, s3, s4, s5, s6, rfl, hc1⟩ := hΓ
    rw [enumD_len, List.length_map, colsL_len] at hc1
    walk_at "go"
    refine .inl ⟨rfl, List.all_eq_true.mpr fun row hm => decide_eq_true ?_⟩
    obtain ⟨l, hl, rfl⟩ := colsL_mem hm
    exact nodup_idx fun s hs => hc1 l hl s (by rwa [colL_len] at hs)
theorem sc_why_not : FnScope ["world", "question", "found"] ["world", "question"] (defScope s_why_not) := ⟨rfl, rfl, rfl, by decide +kernel, rfl, by decide +kernel, by decide +kernel⟩
theorem bd_why_not : BindF "why_not" s_why_not ["world", "question"] := fun _ _ _ _ _ _ us hl => match us, hl with | [_, _], _ => rfl
def WhyG (ws : Str) (m : M) (r : PyData) : Prop := (r = .none ∧ canB ws m = true) ∨ (canB ws m = false ∧ ((ws ∈ ordL ∧ ∃ t i j u, r = ordD t i j u ∧ OrdG m t i j u) ∨ (ws ∈ otoL ∧ ∃ t u i v, r = mrgD t u i v ∧ MrgG m t u i v)))
abbrev sp_why_not (W : Wd) : Sp := SpD W (fun a : Str × M => [.str a.1, qD a.2]) (fun a => Lst a.2) (fun a r => WhyG a.1 a.2 r)
theorem ok_why_not (D : Dd K mg "why_not" s_why_not) (t : Bt K mg) (h_order_reason : Ok P w K mg base 2 "order_reason" ["question"] (sp_order_reason ⟨K, T⟩)) (h_merge_reason : Ok P w K mg base 2 "merge_reason" ["question"] (sp_merge_reason ⟨K, T⟩)) : Ok P w K mg base 3 "why_not" ["world", "question"] (sp_why_not ⟨K, T⟩) := by
  obtain ⟨aO, hO, sO⟩ := t.oto
  obtain ⟨aR, hR, sR⟩ := t.orderless
  refine ok_mk D sc_why_not rfl (fun _ => rfl) bd_why_not fun f cdv A outer s H E hr => ⟨_, (pss_cons (ps_asg (pe_ifExp (pt_cmpR (oIn (K := K) rfl) (pv 0) (pe_glob (v := .ref aR) rfl hR rfl) (by first | rfl | exact nomark _)) (pe_callO h_order_reason (hr.mono (by decide)) rfl (pa_cons (pv 1) pa_nil)) pe_non) (pg_name (i := 2) sc_why_not.nd rfl (by first | exact Or.inl rfl | exact Or.inr rfl)))
    (pss_cons (ps_if (PW.pt (pw_and (pt_cmp (pc_isN (pv 2)) (by first | rfl | exact nobehind _ (by decide) (by decide))) (pw_and1 (pt_cmpR (oIn (K := K) rfl) (pv 0) (pe_glob (v := .ref aO) rfl hO rfl) (by first | rfl | exact nomark _))))) (pss_one (ps_asg (pe_callO h_merge_reason (hr.mono (by decide)) rfl (pa_cons (pv 1) pa_nil)) (pg_name (i := 2) sc_why_not.nd rfl (by first | exact Or.inl rfl | exact Or.inr rfl)))) pss_nil)
    (pss_one (ps_ret (pv 2))))), fun a hp => ?_⟩
  obtain ⟨ws, a⟩ := a
  have L : Lst a := hp
  refine ast_seq (ast_set (awp_cut (fun x => (x = .none ∧ (ws ∉ ordL ∨ comm a = true)) ∨ (ws ∈ ordL ∧ ∃ t i j u, x = ordD t i j u ∧ OrdG a t i j u ∧ comm a = false)) ?_ fun x hx => ?_))
  · walk_at "go"
    refine awp_c (const_dv sR (by decide)) ?_
    refine rd_inS ordL (.inr rfl) (exb ?_)
    rw [if_neg Bool.false_ne_true]
    by_cases hR : ws ∈ ordL
    · rw [decide_eq_true hR]
      refine iteT ?_
      walk_at "go"
      refine ⟨a, rfl, L, fun x hx => ⟨rfl, ?_⟩⟩
      rcases hx with ⟨h1, h2⟩ | h
      · exact .inl ⟨h1, .inr h2⟩
      · exact .inr ⟨hR, h⟩
    · rw [decide_eq_false hR]
      refine iteF ?_
      walk_at "go"
      exact ⟨rfl, .inl ⟨rfl, .inl hR⟩⟩
  · rcases hx with ⟨rfl, h⟩ | ⟨hR, t, i, j, u, rfl, hG, hcm⟩
    · refine ast_seq (ast_if ?_)
      have e1 : (!decide (ws ∈ ordL) || comm a) = true := by
        rcases h with h | h
        · rw [decide_eq_false h]; rfl
        · rw [h, Bool.or_true]
      walk_at "go"
      refine iteT ?_
      walk_at "go"
      refine awp_c (const_dv sO (by decide)) ?_
      refine rd_inS otoL (.inr rfl) (exb ?_)
      rw [if_neg Bool.false_ne_true]
      by_cases hO : ws ∈ otoL
      · rw [decide_eq_true hO]
        refine iteT (ast_set ?_)
        walk_at "go"
        refine ⟨a, rfl, L, fun x hx => ?_⟩
        walk_at "go"
        rcases hx with ⟨rfl, h2⟩ | ⟨t, u, i, v, rfl, hG, h2⟩
        · refine .inl ⟨rfl, ?_⟩
          show canB ws a = true
          unfold canB
          rw [h2, e1, decide_eq_true hO]
          rfl
        · refine .inr ⟨?_, .inr ⟨hO, t, u, i, v, rfl, hG⟩⟩
          show canB ws a = false
          unfold canB
          rw [h2, decide_eq_true hO]
          rfl
      · rw [decide_eq_false hO]
        refine iteF ?_
        walk_at "go"
        refine .inl ⟨rfl, ?_⟩
        show canB ws a = true
        unfold canB
        rw [e1, decide_eq_false hO]
        rfl
    · refine ast_seq (ast_if ?_)
      walk_at "go"
      refine iteF (iteF ?_)
      walk_at "go"
      refine .inr ⟨?_, .inl ⟨hR, t, i, j, u, rfl, hG⟩⟩
      show canB ws a = false
      unfold canB
      rw [hcm, decide_eq_true hR]
      split <;> rfl
theorem sc_reason : FnScope ["world", "question"] ["world", "question"] (defScope s_reason) := ⟨rfl, rfl, rfl, by decide +kernel, rfl, by decide +kernel, by decide +kernel⟩
theorem bd_reason : BindF "reason" s_reason ["world", "question"] := fun _ _ _ _ _ _ us hl => match us, hl with | [_, _], _ => rfl
abbrev sp_reason (W : Wd) : Sp := SpD W (fun a : Str × M => [.str a.1, qD a.2]) (fun a => a.1 ∈ wsL ∧ a.2.ok) (fun a r => WhyG a.1 (small a.2) r)
theorem ok_reason (D : Dd K mg "reason" s_reason) (t : Bt K mg) (h_need_world : Ok P w K mg base 1 "need_world" ["value"] (sp_need_world ⟨K, T⟩)) (h_need_question : Ok P w K mg base 4 "need_question" ["value"] (sp_need_question ⟨K, T⟩)) (h_why_not : Ok P w K mg base 3 "why_not" ["world", "question"] (sp_why_not ⟨K, T⟩)) (h_least_of : Ok P w K mg base 3 "least_of" ["question"] (sp_least_of ⟨K, T⟩)) : Ok P w K mg base 5 "reason" ["world", "question"] (sp_reason ⟨K, T⟩) := by
  refine ok_mk D sc_reason rfl (fun _ => rfl) bd_reason fun f cdv A outer s H E hr => ⟨_, (pss_cons (ps_expr (pe_callO h_need_world (hr.mono (by decide)) rfl (pa_cons (pv 0) pa_nil)))
    (pss_cons (ps_expr (pe_callO h_need_question (hr.mono (by decide)) rfl (pa_cons (pv 1) pa_nil)))
    (pss_one (ps_ret (pe_callO h_why_not (hr.mono (by decide)) rfl (pa_cons (pv 0) (pa_cons (pe_callO h_least_of (hr.mono (by decide)) rfl (pa_cons (pv 1) pa_nil)) pa_nil))))))), fun a hp => ?_⟩
  obtain ⟨ws, a⟩ := a
  obtain ⟨hw, ok⟩ := hp
  refine ast_seq (ast_drop ?_)
  walk_at "go"
  refine ⟨ws, rfl, hw, fun x hx => ?_⟩
  refine ast_seq (ast_drop ?_)
  walk_at "go"
  refine ⟨a, rfl, ok, fun x hx => ?_⟩
  walk_at "go"
  refine ⟨a, rfl, ok, fun x hx => ?_⟩
  rw [show x = _ from hx]
  walk_at "go"
  exact ⟨(ws, small a), rfl, small_lst ok, fun x hx => hx⟩
end
end TW
end

section
set_option Elab.async false
set_option linter.all false
set_option maxRecDepth 100000
set_option maxHeartbeats 4000000
namespace TW
open PySem PySem.Spec PyProof.Rows L2
local macro_rules | `(tactic| walk_at "aw") => `(tactic| first
  | with_reducible refine ast_seq ?_
  | with_reducible refine ast_ret ?_
  | with_reducible refine ast_if ?_
  | with_reducible refine ast_next ?_
  | with_reducible refine awt_t ?_
  | with_reducible refine awt_b ?_
  | with_reducible refine awt_and ?_
  | with_reducible refine awt_or ?_
  | with_reducible refine awt_not ?_
  | with_reducible refine awt_yes ?_
  | ((with_reducible apply awp_row0); exact rfl)
  | ((with_reducible apply awp_row1); exact rfl)
  | ((with_reducible apply awp_row2); exact rfl)
  | ((with_reducible apply awp_row3); exact rfl)
  | with_reducible refine awp_op ?_
  | with_reducible refine awp_and ?_
  | with_reducible refine awp_or ?_
  | with_reducible refine awp_not ?_
  | with_reducible refine awp_chain ?_
  | with_reducible refine awp_if ?_
  | with_reducible refine awp_isN ?_
  | with_reducible refine awp_notN ?_
  | with_reducible refine awp_int ?_
  | with_reducible refine awp_bl ?_
  | with_reducible refine awp_str ?_
  | with_reducible refine awp_non ?_
  | with_reducible refine awp_isiT ?_
  | with_reducible refine awp_isiI ?_
  | with_reducible refine awp_isiB ?_
  | with_reducible refine awp_isiS ?_
  | with_reducible refine awp_isiL ?_
  | with_reducible refine awp_isiTL ?_
  | with_reducible refine awp_cb ?_
  | with_reducible refine awp_call ?_
  | with_reducible refine aas_nil ?_
  | with_reducible refine aas_cons ?_
  | with_reducible refine rd_lt ?_
  | with_reducible refine rd_le ?_
  | with_reducible refine rd_gt ?_
  | with_reducible refine rd_ge ?_
  | with_reducible refine rd_add ?_
  | with_reducible refine rd_sub ?_
  | with_reducible refine rd_notB ?_
  | with_reducible refine rd_q0 ?_
  | with_reducible refine rd_q1 ?_
  | with_reducible refine rd_q2 ?_
  | with_reducible refine rd_eqN ?_
  | with_reducible refine rd_neN ?_
  | with_reducible refine rd_eqT ?_
  | with_reducible refine rd_neT ?_
  | with_reducible refine rd_eqL ?_
  | with_reducible refine rd_neL ?_
  | with_reducible refine rd_eqI ?_
  | with_reducible refine rd_neI ?_
  | with_reducible refine rdn_int ?_
  | with_reducible refine rdn_min ?_
  | with_reducible refine awp_rg ?_
  | with_reducible refine awi_rng ?_
  | with_reducible refine awi_list ?_
  | with_reducible refine awi_tup ?_
  | with_reducible refine awi_enumL ?_
  | with_reducible refine awi_enumT ?_
  | with_reducible refine awp_sl ?_
  | with_reducible refine awo_no ?_
  | with_reducible refine awo_some ?_
  | with_reducible refine ast_while ?_
  | with_reducible refine ast_for ?_
  | with_reducible refine exb ?_
  | with_reducible refine exn ?_
  | with_reducible refine exi ?_
  | with_reducible refine exl ?_
  | with_reducible refine ext ?_
  | with_reducible refine exlD ?_
  | with_reducible refine exnD ?_
  | with_reducible refine exsD ?_
  | with_reducible refine rdn_lenN ?_
  | with_reducible refine rdn_lenS ?_
  | with_reducible refine rdn_lenL ?_
  | with_reducible refine rdn_lenl ?_
  | ((with_reducible apply awp_v); exact rfl))
local macro_rules | `(tactic| walk_at "go") => `(tactic| (repeat (first
  | with_reducible refine ast_seq ?_
  | with_reducible refine ast_ret ?_
  | with_reducible refine ast_if ?_
  | with_reducible refine ast_next ?_
  | with_reducible refine awt_t ?_
  | with_reducible refine awt_b ?_
  | with_reducible refine awt_and ?_
  | with_reducible refine awt_or ?_
  | with_reducible refine awt_not ?_
  | with_reducible refine awt_yes ?_
  | ((with_reducible apply awp_row0); exact rfl)
  | ((with_reducible apply awp_row1); exact rfl)
  | ((with_reducible apply awp_row2); exact rfl)
  | ((with_reducible apply awp_row3); exact rfl)
  | with_reducible refine awp_op ?_
  | with_reducible refine awp_and ?_
  | with_reducible refine awp_or ?_
  | with_reducible refine awp_not ?_
  | with_reducible refine awp_chain ?_
  | with_reducible refine awp_if ?_
  | with_reducible refine awp_isN ?_
  | with_reducible refine awp_notN ?_
  | with_reducible refine awp_int ?_
  | with_reducible refine awp_bl ?_
  | with_reducible refine awp_str ?_
  | with_reducible refine awp_non ?_
  | with_reducible refine awp_isiT ?_
  | with_reducible refine awp_isiI ?_
  | with_reducible refine awp_isiB ?_
  | with_reducible refine awp_isiS ?_
  | with_reducible refine awp_isiL ?_
  | with_reducible refine awp_isiTL ?_
  | with_reducible refine awp_cb ?_
  | with_reducible refine awp_call ?_
  | with_reducible refine aas_nil ?_
  | with_reducible refine aas_cons ?_
  | with_reducible refine rd_lt ?_
  | with_reducible refine rd_le ?_
  | with_reducible refine rd_gt ?_
  | with_reducible refine rd_ge ?_
  | with_reducible refine rd_add ?_
  | with_reducible refine rd_sub ?_
  | with_reducible refine rd_notB ?_
  | with_reducible refine rd_q0 ?_
  | with_reducible refine rd_q1 ?_
  | with_reducible refine rd_q2 ?_
  | with_reducible refine rd_eqN ?_
  | with_reducible refine rd_neN ?_
  | with_reducible refine rd_eqT ?_
  | with_reducible refine rd_neT ?_
  | with_reducible refine rd_eqL ?_
  | with_reducible refine rd_neL ?_
  | with_reducible refine rd_eqI ?_
  | with_reducible refine rd_neI ?_
  | with_reducible refine rdn_int ?_
  | with_reducible refine rdn_min ?_
  | with_reducible refine awp_rg ?_
  | with_reducible refine awi_rng ?_
  | with_reducible refine awi_list ?_
  | with_reducible refine awi_tup ?_
  | with_reducible refine awi_enumL ?_
  | with_reducible refine awi_enumT ?_
  | with_reducible refine awp_sl ?_
  | with_reducible refine awo_no ?_
  | with_reducible refine awo_some ?_
  | with_reducible refine ast_while ?_
  | with_reducible refine ast_for ?_
  | with_reducible refine exb ?_
  | with_reducible refine exn ?_
  | with_reducible refine exi ?_
  | with_reducible refine exl ?_
  | with_reducible refine ext ?_
  | with_reducible refine exlD ?_
  | with_reducible refine exnD ?_
  | with_reducible refine exsD ?_
  | with_reducible refine rdn_lenN ?_
  | with_reducible refine rdn_lenS ?_
  | with_reducible refine rdn_lenL ?_
  | with_reducible refine rdn_lenl ?_
  | ((with_reducible apply awp_v); exact rfl))))

section
variable {P : Program} {w : World} {K : PySem.W.Frag} {mg : Str → Option Value} {base : Heap} {T : List Addr}
/-- an element of a value; a value -/
def Sh8 (x : PyData) : Prop := x.canLay0 = true ∧ x.depth ≤ 8
theorem Sh8.sh {x : PyData} (h : Sh8 x) : SeqAt.shaped x = true := by
  unfold SeqAt.shaped
  rw [h.1, Bool.true_and]
  have := h.2
  exact decide_eq_true (by omega)
def OkE (x : PyData) : Prop := okD x = true ∧ Sh8 x ∧ ∀ ys, x = .tuple ys → ys.length ≤ 1000 ∧ ∀ y ∈ ys, okD y = true ∧ Sh8 y
def OkV (v : PyData) : Prop := okD v = true ∧ ∀ xs, v = .tuple xs → xs.length ≤ 1000 ∧ ∀ x ∈ xs, OkE x
def isTx (k : Nat) : PyData → Bool
  | .tuple xs => decide (xs.length ≤ 160) && xs.all (isNum 0 ((k : Int) - 1))
  | _ => false
def unN : PyData → Nat
  | .int i => i.toNat
  | _ => 0
theorem isNum_ex {k : Nat} {v : PyData} (h : isNum 0 ((k : Int) - 1) v = true) : ∃ n, v = iD n ∧ n < k := by
  cases v with
  | int i =>
    simp only [isNum, Bool.and_eq_true, decide_eq_true_eq] at h
    refine ⟨i.toNat, ?_, by omega⟩
    show PyData.int _ = PyData.int _
    congr 1
    omega
  | _ => cases h
theorem isNum_of {k n : Nat} (h : n < k) : isNum 0 ((k : Int) - 1) (iD n) = true := by
  simp only [isNum, Bool.and_eq_true, decide_eq_true_eq]
  omega
theorem isTx_ex {k : Nat} {v : PyData} (h : isTx k v = true) : ∃ t, v = nD t ∧ (∀ l ∈ t, l < k) ∧ t.length ≤ 160 := by
  cases v with
  | tuple xs =>
    unfold isTx at h
    obtain ⟨h1, h2⟩ := Bool.and_eq_true_iff.mp h
    have h1 := of_decide_eq_true h1
    have key : ∀ xs : List PyData, xs.all (isNum 0 ((k : Int) - 1)) = true → ∃ t : List Nat, xs = t.map iD ∧ ∀ l ∈ t, l < k := by
      intro xs
      induction xs with
      | nil => exact fun _ => ⟨[], rfl, fun l hl => by simp at hl⟩
      | cons x xs ih =>
        intro h
        rw [List.all_cons] at h
        obtain ⟨a1, a2⟩ := Bool.and_eq_true_iff.mp h
        obtain ⟨n, rfl, hn⟩ := isNum_ex a1
        obtain ⟨t, rfl, ht⟩ := ih a2
        exact ⟨n :: t, rfl, fun l hl => by
          rcases List.mem_cons.mp hl with rfl | hl
          · exact hn
          · exact ht l hl⟩
    obtain ⟨t, rfl, ht⟩ := key xs h2
    exact ⟨t, rfl, ht, by rwa [List.length_map] at h1⟩
  | _ => cases h
theorem isTx_of {k : Nat} {t : List Nat} (h : ∀ l ∈ t, l < k) (hl : t.length ≤ 160) : isTx k (nD t) = true := by
  show (decide ((t.map iD).length ≤ 160) && (t.map iD).all (isNum 0 ((k : Int) - 1))) = true
  rw [List.length_map, decide_eq_true hl, Bool.true_and]
  refine List.all_eq_true.mpr fun x hx => ?_
  obtain ⟨n, hn, rfl⟩ := List.mem_map.mp hx
  exact isNum_of (h n hn)
def outR (s : M) (t : List Nat) : Nat := s.an.getD (run s.st 0 t) 0
def ordChk (s : M) (a b c d : PyData) : Bool := ((isNum 0 ((s.k : Int) - 1) b && isNum 0 ((s.k : Int) - 1) c) && ((isTx s.k a && isTx s.k d) && decide ((unR a).length + (unR d).length + 2 ≤ 160))) &&
  decide (outR s (unR a ++ [unN b, unN c] ++ unR d) ≠ outR s (unR a ++ [unN c, unN b] ++ unR d))
def mrgChk (s : M) (a b c d : PyData) : Bool := ((isNum 0 ((s.k : Int) - 1) c && (isTx s.k a && (isTx s.k b && isTx s.k d))) && decide ((unR a).length + (unR b).length + (unR d).length + 1 ≤ 160)) &&
  (decide (outR s (unR a ++ unR d) ≠ outR s (unR b ++ unR d)) && decide (run s.st 0 (unR a ++ [unN c]) = run s.st 0 (unR b ++ [unN c])))
def chk (w : Str) (s : M) : PyData → Bool
  | .tuple [.str x, a, b, c, d] => if x = "order" then decide (w ∈ ordL) && ordChk s a b c d else decide (x = "merge") && (decide (w ∈ otoL) && mrgChk s a b c d)
  | _ => false
theorem unN_i (n : Nat) : unN (iD n) = n := rfl
theorem sc_is_text : FnScope ["letters", "value", "letter"] ["letters", "value"] (defScope s_is_text) := ⟨rfl, rfl, rfl, by decide +kernel, rfl, by decide +kernel, by decide +kernel⟩
theorem bd_is_text : BindF "is_text" s_is_text ["letters", "value"] := fun _ _ _ _ _ _ us hl => match us, hl with | [_, _], _ => rfl
abbrev sp_is_text (W : Wd) : Sp := SpD W (fun a : Nat × PyData => [iD a.1, a.2]) (fun a => OkE a.2) (fun a r => r = .bool (isTx a.1 a.2))
theorem ok_is_text (D : DdG K mg base T "is_text" s_is_text) (t : Bt K mg) (h_is_number : Ok P w K mg base 1 "is_number" ["value", "low", "high"] (sp_is_number ⟨K, T⟩)) : Ok P w K mg base 3 "is_text" ["letters", "value"] (sp_is_text ⟨K, T⟩) := by
  obtain ⟨tcr, hcr⟩ := t.c_reason
  refine ok_mkG D sc_is_text rfl (fun _ => rfl) bd_is_text fun c Pt f A outer s H E TB hPt hr => ⟨_, (pss_cons (ps_if (PW.pt (pw_or (pt_not (pt_val (pe_callB (cIsi (K := K) rfl) (by rfl) t.isinstance (by decide +kernel) (pa_cons (pv 1) (pa_cons (pe_bltn (v := .ty "tuple") (by rfl) t.tuple (by decide +kernel) rfl) pa_nil))))) (pw_or1 (pt_cmpR op_gt (pe_callB (cLen (K := K) rfl) (by rfl) t.len (by decide +kernel) (pa_cons (pv 1) pa_nil)) (pe_glob (v := .int 160) rfl hcr ⟨_, rfl⟩) (by first | rfl | exact nomark _))))) (pss_one (ps_ret pe_bl)) pss_nil)
    (pss_one (ps_ret (pe_all1 (own := [("letter", 2)]) (k := 1) hr rfl (by rfl) t.all (by decide +kernel) TB rfl sc_is_text.nd (blkOk_by (by rfl)) (by decide +kernel) rfl (by rfl) (piT (K := K) rfl (pv 1)) (fun _ _ ce _ hce hgl => (by cases ce; cases hce; exact pg_name (i := 2) sc_is_text.nd rfl (by first | exact Or.inl rfl | exact Or.inr rfl))) (fun _ _ ce _ hce hr1 => (by cases ce; cases hce; exact (pe_callO h_is_number (hr1.mono (by decide)) rfl (pa_cons (pv 2) (pa_cons pe_int (pa_cons (pe_op op_sub (pv 0) pe_int) pa_nil)))))) (fun _ => rfl))))), fun a hp => ?_⟩
  obtain ⟨k, v⟩ := a
  obtain ⟨h1, h2, h3⟩ := hp
  have h1 : okD v = true := h1
  walk_at "go"
  refine ⟨h1, exb ?_⟩
  rw [isTyT]
  cases v with
  | tuple xs =>
    refine iteF ?_
    obtain ⟨l1, l2⟩ := h3 xs rfl
    walk_at "go"
    refine rdn_len (.inr (.inl rfl)) ?_
    walk_at "go"
    by_cases hl : xs.length ≤ 160
    · rw [decide_eq_false (by omega)]
      refine iteF ?_
      walk_at "go"
      refine awp_all (List.mem_singleton.mpr rfl) hPt (awc_of ?_)
      walk_at "go"
      refine ⟨rfl, isNum 0 ((k : Int) - 1), fun n x hx => ?_, ?_⟩
      · walk_at "go"
        refine ⟨(x, 0, (k : Int) - 1), rfl, (l2 x (List.mem_of_getElem? hx)).1, fun y hy => ⟨rfl, hy⟩⟩
      · show PyData.bool _ = PyData.bool (isTx k (.tuple xs))
        show _ = PyData.bool (decide (xs.length ≤ 160) && xs.all (isNum 0 ((k : Int) - 1)))
        rw [decide_eq_true hl, Bool.true_and]
    · rw [decide_eq_true (by omega)]
      refine iteT ?_
      walk_at "go"
      show PyData.bool _ = PyData.bool (decide (xs.length ≤ 160) && xs.all (isNum 0 ((k : Int) - 1)))
      rw [decide_eq_false hl]
      rfl
  | _ =>
    refine iteT (iteT ?_)
    walk_at "go"
    rfl
theorem txE {k : Nat} {t : List Nat} : unR (nD t) = t := unR_n t
theorem sc_is_order : FnScope ["question", "value", "_", "text", "one", "other", "rest", "ends", "pair"] ["question", "value"] (defScope s_is_order) := ⟨rfl, rfl, rfl, by decide +kernel, rfl, by decide +kernel, by decide +kernel⟩
theorem bd_is_order : BindF "is_order" s_is_order ["question", "value"] := fun _ _ _ _ _ _ us hl => match us, hl with | [_, _], _ => rfl
abbrev sp_is_order (W : Wd) : Sp := SpD W (fun a : M × PyData × PyData × PyData × PyData × PyData => [qD a.1, .tuple [a.2.1, a.2.2.1, a.2.2.2.1, a.2.2.2.2.1, a.2.2.2.2.2]]) (fun a => a.1.ok ∧ OkE a.2.2.1 ∧ OkE a.2.2.2.1 ∧ OkE a.2.2.2.2.1 ∧ OkE a.2.2.2.2.2) (fun a r => r = .bool (ordChk a.1 a.2.2.1 a.2.2.2.1 a.2.2.2.2.1 a.2.2.2.2.2))
theorem ok_is_order (D : Dd K mg "is_order" s_is_order) (t : Bt K mg) (h_led : Ok P w K mg base 1 "led" ["steps", "state", "text"] (sp_led ⟨K, T⟩)) (h_is_number : Ok P w K mg base 1 "is_number" ["value", "low", "high"] (sp_is_number ⟨K, T⟩)) (h_is_text : Ok P w K mg base 3 "is_text" ["letters", "value"] (sp_is_text ⟨K, T⟩)) : Ok P w K mg base 4 "is_order" ["question", "value"] (sp_is_order ⟨K, T⟩) := by
  obtain ⟨tcr, hcr⟩ := t.c_reason
  refine ok_mk D sc_is_order rfl (fun _ => rfl) bd_is_order fun f cdv A outer s H E hr => ⟨_, (pss_cons (ps_asg (pv 1) (pgT (K := K) rfl rfl (pgs_cons (pg_name (i := 2) sc_is_order.nd rfl (by first | exact Or.inl rfl | exact Or.inr rfl)) (pgs_cons (pg_name (i := 3) sc_is_order.nd rfl (by first | exact Or.inl rfl | exact Or.inr rfl)) (pgs_cons (pg_name (i := 4) sc_is_order.nd rfl (by first | exact Or.inl rfl | exact Or.inr rfl)) (pgs_cons (pg_name (i := 5) sc_is_order.nd rfl (by first | exact Or.inl rfl | exact Or.inr rfl)) (pgs_cons (pg_name (i := 6) sc_is_order.nd rfl (by first | exact Or.inl rfl | exact Or.inr rfl)) pgs_nil)))))))
    (pss_cons (ps_if (PW.pt (pw_or (pt_not (pt_val (pe_callO h_is_number (hr.mono (by decide)) rfl (pa_cons (pv 4) (pa_cons pe_int (pa_cons (pe_op op_sub (pe_ix (ixT (K := K) rfl) (pv 0) pe_int (fun _ _ => rfl)) pe_int) pa_nil)))))) (pw_or1 (pt_not (pt_val (pe_callO h_is_number (hr.mono (by decide)) rfl (pa_cons (pv 5) (pa_cons pe_int (pa_cons (pe_op op_sub (pe_ix (ixT (K := K) rfl) (pv 0) pe_int (fun _ _ => rfl)) pe_int) pa_nil))))))))) (pss_one (ps_ret pe_bl)) pss_nil)
    (pss_cons (ps_if (PW.pt (pw_or (pt_not (pt_val (pe_callO h_is_text (hr.mono (by decide)) rfl (pa_cons (pe_ix (ixT (K := K) rfl) (pv 0) pe_int (fun _ _ => rfl)) (pa_cons (pv 3) pa_nil))))) (pw_or (pt_not (pt_val (pe_callO h_is_text (hr.mono (by decide)) rfl (pa_cons (pe_ix (ixT (K := K) rfl) (pv 0) pe_int (fun _ _ => rfl)) (pa_cons (pv 6) pa_nil))))) (pw_or1 (pt_cmpR op_gt (pe_op op_add (pe_op op_add (pe_callB (cLen (K := K) rfl) (by rfl) t.len (by decide +kernel) (pa_cons (pv 3) pa_nil)) (pe_callB (cLen (K := K) rfl) (by rfl) t.len (by decide +kernel) (pa_cons (pv 6) pa_nil))) pe_int) (pe_glob (v := .int 160) rfl hcr ⟨_, rfl⟩) (by first | rfl | exact nomark _)))))) (pss_one (ps_ret pe_bl)) pss_nil)
    (pss_cons (ps_setLc (i := 7) (own := [("pair", 8)]) (g := gName 8) rfl sc_is_order.nd rfl rfl (sw_true rfl rfl rfl (by decide +kernel)) (piT (K := K) rfl (pe_tup (pa_cons (pe_tup (pa_cons (pv 4) (pa_cons (pv 5) pa_nil))) (pa_cons (pe_tup (pa_cons (pv 5) (pa_cons (pv 4) pa_nil))) pa_nil)))) (blkOk_by (by rfl)) (fun _ _ _ _ _ => pg_name (i := 8) sc_is_order.nd rfl (by first | exact Or.inl rfl | exact Or.inr rfl)) (fun _ _ _ _ _ => pts_nil) (fun _ _ _ _ _ => (pe_callO h_led (hr.mono (by decide)) rfl (pa_cons (pe_ix (ixT (K := K) rfl) (pv 0) pe_int (fun _ _ => rfl)) (pa_cons pe_int (pa_cons (pe_op (oCatA (K := K) rfl) (pe_op (oCatA (K := K) rfl) (pv 3) (pv 8)) (pv 6)) pa_nil))))))
    (pss_one (ps_ret (pe_cmpR (oNe (K := K) rfl (u64 hr)) (pe_ix (ixT (K := K) rfl) (pe_ix (ixT (K := K) rfl) (pv 0) pe_int (fun _ _ => rfl)) (pe_ix (ixL (K := K) rfl) (pv 7) pe_int (fun _ _ => rfl)) (fun _ _ => rfl)) (pe_ix (ixT (K := K) rfl) (pe_ix (ixT (K := K) rfl) (pv 0) pe_int (fun _ _ => rfl)) (pe_ix (ixL (K := K) rfl) (pv 7) pe_int (fun _ _ => rfl)) (fun _ _ => rfl)) (by first | rfl | exact nomark _)))))))), fun a hp => ?_⟩
  obtain ⟨s, e0, a, b, c, d⟩ := a
  obtain ⟨ok, ha, hb, hc, hd⟩ := hp
  have ok : s.ok := ok
  have ha : OkE a := ha
  have hb : OkE b := hb
  have hc : OkE c := hc
  have hd : OkE d := hd
  have n1 := ok.n1
  refine ast_seq (ast_asg ?_)
  walk_at "go"
  refine atg_tup rfl (atgs_cons (atg_name (atgs_cons (atg_name (atgs_cons (atg_name (atgs_cons (atg_name (atgs_cons (atg_name (atgs_nil ?_)))))))))))
  walk_at "go"
  refine ⟨(b, 0, (s.k : Int) - 1), rfl, hb.1, fun y hy => ?_⟩
  rw [show y = _ from hy]
  refine exb ?_
  show if (!isNum 0 ((s.k : Int) - 1) b) = true then _ else _
  cases hnb : isNum 0 ((s.k : Int) - 1) b with
  | false =>
    refine iteT (iteT ?_)
    walk_at "go"
    show PyData.bool _ = PyData.bool (ordChk s a b c d)
    unfold ordChk; rw [hnb]; rfl
  | true =>
  refine iteF ?_
  walk_at "go"
  refine ⟨(c, 0, (s.k : Int) - 1), rfl, hc.1, fun y hy => ?_⟩
  rw [show y = _ from hy]
  refine exb ?_
  show if (!isNum 0 ((s.k : Int) - 1) c) = true then _ else _
  cases hnc : isNum 0 ((s.k : Int) - 1) c with
  | false =>
    refine iteT ?_
    walk_at "go"
    show PyData.bool _ = PyData.bool (ordChk s a b c d)
    unfold ordChk; rw [hnb, hnc]; rfl
  | true =>
  refine iteF ?_
  walk_at "go"
  refine ⟨(s.k, a), rfl, ha, fun y hy => ?_⟩
  rw [show y = _ from hy]
  refine exb ?_
  show if (!isTx s.k a) = true then _ else _
  cases hta : isTx s.k a with
  | false =>
    refine iteT (iteT ?_)
    walk_at "go"
    show PyData.bool _ = PyData.bool (ordChk s a b c d)
    unfold ordChk; rw [hnb, hnc, hta]; rfl
  | true =>
  refine iteF ?_
  walk_at "go"
  refine ⟨(s.k, d), rfl, hd, fun y hy => ?_⟩
  rw [show y = _ from hy]
  refine exb ?_
  show if (!isTx s.k d) = true then _ else _
  cases htd : isTx s.k d with
  | false =>
    refine iteT (iteT ?_)
    walk_at "go"
    show PyData.bool _ = PyData.bool (ordChk s a b c d)
    unfold ordChk; rw [hnb, hnc, hta, htd]; rfl
  | true =>
  refine iteF ?_
  obtain ⟨i, rfl, hi⟩ := isNum_ex hnb
  obtain ⟨j, rfl, hj⟩ := isNum_ex hnc
  obtain ⟨t, rfl, ht, htl⟩ := isTx_ex hta
  obtain ⟨u, rfl, hu, hul⟩ := isTx_ex htd
  have fin : ordChk s (nD t) (iD i) (iD j) (nD u) = (decide (t.length + u.length + 2 ≤ 160) && decide (outR s (t ++ [i, j] ++ u) ≠ outR s (t ++ [j, i] ++ u))) := by
    unfold ordChk
    rw [hnb, hnc, hta, htd, unR_n, unR_n, unN_i, unN_i]
    simp only [Bool.true_and]
  walk_at "go"
  by_cases hl : t.length + u.length + 2 ≤ 160
  · rw [decide_eq_false (by omega)]
    refine iteF ?_
    rw [decide_eq_true hl, Bool.true_and] at fin
    have htl2 : ∀ x y : Nat, x < s.k → y < s.k → ∀ l ∈ t ++ [x, y] ++ u, l < s.k := fun x y hx hy l hl => by
      rcases List.mem_append.mp hl with hl | hl
      · rcases List.mem_append.mp hl with hl | hl
        · exact ht l hl
        · simp at hl
          rcases hl with rfl | rfl
          · exact hx
          · exact hy
      · exact hu l hl
    have hru : ∀ p : List Nat, (∀ l ∈ p, l < s.k) → run s.st 0 p < s.st.length := fun p hp => ok.stOk.runLt _ n1 hp
    walk_at "go"
    refine ast_set ?_
    refine awp_lcM (List.mem_singleton.mpr rfl) (awc_of ?_)
    refine awi_tup (awp_tup ?_)
    walk_at "aw"
    refine awp_tup ?_
    walk_at "go"
    refine ⟨by simp, ?_⟩
    walk_at "aw"
    refine awp_tup ?_
    walk_at "go"
    refine ⟨by simp, ?_⟩
    walk_at "go"
    refine ⟨by simp, ext ⟨List Nat, [[i, j], [j, i]], nD, fun p => iD (run s.st 0 (t ++ p ++ u)), rfl, by simp, rfl, fun p hp => ?_, ?_⟩⟩
    · have hpl : p.length = 2 ∧ ∀ l ∈ t ++ p ++ u, l < s.k := by
        simp at hp
        rcases hp with rfl | rfl
        · exact ⟨rfl, htl2 i j hi hj⟩
        · exact ⟨rfl, htl2 j i hj hi⟩
      walk_at "go"
      refine rd_catN (by omega) ?_
      walk_at "go"
      refine rd_catN (by rw [List.length_append]; omega) ?_
      walk_at "go"
      exact ⟨(s.st, 0, t ++ p ++ u), rfl, ⟨s.k, ok.stOk, n1, hpl.2⟩, fun y hy => ⟨rfl, hy⟩⟩
    · have e1 : PyData.list ([[i, j], [j, i]].map fun p => iD (run s.st 0 (t ++ p ++ u))) = lD [run s.st 0 (t ++ [i, j] ++ u), run s.st 0 (t ++ [j, i] ++ u)] := rfl
      rw [e1]
      walk_at "go"
      refine rd_lD (i := 0) (by simp) ?_
      refine rd_nD (i := run s.st 0 (t ++ [i, j] ++ u)) (by rw [ok.al]; exact hru _ (htl2 i j hi hj)) ?_
      walk_at "go"
      refine rd_lD (i := 1) (by simp) ?_
      refine rd_nD (i := run s.st 0 (t ++ [j, i] ++ u)) (by rw [ok.al]; exact hru _ (htl2 j i hj hi)) ?_
      refine rd_neN ?_
      show PyData.bool _ = PyData.bool (ordChk s (nD t) (iD i) (iD j) (nD u))
      rw [fin]
      unfold outR
      simp
  · rw [decide_eq_true (by omega)]
    refine iteT ?_
    walk_at "go"
    show PyData.bool _ = PyData.bool (ordChk s (nD t) (iD i) (iD j) (nD u))
    rw [fin, decide_eq_false hl]; rfl
theorem sc_is_merge : FnScope ["question", "value", "_", "text", "word", "letter", "rest", "one", "ends"] ["question", "value"] (defScope s_is_merge) := ⟨rfl, rfl, rfl, by decide +kernel, rfl, by decide +kernel, by decide +kernel⟩
theorem bd_is_merge : BindF "is_merge" s_is_merge ["question", "value"] := fun _ _ _ _ _ _ us hl => match us, hl with | [_, _], _ => rfl
abbrev sp_is_merge (W : Wd) : Sp := SpD W (fun a : M × PyData × PyData × PyData × PyData × PyData => [qD a.1, .tuple [a.2.1, a.2.2.1, a.2.2.2.1, a.2.2.2.2.1, a.2.2.2.2.2]]) (fun a => a.1.ok ∧ OkE a.2.2.1 ∧ OkE a.2.2.2.1 ∧ OkE a.2.2.2.2.1 ∧ OkE a.2.2.2.2.2) (fun a r => r = .bool (mrgChk a.1 a.2.2.1 a.2.2.2.1 a.2.2.2.2.1 a.2.2.2.2.2))
theorem ok_is_merge (D : DdG K mg base T "is_merge" s_is_merge) (t : Bt K mg) (h_led : Ok P w K mg base 1 "led" ["steps", "state", "text"] (sp_led ⟨K, T⟩)) (h_is_number : Ok P w K mg base 1 "is_number" ["value", "low", "high"] (sp_is_number ⟨K, T⟩)) (h_is_text : Ok P w K mg base 3 "is_text" ["letters", "value"] (sp_is_text ⟨K, T⟩)) : Ok P w K mg base 5 "is_merge" ["question", "value"] (sp_is_merge ⟨K, T⟩) := by
  obtain ⟨tcr, hcr⟩ := t.c_reason
  refine ok_mkG D sc_is_merge rfl (fun _ => rfl) bd_is_merge fun c Pt f A outer s H E TB hPt hr => ⟨_, (pss_cons (ps_asg (pv 1) (pgT (K := K) rfl rfl (pgs_cons (pg_name (i := 2) sc_is_merge.nd rfl (by first | exact Or.inl rfl | exact Or.inr rfl)) (pgs_cons (pg_name (i := 3) sc_is_merge.nd rfl (by first | exact Or.inl rfl | exact Or.inr rfl)) (pgs_cons (pg_name (i := 4) sc_is_merge.nd rfl (by first | exact Or.inl rfl | exact Or.inr rfl)) (pgs_cons (pg_name (i := 5) sc_is_merge.nd rfl (by first | exact Or.inl rfl | exact Or.inr rfl)) (pgs_cons (pg_name (i := 6) sc_is_merge.nd rfl (by first | exact Or.inl rfl | exact Or.inr rfl)) pgs_nil)))))))
    (pss_cons (ps_if (PW.pt (pw_or (pt_not (pt_val (pe_callO h_is_number (hr.mono (by decide)) rfl (pa_cons (pv 5) (pa_cons pe_int (pa_cons (pe_op op_sub (pe_ix (ixT (K := K) rfl) (pv 0) pe_int (fun _ _ => rfl)) pe_int) pa_nil)))))) (pw_or1 (pt_not (pt_val (pe_all1 (own := [("one", 7)]) (k := 3) hr rfl (by rfl) t.all (by decide +kernel) TB rfl sc_is_merge.nd (blkOk_by (by rfl)) (by decide +kernel) rfl (by rfl) (piT (K := K) rfl (pe_tup (pa_cons (pv 3) (pa_cons (pv 4) (pa_cons (pv 6) pa_nil))))) (fun _ _ ce _ hce hgl => (by cases ce; cases hce; exact pg_name (i := 7) sc_is_merge.nd rfl (by first | exact Or.inl rfl | exact Or.inr rfl))) (fun _ _ ce _ hce hr1 => (by cases ce; cases hce; exact (pe_callO h_is_text (hr1.mono (by decide)) rfl (pa_cons (pe_ix (ixT (K := K) rfl) (pv 0) pe_int (fun _ _ => rfl)) (pa_cons (pv 7) pa_nil))))) (fun _ => rfl))))))) (pss_one (ps_ret pe_bl)) pss_nil)
    (pss_cons (ps_if (pt_cmpR op_gt (pe_op op_add (pe_op op_add (pe_op op_add (pe_callB (cLen (K := K) rfl) (by rfl) t.len (by decide +kernel) (pa_cons (pv 3) pa_nil)) (pe_callB (cLen (K := K) rfl) (by rfl) t.len (by decide +kernel) (pa_cons (pv 4) pa_nil))) (pe_callB (cLen (K := K) rfl) (by rfl) t.len (by decide +kernel) (pa_cons (pv 6) pa_nil))) pe_int) (pe_glob (v := .int 160) rfl hcr ⟨_, rfl⟩) (by first | rfl | exact nomark _)) (pss_one (ps_ret pe_bl)) pss_nil)
    (pss_cons (ps_setLc (i := 8) (own := [("one", 7)]) (g := gName 7) rfl sc_is_merge.nd rfl rfl (sw_true rfl rfl rfl (by decide +kernel)) (piT (K := K) rfl (pe_tup (pa_cons (pv 3) (pa_cons (pv 4) pa_nil)))) (blkOk_by (by rfl)) (fun _ _ _ _ _ => pg_name (i := 7) sc_is_merge.nd rfl (by first | exact Or.inl rfl | exact Or.inr rfl)) (fun _ _ _ _ _ => pts_nil) (fun _ _ _ _ _ => (pe_callO h_led (hr.mono (by decide)) rfl (pa_cons (pe_ix (ixT (K := K) rfl) (pv 0) pe_int (fun _ _ => rfl)) (pa_cons pe_int (pa_cons (pe_op (oCatA (K := K) rfl) (pv 7) (pv 6)) pa_nil))))))
    (pss_cons (ps_if (pt_cmpR (oEq (K := K) rfl (u64 hr)) (pe_ix (ixT (K := K) rfl) (pe_ix (ixT (K := K) rfl) (pv 0) pe_int (fun _ _ => rfl)) (pe_ix (ixL (K := K) rfl) (pv 8) pe_int (fun _ _ => rfl)) (fun _ _ => rfl)) (pe_ix (ixT (K := K) rfl) (pe_ix (ixT (K := K) rfl) (pv 0) pe_int (fun _ _ => rfl)) (pe_ix (ixL (K := K) rfl) (pv 8) pe_int (fun _ _ => rfl)) (fun _ _ => rfl)) (by first | rfl | exact nomark _)) (pss_one (ps_ret pe_bl)) pss_nil)
    (pss_one (ps_ret (pe_cmpR (oEq (K := K) rfl (u64 hr)) (pe_callO h_led (hr.mono (by decide)) rfl (pa_cons (pe_ix (ixT (K := K) rfl) (pv 0) pe_int (fun _ _ => rfl)) (pa_cons pe_int (pa_cons (pe_op (oCatA (K := K) rfl) (pv 3) (pe_tup (pa_cons (pv 5) pa_nil))) pa_nil)))) (pe_callO h_led (hr.mono (by decide)) rfl (pa_cons (pe_ix (ixT (K := K) rfl) (pv 0) pe_int (fun _ _ => rfl)) (pa_cons pe_int (pa_cons (pe_op (oCatA (K := K) rfl) (pv 4) (pe_tup (pa_cons (pv 5) pa_nil))) pa_nil)))) (by first | rfl | exact nomark _))))))))), fun a hp => ?_⟩
  obtain ⟨s, e0, a, b, c, d⟩ := a
  obtain ⟨ok, ha, hb, hc, hd⟩ := hp
  have ok : s.ok := ok
  have ha : OkE a := ha
  have hb : OkE b := hb
  have hc : OkE c := hc
  have hd : OkE d := hd
  have n1 := ok.n1
  refine ast_seq (ast_asg ?_)
  walk_at "go"
  refine atg_tup rfl (atgs_cons (atg_name (atgs_cons (atg_name (atgs_cons (atg_name (atgs_cons (atg_name (atgs_cons (atg_name (atgs_nil ?_)))))))))))
  walk_at "go"
  refine ⟨(c, 0, (s.k : Int) - 1), rfl, hc.1, fun y hy => ?_⟩
  rw [show y = _ from hy]
  refine exb ?_
  show if (!isNum 0 ((s.k : Int) - 1) c) = true then _ else _
  cases hnc : isNum 0 ((s.k : Int) - 1) c with
  | false =>
    refine iteT (iteT ?_)
    walk_at "go"
    show PyData.bool _ = PyData.bool (mrgChk s a b c d)
    unfold mrgChk; rw [hnc]; rfl
  | true =>
  refine iteF ?_
  refine awt_not (awt_b ?_)
  refine awp_all (List.mem_singleton.mpr rfl) hPt (awc_of (awi_tup (awp_tup ?_)))
  walk_at "go"
  refine ⟨by simp, ext ⟨rfl, isTx s.k, fun n x hx => ?_, ?_⟩⟩
  · have hxm := List.mem_of_getElem? hx
    have hxo : OkE x := by
      simp at hxm
      rcases hxm with rfl | rfl | rfl
      · exact ha
      · exact hb
      · exact hd
    walk_at "go"
    exact ⟨(s.k, x), rfl, hxo, fun y hy => ⟨rfl, hy⟩⟩
  refine exb ?_
  have eall : [a, b, d].all (isTx s.k) = (isTx s.k a && (isTx s.k b && isTx s.k d)) := by simp
  rw [eall]
  cases htx : (isTx s.k a && (isTx s.k b && isTx s.k d)) with
  | false =>
    refine iteT ?_
    walk_at "go"
    show PyData.bool _ = PyData.bool (mrgChk s a b c d)
    unfold mrgChk; rw [hnc, htx]; rfl
  | true =>
  refine iteF ?_
  obtain ⟨hta, htbd⟩ := Bool.and_eq_true_iff.mp htx
  obtain ⟨htb, htd⟩ := Bool.and_eq_true_iff.mp htbd
  obtain ⟨i, rfl, hi⟩ := isNum_ex hnc
  obtain ⟨t, rfl, ht, htl⟩ := isTx_ex hta
  obtain ⟨v, rfl, hv, hvl⟩ := isTx_ex htb
  obtain ⟨u, rfl, hu, hul⟩ := isTx_ex htd
  have fin : mrgChk s (nD t) (nD v) (iD i) (nD u) = (decide (t.length + v.length + u.length + 1 ≤ 160) && (decide (outR s (t ++ u) ≠ outR s (v ++ u)) && decide (run s.st 0 (t ++ [i]) = run s.st 0 (v ++ [i])))) := by
    unfold mrgChk
    rw [hnc, htx, unR_n, unR_n, unR_n, unN_i]
    simp only [Bool.true_and]
  walk_at "go"
  by_cases hl : t.length + v.length + u.length + 1 ≤ 160
  · rw [decide_eq_false (by omega)]
    refine iteF ?_
    rw [decide_eq_true hl, Bool.true_and] at fin
    have hru : ∀ p : List Nat, (∀ l ∈ p, l < s.k) → run s.st 0 p < s.st.length := fun p hp => ok.stOk.runLt _ n1 hp
    have app : ∀ {p q : List Nat}, (∀ l ∈ p, l < s.k) → (∀ l ∈ q, l < s.k) → ∀ l ∈ p ++ q, l < s.k := fun hp hq l hl => (List.mem_append.mp hl).elim (hp l) (hq l)
    have hi1 : ∀ l ∈ [i], l < s.k := fun l hl => by rw [List.mem_singleton.mp hl]; exact hi
    walk_at "go"
    refine ast_set ?_
    refine awp_lcM (List.mem_singleton.mpr rfl) (awc_of (awi_tup (awp_tup ?_)))
    walk_at "go"
    refine ⟨by simp, ext ⟨List Nat, [t, v], nD, fun p => iD (run s.st 0 (p ++ u)), rfl, by simp, rfl, fun p hp => ?_, ?_⟩⟩
    · have hpl : p.length ≤ 160 ∧ ∀ l ∈ p, l < s.k := by
        simp at hp
        rcases hp with rfl | rfl
        · exact ⟨htl, ht⟩
        · exact ⟨hvl, hv⟩
      walk_at "go"
      refine rd_catN (by omega) ?_
      walk_at "go"
      exact ⟨(s.st, 0, p ++ u), rfl, ⟨s.k, ok.stOk, n1, app hpl.2 hu⟩, fun y hy => ⟨rfl, hy⟩⟩
    · have e1 : PyData.list ([t, v].map fun p => iD (run s.st 0 (p ++ u))) = lD [run s.st 0 (t ++ u), run s.st 0 (v ++ u)] := rfl
      rw [e1]
      walk_at "go"
      refine rd_lD (i := 0) (by simp) ?_
      refine rd_nD (i := run s.st 0 (t ++ u)) (by rw [ok.al]; exact hru _ (app ht hu)) ?_
      walk_at "go"
      refine rd_lD (i := 1) (by simp) ?_
      refine rd_nD (i := run s.st 0 (v ++ u)) (by rw [ok.al]; exact hru _ (app hv hu)) ?_
      refine rd_eqN (exb ?_)
      by_cases hoe : outR s (t ++ u) = outR s (v ++ u)
      · rw [decide_eq_true (show s.an.getD (run s.st 0 (t ++ u)) 0 = s.an.getD (run s.st 0 (v ++ u)) 0 from hoe)]
        refine iteT ?_
        walk_at "go"
        show PyData.bool _ = PyData.bool (mrgChk s (nD t) (nD v) (iD i) (nD u))
        rw [fin, decide_eq_false (fun z => z hoe)]; rfl
      · rw [decide_eq_false (show ¬ s.an.getD (run s.st 0 (t ++ u)) 0 = s.an.getD (run s.st 0 (v ++ u)) 0 from hoe)]
        refine iteF ?_
        rw [decide_eq_true hoe, Bool.true_and] at fin
        walk_at "go"
        refine awp_tup ?_
        walk_at "go"
        refine ⟨by simp, ?_⟩
        refine rd_catN (ys := [i]) (by simp; omega) ?_
        walk_at "go"
        refine ⟨(s.st, 0, t ++ [i]), rfl, ⟨s.k, ok.stOk, n1, app ht hi1⟩, fun y hy => ?_⟩
        rw [show y = _ from hy]
        walk_at "go"
        refine awp_tup ?_
        walk_at "go"
        refine ⟨by simp, ?_⟩
        refine rd_catN (ys := [i]) (by simp; omega) ?_
        walk_at "go"
        refine ⟨(s.st, 0, v ++ [i]), rfl, ⟨s.k, ok.stOk, n1, app hv hi1⟩, fun y hy => ?_⟩
        rw [show y = _ from hy]
        refine rd_eqN ?_
        show PyData.bool _ = PyData.bool (mrgChk s (nD t) (nD v) (iD i) (nD u))
        rw [fin]
  · rw [decide_eq_true (by omega)]
    refine iteT ?_
    walk_at "go"
    show PyData.bool _ = PyData.bool (mrgChk s (nD t) (nD v) (iD i) (nD u))
    rw [fin, decide_eq_false hl]; rfl
end
end TW
end

section
set_option Elab.async false
set_option linter.all false
set_option maxRecDepth 100000
set_option maxHeartbeats 4000000
namespace TW
open PySem PySem.Spec PyProof.Rows L2
local macro_rules | `(tactic| walk_at "aw") => `(tactic| first
  | with_reducible refine ast_seq ?_
  | with_reducible refine ast_ret ?_
  | with_reducible refine ast_if ?_
  | with_reducible refine ast_next ?_
  | with_reducible refine awt_t ?_
  | with_reducible refine awt_b ?_
  | with_reducible refine awt_and ?_
  | with_reducible refine awt_or ?_
  | with_reducible refine awt_not ?_
  | with_reducible refine awt_yes ?_
  | ((with_reducible apply awp_row0); exact rfl)
  | ((with_reducible apply awp_row1); exact rfl)
  | ((with_reducible apply awp_row2); exact rfl)
  | ((with_reducible apply awp_row3); exact rfl)
  | with_reducible refine awp_op ?_
  | with_reducible refine awp_and ?_
  | with_reducible refine awp_or ?_
  | with_reducible refine awp_not ?_
  | with_reducible refine awp_chain ?_
  | with_reducible refine awp_if ?_
  | with_reducible refine awp_isN ?_
  | with_reducible refine awp_notN ?_
  | with_reducible refine awp_int ?_
  | with_reducible refine awp_bl ?_
  | with_reducible refine awp_str ?_
  | with_reducible refine awp_non ?_
  | with_reducible refine awp_isiT ?_
  | with_reducible refine awp_isiI ?_
  | with_reducible refine awp_isiB ?_
  | with_reducible refine awp_isiS ?_
  | with_reducible refine awp_isiL ?_
  | with_reducible refine awp_isiTL ?_
  | with_reducible refine awp_cb ?_
  | with_reducible refine awp_call ?_
  | with_reducible refine aas_nil ?_
  | with_reducible refine aas_cons ?_
  | with_reducible refine rd_lt ?_
  | with_reducible refine rd_le ?_
  | with_reducible refine rd_gt ?_
  | with_reducible refine rd_ge ?_
  | with_reducible refine rd_add ?_
  | with_reducible refine rd_sub ?_
  | with_reducible refine rd_notB ?_
  | with_reducible refine rd_q0 ?_
  | with_reducible refine rd_q1 ?_
  | with_reducible refine rd_q2 ?_
  | with_reducible refine rd_eqN ?_
  | with_reducible refine rd_neN ?_
  | with_reducible refine rd_eqT ?_
  | with_reducible refine rd_neT ?_
  | with_reducible refine rd_eqL ?_
  | with_reducible refine rd_neL ?_
  | with_reducible refine rd_eqI ?_
  | with_reducible refine rd_neI ?_
  | with_reducible refine rdn_int ?_
  | with_reducible refine rdn_min ?_
  | with_reducible refine awp_rg ?_
  | with_reducible refine awi_rng ?_
  | with_reducible refine awi_list ?_
  | with_reducible refine awi_tup ?_
  | with_reducible refine awi_enumL ?_
  | with_reducible refine awi_enumT ?_
  | with_reducible refine awp_sl ?_
  | with_reducible refine awo_no ?_
  | with_reducible refine awo_some ?_
  | with_reducible refine ast_while ?_
  | with_reducible refine ast_for ?_
  | with_reducible refine exb ?_
  | with_reducible refine exn ?_
  | with_reducible refine exi ?_
  | with_reducible refine exl ?_
  | with_reducible refine ext ?_
  | with_reducible refine exlD ?_
  | with_reducible refine exnD ?_
  | with_reducible refine exsD ?_
  | with_reducible refine rdn_lenN ?_
  | with_reducible refine rdn_lenS ?_
  | with_reducible refine rdn_lenL ?_
  | with_reducible refine rdn_lenl ?_
  | ((with_reducible apply awp_v); exact rfl))
local macro_rules | `(tactic| walk_at "go") => `(tactic| (repeat (first
  | with_reducible refine ast_seq ?_
  | with_reducible refine ast_ret ?_
  | with_reducible refine ast_if ?_
  | with_reducible refine ast_next ?_
  | with_reducible refine awt_t ?_
  | with_reducible refine awt_b ?_
  | with_reducible refine awt_and ?_
  | with_reducible refine awt_or ?_
  | with_reducible refine awt_not ?_
  | with_reducible refine awt_yes ?_
  | ((with_reducible apply awp_row0); exact rfl)
  | ((with_reducible apply awp_row1); exact rfl)
  | ((with_reducible apply awp_row2); exact rfl)
  | ((with_reducible apply awp_row3); exact rfl)
  | with_reducible refine awp_op ?_
  | with_reducible refine awp_and ?_
  | with_reducible refine awp_or ?_
  | with_reducible refine awp_not ?_
  | with_reducible refine awp_chain ?_
  | with_reducible refine awp_if ?_
  | with_reducible refine awp_isN ?_
  | with_reducible refine awp_notN ?_
  | with_reducible refine awp_int ?_
  | with_reducible refine awp_bl ?_
  | with_reducible refine awp_str ?_
  | with_reducible refine awp_non ?_
  | with_reducible refine awp_isiT ?_
  | with_reducible refine awp_isiI ?_
  | with_reducible refine awp_isiB ?_
  | with_reducible refine awp_isiS ?_
  | with_reducible refine awp_isiL ?_
  | with_reducible refine awp_isiTL ?_
  | with_reducible refine awp_cb ?_
  | with_reducible refine awp_call ?_
  | with_reducible refine aas_nil ?_
  | with_reducible refine aas_cons ?_
  | with_reducible refine rd_lt ?_
  | with_reducible refine rd_le ?_
  | with_reducible refine rd_gt ?_
  | with_reducible refine rd_ge ?_
  | with_reducible refine rd_add ?_
  | with_reducible refine rd_sub ?_
  | with_reducible refine rd_notB ?_
  | with_reducible refine rd_q0 ?_
  | with_reducible refine rd_q1 ?_
  | with_reducible refine rd_q2 ?_
  | with_reducible refine rd_eqN ?_
  | with_reducible refine rd_neN ?_
  | with_reducible refine rd_eqT ?_
  | with_reducible refine rd_neT ?_
  | with_reducible refine rd_eqL ?_
  | with_reducible refine rd_neL ?_
  | with_reducible refine rd_eqI ?_
  | with_reducible refine rd_neI ?_
  | with_reducible refine rdn_int ?_
  | with_reducible refine rdn_min ?_
  | with_reducible refine awp_rg ?_
  | with_reducible refine awi_rng ?_
  | with_reducible refine awi_list ?_
  | with_reducible refine awi_tup ?_
  | with_reducible refine awi_enumL ?_
  | with_reducible refine awi_enumT ?_
  | with_reducible refine awp_sl ?_
  | with_reducible refine awo_no ?_
  | with_reducible refine awo_some ?_
  | with_reducible refine ast_while ?_
  | with_reducible refine ast_for ?_
  | with_reducible refine exb ?_
  | with_reducible refine exn ?_
  | with_reducible refine exi ?_
  | with_reducible refine exl ?_
  | with_reducible refine ext ?_
  | with_reducible refine exlD ?_
  | with_reducible refine exnD ?_
  | with_reducible refine exsD ?_
  | with_reducible refine rdn_lenN ?_
  | with_reducible refine rdn_lenS ?_
  | with_reducible refine rdn_lenL ?_
  | with_reducible refine rdn_lenl ?_
  | ((with_reducible apply awp_v); exact rfl))))

section
variable {P : Program} {w : World} {K : PySem.W.Frag} {mg : Str → Option Value} {base : Heap} {T : List Addr}
theorem chk_len {ws : Str} {s : M} {xs : List PyData} (h : xs.length ≠ 5) : chk ws s (.tuple xs) = false := by
  match xs, h with
  | [], _ => rfl
  | [e0], _ => cases e0 <;> rfl
  | [e0, _], _ => cases e0 <;> rfl
  | [e0, _, _], _ => cases e0 <;> rfl
  | [e0, _, _, _], _ => cases e0 <;> rfl
  | [_, _, _, _, _], h => exact absurd rfl h
  | e0 :: _ :: _ :: _ :: _ :: _ :: _, _ => cases e0 <;> rfl
def shB (ws : Str) (s : M) (v : PyData) : Bool := if (canB ws s || isNn v) = true then (canB ws s && isNn v) else chk ws s v
theorem eqv_str {x y : Str} : PyData.eqv (.str x) (.str y) = decide (x = y) := by
  rw [PyData.eqv]
  by_cases h : x = y
  · subst h; simp
  · rw [decide_eq_false h]; simpa using h
theorem sc_shows_reason : FnScope ["world", "question", "value", "small"] ["world", "question", "value"] (defScope s_shows_reason) := ⟨rfl, rfl, rfl, by decide +kernel, rfl, by decide +kernel, by decide +kernel⟩
theorem bd_shows_reason : BindF "shows_reason" s_shows_reason ["world", "question", "value"] := fun _ _ _ _ _ _ us hl => match us, hl with | [_, _, _], _ => rfl
abbrev sp_shows_reason (W : Wd) : Sp := SpD W (fun a : Str × M × PyData => [.str a.1, qD a.2.1, a.2.2]) (fun a => a.1 ∈ wsL ∧ a.2.1.ok ∧ OkV a.2.2) (fun a r => r = .bool (shB a.1 (small a.2.1) a.2.2))
theorem ok_shows_reason (D : Dd K mg "shows_reason" s_shows_reason) (t : Bt K mg) (h_need_world : Ok P w K mg base 1 "need_world" ["value"] (sp_need_world ⟨K, T⟩)) (h_need_question : Ok P w K mg base 4 "need_question" ["value"] (sp_need_question ⟨K, T⟩)) (h_least_of : Ok P w K mg base 3 "least_of" ["question"] (sp_least_of ⟨K, T⟩)) (h_can : Ok P w K mg base 4 "can" ["world", "question"] (sp_can ⟨K, T⟩)) (h_is_merge : Ok P w K mg base 5 "is_merge" ["question", "value"] (sp_is_merge ⟨K, T⟩)) (h_is_order : Ok P w K mg base 4 "is_order" ["question", "value"] (sp_is_order ⟨K, T⟩)) : Ok P w K mg base 6 "shows_reason" ["world", "question", "value"] (sp_shows_reason ⟨K, T⟩) := by
  obtain ⟨aO, hO, sO⟩ := t.oto
  obtain ⟨aR, hR, sR⟩ := t.orderless
  refine ok_mk D sc_shows_reason rfl (fun _ => rfl) bd_shows_reason fun f cdv A outer s H E hr => ⟨_, (pss_cons (ps_expr (pe_callO h_need_world (hr.mono (by decide)) rfl (pa_cons (pv 0) pa_nil)))
    (pss_cons (ps_expr (pe_callO h_need_question (hr.mono (by decide)) rfl (pa_cons (pv 1) pa_nil)))
    (pss_cons (ps_asg (pe_callO h_least_of (hr.mono (by decide)) rfl (pa_cons (pv 1) pa_nil)) (pg_name (i := 3) sc_shows_reason.nd rfl (by first | exact Or.inl rfl | exact Or.inr rfl)))
    (pss_cons (ps_if (PW.pt (pw_or (pt_val (pe_callO h_can (hr.mono (by decide)) rfl (pa_cons (pv 0) (pa_cons (pv 3) pa_nil)))) (pw_or1 (pt_cmp (pc_isN (pv 2)) (by first | rfl | exact nobehind _ (by decide) (by decide)))))) (pss_one (ps_ret (pe_and (pe_callO h_can (hr.mono (by decide)) rfl (pa_cons (pv 0) (pa_cons (pv 3) pa_nil))) (pe_one (pe_cmp (pc_isN (pv 2)) (by first | rfl | exact nobehind _ (by decide) (by decide))))))) pss_nil)
    (pss_cons (ps_if (PW.pt (pw_or (pt_not (pt_val (pe_callB (cIsi (K := K) rfl) (by rfl) t.isinstance (by decide +kernel) (pa_cons (pv 2) (pa_cons (pe_bltn (v := .ty "tuple") (by rfl) t.tuple (by decide +kernel) rfl) pa_nil))))) (pw_or (pt_cmpR (oNe (K := K) rfl (u64 hr)) (pe_callB (cLen (K := K) rfl) (by rfl) t.len (by decide +kernel) (pa_cons (pv 2) pa_nil)) pe_int (by first | rfl | exact nomark _)) (pw_or1 (pt_not (pt_val (pe_callB (cIsi (K := K) rfl) (by rfl) t.isinstance (by decide +kernel) (pa_cons (pe_ix (ixT (K := K) rfl) (pv 2) pe_int (fun _ _ => rfl)) (pa_cons (pe_bltn (v := .ty "str") (by rfl) t.str (by decide +kernel) rfl) pa_nil))))))))) (pss_one (ps_ret pe_bl)) pss_nil)
    (pss_cons (ps_if (pt_cmpR (oEq (K := K) rfl (u64 hr)) (pe_ix (ixT (K := K) rfl) (pv 2) pe_int (fun _ _ => rfl)) pe_str (by first | rfl | exact nomark _)) (pss_one (ps_ret (pe_and (pe_cmpR (oIn (K := K) rfl) (pv 0) (pe_glob (v := .ref aR) rfl hR rfl) (by first | rfl | exact nomark _)) (pe_one (pe_callO h_is_order (hr.mono (by decide)) rfl (pa_cons (pv 3) (pa_cons (pv 2) pa_nil))))))) pss_nil)
    (pss_one (ps_ret (pe_and (pe_cmpR (oEq (K := K) rfl (u64 hr)) (pe_ix (ixT (K := K) rfl) (pv 2) pe_int (fun _ _ => rfl)) pe_str (by first | rfl | exact nomark _)) (pe_and (pe_cmpR (oIn (K := K) rfl) (pv 0) (pe_glob (v := .ref aO) rfl hO rfl) (by first | rfl | exact nomark _)) (pe_one (pe_callO h_is_merge (hr.mono (by decide)) rfl (pa_cons (pv 3) (pa_cons (pv 2) pa_nil)))))))))))))), fun a hp => ?_⟩
  obtain ⟨ws, m, v⟩ := a
  obtain ⟨hw, ok, hv⟩ := hp
  have hv : OkV v := hv
  refine ast_seq (ast_drop ?_)
  walk_at "go"
  refine ⟨ws, rfl, hw, fun x hx => ?_⟩
  refine ast_seq (ast_drop ?_)
  walk_at "go"
  refine ⟨m, rfl, ok, fun x hx => ?_⟩
  refine ast_seq (ast_set ?_)
  walk_at "go"
  refine ⟨m, rfl, ok, fun x hx => ?_⟩
  rw [show x = _ from hx]
  have okS := small_ok (m := m) ok
  generalize small m = s at okS
  walk_at "go"
  refine ⟨(ws, s), rfl, okS, fun x hx => ?_⟩
  rw [show x = _ from hx]
  refine exb ?_
  have can2 : ∀ b : Bool, canB ws s = b → AWp ⟨K, T⟩ (tCall (sp_can ⟨K, T⟩) [] E0 (tCons (tVar 0) (tCons (tVar 3) tNil))) [.d (.str ws), .d (qD m), .d v, .d (qD s)] fun Γ x => Γ = [.d (.str ws), .d (qD m), .d v, .d (qD s)] ∧ x = .bool b := fun b hb => by
    walk_at "go"
    refine ⟨(ws, s), rfl, okS, fun x hx => ⟨rfl, ?_⟩⟩
    rw [show x = _ from hx, ← hb]
  show if canB ws s = true then _ else _
  cases hc : canB ws s with
  | true =>
    refine iteT (iteT ?_)
    walk_at "aw"
    walk_at "aw"
    refine (can2 true hc).imp fun Γ x h => ?_
    obtain ⟨rfl, rfl⟩ := h
    refine exb (iteT ?_)
    walk_at "go"
    show PyData.bool _ = PyData.bool (shB ws s v)
    unfold shB
    rw [hc]
    rfl
  | false =>
    refine iteF ?_
    walk_at "go"
    cases hn : isNn v with
    | true =>
      refine iteT ?_
      walk_at "aw"
      walk_at "aw"
      refine (can2 false hc).imp fun Γ x h => ?_
      obtain ⟨rfl, rfl⟩ := h
      refine exb (iteF ?_)
      show PyData.bool _ = PyData.bool (shB ws s v)
      unfold shB
      rw [hc, hn]
      rfl
    | false =>
      refine iteF ?_
      have eS : shB ws s v = chk ws s v := by
        unfold shB
        rw [hc, hn]
        rfl
      have eS' : shB (ws, m, v).1 s (ws, m, v).2.2 = chk ws s v := eS
      rw [eS']
      walk_at "go"
      refine ⟨hv.1, exb ?_⟩
      rw [isTyT]
      cases v with
      | tuple xs =>
        refine iteF ?_
        obtain ⟨l1, l2⟩ := hv.2 xs rfl
        walk_at "go"
        refine rdn_len (.inr (.inl rfl)) ?_
        walk_at "go"
        by_cases h5 : xs.length = 5
        · match xs, h5, l2 with
          | [e0, a, b, c, d], _, l2 =>
            have o0 := l2 e0 (by simp)
            have oa := l2 a (by simp)
            have ob := l2 b (by simp)
            have oc := l2 c (by simp)
            have od := l2 d (by simp)
            refine iteF ?_
            have i0 : ∀ {Kp : PyData → Prop}, Kp e0 → RD ⟨K, T⟩ (rIxT K) (.tuple [e0, a, b, c, d]) (.int 0) Kp := fun k => rd_ixT (Int.le_refl _) rfl k
            walk_at "go"
            refine i0 ⟨o0.1, exb ?_⟩
            rw [isTyS]
            cases e0 with
            | str x =>
              refine iteF ?_
              walk_at "go"
              refine i0 ?_
              walk_at "go"
              refine rd_eqD o0.2.1.sh (by decide +kernel) (exb ?_)
              rw [eqv_str]
              by_cases hx : x = "order"
              · rw [decide_eq_true hx]
                refine iteT ?_
                have ec : chk ws s (.tuple [.str x, a, b, c, d]) = (decide (ws ∈ ordL) && ordChk s a b c d) := by
                  exact if_pos hx
                rw [ec]
                walk_at "go"
                refine awp_c (const_dv sR (by decide)) ?_
                refine rd_inS ordL (.inr rfl) (exb ?_)
                rw [if_neg Bool.false_ne_true]
                by_cases hR : ws ∈ ordL
                · rw [decide_eq_true hR]
                  refine iteT ?_
                  walk_at "go"
                  refine ⟨(s, .str x, a, b, c, d), rfl, ⟨okS, oa, ob, oc, od⟩, fun y hy => ?_⟩
                  rw [show y = _ from hy]
                  rfl
                · rw [decide_eq_false hR]
                  exact iteF rfl
              · rw [decide_eq_false hx]
                refine iteF ?_
                have ec : chk ws s (.tuple [.str x, a, b, c, d]) = (decide (x = "merge") && (decide (ws ∈ otoL) && mrgChk s a b c d)) := by
                  exact if_neg hx
                rw [ec]
                walk_at "go"
                refine i0 ?_
                walk_at "go"
                refine rd_eqD o0.2.1.sh (by decide +kernel) (exb ?_)
                rw [eqv_str]
                by_cases hx2 : x = "merge"
                · rw [decide_eq_true hx2]
                  refine iteT ?_
                  walk_at "go"
                  refine awp_c (const_dv sO (by decide)) ?_
                  refine rd_inS otoL (.inr rfl) (exb ?_)
                  rw [if_neg Bool.false_ne_true]
                  by_cases hR : ws ∈ otoL
                  · rw [decide_eq_true hR]
                    refine iteT ?_
                    walk_at "go"
                    refine ⟨(s, .str x, a, b, c, d), rfl, ⟨okS, oa, ob, oc, od⟩, fun y hy => ?_⟩
                    rw [show y = _ from hy]
                    rfl
                  · rw [decide_eq_false hR]
                    exact iteF rfl
                · rw [decide_eq_false hx2]
                  exact iteF rfl
            | _ =>
              refine iteT ?_
              walk_at "go"
              rfl
        · have ec : chk ws s (.tuple xs) = false := chk_len h5
          rw [ec]
          have hne : ¬ (xs.length : Int) = 5 := fun z => h5 (by omega)
          rw [decide_eq_false hne]
          refine iteT (iteT ?_)
          walk_at "go"
          rfl
      | _ =>
        refine iteT (iteT ?_)
        walk_at "go"
        rfl
theorem sc_law_text : FnScope ["_law_letters", "_law_value", "_law_one"] ["_law_letters", "_law_value"] (defScope s_law_text) := ⟨rfl, rfl, rfl, by decide +kernel, rfl, by decide +kernel, by decide +kernel⟩
theorem bd_law_text : BindF "_law_text" s_law_text ["_law_letters", "_law_value"] := fun _ _ _ _ _ _ us hl => match us, hl with | [_, _], _ => rfl
def isTl (k : Nat) : PyData → Bool
  | .tuple xs => xs.all (isNum 0 ((k : Int) - 1))
  | _ => false
theorem rd_eqNil {W : Wd} {Kp : PyData → Prop} {ds : List PyData} (h : SeqAt.shaped (.list ds) = true) (k : Kp (.bool ds.isEmpty)) : RD W (rEqD W.K) (.list ds) (.list []) Kp := rd_eqD h rfl (by
  have e : PyData.eqv (.list ds) (.list []) = ds.isEmpty := by rw [PyData.eqv]; cases ds <;> rw [PyData.eqvAll] <;> rfl
  rw [e]; exact k)
theorem rd_neNil {W : Wd} {Kp : PyData → Prop} {ds : List PyData} (h : SeqAt.shaped (.list ds) = true) (k : Kp (.bool (!ds.isEmpty))) : RD W (rNeD W.K) (.list ds) (.list []) Kp := rd_neD h rfl (by
  have e : PyData.eqv (.list ds) (.list []) = ds.isEmpty := by rw [PyData.eqv]; cases ds <;> rw [PyData.eqvAll] <;> rfl
  rw [e]; exact k)
theorem sh8_list : ∀ {ds : List PyData}, (∀ x ∈ ds, Sh8 x) → PyData.canLayAll0 ds = true ∧ PyData.depthAll ds ≤ 8
  | [], _ => ⟨rfl, by rw [PyData.depthAll]; exact Nat.zero_le _⟩
  | x :: ds, h => by
    obtain ⟨h1, h2⟩ := sh8_list fun y hy => h y (List.mem_cons_of_mem _ hy)
    obtain ⟨h3, h4⟩ := h x (List.mem_cons_self ..)
    rw [PyData.canLayAll0, PyData.depthAll, h3, h1]
    exact ⟨rfl, Nat.max_le.mpr ⟨h4, h2⟩⟩
theorem sh8_lst {ds : List PyData} (h : ∀ x ∈ ds, Sh8 x) : SeqAt.shaped (.list ds) = true := by
  obtain ⟨h1, h2⟩ := sh8_list h
  unfold SeqAt.shaped
  rw [PyData.canLay0, PyData.depth, h1]
  simp only [Bool.true_and, decide_eq_true_eq]
  omega
theorem filt_all {p : PyData → Bool} {xs : List PyData} : (xs.filter fun x => !p x).isEmpty = xs.all p := by
  induction xs with
  | nil => rfl
  | cons x xs ih =>
    rw [List.filter_cons, List.all_cons, ← ih]
    cases p x <;> rfl
theorem eqv_int_no {n : Int} {x : PyData} (h : isTy "int" x = false) : PyData.eqv (.int n) x = false := by
  rw [isTyI] at h
  cases x with
  | int i => cases h
  | bool b => cases h
  | _ => rw [PyData.eqv]
theorem in_range {k : Nat} {x : PyData} (hb : isTy "bool" x = false) : ((List.range k).map iD).any (fun z => PyData.eqv z x) = isNum 0 ((k : Int) - 1) x := by
  rw [isTyB] at hb
  cases x with
  | bool b => cases hb
  | int i =>
    have e : ((List.range k).map iD).any (fun z => PyData.eqv z (.int i)) = (List.range k).any fun n => decide ((n : Int) = i) := by
      rw [List.any_map]
      refine congrArg (fun p => List.any (List.range k) p) (funext fun n => ?_)
      show PyData.eqv (.int n) (.int i) = _
      rw [PyData.eqv]
      exact Bool.beq_eq_decide_eq _ _
    rw [e]
    simp only [isNum]
    by_cases h : 0 ≤ i ∧ i < k
    · have h1 : ((List.range k).any fun n => decide ((n : Int) = i)) = true := List.any_eq_true.mpr ⟨i.toNat, List.mem_range.mpr (by omega), decide_eq_true (by omega)⟩
      rw [h1, decide_eq_true (by omega), decide_eq_true (by omega)]; rfl
    · have h1 : ((List.range k).any fun n => decide ((n : Int) = i)) = false := Bool.eq_false_iff.mpr fun z => by
        obtain ⟨n, hn, e⟩ := List.any_eq_true.mp z
        have := of_decide_eq_true e
        have := List.mem_range.mp hn
        exact h ⟨by omega, by omega⟩
      rw [h1]
      symm
      refine Bool.eq_false_iff.mpr fun z => ?_
      simp only [Bool.and_eq_true, decide_eq_true_eq] at z
      exact h ⟨by omega, by omega⟩
  | _ =>
    show _ = false
    rw [List.any_eq_false]
    intro z hz
    obtain ⟨n, _, rfl⟩ := List.mem_map.mp hz
    rw [eqv_int_no rfl]
    exact Bool.false_ne_true
abbrev sp_law_text (W : Wd) : Sp := SpD W (fun a : Nat × PyData => [lD (List.range a.1), a.2]) (fun a => OkE a.2) (fun a r => r = .bool (isTl a.1 a.2))
theorem ok_law_text (D : Dd K mg "_law_text" s_law_text) (t : Bt K mg) : Ok P w K mg base 1 "_law_text" ["_law_letters", "_law_value"] (sp_law_text ⟨K, T⟩) := by
  refine ok_mk D sc_law_text rfl (fun _ => rfl) bd_law_text fun f cdv A outer s H E hr => ⟨_, (pss_cons (ps_if (pt_not (pt_val (pe_callB (cIsi (K := K) rfl) (by rfl) t.isinstance (by decide +kernel) (pa_cons (pv 1) (pa_cons (pe_bltn (v := .ty "tuple") (by rfl) t.tuple (by decide +kernel) rfl) pa_nil))))) (pss_one (ps_ret pe_bl)) pss_nil)
    (pss_one (ps_ret (pe_cmpR (oEq (K := K) rfl (u64 hr)) (pe_lc (own := [("_law_one", 2)]) (g := gName 2) rfl sc_law_text.nd (piT (K := K) rfl (pv 1)) (blkOk_by (by rfl)) (fun _ _ _ _ _ => pg_name (i := 2) sc_law_text.nd rfl (by first | exact Or.inl rfl | exact Or.inr rfl)) (fun _ _ _ _ _ => (pts_one (PW.pt (pw_or (pt_val (pe_callB (cIsi (K := K) rfl) (by rfl) t.isinstance (by decide +kernel) (pa_cons (pv 2) (pa_cons (pe_bltn (v := .ty "bool") (by rfl) t.bool (by decide +kernel) rfl) pa_nil)))) (pw_or1 (pt_cmpR (oNotInD (K := K) rfl (u65 hr)) (pv 2) (pv 0) (by first | rfl | exact nomark _))))))) (fun _ _ _ _ _ => (pv 2))) (pe_lst pa_nil) (by first | rfl | exact nomark _))))), fun a hp => ?_⟩
  obtain ⟨k, v⟩ := a
  obtain ⟨h1, h2, h3⟩ := hp
  have h1 : okD v = true := h1
  walk_at "go"
  refine ⟨h1, exb ?_⟩
  rw [isTyT]
  cases v with
  | tuple xs =>
    refine iteF ?_
    obtain ⟨l1, l2⟩ := h3 xs rfl
    walk_at "go"
    refine awp_lcT (List.mem_singleton.mpr rfl) (awc_of ?_)
    walk_at "go"
    refine ⟨by omega, rfl, by show 2 < 3; decide, fun x => !isNum 0 ((k : Int) - 1) x, fun n x hx => ?_, ?_⟩
    · obtain ⟨x1, x2⟩ := l2 x (List.mem_of_getElem? hx)
      walk_at "go"
      refine ⟨x1, exb ?_⟩
      cases hb : isTy "bool" x with
      | true =>
        refine iteT ⟨rfl, ?_⟩
        rw [isTyB] at hb
        cases x with
        | bool b => rfl
        | _ => cases hb
      | false =>
        refine iteF ?_
        walk_at "go"
        refine rd_notInD x2.sh (shaped_lD (ns := List.range k)) (exb ⟨rfl, ?_⟩)
        rw [in_range hb]
    · walk_at "go"
      refine awp_lst (aas_nil ⟨by decide, ?_⟩)
      refine rd_eqNil (sh8_lst fun x hx => (l2 x (List.mem_filter.mp hx).1).2) ?_
      show PyData.bool _ = PyData.bool (xs.all (isNum 0 ((k : Int) - 1)))
      rw [filt_all]
  | _ =>
    refine iteT ?_
    walk_at "go"
    rfl
theorem sc_law_alike : FnScope ["_law_found", "_law_due", "_law_k"] ["_law_found", "_law_due"] (defScope s_law_alike) := ⟨rfl, rfl, rfl, by decide +kernel, rfl, by decide +kernel, by decide +kernel⟩
theorem bd_law_alike : BindF "_law_alike" s_law_alike ["_law_found", "_law_due"] := fun _ _ _ _ _ _ us hl => match us, hl with | [_, _], _ => rfl
abbrev sp_law_alike (W : Wd) : Sp := SpD W (fun a : Bool × Bool => [.bool a.1, .bool a.2]) (fun _ => True) (fun a r => r = .bool (decide (a.1 = a.2)))
theorem ok_law_alike (D : Dd K mg "_law_alike" s_law_alike) (t : Bt K mg) {sp_x : Sp} : Ok P w K mg base 1 "_law_alike" ["_law_found", "_law_due"] (sp_law_alike ⟨K, T⟩) := by
  refine ok_mk D sc_law_alike rfl (fun _ => rfl) bd_law_alike fun f cdv A outer s H E hr => ⟨_, (pss_cons (ps_if (pt_val (pe_callB (cIsiT (K := K) rfl) (by rfl) t.isinstance (by decide +kernel) (pa_cons (pv 1) (pa_cons (pe_tup (pa_cons (pe_bltn (v := .ty "tuple") (by rfl) t.tuple (by decide +kernel) rfl) (pa_cons (pe_bltn (v := .ty "list") (by rfl) t.list (by decide +kernel) rfl) pa_nil))) pa_nil)))) pss_never pss_nil)
    (pss_cons (ps_if (PW.pt (pw_or (pt_cmp (pc_isN (pv 1)) (by first | rfl | exact nobehind _ (by decide) (by decide))) (pw_or1 (pt_val (pe_callB (cIsi (K := K) rfl) (by rfl) t.isinstance (by decide +kernel) (pa_cons (pv 1) (pa_cons (pe_bltn (v := .ty "str") (by rfl) t.str (by decide +kernel) rfl) pa_nil))))))) (pss_one (ps_ret (pe_and (pe_cmpR (oEq (K := K) rfl (u64 hr)) (pv 0) (pv 1) (by first | rfl | exact nomark _)) (pe_one (pe_cmpR (oEq (K := K) rfl (u64 hr)) (pe_callB (cIsi (K := K) rfl) (by rfl) t.isinstance (by decide +kernel) (pa_cons (pv 0) (pa_cons (pe_bltn (v := .ty "str") (by rfl) t.str (by decide +kernel) rfl) pa_nil))) (pe_callB (cIsi (K := K) rfl) (by rfl) t.isinstance (by decide +kernel) (pa_cons (pv 1) (pa_cons (pe_bltn (v := .ty "str") (by rfl) t.str (by decide +kernel) rfl) pa_nil))) (by first | rfl | exact nomark _)))))) pss_nil)
    (pss_one (ps_ret (pe_and (pe_callB (cIsi (K := K) rfl) (by rfl) t.isinstance (by decide +kernel) (pa_cons (pv 0) (pa_cons (pe_bltn (v := .ty "int") (by rfl) t.int (by decide +kernel) rfl) pa_nil))) (pe_and (pe_cmpR (oEq (K := K) rfl (u64 hr)) (pe_callB (cIsi (K := K) rfl) (by rfl) t.isinstance (by decide +kernel) (pa_cons (pv 0) (pa_cons (pe_bltn (v := .ty "bool") (by rfl) t.bool (by decide +kernel) rfl) pa_nil))) (pe_callB (cIsi (K := K) rfl) (by rfl) t.isinstance (by decide +kernel) (pa_cons (pv 1) (pa_cons (pe_bltn (v := .ty "bool") (by rfl) t.bool (by decide +kernel) rfl) pa_nil))) (by first | rfl | exact nomark _)) (pe_one (pe_cmpR (oEq (K := K) rfl (u64 hr)) (pv 0) (pv 1) (by first | rfl | exact nomark _))))))))), fun a hp => ?_⟩
  obtain ⟨x, y⟩ := a
  walk_at "go"
  refine ⟨rfl, exb ?_⟩
  rw [isTyT, isTyL]
  refine iteF ?_
  walk_at "go"
  refine iteF ?_
  walk_at "go"
  refine ⟨rfl, exb ?_⟩
  rw [isTyS]
  refine iteF ?_
  walk_at "go"
  refine ⟨rfl, exb ?_⟩
  rw [isTyI]
  refine iteT ?_
  walk_at "go"
  refine ⟨rfl, ?_⟩
  walk_at "go"
  refine ⟨rfl, ?_⟩
  rw [isTyB, isTyB]
  refine rd_eqD rfl rfl (exb ?_)
  have e1 : PyData.eqv (.bool true) (.bool true) = true := by rw [PyData.eqv]; rfl
  show if PyData.eqv (.bool true) (.bool true) = true then _ else _
  rw [e1]
  refine iteT ?_
  walk_at "go"
  refine rd_eqD rfl rfl ?_
  have e : PyData.eqv (.bool x) (.bool y) = decide (x = y) := by rw [PyData.eqv]; exact Bool.beq_eq_decide_eq x y
  show PyData.bool (PyData.eqv (.bool x) (.bool y)) = PyData.bool (decide (x = y))
  rw [e]
end
end TW
end

section
set_option Elab.async false
set_option linter.all false
set_option maxRecDepth 100000
set_option maxHeartbeats 4000000
namespace TW
open PySem PySem.Spec PyProof.Rows L2
local macro_rules | `(tactic| walk_at "aw") => `(tactic| first
  | with_reducible refine ast_seq ?_
  | with_reducible refine ast_ret ?_
  | with_reducible refine ast_if ?_
  | with_reducible refine ast_next ?_
  | with_reducible refine awt_t ?_
  | with_reducible refine awt_b ?_
  | with_reducible refine awt_and ?_
  | with_reducible refine awt_or ?_
  | with_reducible refine awt_not ?_
  | with_reducible refine awt_yes ?_
  | ((with_reducible apply awp_row0); exact rfl)
  | ((with_reducible apply awp_row1); exact rfl)
  | ((with_reducible apply awp_row2); exact rfl)
  | ((with_reducible apply awp_row3); exact rfl)
  | with_reducible refine awp_op ?_
  | with_reducible refine awp_and ?_
  | with_reducible refine awp_or ?_
  | with_reducible refine awp_not ?_
  | with_reducible refine awp_chain ?_
  | with_reducible refine awp_if ?_
  | with_reducible refine awp_isN ?_
  | with_reducible refine awp_notN ?_
  | with_reducible refine awp_int ?_
  | with_reducible refine awp_bl ?_
  | with_reducible refine awp_str ?_
  | with_reducible refine awp_non ?_
  | with_reducible refine awp_isiT ?_
  | with_reducible refine awp_isiI ?_
  | with_reducible refine awp_isiB ?_
  | with_reducible refine awp_isiS ?_
  | with_reducible refine awp_isiL ?_
  | with_reducible refine awp_isiTL ?_
  | with_reducible refine awp_cb ?_
  | with_reducible refine awp_call ?_
  | with_reducible refine aas_nil ?_
  | with_reducible refine aas_cons ?_
  | with_reducible refine rd_lt ?_
  | with_reducible refine rd_le ?_
  | with_reducible refine rd_gt ?_
  | with_reducible refine rd_ge ?_
  | with_reducible refine rd_add ?_
  | with_reducible refine rd_sub ?_
  | with_reducible refine rd_notB ?_
  | with_reducible refine rd_q0 ?_
  | with_reducible refine rd_q1 ?_
  | with_reducible refine rd_q2 ?_
  | with_reducible refine rd_eqN ?_
  | with_reducible refine rd_neN ?_
  | with_reducible refine rd_eqT ?_
  | with_reducible refine rd_neT ?_
  | with_reducible refine rd_eqL ?_
  | with_reducible refine rd_neL ?_
  | with_reducible refine rd_eqI ?_
  | with_reducible refine rd_neI ?_
  | with_reducible refine rdn_int ?_
  | with_reducible refine rdn_min ?_
  | with_reducible refine awp_rg ?_
  | with_reducible refine awi_rng ?_
  | with_reducible refine awi_list ?_
  | with_reducible refine awi_tup ?_
  | with_reducible refine awi_enumL ?_
  | with_reducible refine awi_enumT ?_
  | with_reducible refine awp_sl ?_
  | with_reducible refine awo_no ?_
  | with_reducible refine awo_some ?_
  | with_reducible refine ast_while ?_
  | with_reducible refine ast_for ?_
  | with_reducible refine exb ?_
  | with_reducible refine exn ?_
  | with_reducible refine exi ?_
  | with_reducible refine exl ?_
  | with_reducible refine ext ?_
  | with_reducible refine exlD ?_
  | with_reducible refine exnD ?_
  | with_reducible refine exsD ?_
  | with_reducible refine rdn_lenN ?_
  | with_reducible refine rdn_lenS ?_
  | with_reducible refine rdn_lenL ?_
  | with_reducible refine rdn_lenl ?_
  | ((with_reducible apply awp_v); exact rfl))
local macro_rules | `(tactic| walk_at "go") => `(tactic| (repeat (first
  | with_reducible refine ast_seq ?_
  | with_reducible refine ast_ret ?_
  | with_reducible refine ast_if ?_
  | with_reducible refine ast_next ?_
  | with_reducible refine awt_t ?_
  | with_reducible refine awt_b ?_
  | with_reducible refine awt_and ?_
  | with_reducible refine awt_or ?_
  | with_reducible refine awt_not ?_
  | with_reducible refine awt_yes ?_
  | ((with_reducible apply awp_row0); exact rfl)
  | ((with_reducible apply awp_row1); exact rfl)
  | ((with_reducible apply awp_row2); exact rfl)
  | ((with_reducible apply awp_row3); exact rfl)
  | with_reducible refine awp_op ?_
  | with_reducible refine awp_and ?_
  | with_reducible refine awp_or ?_
  | with_reducible refine awp_not ?_
  | with_reducible refine awp_chain ?_
  | with_reducible refine awp_if ?_
  | with_reducible refine awp_isN ?_
  | with_reducible refine awp_notN ?_
  | with_reducible refine awp_int ?_
  | with_reducible refine awp_bl ?_
  | with_reducible refine awp_str ?_
  | with_reducible refine awp_non ?_
  | with_reducible refine awp_isiT ?_
  | with_reducible refine awp_isiI ?_
  | with_reducible refine awp_isiB ?_
  | with_reducible refine awp_isiS ?_
  | with_reducible refine awp_isiL ?_
  | with_reducible refine awp_isiTL ?_
  | with_reducible refine awp_cb ?_
  | with_reducible refine awp_call ?_
  | with_reducible refine aas_nil ?_
  | with_reducible refine aas_cons ?_
  | with_reducible refine rd_lt ?_
  | with_reducible refine rd_le ?_
  | with_reducible refine rd_gt ?_
  | with_reducible refine rd_ge ?_
  | with_reducible refine rd_add ?_
  | with_reducible refine rd_sub ?_
  | with_reducible refine rd_notB ?_
  | with_reducible refine rd_q0 ?_
  | with_reducible refine rd_q1 ?_
  | with_reducible refine rd_q2 ?_
  | with_reducible refine rd_eqN ?_
  | with_reducible refine rd_neN ?_
  | with_reducible refine rd_eqT ?_
  | with_reducible refine rd_neT ?_
  | with_reducible refine rd_eqL ?_
  | with_reducible refine rd_neL ?_
  | with_reducible refine rd_eqI ?_
  | with_reducible refine rd_neI ?_
  | with_reducible refine rdn_int ?_
  | with_reducible refine rdn_min ?_
  | with_reducible refine awp_rg ?_
  | with_reducible refine awi_rng ?_
  | with_reducible refine awi_list ?_
  | with_reducible refine awi_tup ?_
  | with_reducible refine awi_enumL ?_
  | with_reducible refine awi_enumT ?_
  | with_reducible refine awp_sl ?_
  | with_reducible refine awo_no ?_
  | with_reducible refine awo_some ?_
  | with_reducible refine ast_while ?_
  | with_reducible refine ast_for ?_
  | with_reducible refine exb ?_
  | with_reducible refine exn ?_
  | with_reducible refine exi ?_
  | with_reducible refine exl ?_
  | with_reducible refine ext ?_
  | with_reducible refine exlD ?_
  | with_reducible refine exnD ?_
  | with_reducible refine exsD ?_
  | with_reducible refine rdn_lenN ?_
  | with_reducible refine rdn_lenS ?_
  | with_reducible refine rdn_lenL ?_
  | with_reducible refine rdn_lenl ?_
  | ((with_reducible apply awp_v); exact rfl))))

section
variable {P : Program} {w : World} {K : PySem.W.Frag} {mg : Str → Option Value} {base : Heap} {T : List Addr}
theorem sorted_range : ∀ (l : List Int) (lo : Int), l.Pairwise (· < ·) → (∀ x ∈ l, lo ≤ x ∧ x < lo + l.length) → l = (List.range l.length).map fun i : Nat => lo + (i : Int)
  | [], _, _, _ => rfl
  | x :: l, lo, hp, h => by
    rw [List.pairwise_cons] at hp
    have hx := h x (List.mem_cons_self ..)
    have ih := sorted_range l (lo + 1) hp.2 fun y hy => by
      have h1 := hp.1 y hy
      have h2 := h y (List.mem_cons_of_mem _ hy)
      rw [List.length_cons] at h2
      omega
    have hxl : x = lo := by
      cases l with
      | nil => simp at hx; omega
      | cons y l =>
        have h1 := hp.1 y (List.mem_cons_self ..)
        have h2 : y = lo + 1 := by
          have := congrArg (fun z => z.head?) ih
          simp [List.range_succ_eq_map] at this
          omega
        omega
    rw [List.length_cons, List.range_succ_eq_map, List.map_cons, List.map_map]
    rw [hxl]
    congr 1
    · simp
    · rw [ih]
      rw [List.length_map, List.length_range]
      refine List.map_congr_left fun i _ => ?_
      show lo + 1 + (i : Int) = lo + ((i + 1 : Nat) : Int)
      omega
theorem sort_nodup {row : List Nat} (hlt : ∀ x ∈ row, x < row.length) {ns : List Int} (hp : ns.Perm (row.map fun n : Nat => (n : Int))) (hs : ns.Pairwise (· ≤ ·)) : ns = ((List.range row.length).map fun n : Nat => (n : Int)) ↔ row.Nodup := by
  constructor
  · intro e
    have h1 : ns.Nodup := by rw [e]; exact nodup_cast.mpr List.nodup_range
    exact nodup_cast.mp (hp.nodup_iff.mp h1)
  · intro nd
    have h1 : ns.Nodup := hp.nodup_iff.mpr (nodup_cast.mpr nd)
    have hl : ns.length = row.length := by rw [hp.length_eq, List.length_map]
    have hlt' : ns.Pairwise (· < ·) := by
      rw [List.nodup_iff_pairwise_ne] at h1
      refine List.Pairwise.imp₂ (fun a b h1 h2 => ?_) hs h1
      omega
    have := sorted_range ns 0 hlt' fun x hx => by
      obtain ⟨y, hy, rfl⟩ := List.mem_map.mp (hp.mem_iff.mp hx)
      have := hlt y hy
      omega
    rw [this, hl]
    exact List.map_congr_left fun i _ => by simp
theorem eqvAll_i : ∀ a b : List Int, PyData.eqvAll (a.map .int) (b.map .int) = decide (a = b)
  | [], [] => by rw [List.map_nil, PyData.eqvAll]; rfl
  | [], m :: ms => by rw [List.map_nil, List.map_cons, PyData.eqvAll]; rfl
  | n :: ns, [] => by rw [List.map_nil, List.map_cons, PyData.eqvAll]; rfl
  | n :: ns, m :: ms => by
    rw [List.map_cons, List.map_cons, PyData.eqvAll, eqvAll_i ns ms, PyData.eqv, Bool.beq_eq_decide_eq]
    by_cases h : n = m <;> by_cases h' : ns = ms <;> simp [h, h']
theorem shaped_ints (a : List Int) : SeqAt.shaped (.list (a.map .int)) = true := shaped_list (d := 1) (fun _ => rfl) (fun _ => by rw [PyData.depth]; decide) (by decide) a
theorem lD_sh8 {ns : List Nat} : Sh8 (lD ns) := ⟨SeqAt.canLay_of_shaped shaped_lD, by
  unfold lD
  rw [PyData.depth]
  have := depAll (ns := ns)
  omega⟩
def unL : PyData → List Nat
  | .list ds => ds.map fun x => match x with | .int i => i.toNat | _ => 0
  | _ => []
theorem unL_l (ns : List Nat) : unL (lD ns) = ns := by
  show (ns.map iD).map _ = ns
  rw [List.map_map]
  conv => rhs; rw [← List.map_id ns]
  rfl
theorem mapL_get {ns : List (List Nat)} {n : Nat} {x : PyData} (h : (ns.map lD)[n]? = some x) : ∃ s, ns[n]? = some s ∧ s ∈ ns ∧ x = lD s := by
  rw [List.getElem?_map] at h
  cases e : ns[n]? with
  | none => rw [e] at h; cases h
  | some s => rw [e] at h; exact ⟨s, rfl, List.mem_of_getElem? e, (Option.some.inj h).symm⟩
theorem sc_law_can : FnScope ["_law_world_here", "_law_question_here", "_law_small", "_law_rows", "_law_letter", "_law_row_here", "_law_one", "_law_two", "_law_state"] ["_law_world_here", "_law_question_here"] (defScope s_law_can) := ⟨rfl, rfl, rfl, by decide +kernel, rfl, by decide +kernel, by decide +kernel⟩
theorem bd_law_can : BindF "_law_can" s_law_can ["_law_world_here", "_law_question_here"] := fun _ _ _ _ _ _ us hl => match us, hl with | [_, _], _ => rfl
abbrev sp_law_can (W : Wd) : Sp := SpD W (fun a : Str × M => [.str a.1, qD a.2]) (fun a => a.2.ok) (fun a r => r = .bool (canB a.1 (small a.2)))
theorem ok_law_can (D : Dd K mg "_law_can" s_law_can) (t : Bt K mg) (h_law_least : Ok P w K mg base 2 "_law_least" ["_law_question_here"] (sp_law_least ⟨K, T⟩)) (h_law_row : Ok P w K mg base 1 "_law_row" ["_law_question_here", "_law_letter"] (sp_law_row ⟨K, T⟩)) : Ok P w K mg base 3 "_law_can" ["_law_world_here", "_law_question_here"] (sp_law_can ⟨K, T⟩) := by
  refine ok_mk D sc_law_can rfl (fun _ => rfl) bd_law_can fun f cdv A outer s H E hr => ⟨_, (pss_cons (ps_asg (pe_callO h_law_least (hr.mono (by decide)) rfl (pa_cons (pv 1) pa_nil)) (pg_name (i := 2) sc_law_can.nd rfl (by first | exact Or.inl rfl | exact Or.inr rfl)))
    (pss_cons (ps_setLc (i := 3) (own := [("_law_letter", 4)]) (g := gName 4) rfl sc_law_can.nd rfl rfl (sw_true rfl rfl rfl (by decide +kernel)) (pi_range1 (by rfl) t.range (pa_cons (pe_ix (ixT (K := K) rfl) (pv 2) pe_int (fun _ _ => rfl)) pa_nil)) (blkOk_by (by rfl)) (fun _ _ _ _ _ => pg_name (i := 4) sc_law_can.nd rfl (by first | exact Or.inl rfl | exact Or.inr rfl)) (fun _ _ _ _ _ => pts_nil) (fun _ _ _ _ _ => (pe_callO h_law_row (hr.mono (by decide)) rfl (pa_cons (pv 2) (pa_cons (pv 4) pa_nil)))))
    (pss_cons (ps_if (pt_cmpR (oIn (K := K) rfl) (pv 0) (pe_lst (pa_cons pe_str (pa_cons pe_str (pa_cons pe_str pa_nil)))) (by first | rfl | exact nomark _)) (pss_one (ps_if (pt_cmpR (oNe (K := K) rfl (u64 hr)) (pe_lc (own := [("_law_row_here", 5)]) (g := gName 5) rfl sc_law_can.nd (piL (K := K) rfl (pv 3)) (blkOk_by (by rfl)) (fun _ _ _ _ _ => pg_name (i := 5) sc_law_can.nd rfl (by first | exact Or.inl rfl | exact Or.inr rfl)) (fun _ _ _ _ _ => (pts_one (pt_cmpR (oNe (K := K) rfl (u64 hr)) (pe_callB (cSorted (K := K) rfl) (by rfl) t.sorted (by decide +kernel) (pa_cons (pv 5) pa_nil)) (pe_listRg rfl (by rfl) t.list (prg_1 (by rfl) t.range (pe_callB (cLen (K := K) rfl) (by rfl) t.len (by decide +kernel) (pa_cons (pv 5) pa_nil)))) (by first | rfl | exact nomark _)))) (fun _ _ _ _ _ => (pv 5))) (pe_lst pa_nil) (by first | rfl | exact nomark _)) (pss_one (ps_ret pe_bl)) pss_nil)) pss_nil)
    (pss_cons (ps_if (pt_cmpR (oIn (K := K) rfl) (pv 0) (pe_lst (pa_cons pe_str (pa_cons pe_str pa_nil))) (by first | rfl | exact nomark _)) (pss_one (ps_for PassesOwn.never rfl (piL (K := K) rfl (pv 3)) (pg_name (i := 6) sc_law_can.nd rfl (by first | exact Or.inl rfl | exact Or.inr rfl)) (pss_one (ps_if (pt_cmpR (oNe (K := K) rfl (u64 hr)) (pe_lc (own := [("_law_two", 7)]) (g := gName 7) rfl sc_law_can.nd (piL (K := K) rfl (pv 3)) (blkOk_by (by rfl)) (fun _ _ _ _ _ => pg_name (i := 7) sc_law_can.nd rfl (by first | exact Or.inl rfl | exact Or.inr rfl)) (fun _ _ _ _ _ => (pts_one (pt_cmpR (oNe (K := K) rfl (u64 hr)) (pe_lc (own := [("_law_state", 8)]) (g := gName 8) rfl sc_law_can.nd (piL (K := K) rfl (pv 6)) (blkOk_by (by rfl)) (fun _ _ _ _ _ => pg_name (i := 8) sc_law_can.nd rfl (by first | exact Or.inl rfl | exact Or.inr rfl)) (fun _ _ _ _ _ => pts_nil) (fun _ _ _ _ _ => (pe_ix (ixL (K := K) rfl) (pv 7) (pv 8) (fun _ _ => rfl)))) (pe_lc (own := [("_law_state", 8)]) (g := gName 8) rfl sc_law_can.nd (piL (K := K) rfl (pv 7)) (blkOk_by (by rfl)) (fun _ _ _ _ _ => pg_name (i := 8) sc_law_can.nd rfl (by first | exact Or.inl rfl | exact Or.inr rfl)) (fun _ _ _ _ _ => pts_nil) (fun _ _ _ _ _ => (pe_ix (ixL (K := K) rfl) (pv 6) (pv 8) (fun _ _ => rfl)))) (by first | rfl | exact nomark _)))) (fun _ _ _ _ _ => (pv 7))) (pe_lst pa_nil) (by first | rfl | exact nomark _)) (pss_one (ps_ret pe_bl)) pss_nil)))) pss_nil)
    (pss_one (ps_ret pe_bl)))))), fun a hp => ?_⟩
  obtain ⟨ws, m⟩ := a
  have ok : m.ok := hp
  refine ast_seq (ast_set ?_)
  walk_at "go"
  refine ⟨m, rfl, ok, fun x hx => ?_⟩
  rw [show x = _ from hx]
  have okS := small_ok (m := m) ok
  have ecB : canB (ws, m).1 (small (ws, m).2) = canB ws (small m) := rfl
  rw [ecB]
  generalize small m = s at okS
  have n8 := okS.n8
  have k3 := okS.k3
  refine ast_seq (ast_set ?_)
  refine awp_lcM (List.mem_singleton.mpr rfl) (awc_of ?_)
  walk_at "go"
  refine ⟨by omega, Nat, List.range s.k, iD, fun l => lD (colL s.st l), rfl, by simp; omega, rfl, fun l hl => ?_, ?_⟩
  · have hl : l < s.k := List.mem_range.mp hl
    walk_at "go"
    exact ⟨(s, l), rfl, ⟨okS.stOk, by show s.st.length ≤ 1000; omega, hl⟩, fun y hy => ⟨rfl, hy⟩⟩
  have e1 : PyData.list ((List.range s.k).map fun l => lD (colL s.st l)) = .list ((colsL s).map lD) := by unfold colsL; rw [List.map_map]; rfl
  rw [e1]
  have hrow : ∀ row ∈ colsL s, row.length = s.st.length ∧ ∀ x ∈ row, x < s.st.length := fun row hm => by
    obtain ⟨l, hl, rfl⟩ := colsL_mem hm
    exact ⟨colL_len, colL_lt okS.stOk hl⟩
  refine ast_seq (ast_ifJ (fun Γ => Γ = [.d (.str ws), .d (qD m), .d (qD s), .d (.list ((colsL s).map lD)), .un, .un, .un, .un, .un] ∧ (ws ∈ otoL → inj1 s = true)) ?_ fun Γ hΓ => ?_)
  · walk_at "go"
    refine awp_lst ?_
    walk_at "go"
    refine ⟨by decide, ?_⟩
    refine rd_inS otoL (.inl rfl) (exb ?_)
    rw [if_neg Bool.false_ne_true]
    by_cases hO : ws ∈ otoL
    · rw [decide_eq_true hO]
      refine iteT (ast_if ?_)
      walk_at "aw"
      walk_at "aw"
      refine awp_lcT (List.mem_singleton.mpr rfl) (awc_of ?_)
      walk_at "go"
      refine ⟨by rw [List.length_map, colsL_len]; omega, rfl, by show 5 < 9; decide, fun x => !decide (unL x).Nodup, fun n x hx => ?_, ?_⟩
      · obtain ⟨row, _, hm, rfl⟩ := mapL_get hx
        obtain ⟨rl, rlt⟩ := hrow row hm
        walk_at "go"
        have er : lD row = .list ((row.map fun n : Nat => (n : Int)).map .int) := by unfold lD; rw [List.map_map]; rfl
        have key : ∀ {Kp : PyData → Prop}, (∀ ns' : List Int, ns'.Perm (row.map fun n : Nat => (n : Int)) → ns'.Pairwise (· ≤ ·) → Kp (.list (ns'.map .int))) → RDn ⟨K, T⟩ (rSorted K) [lD row] Kp := fun k => by
          rw [er]
          exact rdn_sorted (by rw [List.length_map]; omega) k
        refine key fun ns' hpm hso => ?_
        walk_at "go"
        refine ⟨by omega, ?_⟩
        have eR : PyData.list (rangeD row.length) = .list (((List.range row.length).map fun n : Nat => (n : Int)).map .int) := by unfold rangeD; rw [List.map_map]; rfl
        rw [eR]
        refine rd_neD (shaped_ints _) (shaped_ints _) (exb ⟨rfl, ?_⟩)
        rw [PyData.eqv, eqvAll_i]
        show (!decide _) = !decide (unL (lD row)).Nodup
        rw [unL_l]
        exact congrArg _ (decide_eq_decide.mpr (sort_nodup (by rw [rl]; exact rlt) hpm hso))
      · walk_at "go"
        refine awp_lst (aas_nil ⟨by decide, ?_⟩)
        refine rd_neNil (sh8_lst fun x hx => ?_) (exb ?_)
        · obtain ⟨row, hm, rfl⟩ := List.mem_map.mp (List.mem_filter.mp hx).1
          exact lD_sh8
        · have e2 : (((colsL s).map lD).filter fun x => !decide (unL x).Nodup).isEmpty = inj1 s := by
            rw [filt_all (p := fun x => decide (unL x).Nodup)]
            exact all_map fun row _ => by
              show decide (unL (lD row)).Nodup = _
              rw [unL_l]
          rw [e2]
          cases hi : inj1 s with
          | true =>
            refine iteF (ast_next ⟨rfl, fun _ => rfl⟩)
          | false =>
            refine iteT ?_
            walk_at "go"
            show PyData.bool _ = PyData.bool (canB ws s)
            unfold canB
            rw [decide_eq_true hO, hi]
            rfl
    · rw [decide_eq_false hO]
      exact iteF (ast_next ⟨rfl, fun h => absurd h hO⟩)
  · obtain ⟨rfl, hinj⟩ := hΓ
    have e0 : (decide (ws ∈ otoL) && !inj1 s) = false := by
      by_cases hO : ws ∈ otoL
      · rw [hinj hO]; simp
      · rw [decide_eq_false hO]; rfl
    have ec : canB ws s = (!decide (ws ∈ ordL) || comm s) := by unfold canB; rw [e0]; rfl
    rw [ec]
    refine ast_seq (ast_if ?_)
    walk_at "go"
    refine awp_lst ?_
    walk_at "go"
    refine ⟨by decide, ?_⟩
    refine rd_inS ordL (.inl rfl) (exb ?_)
    rw [if_neg Bool.false_ne_true]
    by_cases hR : ws ∈ ordL
    · rw [decide_eq_true hR]
      refine iteT ?_
      walk_at "go"
      refine ⟨fun i Γ => ∃ s6 : SV, Γ = [.d (.str ws), .d (qD m), .d (qD s), .d (.list ((colsL s).map lD)), .un, .un, s6, .un, .un] ∧ ∀ i', i' < i → ∀ one, (colsL s)[i']? = some one → ((colsL s).all fun other => decide (thenL one other = thenL other one)) = true, ⟨_, rfl, fun i' h => absurd h (Nat.not_lt_zero _)⟩, fun i x Γ hx hΓ => ?_, fun Γ hΓ => ?_⟩
      · obtain ⟨s6, rfl, hc⟩ := hΓ
        obtain ⟨one, h1, hm1, rfl⟩ := mapL_get hx
        obtain ⟨l1, lt1⟩ := hrow one hm1
        refine atg_name ?_
        refine ast_if ?_
        walk_at "aw"
        walk_at "aw"
        refine awp_lcT (List.mem_singleton.mpr rfl) (awc_of ?_)
        walk_at "go"
        refine ⟨by rw [List.length_map, colsL_len]; omega, rfl, by show 7 < 9; decide, fun x => !decide (thenL one (unL x) = thenL (unL x) one), fun n x hx => ?_, ?_⟩
        · obtain ⟨two, _, hm2, rfl⟩ := mapL_get hx
          obtain ⟨l2, lt2⟩ := hrow two hm2
          have cmp : ∀ (p q : List Nat) (i j : Nat), p.length ≤ 1000 → (∀ x ∈ p, x < q.length) → ∀ {Γ : List SV} {Kk : List SV → PyData → Prop}, Γ[i]? = some (.d (lD p)) → ((wipeA Γ [8]).set 8 (.d (iD 0)))[j]? = some (.d (lD q)) → True := fun _ _ _ _ _ _ _ _ _ _ => True.intro
          walk_at "aw"
          walk_at "aw"
          refine awp_lcM (List.mem_singleton.mpr rfl) (awc_of ?_)
          walk_at "go"
          refine ⟨Nat, one, iD, fun x => iD (two.getD x 0), rfl, by omega, rfl, fun x hx => ?_, ?_⟩
          · walk_at "go"
            exact rd_lD (by rw [l2]; exact lt1 x hx) ⟨rfl, rfl⟩
          have ea : PyData.list (one.map fun x => iD (two.getD x 0)) = lD (thenL one two) := by unfold lD thenL; rw [List.map_map]; rfl
          rw [ea]
          refine awp_lcM (List.mem_singleton.mpr rfl) (awc_of ?_)
          walk_at "go"
          refine ⟨Nat, two, iD, fun x => iD (one.getD x 0), rfl, by omega, rfl, fun x hx => ?_, ?_⟩
          · walk_at "go"
            exact rd_lD (by rw [l1]; exact lt2 x hx) ⟨rfl, rfl⟩
          have eb : PyData.list (two.map fun x => iD (one.getD x 0)) = lD (thenL two one) := by unfold lD thenL; rw [List.map_map]; rfl
          rw [eb]
          refine rd_neL (exb ⟨rfl, ?_⟩)
          show (!decide _) = !decide (thenL one (unL (lD two)) = thenL (unL (lD two)) one)
          rw [unL_l]
        · walk_at "go"
          refine awp_lst (aas_nil ⟨by decide, ?_⟩)
          refine rd_neNil (sh8_lst fun x hx => ?_) (exb ?_)
          · obtain ⟨row, hm, rfl⟩ := List.mem_map.mp (List.mem_filter.mp hx).1
            exact lD_sh8
          · have e2 : (((colsL s).map lD).filter fun x => !decide (thenL one (unL x) = thenL (unL x) one)).isEmpty = (colsL s).all fun other => decide (thenL one other = thenL other one) := by
              rw [filt_all (p := fun x => decide (thenL one (unL x) = thenL (unL x) one))]
              exact all_map fun row _ => by
                show decide (thenL one (unL (lD row)) = thenL (unL (lD row)) one) = _
                rw [unL_l]
            rw [e2]
            cases hi : (colsL s).all fun other => decide (thenL one other = thenL other one) with
            | true =>
              refine iteF (ast_next ⟨_, rfl, fun i' h one' h1' => ?_⟩)
              by_cases e : i' = i
              · subst e
                rw [h1] at h1'
                cases h1'
                exact hi
              · exact hc i' (by omega) one' h1'
            | false =>
              refine iteT ?_
              walk_at "go"
              have hcm : comm s = false := Bool.eq_false_iff.mpr fun z => by
                have := List.all_eq_true.mp z one hm1
                rw [hi] at this
                cases this
              rw [hcm]
              rfl
      · obtain ⟨s6, rfl, hc⟩ := hΓ
        rw [List.length_map] at hc
        walk_at "go"
        have hcm : comm s = true := List.all_eq_true.mpr fun one hm => by
          obtain ⟨i, hi, e⟩ := List.mem_iff_getElem.mp hm
          exact hc i hi one (by rw [List.getElem?_eq_getElem hi, e])
        rw [hcm, Bool.or_true]
    · rw [decide_eq_false hR]
      refine iteF ?_
      walk_at "go"
      rfl
end
end TW
end

section
set_option Elab.async false
set_option linter.all false
set_option maxRecDepth 100000
set_option maxHeartbeats 4000000
namespace TW
open PySem PySem.Spec PyProof.Rows L2
local macro_rules | `(tactic| walk_at "aw") => `(tactic| first
  | with_reducible refine ast_seq ?_
  | with_reducible refine ast_ret ?_
  | with_reducible refine ast_if ?_
  | with_reducible refine ast_next ?_
  | with_reducible refine awt_t ?_
  | with_reducible refine awt_b ?_
  | with_reducible refine awt_and ?_
  | with_reducible refine awt_or ?_
  | with_reducible refine awt_not ?_
  | with_reducible refine awt_yes ?_
  | ((with_reducible apply awp_row0); exact rfl)
  | ((with_reducible apply awp_row1); exact rfl)
  | ((with_reducible apply awp_row2); exact rfl)
  | ((with_reducible apply awp_row3); exact rfl)
  | with_reducible refine awp_op ?_
  | with_reducible refine awp_and ?_
  | with_reducible refine awp_or ?_
  | with_reducible refine awp_not ?_
  | with_reducible refine awp_chain ?_
  | with_reducible refine awp_if ?_
  | with_reducible refine awp_isN ?_
  | with_reducible refine awp_notN ?_
  | with_reducible refine awp_int ?_
  | with_reducible refine awp_bl ?_
  | with_reducible refine awp_str ?_
  | with_reducible refine awp_non ?_
  | with_reducible refine awp_isiT ?_
  | with_reducible refine awp_isiI ?_
  | with_reducible refine awp_isiB ?_
  | with_reducible refine awp_isiS ?_
  | with_reducible refine awp_isiL ?_
  | with_reducible refine awp_isiTL ?_
  | with_reducible refine awp_cb ?_
  | with_reducible refine awp_call ?_
  | with_reducible refine aas_nil ?_
  | with_reducible refine aas_cons ?_
  | with_reducible refine rd_lt ?_
  | with_reducible refine rd_le ?_
  | with_reducible refine rd_gt ?_
  | with_reducible refine rd_ge ?_
  | with_reducible refine rd_add ?_
  | with_reducible refine rd_sub ?_
  | with_reducible refine rd_notB ?_
  | with_reducible refine rd_q0 ?_
  | with_reducible refine rd_q1 ?_
  | with_reducible refine rd_q2 ?_
  | with_reducible refine rd_eqN ?_
  | with_reducible refine rd_neN ?_
  | with_reducible refine rd_eqT ?_
  | with_reducible refine rd_neT ?_
  | with_reducible refine rd_eqL ?_
  | with_reducible refine rd_neL ?_
  | with_reducible refine rd_eqI ?_
  | with_reducible refine rd_neI ?_
  | with_reducible refine rdn_int ?_
  | with_reducible refine rdn_min ?_
  | with_reducible refine awp_rg ?_
  | with_reducible refine awi_rng ?_
  | with_reducible refine awi_list ?_
  | with_reducible refine awi_tup ?_
  | with_reducible refine awi_enumL ?_
  | with_reducible refine awi_enumT ?_
  | with_reducible refine awp_sl ?_
  | with_reducible refine awo_no ?_
  | with_reducible refine awo_some ?_
  | with_reducible refine ast_while ?_
  | with_reducible refine ast_for ?_
  | with_reducible refine exb ?_
  | with_reducible refine exn ?_
  | with_reducible refine exi ?_
  | with_reducible refine exl ?_
  | with_reducible refine ext ?_
  | with_reducible refine exlD ?_
  | with_reducible refine exnD ?_
  | with_reducible refine exsD ?_
  | with_reducible refine rdn_lenN ?_
  | with_reducible refine rdn_lenS ?_
  | with_reducible refine rdn_lenL ?_
  | with_reducible refine rdn_lenl ?_
  | ((with_reducible apply awp_v); exact rfl))
local macro_rules | `(tactic| walk_at "go") => `(tactic| (repeat (first
  | with_reducible refine ast_seq ?_
  | with_reducible refine ast_ret ?_
  | with_reducible refine ast_if ?_
  | with_reducible refine ast_next ?_
  | with_reducible refine awt_t ?_
  | with_reducible refine awt_b ?_
  | with_reducible refine awt_and ?_
  | with_reducible refine awt_or ?_
  | with_reducible refine awt_not ?_
  | with_reducible refine awt_yes ?_
  | ((with_reducible apply awp_row0); exact rfl)
  | ((with_reducible apply awp_row1); exact rfl)
  | ((with_reducible apply awp_row2); exact rfl)
  | ((with_reducible apply awp_row3); exact rfl)
  | with_reducible refine awp_op ?_
  | with_reducible refine awp_and ?_
  | with_reducible refine awp_or ?_
  | with_reducible refine awp_not ?_
  | with_reducible refine awp_chain ?_
  | with_reducible refine awp_if ?_
  | with_reducible refine awp_isN ?_
  | with_reducible refine awp_notN ?_
  | with_reducible refine awp_int ?_
  | with_reducible refine awp_bl ?_
  | with_reducible refine awp_str ?_
  | with_reducible refine awp_non ?_
  | with_reducible refine awp_isiT ?_
  | with_reducible refine awp_isiI ?_
  | with_reducible refine awp_isiB ?_
  | with_reducible refine awp_isiS ?_
  | with_reducible refine awp_isiL ?_
  | with_reducible refine awp_isiTL ?_
  | with_reducible refine awp_cb ?_
  | with_reducible refine awp_call ?_
  | with_reducible refine aas_nil ?_
  | with_reducible refine aas_cons ?_
  | with_reducible refine rd_lt ?_
  | with_reducible refine rd_le ?_
  | with_reducible refine rd_gt ?_
  | with_reducible refine rd_ge ?_
  | with_reducible refine rd_add ?_
  | with_reducible refine rd_sub ?_
  | with_reducible refine rd_notB ?_
  | with_reducible refine rd_q0 ?_
  | with_reducible refine rd_q1 ?_
  | with_reducible refine rd_q2 ?_
  | with_reducible refine rd_eqN ?_
  | with_reducible refine rd_neN ?_
  | with_reducible refine rd_eqT ?_
  | with_reducible refine rd_neT ?_
  | with_reducible refine rd_eqL ?_
  | with_reducible refine rd_neL ?_
  | with_reducible refine rd_eqI ?_
  | with_reducible refine rd_neI ?_
  | with_reducible refine rdn_int ?_
  | with_reducible refine rdn_min ?_
  | with_reducible refine awp_rg ?_
  | with_reducible refine awi_rng ?_
  | with_reducible refine awi_list ?_
  | with_reducible refine awi_tup ?_
  | with_reducible refine awi_enumL ?_
  | with_reducible refine awi_enumT ?_
  | with_reducible refine awp_sl ?_
  | with_reducible refine awo_no ?_
  | with_reducible refine awo_some ?_
  | with_reducible refine ast_while ?_
  | with_reducible refine ast_for ?_
  | with_reducible refine exb ?_
  | with_reducible refine exn ?_
  | with_reducible refine exi ?_
  | with_reducible refine exl ?_
  | with_reducible refine ext ?_
  | with_reducible refine exlD ?_
  | with_reducible refine exnD ?_
  | with_reducible refine exsD ?_
  | with_reducible refine rdn_lenN ?_
  | with_reducible refine rdn_lenS ?_
  | with_reducible refine rdn_lenL ?_
  | with_reducible refine rdn_lenl ?_
  | ((with_reducible apply awp_v); exact rfl))))

section
variable {P : Program} {w : World} {K : PySem.W.Frag} {mg : Str → Option Value} {base : Heap} {T : List Addr}
def isS (y : Str) : PyData → Bool
  | .str x => decide (x = y)
  | _ => false
theorem eqv_isS {y : Str} {e : PyData} : PyData.eqv e (.str y) = isS y e := by
  cases e with
  | str x => exact eqv_str
  | _ => rw [PyData.eqv]; rfl
theorem chk_alt {ws : Str} {s : M} {e0 a b c d : PyData} : chk ws s (.tuple [e0, a, b, c, d]) = if (isS "order" e0 && decide (ws ∈ ordL)) = true then ordChk s a b c d else if (isS "merge" e0 && decide (ws ∈ otoL)) = true then mrgChk s a b c d else false := by
  cases e0 with
  | str x =>
    show (if x = "order" then decide (ws ∈ ordL) && ordChk s a b c d else decide (x = "merge") && (decide (ws ∈ otoL) && mrgChk s a b c d)) = _
    show _ = if (decide (x = "order") && decide (ws ∈ ordL)) = true then ordChk s a b c d else if (decide (x = "merge") && decide (ws ∈ otoL)) = true then mrgChk s a b c d else false
    by_cases h1 : x = "order"
    · have h2 : ¬ x = "merge" := fun z => by rw [h1] at z; exact absurd z (by decide)
      rw [if_pos h1, decide_eq_true h1, decide_eq_false h2]
      by_cases h3 : ws ∈ ordL
      · rw [decide_eq_true h3]; rfl
      · rw [decide_eq_false h3]; rfl
    · rw [if_neg h1, decide_eq_false h1]
      by_cases h2 : x = "merge"
      · rw [decide_eq_true h2]
        by_cases h3 : ws ∈ otoL
        · rw [decide_eq_true h3]; rfl
        · rw [decide_eq_false h3]; rfl
      · rw [decide_eq_false h2]; rfl
  | _ => rfl
theorem isTl_ex {k : Nat} {v : PyData} (h : isTl k v = true) : ∃ t, v = nD t ∧ (∀ l ∈ t, l < k) := by
  cases v with
  | tuple xs =>
    have key : ∀ xs : List PyData, xs.all (isNum 0 ((k : Int) - 1)) = true → ∃ t : List Nat, xs = t.map iD ∧ ∀ l ∈ t, l < k := by
      intro xs
      induction xs with
      | nil => exact fun _ => ⟨[], rfl, fun l hl => by simp at hl⟩
      | cons x xs ih =>
        intro h
        rw [List.all_cons] at h
        obtain ⟨a1, a2⟩ := Bool.and_eq_true_iff.mp h
        obtain ⟨n, rfl, hn⟩ := isNum_ex a1
        obtain ⟨t, rfl, ht⟩ := ih a2
        exact ⟨n :: t, rfl, fun l hl => by
          rcases List.mem_cons.mp hl with rfl | hl
          · exact hn
          · exact ht l hl⟩
    obtain ⟨t, rfl, ht⟩ := key xs h
    exact ⟨t, rfl, ht⟩
  | _ => cases h
theorem isTx_tl {k : Nat} {v : PyData} (h : isTl k v = false) : isTx k v = false := by
  cases v with
  | tuple xs =>
    show (decide (xs.length ≤ 160) && xs.all (isNum 0 ((k : Int) - 1))) = false
    rw [show xs.all (isNum 0 ((k : Int) - 1)) = false from h, Bool.and_false]
  | _ => rfl
theorem isTx_nD {k : Nat} {t : List Nat} (h : ∀ l ∈ t, l < k) : isTx k (nD t) = decide (t.length ≤ 160) := by
  by_cases hl : t.length ≤ 160
  · rw [isTx_of h hl, decide_eq_true hl]
  · rw [decide_eq_false hl]
    show (decide ((t.map iD).length ≤ 160) && _) = false
    rw [List.length_map, decide_eq_false hl]; rfl
theorem num_bool {k : Nat} {x : PyData} (h : isTy "bool" x = true) : isNum 0 ((k : Int) - 1) x = false := by
  rw [isTyB] at h
  cases x with
  | bool b => rfl
  | _ => cases h
theorem wsl_str : SeqAt.shaped (.str "order") = true ∧ SeqAt.shaped (.str "merge") = true := by decide +kernel
theorem sc_law_shows : FnScope ["_law_world_here", "_law_question_here", "_law_value", "_law_small", "_law_letters", "_law_kind", "_law_one", "_law_two", "_law_three", "_law_four", "_law_ends", "_law_pair", "_law_text_here", "_law_tops"] ["_law_world_here", "_law_question_here", "_law_value"] (defScope s_law_shows) := ⟨rfl, rfl, rfl, by decide +kernel, rfl, by decide +kernel, by decide +kernel⟩
theorem bd_law_shows : BindF "_law_shows" s_law_shows ["_law_world_here", "_law_question_here", "_law_value"] := fun _ _ _ _ _ _ us hl => match us, hl with | [_, _, _], _ => rfl
abbrev sp_law_shows (W : Wd) : Sp := SpD W (fun a : Str × M × PyData => [.str a.1, qD a.2.1, a.2.2]) (fun a => a.2.1.ok ∧ OkV a.2.2) (fun a r => r = .bool (chk a.1 (small a.2.1) a.2.2))
theorem ok_law_shows (D : Dd K mg "_law_shows" s_law_shows) (t : Bt K mg) (h_law_least : Ok P w K mg base 2 "_law_least" ["_law_question_here"] (sp_law_least ⟨K, T⟩)) (h_law_led : Ok P w K mg base 1 "_law_led" ["_law_question_here", "_law_state", "_law_text_here"] (sp_law_led ⟨K, T⟩)) (h_law_text : Ok P w K mg base 1 "_law_text" ["_law_letters", "_law_value"] (sp_law_text ⟨K, T⟩)) : Ok P w K mg base 3 "_law_shows" ["_law_world_here", "_law_question_here", "_law_value"] (sp_law_shows ⟨K, T⟩) := by
  refine ok_mk D sc_law_shows rfl (fun _ => rfl) bd_law_shows fun f cdv A outer s H E hr => ⟨_, (pss_cons (ps_asg (pe_callO h_law_least (hr.mono (by decide)) rfl (pa_cons (pv 1) pa_nil)) (pg_name (i := 3) sc_law_shows.nd rfl (by first | exact Or.inl rfl | exact Or.inr rfl)))
    (pss_cons (ps_asg (pe_listRg rfl (by rfl) t.list (prg_1 (by rfl) t.range (pe_ix (ixT (K := K) rfl) (pv 1) pe_int (fun _ _ => rfl)))) (pg_name (i := 4) sc_law_shows.nd rfl (by first | exact Or.inl rfl | exact Or.inr rfl)))
    (pss_cons (ps_if (PW.pt (pw_or (pt_not (pt_val (pe_callB (cIsi (K := K) rfl) (by rfl) t.isinstance (by decide +kernel) (pa_cons (pv 2) (pa_cons (pe_bltn (v := .ty "tuple") (by rfl) t.tuple (by decide +kernel) rfl) pa_nil))))) (pw_or1 (pt_cmpR (oNe (K := K) rfl (u64 hr)) (pe_callB (cLen (K := K) rfl) (by rfl) t.len (by decide +kernel) (pa_cons (pv 2) pa_nil)) pe_int (by first | rfl | exact nomark _))))) (pss_one (ps_ret pe_bl)) pss_nil)
    (pss_cons (ps_asg (pv 2) (pgT (K := K) rfl rfl (pgs_cons (pg_name (i := 5) sc_law_shows.nd rfl (by first | exact Or.inl rfl | exact Or.inr rfl)) (pgs_cons (pg_name (i := 6) sc_law_shows.nd rfl (by first | exact Or.inl rfl | exact Or.inr rfl)) (pgs_cons (pg_name (i := 7) sc_law_shows.nd rfl (by first | exact Or.inl rfl | exact Or.inr rfl)) (pgs_cons (pg_name (i := 8) sc_law_shows.nd rfl (by first | exact Or.inl rfl | exact Or.inr rfl)) (pgs_cons (pg_name (i := 9) sc_law_shows.nd rfl (by first | exact Or.inl rfl | exact Or.inr rfl)) pgs_nil)))))))
    (pss_cons (ps_if (PW.pt (pw_and (pt_cmpR (oEq (K := K) rfl (u64 hr)) (pv 5) pe_str (by first | rfl | exact nomark _)) (pw_and1 (pt_cmpR (oIn (K := K) rfl) (pv 0) (pe_lst (pa_cons pe_str (pa_cons pe_str pa_nil))) (by first | rfl | exact nomark _))))) (pss_cons (ps_if (PW.pt (pw_or (pt_not (pt_val (pe_callO h_law_text (hr.mono (by decide)) rfl (pa_cons (pv 4) (pa_cons (pv 6) pa_nil))))) (pw_or1 (pt_not (pt_val (pe_callO h_law_text (hr.mono (by decide)) rfl (pa_cons (pv 4) (pa_cons (pv 9) pa_nil)))))))) (pss_one (ps_ret pe_bl)) pss_nil)
    (pss_cons (ps_if (PW.pt (pw_or (pt_val (pe_callB (cIsi (K := K) rfl) (by rfl) t.isinstance (by decide +kernel) (pa_cons (pv 7) (pa_cons (pe_bltn (v := .ty "bool") (by rfl) t.bool (by decide +kernel) rfl) pa_nil)))) (pw_or (pt_val (pe_callB (cIsi (K := K) rfl) (by rfl) t.isinstance (by decide +kernel) (pa_cons (pv 8) (pa_cons (pe_bltn (v := .ty "bool") (by rfl) t.bool (by decide +kernel) rfl) pa_nil)))) (pw_or (pt_cmpR (oNotInD (K := K) rfl (u65 hr)) (pv 7) (pv 4) (by first | rfl | exact nomark _)) (pw_or1 (pt_cmpR (oNotInD (K := K) rfl (u65 hr)) (pv 8) (pv 4) (by first | rfl | exact nomark _))))))) (pss_one (ps_ret pe_bl)) pss_nil)
    (pss_cons (ps_setLc (i := 10) (own := [("_law_pair", 11)]) (g := gName 11) rfl sc_law_shows.nd rfl rfl (sw_true rfl rfl rfl (by decide +kernel)) (piL (K := K) rfl (pe_lst (pa_cons (pe_tup (pa_cons (pv 7) (pa_cons (pv 8) pa_nil))) (pa_cons (pe_tup (pa_cons (pv 8) (pa_cons (pv 7) pa_nil))) pa_nil)))) (blkOk_by (by rfl)) (fun _ _ _ _ _ => pg_name (i := 11) sc_law_shows.nd rfl (by first | exact Or.inl rfl | exact Or.inr rfl)) (fun _ _ _ _ _ => pts_nil) (fun _ _ _ _ _ => (pe_callO h_law_led (hr.mono (by decide)) rfl (pa_cons (pv 3) (pa_cons pe_int (pa_cons (pe_op (oCatA (K := K) rfl) (pe_op (oCatA (K := K) rfl) (pv 6) (pv 11)) (pv 9)) pa_nil))))))
    (pss_one (ps_ret (pe_and (pe_cmpR op_lt (pe_op op_add (pe_callB (cLen (K := K) rfl) (by rfl) t.len (by decide +kernel) (pa_cons (pv 6) pa_nil)) (pe_callB (cLen (K := K) rfl) (by rfl) t.len (by decide +kernel) (pa_cons (pv 9) pa_nil))) pe_int (by first | rfl | exact nomark _)) (pe_one (pe_cmpR (oNe (K := K) rfl (u64 hr)) (pe_ix (ixT (K := K) rfl) (pe_ix (ixT (K := K) rfl) (pv 3) pe_int (fun _ _ => rfl)) (pe_ix (ixL (K := K) rfl) (pv 10) pe_int (fun _ _ => rfl)) (fun _ _ => rfl)) (pe_ix (ixT (K := K) rfl) (pe_ix (ixT (K := K) rfl) (pv 3) pe_int (fun _ _ => rfl)) (pe_ix (ixL (K := K) rfl) (pv 10) pe_int (fun _ _ => rfl)) (fun _ _ => rfl)) (by first | rfl | exact nomark _))))))))) pss_nil)
    (pss_cons (ps_if (PW.pt (pw_and (pt_cmpR (oEq (K := K) rfl (u64 hr)) (pv 5) pe_str (by first | rfl | exact nomark _)) (pw_and1 (pt_cmpR (oIn (K := K) rfl) (pv 0) (pe_lst (pa_cons pe_str (pa_cons pe_str (pa_cons pe_str pa_nil)))) (by first | rfl | exact nomark _))))) (pss_cons (ps_if (PW.pt (pw_or (pt_not (pt_val (pe_callO h_law_text (hr.mono (by decide)) rfl (pa_cons (pv 4) (pa_cons (pv 6) pa_nil))))) (pw_or (pt_not (pt_val (pe_callO h_law_text (hr.mono (by decide)) rfl (pa_cons (pv 4) (pa_cons (pv 7) pa_nil))))) (pw_or1 (pt_not (pt_val (pe_callO h_law_text (hr.mono (by decide)) rfl (pa_cons (pv 4) (pa_cons (pv 9) pa_nil))))))))) (pss_one (ps_ret pe_bl)) pss_nil)
    (pss_cons (ps_if (PW.pt (pw_or (pt_val (pe_callB (cIsi (K := K) rfl) (by rfl) t.isinstance (by decide +kernel) (pa_cons (pv 8) (pa_cons (pe_bltn (v := .ty "bool") (by rfl) t.bool (by decide +kernel) rfl) pa_nil)))) (pw_or1 (pt_cmpR (oNotInD (K := K) rfl (u65 hr)) (pv 8) (pv 4) (by first | rfl | exact nomark _))))) (pss_one (ps_ret pe_bl)) pss_nil)
    (pss_cons (ps_setLc (i := 10) (own := [("_law_text_here", 12)]) (g := gName 12) rfl sc_law_shows.nd rfl rfl (sw_true rfl rfl rfl (by decide +kernel)) (piL (K := K) rfl (pe_lst (pa_cons (pv 6) (pa_cons (pv 7) pa_nil)))) (blkOk_by (by rfl)) (fun _ _ _ _ _ => pg_name (i := 12) sc_law_shows.nd rfl (by first | exact Or.inl rfl | exact Or.inr rfl)) (fun _ _ _ _ _ => pts_nil) (fun _ _ _ _ _ => (pe_ix (ixT (K := K) rfl) (pe_ix (ixT (K := K) rfl) (pv 3) pe_int (fun _ _ => rfl)) (pe_callO h_law_led (hr.mono (by decide)) rfl (pa_cons (pv 3) (pa_cons pe_int (pa_cons (pe_op (oCatA (K := K) rfl) (pv 12) (pv 9)) pa_nil)))) (fun _ _ => rfl))))
    (pss_cons (ps_setLc (i := 13) (own := [("_law_text_here", 12)]) (g := gName 12) rfl sc_law_shows.nd rfl rfl (sw_true rfl rfl rfl (by decide +kernel)) (piL (K := K) rfl (pe_lst (pa_cons (pv 6) (pa_cons (pv 7) pa_nil)))) (blkOk_by (by rfl)) (fun _ _ _ _ _ => pg_name (i := 12) sc_law_shows.nd rfl (by first | exact Or.inl rfl | exact Or.inr rfl)) (fun _ _ _ _ _ => pts_nil) (fun _ _ _ _ _ => (pe_callO h_law_led (hr.mono (by decide)) rfl (pa_cons (pv 3) (pa_cons pe_int (pa_cons (pe_op (oCatA (K := K) rfl) (pv 12) (pe_tup (pa_cons (pv 8) pa_nil))) pa_nil))))))
    (pss_one (ps_ret (pe_and (pe_cmpR op_lt (pe_callB (cLen (K := K) rfl) (by rfl) t.len (by decide +kernel) (pa_cons (pe_op (oCatA (K := K) rfl) (pe_op (oCatA (K := K) rfl) (pv 6) (pv 7)) (pv 9)) pa_nil)) pe_int (by first | rfl | exact nomark _)) (pe_and (pe_cmpR (oNe (K := K) rfl (u64 hr)) (pe_ix (ixL (K := K) rfl) (pv 10) pe_int (fun _ _ => rfl)) (pe_ix (ixL (K := K) rfl) (pv 10) pe_int (fun _ _ => rfl)) (by first | rfl | exact nomark _)) (pe_one (pe_cmpR (oEq (K := K) rfl (u64 hr)) (pe_ix (ixL (K := K) rfl) (pv 13) pe_int (fun _ _ => rfl)) (pe_ix (ixL (K := K) rfl) (pv 13) pe_int (fun _ _ => rfl)) (by first | rfl | exact nomark _))))))))))) pss_nil)
    (pss_one (ps_ret pe_bl)))))))), fun a hp => ?_⟩
  obtain ⟨ws, m, v⟩ := a
  obtain ⟨ok, hv⟩ := hp
  have ok : m.ok := ok
  have hv : OkV v := hv
  refine ast_seq (ast_set ?_)
  walk_at "go"
  refine ⟨m, rfl, ok, fun x hx => ?_⟩
  rw [show x = _ from hx]
  have okS := small_ok (m := m) ok
  have hk : (small m).k = m.k := rfl
  have ecB : chk (ws, m, v).1 (small (ws, m, v).2.1) (ws, m, v).2.2 = chk ws (small m) v := rfl
  rw [ecB]
  generalize small m = s at okS hk
  have k3 := okS.k3
  have n1 := okS.n1
  refine ast_seq (ast_set ?_)
  walk_at "go"
  refine ⟨by show m.k ≤ 1000000; omega, ?_⟩
  have eR : PyData.list (rangeD m.k) = lD (List.range s.k) := by rw [hk]; rfl
  rw [eR]
  walk_at "go"
  refine ⟨hv.1, exb ?_⟩
  rw [isTyT]
  cases v with
  | tuple xs =>
    refine iteF ?_
    obtain ⟨l1, l2⟩ := hv.2 xs rfl
    walk_at "go"
    refine rdn_len (.inr (.inl rfl)) ?_
    walk_at "go"
    by_cases h5 : xs.length = 5
    · match xs, h5, l2 with
      | [e0, a, b, c, d], _, l2 =>
        have o0 := l2 e0 (by simp)
        have oa := l2 a (by simp)
        have ob := l2 b (by simp)
        have oc := l2 c (by simp)
        have od := l2 d (by simp)
        refine iteF (ast_next ?_)
        refine ast_seq (ast_asg ?_)
        walk_at "go"
        refine atg_tup rfl (atgs_cons (atg_name (atgs_cons (atg_name (atgs_cons (atg_name (atgs_cons (atg_name (atgs_cons (atg_name (atgs_nil ?_)))))))))))
        rw [chk_alt]
        have mem : ∀ (ss : List Str) {y : PyData} {Kp : PyData → Prop}, y = .list (ss.map .str) → Kp (.bool (decide (ws ∈ ss))) → RD ⟨K, T⟩ (rIn K false) (.str ws) y Kp := fun ss y Kp hy k => rd_inS ss (.inl hy) (by rw [if_neg Bool.false_ne_true]; exact k)
        have notIn : ∀ {x : PyData} {Kp : PyData → Prop}, OkE x → isTy "bool" x = false → Kp (.bool (!isNum 0 ((s.k : Int) - 1) x)) → RD ⟨K, T⟩ (rNotInD K) x (lD (List.range s.k)) Kp := fun {x Kp} hx hb k => by
          refine rd_notInD hx.2.1.sh (shaped_lD (ns := List.range s.k)) ?_
          rw [in_range hb]
          exact k
        have app : ∀ {p q : List Nat}, (∀ l ∈ p, l < s.k) → (∀ l ∈ q, l < s.k) → ∀ l ∈ p ++ q, l < s.k := fun hp hq l hl => (List.mem_append.mp hl).elim (hp l) (hq l)
        have hru : ∀ p : List Nat, (∀ l ∈ p, l < s.k) → run s.st 0 p < s.st.length := fun p hp => okS.stOk.runLt _ n1 hp
        by_cases hO : (isS "order" e0 && decide (ws ∈ ordL)) = true
        · rw [if_pos hO]
          obtain ⟨h1, h2⟩ := Bool.and_eq_true_iff.mp hO
          refine ast_seq (ast_if ?_)
          walk_at "go"
          refine rd_eqD o0.2.1.sh wsl_str.1 (exb ?_)
          rw [eqv_isS, h1]
          refine iteT ?_
          walk_at "go"
          refine awp_lst ?_
          walk_at "go"
          refine ⟨by decide, mem ordL rfl (exb ?_)⟩
          rw [h2]
          refine iteT ?_
          walk_at "go"
          refine ⟨(s.k, a), rfl, oa, fun y hy => ?_⟩
          rw [show y = _ from hy]
          refine exb ?_
          show if (!isTl s.k a) = true then _ else _
          cases hta : isTl s.k a with
          | false =>
            refine iteT (iteT ?_)
            walk_at "go"
            show PyData.bool _ = PyData.bool (ordChk s a b c d)
            unfold ordChk; rw [isTx_tl hta]; simp
          | true =>
          refine iteF ?_
          walk_at "go"
          refine ⟨(s.k, d), rfl, od, fun y hy => ?_⟩
          rw [show y = _ from hy]
          refine exb ?_
          show if (!isTl s.k d) = true then _ else _
          cases htd : isTl s.k d with
          | false =>
            refine iteT ?_
            walk_at "go"
            show PyData.bool _ = PyData.bool (ordChk s a b c d)
            unfold ordChk; rw [isTx_tl htd]; simp
          | true =>
          refine iteF ?_
          obtain ⟨t, rfl, ht⟩ := isTl_ex hta
          obtain ⟨u, rfl, hu⟩ := isTl_ex htd
          have htl : t.length ≤ 1000 := by have := (oa.2.2 _ rfl).1; rwa [List.length_map] at this
          have hul : u.length ≤ 1000 := by have := (od.2.2 _ rfl).1; rwa [List.length_map] at this
          have bad : (isNum 0 ((s.k : Int) - 1) b && isNum 0 ((s.k : Int) - 1) c) = false → PyData.bool false = PyData.bool (ordChk s (nD t) b c (nD u)) := fun h => by unfold ordChk; rw [h]; rfl
          walk_at "go"
          refine ⟨ob.1, exb ?_⟩
          cases hbb : isTy "bool" b with
          | true =>
            refine iteT (iteT ?_)
            walk_at "go"
            exact bad (by rw [num_bool hbb]; rfl)
          | false =>
          refine iteF ?_
          walk_at "go"
          refine ⟨oc.1, exb ?_⟩
          cases hcb : isTy "bool" c with
          | true =>
            refine iteT (iteT ?_)
            walk_at "go"
            exact bad (by rw [num_bool hcb]; simp)
          | false =>
          refine iteF ?_
          walk_at "go"
          refine notIn ob hbb (exb ?_)
          cases hnb : isNum 0 ((s.k : Int) - 1) b with
          | false =>
            refine iteT (iteT ?_)
            walk_at "go"
            exact bad (by rw [hnb]; rfl)
          | true =>
          refine iteF ?_
          walk_at "go"
          refine notIn oc hcb (exb ?_)
          cases hnc : isNum 0 ((s.k : Int) - 1) c with
          | false =>
            refine iteT ?_
            walk_at "go"
            exact bad (by rw [hnb, hnc]; rfl)
          | true =>
          refine iteF ?_
          obtain ⟨i, rfl, hi⟩ := isNum_ex hnb
          obtain ⟨j, rfl, hj⟩ := isNum_ex hnc
          have fin : ordChk s (nD t) (iD i) (iD j) (nD u) = (decide (t.length + u.length < 159) && decide (outR s (t ++ [i, j] ++ u) ≠ outR s (t ++ [j, i] ++ u))) := by
            unfold ordChk
            rw [hnb, hnc, isTx_nD ht, isTx_nD hu, unR_n, unR_n, unN_i, unN_i]
            have e : (decide (t.length ≤ 160) && decide (u.length ≤ 160) && decide (t.length + u.length + 2 ≤ 160)) = decide (t.length + u.length < 159) := by
              by_cases h : t.length + u.length < 159
              · rw [decide_eq_true h, decide_eq_true (by omega), decide_eq_true (by omega), decide_eq_true (by omega)]; rfl
              · rw [decide_eq_false h, decide_eq_false (show ¬ t.length + u.length + 2 ≤ 160 by omega), Bool.and_false]
            rw [e]
            simp only [Bool.true_and]
          have h2i : ∀ x y : Nat, x < s.k → y < s.k → ∀ l ∈ [x, y], l < s.k := fun x y hx hy l hl => by
            simp at hl
            rcases hl with rfl | rfl
            · exact hx
            · exact hy
          have tl2 : ∀ x y : Nat, x < s.k → y < s.k → ∀ l ∈ t ++ [x, y] ++ u, l < s.k := fun x y hx hy => app (app ht (h2i x y hx hy)) hu
          walk_at "go"
          refine ast_set ?_
          refine awp_lcM (List.mem_singleton.mpr rfl) (awc_of (awi_list (awp_lst ?_)))
          walk_at "aw"
          refine awp_tup ?_
          walk_at "go"
          refine ⟨by simp, ?_⟩
          walk_at "aw"
          refine awp_tup ?_
          walk_at "go"
          refine ⟨by simp, ?_⟩
          walk_at "go"
          refine ⟨by simp, exl ⟨List Nat, [[i, j], [j, i]], nD, fun p => iD (run s.st 0 (t ++ p ++ u)), rfl, by simp, rfl, fun p hp => ?_, ?_⟩⟩
          · have hpl : p.length = 2 ∧ ∀ l ∈ t ++ p ++ u, l < s.k := by
              simp at hp
              rcases hp with rfl | rfl
              · exact ⟨rfl, tl2 i j hi hj⟩
              · exact ⟨rfl, tl2 j i hj hi⟩
            walk_at "go"
            refine rd_catN (by omega) ?_
            walk_at "go"
            refine rd_catN (by rw [List.length_append]; omega) ?_
            walk_at "go"
            exact ⟨(s, 0, t ++ p ++ u), rfl, ⟨okS.stOk, n1, hpl.2⟩, fun y hy => ⟨rfl, hy⟩⟩
          · have e1 : PyData.list ([[i, j], [j, i]].map fun p => iD (run s.st 0 (t ++ p ++ u))) = lD [run s.st 0 (t ++ [i, j] ++ u), run s.st 0 (t ++ [j, i] ++ u)] := rfl
            rw [e1]
            walk_at "go"
            by_cases hl : t.length + u.length < 159
            · rw [decide_eq_true (show (t.length : Int) + (u.length : Int) < 159 by omega)]
              refine iteT ?_
              walk_at "go"
              refine rd_lD (i := 0) (by simp) ?_
              refine rd_nD (i := run s.st 0 (t ++ [i, j] ++ u)) (by rw [okS.al]; exact hru _ (tl2 i j hi hj)) ?_
              walk_at "go"
              refine rd_lD (i := 1) (by simp) ?_
              refine rd_nD (i := run s.st 0 (t ++ [j, i] ++ u)) (by rw [okS.al]; exact hru _ (tl2 j i hj hi)) ?_
              refine rd_neN ?_
              show PyData.bool _ = PyData.bool (ordChk s (nD t) (iD i) (iD j) (nD u))
              rw [fin, decide_eq_true hl]
              unfold outR
              simp
            · rw [decide_eq_false (show ¬ (t.length : Int) + (u.length : Int) < 159 by omega)]
              refine iteF ?_
              show PyData.bool _ = PyData.bool (ordChk s (nD t) (iD i) (iD j) (nD u))
              rw [fin, decide_eq_false hl]
              rfl
        · rw [if_neg hO]
          refine ast_seq (ast_ifJ (fun Γ => Γ = [.d (.str ws), .d (qD m), .d (.tuple [e0, a, b, c, d]), .d (qD s), .d (lD (List.range s.k)), .d e0, .d a, .d b, .d c, .d d, .un, .un, .un, .un]) ?_ fun Γ hΓ => ?_)
          · walk_at "go"
            refine rd_eqD o0.2.1.sh wsl_str.1 (exb ?_)
            rw [eqv_isS]
            cases h1 : isS "order" e0 with
            | false => exact iteF (iteF (ast_next rfl))
            | true =>
              have hR : decide (ws ∈ ordL) = false := Bool.eq_false_iff.mpr fun z => hO (by rw [h1, z]; rfl)
              refine iteT ?_
              walk_at "go"
              refine awp_lst ?_
              walk_at "go"
              refine ⟨by decide, mem ordL rfl (exb ?_)⟩
              rw [hR]
              exact iteF (ast_next rfl)
          · subst hΓ
            by_cases hM : (isS "merge" e0 && decide (ws ∈ otoL)) = true
            · rw [if_pos hM]
              obtain ⟨h1, h2⟩ := Bool.and_eq_true_iff.mp hM
              refine ast_seq (ast_if ?_)
              walk_at "go"
              refine rd_eqD o0.2.1.sh wsl_str.2 (exb ?_)
              rw [eqv_isS, h1]
              refine iteT ?_
              walk_at "go"
              refine awp_lst ?_
              walk_at "go"
              refine ⟨by decide, mem otoL rfl (exb ?_)⟩
              rw [h2]
              refine iteT ?_
              walk_at "go"
              refine ⟨(s.k, a), rfl, oa, fun y hy => ?_⟩
              rw [show y = _ from hy]
              refine exb ?_
              show if (!isTl s.k a) = true then _ else _
              cases hta : isTl s.k a with
              | false =>
                refine iteT (iteT ?_)
                walk_at "go"
                show PyData.bool _ = PyData.bool (mrgChk s a b c d)
                unfold mrgChk; rw [isTx_tl hta]; simp
              | true =>
              refine iteF ?_
              walk_at "go"
              refine ⟨(s.k, b), rfl, ob, fun y hy => ?_⟩
              rw [show y = _ from hy]
              refine exb ?_
              show if (!isTl s.k b) = true then _ else _
              cases htb : isTl s.k b with
              | false =>
                refine iteT (iteT ?_)
                walk_at "go"
                show PyData.bool _ = PyData.bool (mrgChk s a b c d)
                unfold mrgChk; rw [isTx_tl htb]; simp
              | true =>
              refine iteF ?_
              walk_at "go"
              refine ⟨(s.k, d), rfl, od, fun y hy => ?_⟩
              rw [show y = _ from hy]
              refine exb ?_
              show if (!isTl s.k d) = true then _ else _
              cases htd : isTl s.k d with
              | false =>
                refine iteT ?_
                walk_at "go"
                show PyData.bool _ = PyData.bool (mrgChk s a b c d)
                unfold mrgChk; rw [isTx_tl htd]; simp
              | true =>
              refine iteF ?_
              obtain ⟨t, rfl, ht⟩ := isTl_ex hta
              obtain ⟨z, rfl, hz⟩ := isTl_ex htb
              obtain ⟨u, rfl, hu⟩ := isTl_ex htd
              have htl : t.length ≤ 1000 := by have := (oa.2.2 _ rfl).1; rwa [List.length_map] at this
              have hzl : z.length ≤ 1000 := by have := (ob.2.2 _ rfl).1; rwa [List.length_map] at this
              have hul : u.length ≤ 1000 := by have := (od.2.2 _ rfl).1; rwa [List.length_map] at this
              have bad : isNum 0 ((s.k : Int) - 1) c = false → PyData.bool false = PyData.bool (mrgChk s (nD t) (nD z) c (nD u)) := fun h => by unfold mrgChk; rw [h]; rfl
              walk_at "go"
              refine ⟨oc.1, exb ?_⟩
              cases hcb : isTy "bool" c with
              | true =>
                refine iteT (iteT ?_)
                walk_at "go"
                exact bad (num_bool hcb)
              | false =>
              refine iteF ?_
              walk_at "go"
              refine notIn oc hcb (exb ?_)
              cases hnc : isNum 0 ((s.k : Int) - 1) c with
              | false =>
                refine iteT ?_
                walk_at "go"
                exact bad hnc
              | true =>
              refine iteF ?_
              obtain ⟨i, rfl, hi⟩ := isNum_ex hnc
              have hi1 : ∀ l ∈ [i], l < s.k := fun l hl => by rw [List.mem_singleton.mp hl]; exact hi
              have fin : mrgChk s (nD t) (nD z) (iD i) (nD u) = (decide (t.length + z.length + u.length < 160) && (decide (outR s (t ++ u) ≠ outR s (z ++ u)) && decide (run s.st 0 (t ++ [i]) = run s.st 0 (z ++ [i])))) := by
                unfold mrgChk
                rw [hnc, isTx_nD ht, isTx_nD hz, isTx_nD hu, unR_n, unR_n, unR_n, unN_i]
                have e : (decide (t.length ≤ 160) && (decide (z.length ≤ 160) && decide (u.length ≤ 160)) && decide (t.length + z.length + u.length + 1 ≤ 160)) = decide (t.length + z.length + u.length < 160) := by
                  by_cases h : t.length + z.length + u.length < 160
                  · rw [decide_eq_true h, decide_eq_true (show t.length ≤ 160 by omega), decide_eq_true (show z.length ≤ 160 by omega), decide_eq_true (show u.length ≤ 160 by omega), decide_eq_true (show t.length + z.length + u.length + 1 ≤ 160 by omega)]; rfl
                  · rw [decide_eq_false h, decide_eq_false (show ¬ t.length + z.length + u.length + 1 ≤ 160 by omega), Bool.and_false]
                rw [Bool.true_and, e]
              have pz : ∀ {p : List Nat}, p ∈ [t, z] → p.length ≤ 1000 ∧ ∀ l ∈ p, l < s.k := fun {p} hp => by
                simp at hp
                rcases hp with rfl | rfl
                · exact ⟨htl, ht⟩
                · exact ⟨hzl, hz⟩
              walk_at "go"
              refine ast_set ?_
              refine awp_lcM (List.mem_singleton.mpr rfl) (awc_of (awi_list (awp_lst ?_)))
              walk_at "go"
              refine ⟨by simp, exl ⟨List Nat, [t, z], nD, fun p => iD (outR s (p ++ u)), rfl, by simp, rfl, fun p hp => ?_, ?_⟩⟩
              · obtain ⟨pl, pk⟩ := pz hp
                walk_at "go"
                refine rd_catN (by omega) ?_
                walk_at "go"
                refine ⟨(s, 0, p ++ u), rfl, ⟨okS.stOk, n1, app pk hu⟩, fun y hy => ?_⟩
                rw [show y = _ from hy]
                exact rd_nD (i := run s.st 0 (p ++ u)) (by rw [okS.al]; exact hru _ (app pk hu)) ⟨rfl, rfl⟩
              have e1 : PyData.list ([t, z].map fun p => iD (outR s (p ++ u))) = lD [outR s (t ++ u), outR s (z ++ u)] := rfl
              rw [e1]
              refine ast_seq (ast_set ?_)
              refine awp_lcM (List.mem_singleton.mpr rfl) (awc_of (awi_list (awp_lst ?_)))
              walk_at "go"
              refine ⟨by simp, exl ⟨List Nat, [t, z], nD, fun p => iD (run s.st 0 (p ++ [i])), rfl, by simp, rfl, fun p hp => ?_, ?_⟩⟩
              · obtain ⟨pl, pk⟩ := pz hp
                walk_at "go"
                refine awp_tup ?_
                walk_at "go"
                refine ⟨by simp, ?_⟩
                refine rd_catN (ys := [i]) (by simp; omega) ?_
                walk_at "go"
                exact ⟨(s, 0, p ++ [i]), rfl, ⟨okS.stOk, n1, app pk hi1⟩, fun y hy => ⟨rfl, hy⟩⟩
              have e2 : PyData.list ([t, z].map fun p => iD (run s.st 0 (p ++ [i]))) = lD [run s.st 0 (t ++ [i]), run s.st 0 (z ++ [i])] := rfl
              rw [e2]
              walk_at "go"
              refine rd_catN (by omega) ?_
              walk_at "go"
              refine rd_catN (by rw [List.length_append]; omega) ?_
              walk_at "go"
              rw [List.length_append, List.length_append]
              by_cases hl : t.length + z.length + u.length < 160
              · rw [decide_eq_true (show ((t.length + z.length + u.length : Nat) : Int) < 160 by omega)]
                refine iteT ?_
                walk_at "go"
                refine rd_lD (i := 0) (by simp) ?_
                walk_at "go"
                refine rd_lD (i := 1) (by simp) ?_
                refine rd_neN (exb ?_)
                rw [decide_eq_true hl, Bool.true_and] at fin
                show if (!decide (outR s (t ++ u) = outR s (z ++ u))) = true then _ else _
                by_cases ho : outR s (t ++ u) = outR s (z ++ u)
                · rw [decide_eq_true ho]
                  refine iteF ?_
                  show PyData.bool _ = PyData.bool (mrgChk s (nD t) (nD z) (iD i) (nD u))
                  rw [fin, decide_eq_false (fun h => h ho)]
                  rfl
                · rw [decide_eq_false ho]
                  refine iteT ?_
                  rw [decide_eq_true ho, Bool.true_and] at fin
                  walk_at "go"
                  refine rd_lD (i := 0) (by simp) ?_
                  walk_at "go"
                  refine rd_lD (i := 1) (by simp) ?_
                  refine rd_eqN ?_
                  show PyData.bool _ = PyData.bool (mrgChk s (nD t) (nD z) (iD i) (nD u))
                  rw [fin]
                  rfl
              · rw [decide_eq_false (show ¬ ((t.length + z.length + u.length : Nat) : Int) < 160 by omega)]
                refine iteF ?_
                show PyData.bool _ = PyData.bool (mrgChk s (nD t) (nD z) (iD i) (nD u))
                rw [fin, decide_eq_false hl]
                rfl
            · rw [if_neg hM]
              refine ast_seq (ast_if ?_)
              walk_at "go"
              refine rd_eqD o0.2.1.sh wsl_str.2 (exb ?_)
              rw [eqv_isS]
              cases h1 : isS "merge" e0 with
              | false =>
                refine iteF (iteF ?_)
                walk_at "go"
                rfl
              | true =>
                have hR : decide (ws ∈ otoL) = false := Bool.eq_false_iff.mpr fun z => hM (by rw [h1, z]; rfl)
                refine iteT ?_
                walk_at "go"
                refine awp_lst ?_
                walk_at "go"
                refine ⟨by decide, mem otoL rfl (exb ?_)⟩
                rw [hR]
                refine iteF ?_
                walk_at "go"
                rfl
    · have ec : chk ws s (.tuple xs) = false := chk_len h5
      rw [ec]
      have hne : ¬ (xs.length : Int) = 5 := fun z => h5 (by omega)
      rw [decide_eq_false hne]
      refine iteT ?_
      walk_at "go"
      rfl
  | _ =>
    refine iteT (iteT ?_)
    walk_at "go"
    rfl
end
end TW
end

section
set_option Elab.async false
set_option linter.all false
set_option maxRecDepth 100000
set_option maxHeartbeats 4000000
namespace TW
open PySem PySem.Spec PyProof.Rows L2
local macro_rules | `(tactic| walk_at "aw") => `(tactic| first
  | with_reducible refine ast_seq ?_
  | with_reducible refine ast_ret ?_
  | with_reducible refine ast_if ?_
  | with_reducible refine ast_next ?_
  | with_reducible refine awt_t ?_
  | with_reducible refine awt_b ?_
  | with_reducible refine awt_and ?_
  | with_reducible refine awt_or ?_
  | with_reducible refine awt_not ?_
  | with_reducible refine awt_yes ?_
  | ((with_reducible apply awp_row0); exact rfl)
  | ((with_reducible apply awp_row1); exact rfl)
  | ((with_reducible apply awp_row2); exact rfl)
  | ((with_reducible apply awp_row3); exact rfl)
  | with_reducible refine awp_op ?_
  | with_reducible refine awp_and ?_
  | with_reducible refine awp_or ?_
  | with_reducible refine awp_not ?_
  | with_reducible refine awp_chain ?_
  | with_reducible refine awp_if ?_
  | with_reducible refine awp_isN ?_
  | with_reducible refine awp_notN ?_
  | with_reducible refine awp_int ?_
  | with_reducible refine awp_bl ?_
  | with_reducible refine awp_str ?_
  | with_reducible refine awp_non ?_
  | with_reducible refine awp_isiT ?_
  | with_reducible refine awp_isiI ?_
  | with_reducible refine awp_isiB ?_
  | with_reducible refine awp_isiS ?_
  | with_reducible refine awp_isiL ?_
  | with_reducible refine awp_isiTL ?_
  | with_reducible refine awp_cb ?_
  | with_reducible refine awp_call ?_
  | with_reducible refine aas_nil ?_
  | with_reducible refine aas_cons ?_
  | with_reducible refine rd_lt ?_
  | with_reducible refine rd_le ?_
  | with_reducible refine rd_gt ?_
  | with_reducible refine rd_ge ?_
  | with_reducible refine rd_add ?_
  | with_reducible refine rd_sub ?_
  | with_reducible refine rd_notB ?_
  | with_reducible refine rd_q0 ?_
  | with_reducible refine rd_q1 ?_
  | with_reducible refine rd_q2 ?_
  | with_reducible refine rd_eqN ?_
  | with_reducible refine rd_neN ?_
  | with_reducible refine rd_eqT ?_
  | with_reducible refine rd_neT ?_
  | with_reducible refine rd_eqL ?_
  | with_reducible refine rd_neL ?_
  | with_reducible refine rd_eqI ?_
  | with_reducible refine rd_neI ?_
  | with_reducible refine rdn_int ?_
  | with_reducible refine rdn_min ?_
  | with_reducible refine awp_rg ?_
  | with_reducible refine awi_rng ?_
  | with_reducible refine awi_list ?_
  | with_reducible refine awi_tup ?_
  | with_reducible refine awi_enumL ?_
  | with_reducible refine awi_enumT ?_
  | with_reducible refine awp_sl ?_
  | with_reducible refine awo_no ?_
  | with_reducible refine awo_some ?_
  | with_reducible refine ast_while ?_
  | with_reducible refine ast_for ?_
  | with_reducible refine exb ?_
  | with_reducible refine exn ?_
  | with_reducible refine exi ?_
  | with_reducible refine exl ?_
  | with_reducible refine ext ?_
  | with_reducible refine exlD ?_
  | with_reducible refine exnD ?_
  | with_reducible refine exsD ?_
  | with_reducible refine rdn_lenN ?_
  | with_reducible refine rdn_lenS ?_
  | with_reducible refine rdn_lenL ?_
  | with_reducible refine rdn_lenl ?_
  | ((with_reducible apply awp_v); exact rfl))
local macro_rules | `(tactic| walk_at "go") => `(tactic| (repeat (first
  | with_reducible refine ast_seq ?_
  | with_reducible refine ast_ret ?_
  | with_reducible refine ast_if ?_
  | with_reducible refine ast_next ?_
  | with_reducible refine awt_t ?_
  | with_reducible refine awt_b ?_
  | with_reducible refine awt_and ?_
  | with_reducible refine awt_or ?_
  | with_reducible refine awt_not ?_
  | with_reducible refine awt_yes ?_
  | ((with_reducible apply awp_row0); exact rfl)
  | ((with_reducible apply awp_row1); exact rfl)
  | ((with_reducible apply awp_row2); exact rfl)
  | ((with_reducible apply awp_row3); exact rfl)
  | with_reducible refine awp_op ?_
  | with_reducible refine awp_and ?_
  | with_reducible refine awp_or ?_
  | with_reducible refine awp_not ?_
  | with_reducible refine awp_chain ?_
  | with_reducible refine awp_if ?_
  | with_reducible refine awp_isN ?_
  | with_reducible refine awp_notN ?_
  | with_reducible refine awp_int ?_
  | with_reducible refine awp_bl ?_
  | with_reducible refine awp_str ?_
  | with_reducible refine awp_non ?_
  | with_reducible refine awp_isiT ?_
  | with_reducible refine awp_isiI ?_
  | with_reducible refine awp_isiB ?_
  | with_reducible refine awp_isiS ?_
  | with_reducible refine awp_isiL ?_
  | with_reducible refine awp_isiTL ?_
  | with_reducible refine awp_cb ?_
  | with_reducible refine awp_call ?_
  | with_reducible refine aas_nil ?_
  | with_reducible refine aas_cons ?_
  | with_reducible refine rd_lt ?_
  | with_reducible refine rd_le ?_
  | with_reducible refine rd_gt ?_
  | with_reducible refine rd_ge ?_
  | with_reducible refine rd_add ?_
  | with_reducible refine rd_sub ?_
  | with_reducible refine rd_notB ?_
  | with_reducible refine rd_q0 ?_
  | with_reducible refine rd_q1 ?_
  | with_reducible refine rd_q2 ?_
  | with_reducible refine rd_eqN ?_
  | with_reducible refine rd_neN ?_
  | with_reducible refine rd_eqT ?_
  | with_reducible refine rd_neT ?_
  | with_reducible refine rd_eqL ?_
  | with_reducible refine rd_neL ?_
  | with_reducible refine rd_eqI ?_
  | with_reducible refine rd_neI ?_
  | with_reducible refine rdn_int ?_
  | with_reducible refine rdn_min ?_
  | with_reducible refine awp_rg ?_
  | with_reducible refine awi_rng ?_
  | with_reducible refine awi_list ?_
  | with_reducible refine awi_tup ?_
  | with_reducible refine awi_enumL ?_
  | with_reducible refine awi_enumT ?_
  | with_reducible refine awp_sl ?_
  | with_reducible refine awo_no ?_
  | with_reducible refine awo_some ?_
  | with_reducible refine ast_while ?_
  | with_reducible refine ast_for ?_
  | with_reducible refine exb ?_
  | with_reducible refine exn ?_
  | with_reducible refine exi ?_
  | with_reducible refine exl ?_
  | with_reducible refine ext ?_
  | with_reducible refine exlD ?_
  | with_reducible refine exnD ?_
  | with_reducible refine exsD ?_
  | with_reducible refine rdn_lenN ?_
  | with_reducible refine rdn_lenS ?_
  | with_reducible refine rdn_lenL ?_
  | with_reducible refine rdn_lenl ?_
  | ((with_reducible apply awp_v); exact rfl))))

section
variable {P : Program} {w : World} {K : PySem.W.Frag} {mg : Str → Option Value} {base : Heap} {T : List Addr}
theorem iD_sh8 {n : Int} : Sh8 (.int n) := ⟨rfl, by rw [PyData.depth]; decide⟩
theorem nD_sh8 {t : List Nat} : Sh8 (nD t) := ⟨nD_can, Nat.le_trans nD_dep (by decide)⟩
theorem okE_int {n : Int} : OkE (.int n) := ⟨rfl, iD_sh8, fun ys h => by cases h⟩
theorem okE_nD {t : List Nat} (h : t.length ≤ 1000) : OkE (nD t) := ⟨rfl, nD_sh8, fun ys e => by
  have e' : PyData.tuple (t.map iD) = .tuple ys := e
  injection e' with e'
  subst e'
  refine ⟨by rw [List.length_map]; exact h, fun y hy => ?_⟩
  obtain ⟨n, _, rfl⟩ := List.mem_map.mp hy
  exact ⟨rfl, iD_sh8⟩⟩
theorem okE_none : OkE .none := ⟨rfl, ⟨rfl, by rw [PyData.depth]; decide⟩, fun ys h => by cases h⟩
theorem okE_bool {b : Bool} : OkE (.bool b) := ⟨rfl, ⟨rfl, by rw [PyData.depth]; decide⟩, fun ys h => by cases h⟩
theorem strs_can : (PyData.str "order").canLay0 = true ∧ (PyData.str "merge").canLay0 = true := by decide +kernel
theorem okE_order : OkE (.str "order") := ⟨rfl, ⟨strs_can.1, by rw [PyData.depth]; decide⟩, fun ys h => by cases h⟩
theorem okE_merge : OkE (.str "merge") := ⟨rfl, ⟨strs_can.2, by rw [PyData.depth]; decide⟩, fun ys h => by cases h⟩
theorem okE_list0 : OkE (.list [.int 0]) := ⟨rfl, ⟨rfl, by decide +kernel⟩, fun ys h => by cases h⟩
theorem okE_tup1 : OkE (.tuple [.bool true]) := ⟨rfl, ⟨rfl, by decide +kernel⟩, fun ys h => by
  injection h with h
  subst h
  exact ⟨by decide, fun y hy => by rw [List.mem_singleton.mp hy]; exact ⟨rfl, rfl, by rw [PyData.depth]; decide⟩⟩⟩
theorem okV_tup {xs : List PyData} (hl : xs.length ≤ 1000) (h : ∀ x ∈ xs, OkE x) : OkV (.tuple xs) := ⟨rfl, fun ys e => by injection e with e; subst e; exact ⟨hl, h⟩⟩
theorem okV_ord {t u : List Nat} {i j : Nat} (ht : t.length ≤ 1000) (hu : u.length ≤ 1000) : ∀ x ∈ [PyData.str "order", nD t, iD i, iD j, nD u], OkE x := fun x hx => by
  simp at hx
  rcases hx with rfl | rfl | rfl | rfl | rfl
  · exact okE_order
  · exact okE_nD ht
  · exact okE_int
  · exact okE_int
  · exact okE_nD hu
theorem okV_mrg {t z u : List Nat} {i : Nat} (ht : t.length ≤ 1000) (hz : z.length ≤ 1000) (hu : u.length ≤ 1000) : ∀ x ∈ [PyData.str "merge", nD t, nD z, iD i, nD u], OkE x := fun x hx => by
  simp at hx
  rcases hx with rfl | rfl | rfl | rfl | rfl
  · exact okE_merge
  · exact okE_nD ht
  · exact okE_nD hz
  · exact okE_int
  · exact okE_nD hu
theorem isS_yes {x : Str} : isS x (.str x) = true := by
  show decide (x = x) = true
  exact decide_eq_true rfl
theorem isS_no {x y : Str} (h : ¬ x = y) : isS y (.str x) = false := by
  show decide (x = y) = false
  exact decide_eq_false h
theorem chk_ord {ws : Str} {s : M} {t u : List Nat} {i j : Nat} (h : OrdG s t i j u) (hw : ws ∈ ordL) : chk ws s (ordD t i j u) = true := by
  obtain ⟨hi, hj, ht, hu, tl, ul, ho⟩ := h
  have e : chk ws s (ordD t i j u) = ordChk s (nD t) (iD i) (iD j) (nD u) := by
    show chk ws s (.tuple [.str "order", nD t, iD i, iD j, nD u]) = _
    rw [chk_alt, decide_eq_true hw, isS_yes]
    exact if_pos rfl
  rw [e]
  unfold ordChk
  rw [isNum_of hi, isNum_of hj, isTx_of ht (by omega), isTx_of hu (by omega), unR_n, unR_n, unN_i, unN_i, decide_eq_true (show t.length + u.length + 2 ≤ 160 by omega), decide_eq_true (show outR s (t ++ [i, j] ++ u) ≠ outR s (t ++ [j, i] ++ u) from ho)]
  rfl
theorem chk_mrg {ws : Str} {s : M} {t z u : List Nat} {i : Nat} (h : MrgG s t z i u) (hw : ws ∈ otoL) : chk ws s (mrgD t z i u) = true := by
  obtain ⟨hi, ht, hz, hu, tl, zl, ul, ho, hr⟩ := h
  have e : chk ws s (mrgD t z i u) = mrgChk s (nD t) (nD z) (iD i) (nD u) := by
    show chk ws s (.tuple [.str "merge", nD t, nD z, iD i, nD u]) = _
    rw [chk_alt, decide_eq_true hw, isS_yes, isS_no (by decide)]
    rw [if_neg (by simp)]
    exact if_pos rfl
  rw [e]
  unfold mrgChk
  rw [isNum_of hi, isTx_of ht (by omega), isTx_of hz (by omega), isTx_of hu (by omega), unR_n, unR_n, unR_n, unN_i, decide_eq_true (show t.length + z.length + u.length + 1 ≤ 160 by omega), decide_eq_true (show outR s (t ++ u) ≠ outR s (z ++ u) from ho), decide_eq_true hr]
  rfl
theorem mem_cut {xs : List PyData} {lo hi : Option Int} {x : PyData} (h : x ∈ cutD xs lo hi) : x ∈ xs := by
  unfold cutD at h
  exact List.mem_of_mem_drop (List.mem_of_mem_take h)
theorem len_cut {xs : List PyData} {lo hi : Option Int} : (cutD xs lo hi).length ≤ xs.length := by
  unfold cutD
  rw [List.length_take, List.length_drop]
  omega
theorem eqv_bool {x y : Bool} : PyData.eqv (.bool x) (.bool y) = decide (x = y) := by rw [PyData.eqv]; exact Bool.beq_eq_decide_eq x y
/-- what the found reason is -/
theorem why_ok {ws : Str} {s : M} {v : PyData} (h : WhyG ws s v) : (v = .none ∧ canB ws s = true) ∨ (canB ws s = false ∧ chk ws s v = true ∧ ∃ e0 a b c d, v = .tuple [e0, a, b, c, d] ∧ ∀ x ∈ [e0, a, b, c, d], OkE x) := by
  rcases h with h | ⟨hc, ⟨hw, t, i, j, u, rfl, hG⟩ | ⟨hw, t, z, i, u, rfl, hG⟩⟩
  · exact .inl h
  · obtain ⟨_, _, _, _, tl, ul, _⟩ := id hG
    exact .inr ⟨hc, chk_ord hG hw, _, _, _, _, _, rfl, okV_ord (by omega) (by omega)⟩
  · obtain ⟨_, _, _, _, tl, zl, ul, _⟩ := id hG
    exact .inr ⟨hc, chk_mrg hG hw, _, _, _, _, _, rfl, okV_mrg (by omega) (by omega) (by omega)⟩
theorem sc_law : FnScope ["_law_script", "_law_row_here", "_law_question_here", "_law_world_here", "_law_due", "_law_found", "_law_base", "_law_turn", "_law_text_here", "_law_place", "_law_at", "_law_odd", "_law_value", "_law_fine"] ["_law_script"] (defScope s_law) := ⟨rfl, rfl, rfl, by decide +kernel, rfl, by decide +kernel, by decide +kernel⟩
theorem bd_law : BindF "law" s_law ["_law_script"] := fun _ _ _ _ _ _ us hl => match us, hl with | [_], _ => rfl
abbrev sp_law (W : Wd) : Sp := SpD W (fun ns : List Int => [scD (ns.map .int)]) (fun ns => ns.length ≤ 63) (fun _ r => r = .bool true)
theorem fn_mk {x : Str} {st : Stmt} {f0 : Addr} {fd : FuncData} {N ps : List Str} {k n : Nat} {α : Type} {args : α → List PyData} {pre : α → Prop} {post : α → PyData → Prop} (F : FnP K x st f0 fd) (S : FnScope N ps (defScope st)) (hn : ps.length = n) (ha : ∀ a, (args a).length = n)
    (hbody : ∀ (f : Addr) (cdv : Value) (A : Around) (outer : List Env) (s : Shared) (H : Hp) (E : XK), Room k (A.deeper (envOfC x (defScope st) s.heap.objs.size f cdv)) →
      ∃ t, PSs (cxOf CX0 P w K mg base N x (defScope st) f cdv A outer s H E).nox (defBody st) t ∧
        ∀ a : α, pre a → ASt ⟨K, T⟩ t ((args a).map SV.d ++ List.replicate (N.length - n) SV.un) (fun _ => post a .none) (fun _ x => post a x) (fun _ => False) (fun _ => False)) : FnOk P w K mg base CX0 (k + 1) f0 fd ps (SpD ⟨K, T⟩ args pre post) :=
  fn_abs (FunD.toFun F) S hn ha fun cdv A outer s H E _ hr => hbody f0 cdv A outer s H E hr
theorem ok_law {f0 : Addr} {fd0 : FuncData} (D : FnP K "law" s_law f0 fd0) (t : Bt K mg) (h_law_question : Ok P w K mg base 3 "_law_question" ["_law_row_here"] (sp_law_question ⟨K, T⟩)) (h_law_world : Ok P w K mg base 3 "_law_world" ["_law_row_here"] (sp_law_world ⟨K, T⟩)) (h_law_can : Ok P w K mg base 3 "_law_can" ["_law_world_here", "_law_question_here"] (sp_law_can ⟨K, T⟩)) (h_reason : Ok P w K mg base 5 "reason" ["world", "question"] (sp_reason ⟨K, T⟩)) (h_law_taken : Ok P w K mg base 1 "_law_taken" ["_law_row_here", "_law_many"] (sp_law_taken ⟨K, T⟩)) (h_law_pick : Ok P w K mg base 2 "_law_pick" ["_law_row_here", "_law_things"] (sp_law_pick ⟨K, T⟩)) (h_shows_reason : Ok P w K mg base 6 "shows_reason" ["world", "question", "value"] (sp_shows_reason ⟨K, T⟩)) (h_law_shows : Ok P w K mg base 3 "_law_shows" ["_law_world_here", "_law_question_here", "_law_value"] (sp_law_shows ⟨K, T⟩)) (h_law_alike : Ok P w K mg base 1 "_law_alike" ["_law_found", "_law_due"] (sp_law_alike ⟨K, T⟩)) : FnOk P w K mg base CX0 7 f0 fd0 ["_law_script"] (sp_law ⟨K, T⟩) := by
  refine fn_mk D sc_law rfl (fun _ => rfl) fun f cdv A outer s H E hr => ⟨_, (pss_cons (ps_asg (pe_lst (pa_cons (pv 0) (pa_cons pe_int (pa_cons pe_int (pa_cons pe_int pa_nil))))) (pg_name (i := 1) sc_law.nd rfl (by first | exact Or.inl rfl | exact Or.inr rfl)))
    (pss_cons (ps_asg (pe_tup (pa_cons (pe_callO h_law_question (hr.mono (by decide)) rfl (pa_cons (pv 1) pa_nil)) (pa_cons (pe_callO h_law_world (hr.mono (by decide)) rfl (pa_cons (pv 1) pa_nil)) pa_nil))) (pgT (K := K) rfl rfl (pgs_cons (pg_name (i := 2) sc_law.nd rfl (by first | exact Or.inl rfl | exact Or.inr rfl)) (pgs_cons (pg_name (i := 3) sc_law.nd rfl (by first | exact Or.inl rfl | exact Or.inr rfl)) pgs_nil))))
    (pss_cons (ps_par (i := 4) (j := 5) (by rfl) sc_law.nd rfl rfl (by decide) rfl rfl (pa_cons (pe_callO h_law_can (hr.mono (by decide)) rfl (pa_cons (pv 3) (pa_cons (pv 2) pa_nil))) (pa_cons (pe_callO h_reason (hr.mono (by decide)) rfl (pa_cons (pv 3) (pa_cons (pv 2) pa_nil))) pa_nil)) (by rfl))
    (pss_cons (ps_if (PW.pt (pw_or (pt_cmpR (oNe (K := K) rfl (u64 hr)) (pe_cmp (pc_isN (pv 5)) (by first | rfl | exact nobehind _ (by decide) (by decide))) (pv 4) (by first | rfl | exact nomark _)) (pw_or1 (pt_cmpR op_notBl (pe_callO h_shows_reason (hr.mono (by decide)) rfl (pa_cons (pv 3) (pa_cons (pv 2) (pa_cons (pv 5) pa_nil)))) pe_bl (by first | rfl | exact nomark _))))) (pss_one (ps_ret pe_bl)) pss_nil)
    (pss_cons (ps_if (PW.pt (pw_and (pt_cmp (pc_notN (pv 5)) (by first | rfl | exact nobehind _ (by decide) (by decide))) (pw_and1 (pt_not (pt_val (pe_callO h_law_shows (hr.mono (by decide)) rfl (pa_cons (pv 3) (pa_cons (pv 2) (pa_cons (pv 5) pa_nil))))))))) (pss_one (ps_ret pe_bl)) pss_nil)
    (pss_cons (ps_asg (pe_ifExp (pt_cmp (pc_notN (pv 5)) (by first | rfl | exact nobehind _ (by decide) (by decide))) (pv 5) (pe_tup (pa_cons pe_str (pa_cons (pe_tup pa_nil) (pa_cons pe_int (pa_cons pe_int (pa_cons (pe_tup pa_nil) pa_nil))))))) (pg_name (i := 6) sc_law.nd rfl (by first | exact Or.inl rfl | exact Or.inr rfl)))
    (pss_cons (ps_for PassesOwn.never rfl (pi_range1 (by rfl) t.range (pa_cons pe_int pa_nil)) (pg_name (i := 7) sc_law.nd rfl (by first | exact Or.inl rfl | exact Or.inr rfl)) (pss_cons (ps_asg (pe_callTy (cTup (K := K) rfl) (by rfl) t.tuple (by decide +kernel) (pa_cons (pe_lc (own := [("_law_place", 9)]) (g := gName 9) rfl sc_law.nd (pi_range1 (by rfl) t.range (pa_cons (pe_callO h_law_taken (hr.mono (by decide)) rfl (pa_cons (pv 1) (pa_cons pe_int pa_nil))) pa_nil)) (blkOk_by (by rfl)) (fun _ _ _ _ _ => pg_name (i := 9) sc_law.nd rfl (by first | exact Or.inl rfl | exact Or.inr rfl)) (fun _ _ _ _ _ => pts_nil) (fun _ _ _ _ _ => (pe_callO h_law_taken (hr.mono (by decide)) rfl (pa_cons (pv 1) (pa_cons (pe_ix (ixT (K := K) rfl) (pv 2) pe_int (fun _ _ => rfl)) pa_nil))))) pa_nil)) (pg_name (i := 8) sc_law.nd rfl (by first | exact Or.inl rfl | exact Or.inr rfl)))
    (pss_cons (ps_asg (pe_callO h_law_taken (hr.mono (by decide)) rfl (pa_cons (pv 1) (pa_cons pe_int pa_nil))) (pg_name (i := 10) sc_law.nd rfl (by first | exact Or.inl rfl | exact Or.inr rfl)))
    (pss_cons (ps_asg (pe_lst (pa_cons (pv 8) (pa_cons (pv 8) (pa_cons (pe_callO h_law_taken (hr.mono (by decide)) rfl (pa_cons (pv 1) (pa_cons (pe_ix (ixT (K := K) rfl) (pv 2) pe_int (fun _ _ => rfl)) pa_nil))) (pa_cons pe_str (pa_cons pe_str (pa_cons pe_non (pa_cons pe_bl (pa_cons (pe_lst (pa_cons pe_int pa_nil)) (pa_cons pe_int (pa_cons (pe_tup (pa_cons pe_bl pa_nil)) pa_nil))))))))))) (pg_name (i := 11) sc_law.nd rfl (by first | exact Or.inl rfl | exact Or.inr rfl)))
    (pss_cons (ps_asg (pe_op (oCatA (K := K) rfl) (pe_op (oCatA (K := K) rfl) (pe_slice (sTup (K := K) rfl) (pv 6) po_none (po_some (pv 10))) (pe_tup (pa_cons (pe_callO h_law_pick (hr.mono (by decide)) rfl (pa_cons (pv 1) (pa_cons (pv 11) pa_nil))) pa_nil))) (pe_slice (sTup (K := K) rfl) (pv 6) (po_some (pe_op op_add (pv 10) pe_int)) po_none)) (pg_name (i := 12) sc_law.nd rfl (by first | exact Or.inl rfl | exact Or.inr rfl)))
    (pss_cons (ps_asg (pe_lst (pa_cons pe_non (pa_cons (pe_callTy (cList (K := K) rfl) (by rfl) t.list (by decide +kernel) (pa_cons (pv 6) pa_nil)) (pa_cons (pe_slice (sTup (K := K) rfl) (pv 6) po_none (po_some pe_int)) (pa_cons pe_dnewK (pa_cons (pe_tup (pa_cons pe_str (pa_cons (pv 8) (pa_cons (pe_slice (sTup (K := K) rfl) (pv 8) (po_some pe_int) po_none) (pa_cons pe_int (pa_cons (pe_tup pa_nil) pa_nil)))))) (pa_cons pe_str pa_nil))))))) (pg_name (i := 11) sc_law.nd rfl (by first | exact Or.inl rfl | exact Or.inr rfl)))
    (pss_cons (ps_asg (pe_callO h_law_pick (hr.mono (by decide)) rfl (pa_cons (pv 1) (pa_cons (pe_op op_cat (pe_op op_rep (pe_lst (pa_cons (pv 12) pa_nil)) pe_int) (pv 11)) pa_nil))) (pg_name (i := 12) sc_law.nd rfl (by first | exact Or.inl rfl | exact Or.inr rfl)))
    (pss_cons (ps_asg (pe_ifExp (pt_cmp (pc_isN (pv 12)) (by first | rfl | exact nobehind _ (by decide) (by decide))) (pv 4) (pe_and (pe_not (pv 4)) (pe_one (pe_callO h_law_shows (hr.mono (by decide)) rfl (pa_cons (pv 3) (pa_cons (pv 2) (pa_cons (pv 12) pa_nil))))))) (pg_name (i := 13) sc_law.nd rfl (by first | exact Or.inl rfl | exact Or.inr rfl)))
    (pss_one (ps_if (pt_not (pt_val (pe_callO h_law_alike (hr.mono (by decide)) rfl (pa_cons (pe_callO h_shows_reason (hr.mono (by decide)) rfl (pa_cons (pv 3) (pa_cons (pv 2) (pa_cons (pv 12) pa_nil)))) (pa_cons (pv 13) pa_nil))))) (pss_one (ps_ret pe_bl)) pss_nil))))))))))
    (pss_one (ps_ret pe_bl))))))))), fun a hp => ?_⟩
  have hl : a.length ≤ 63 := hp
  refine ast_seq (ast_setX (awx_lst ?_))
  walk_at "go"
  refine ⟨by simp, ?_⟩
  refine ast_mkrow 1 (ns := a) rfl hl (by decide) (by decide) (by decide) fun r => ?_
  refine ast_seq (ast_asg (awp_tup (aas_cons (awp_callR rfl ?_))))
  walk_at "go"
  refine ⟨rfl, (), rfl, True.intro, fun x hx => ?_⟩
  obtain ⟨m, ok, rfl⟩ := hx
  refine aas_cons (awp_callR rfl ?_)
  walk_at "go"
  refine ⟨rfl, (), rfl, True.intro, fun x hx => ?_⟩
  obtain ⟨ws, hws, rfl⟩ := hx
  walk_at "go"
  refine ⟨by simp, atg_tup rfl (atgs_cons (atg_name (atgs_cons (atg_name (atgs_nil ?_)))))⟩
  have okS := small_ok (m := m) ok
  have hk : (small m).k = m.k := rfl
  have hk1 := ok.k1
  have hk3 := ok.k3
  refine ast_seq (ast_par (aax_cons (awx_of ?_)))
  walk_at "go"
  refine ⟨(ws, m), rfl, ok, fun x hx => ?_⟩
  rw [show x = _ from hx]
  refine aax_cons (awx_of ?_)
  walk_at "go"
  refine ⟨(ws, m), rfl, ⟨hws, ok⟩, fun fv hf => ?_⟩
  have hf : WhyG ws (small m) fv := hf
  have hwhy := why_ok hf
  refine aax_nil ⟨_, _, rfl, ?_⟩
  have hfv : OkV fv := by
    rcases hwhy with ⟨rfl, _⟩ | ⟨_, _, e0, a, b, c, d, rfl, h⟩
    · exact ⟨rfl, fun xs e => by cases e⟩
    · exact okV_tup (by simp) h
  have hsh : shB ws (small m) fv = true := by
    unfold shB
    rcases hwhy with ⟨rfl, h⟩ | ⟨h1, h2, e0, a, b, c, d, rfl, h⟩
    · rw [h]; rfl
    · rw [h1]; exact h2
  have hnn : isNn fv = canB ws (small m) := by
    rcases hwhy with ⟨rfl, h⟩ | ⟨h1, h2, e0, a, b, c, d, rfl, h⟩
    · rw [h]; rfl
    · rw [h1]; rfl
  walk_at "go"
  refine rd_neD rfl rfl (exb ?_)
  rw [eqv_bool]
  show if (!decide (isNn fv = canB ws (small m))) = true then _ else _
  rw [decide_eq_true hnn]
  refine iteF ?_
  walk_at "go"
  refine ⟨(ws, m, fv), rfl, ⟨hws, ok, hfv⟩, fun y hy => ?_⟩
  rw [show y = _ from hy]
  show AWp _ _ _ fun _ y => RD _ _ (.bool (shB ws (small m) fv)) y _
  rw [hsh]
  walk_at "go"
  refine iteF (ast_next ?_)
  refine ast_seq (ast_ifJ (fun Γ => Γ = [.d (scD (a.map .int)), .o (.row r), .d (qD m), .d (.str ws), .d (.bool (canB ws (small m))), .d fv, .un, .un, .un, .un, .un, .un, .un, .un]) ?_ fun Γ hΓ => ?_)
  · walk_at "go"
    show if (!isNn fv) = true then _ else _
    cases hn : isNn fv with
    | true => exact iteF (iteF (ast_next rfl))
    | false =>
      refine iteT ?_
      have hck : chk ws (small m) fv = true := by
        rcases hwhy with ⟨rfl, _⟩ | ⟨_, h2, _⟩
        · cases hn
        · exact h2
      walk_at "go"
      refine ⟨(ws, m, fv), rfl, ⟨ok, hfv⟩, fun y hy => ?_⟩
      rw [show y = _ from hy]
      refine exb ?_
      show if (!chk ws (small m) fv) = true then _ else _
      rw [hck]
      exact iteF (ast_next rfl)
  subst hΓ
  refine ast_seq (ast_set (awp_cut (fun x => ∃ bs, x = .tuple bs ∧ bs.length = 5 ∧ ∀ x ∈ bs, OkE x) ?_ fun x hx => ?_))
  · walk_at "go"
    show if (!isNn fv) = true then _ else _
    cases hn : isNn fv with
    | true =>
      refine iteF (awp_tup ?_)
      walk_at "go"
      refine awp_tup (aas_nil ⟨by decide, ?_⟩)
      walk_at "go"
      refine awp_tup (aas_nil ⟨by decide, ?_⟩)
      walk_at "go"
      exact ⟨by simp, rfl, _, rfl, rfl, okV_ord (t := []) (u := []) (i := 0) (j := 0) (by simp) (by simp)⟩
    | false =>
      refine iteT ?_
      walk_at "go"
      rcases hwhy with ⟨rfl, _⟩ | ⟨_, _, e0, a, b, c, d, rfl, h⟩
      · cases hn
      · exact ⟨rfl, _, rfl, rfl, h⟩
  obtain ⟨bs, rfl, hb5, hbs⟩ := hx
  refine ast_seq ?_
  walk_at "go"
  refine ⟨6, rfl, by decide, ?_⟩
  refine ⟨fun i Γ => ∃ s7 s8 s10 s11 s12 s13 : SV, Γ = [.d (scD (a.map .int)), .o (.row r), .d (qD m), .d (.str ws), .d (.bool (canB ws (small m))), .d fv, .d (.tuple bs), s7, s8, .un, s10, s11, s12, s13], ⟨_, _, _, _, _, _, rfl⟩, fun i x Γ hx hΓ => ?_, fun Γ hΓ => ?_⟩
  · obtain ⟨s7, s8, s10, s11, s12, s13, rfl⟩ := hΓ
    refine atg_name ?_
    refine ast_seq (ast_set ?_)
    walk_at "aw"
    walk_at "aw"
    refine awp_lcR (List.mem_singleton.mpr rfl) (awc_of ?_)
    walk_at "aw"
    refine awp_callR rfl ?_
    walk_at "go"
    refine ⟨rfl, 4, rfl, ⟨by decide, by decide⟩, fun x hx => ?_⟩
    obtain ⟨n4, rfl, hn4⟩ := hx
    refine exn ⟨by omega, by rw [rangeD_len]; omega, rfl, fun _ y => ∃ u : Nat, y = iD u ∧ u < m.k, fun l x hx => ?_, fun zs hzs hzp => ?_⟩
    · refine awp_callR rfl ?_
      walk_at "go"
      exact ⟨rfl, m.k, rfl, ⟨hk1, by omega⟩, fun x hx => ⟨rfl, hx⟩⟩
    obtain ⟨tx, rfl, htx⟩ := listN (mem_rel hzs hzp fun _ _ h => h)
    rw [rangeD_len, List.length_map] at hzs
    walk_at "go"
    refine rdn_tup ?_
    have etx : PyData.tuple (tx.map iD) = nD tx := rfl
    rw [etx]
    refine ast_seq (ast_set (awp_callR rfl ?_))
    walk_at "go"
    refine ⟨rfl, 5, rfl, ⟨by decide, by decide⟩, fun x hx => ?_⟩
    obtain ⟨at_, rfl, hat⟩ := hx
    refine ast_seq (ast_set (awp_lst ?_))
    walk_at "go"
    refine awp_callR rfl ?_
    walk_at "go"
    refine ⟨rfl, m.k, rfl, ⟨hk1, by omega⟩, fun x hx => ?_⟩
    obtain ⟨lt, rfl, hlt⟩ := hx
    walk_at "go"
    refine awp_lst ?_
    walk_at "go"
    refine ⟨by simp, ?_⟩
    walk_at "go"
    refine awp_tup ?_
    walk_at "go"
    refine ⟨by simp, ?_⟩
    walk_at "go"
    refine ⟨by simp, ?_⟩
    have hodd : ∀ x ∈ [nD tx, nD tx, iD lt, .str "order", .str "merge", .none, .bool true, .list [.int 0], .int 9, .tuple [.bool true]], OkE x := fun x hx => by
      simp at hx
      rcases hx with rfl | rfl | rfl | rfl | rfl | rfl | rfl | rfl | rfl
      · exact okE_nD (by omega)
      · exact okE_int
      · exact okE_order
      · exact okE_merge
      · exact okE_none
      · exact okE_bool
      · exact okE_list0
      · exact okE_int
      · exact okE_tup1
    generalize hodd0 : [nD tx, nD tx, iD lt, .str "order", .str "merge", .none, .bool true, .list [.int 0], .int 9, .tuple [.bool true]] = odd at hodd
    have hol : odd.length = 10 := by rw [← hodd0]; rfl
    refine ast_seq (ast_set ?_)
    walk_at "go"
    refine awp_tup (aas_cons (awp_callR rfl ?_))
    walk_at "go"
    refine ⟨rfl, odd, rfl, ⟨by omega, by omega⟩, fun x hx => ?_⟩
    obtain ⟨k, hkx⟩ := hx
    have hxo := hodd x (List.mem_of_getElem? hkx)
    walk_at "go"
    refine ⟨by simp, ?_⟩
    have hc1 := len_cut (xs := bs) (lo := none) (hi := some (at_ : Int))
    have hc2 := len_cut (xs := bs) (lo := some ((at_ : Int) + 1)) (hi := none)
    refine rd_catA (by simp; omega) ?_
    walk_at "go"
    refine rd_catA (by simp; omega) ?_
    have hval : ∀ y ∈ (cutD bs none (some (at_ : Int)) ++ [x]) ++ cutD bs (some ((at_ : Int) + 1)) none, OkE y := fun y hy => by
      rcases List.mem_append.mp hy with hy | hy
      · rcases List.mem_append.mp hy with hy | hy
        · exact hbs y (mem_cut hy)
        · rw [List.mem_singleton.mp hy]; exact hxo
      · exact hbs y (mem_cut hy)
    have hvl : ((cutD bs none (some (at_ : Int)) ++ [x]) ++ cutD bs (some ((at_ : Int) + 1)) none).length ≤ 1000 := by simp; omega
    generalize (cutD bs none (some (at_ : Int)) ++ [x]) ++ cutD bs (some ((at_ : Int) + 1)) none = val at hval hvl
    refine ast_seq (ast_set (awp_lst ?_))
    walk_at "go"
    refine rdn_list (.inr rfl) ?_
    walk_at "go"
    refine awp_dk0 ?_
    walk_at "go"
    refine awp_tup ?_
    walk_at "go"
    refine awp_tup (aas_nil ⟨by decide, ?_⟩)
    walk_at "go"
    refine ⟨by simp, ?_⟩
    walk_at "go"
    refine ⟨by simp, ?_⟩
    have htc := len_cut (xs := tx.map iD) (lo := some 1) (hi := none)
    have hOdd2 : ∀ y ∈ [PyData.none, .list bs, .tuple (cutD bs none (some 4)), .dict [], .tuple [.str "merge", nD tx, .tuple (cutD (tx.map iD) (some 1) none), .int 0, .tuple []], .str "order"], OkV y := fun y hy => by
      simp at hy
      rcases hy with rfl | rfl | rfl | rfl | rfl | rfl
      · exact ⟨rfl, fun xs e => by cases e⟩
      · exact ⟨rfl, fun xs e => by cases e⟩
      · exact okV_tup (Nat.le_trans len_cut (by omega)) fun y hy => hbs y (mem_cut hy)
      · exact ⟨rfl, fun xs e => by cases e⟩
      · refine okV_tup (by simp) fun y hy => ?_
        simp at hy
        rcases hy with rfl | rfl | rfl | rfl | rfl
        · exact okE_merge
        · exact okE_nD (by omega)
        · have hm : ∀ z ∈ cutD (tx.map iD) (some 1) none, ∃ n : Nat, z = iD n ∧ True := fun z hz => by
            obtain ⟨n, _, rfl⟩ := List.mem_map.mp (mem_cut hz)
            exact ⟨n, rfl, True.intro⟩
          obtain ⟨q, eq, _⟩ := listN hm
          rw [eq] at htc ⊢
          rw [List.length_map, List.length_map] at htc
          exact okE_nD (t := q) (by omega)
        · exact okE_int
        · exact okE_nD (t := []) (by simp)
      · exact ⟨rfl, fun xs e => by cases e⟩
    generalize hodd2 : [PyData.none, .list bs, .tuple (cutD bs none (some 4)), .dict [], .tuple [.str "merge", nD tx, .tuple (cutD (tx.map iD) (some 1) none), .int 0, .tuple []], .str "order"] = odd2 at hOdd2
    have hol2 : odd2.length = 6 := by rw [← hodd2]; rfl
    refine ast_seq (ast_set (awp_callR rfl ?_))
    walk_at "go"
    refine awp_lst ?_
    walk_at "go"
    refine ⟨by simp, ?_⟩
    walk_at "go"
    refine rd_rep (n := 5) (by simp) (by decide) ?_
    walk_at "go"
    refine rd_cat (by simp; omega) ?_
    walk_at "go"
    refine ⟨rfl, _, rfl, ⟨by simp, by simp; omega⟩, fun v hv => ?_⟩
    have hv : OkV v := by
      obtain ⟨k, hk⟩ := hv
      rcases List.mem_append.mp (List.mem_of_getElem? hk) with hm | hm
      · have : v = .tuple val := by simpa using hm
        rw [this]
        exact okV_tup hvl hval
      · exact hOdd2 v hm
    refine ast_seq (ast_set (awp_cut (fun x => x = .bool (shB ws (small m) v)) ?_ fun x hx => ?_))
    · walk_at "go"
      cases hn : isNn v with
      | true =>
        refine iteT ?_
        walk_at "go"
        refine ⟨rfl, ?_⟩
        show PyData.bool (canB ws (small m)) = _
        unfold shB
        rw [hn, Bool.or_true, if_pos rfl, Bool.and_true]
      | false =>
        refine iteF ?_
        walk_at "go"
        have esh : shB ws (small m) v = (!canB ws (small m) && chk ws (small m) v) := by
          unfold shB
          rw [hn]
          cases canB ws (small m) <;> rfl
        rw [esh]
        cases hc : canB ws (small m) with
        | true => exact iteF ⟨rfl, rfl⟩
        | false =>
          refine iteT ?_
          walk_at "go"
          refine ⟨(ws, m, v), rfl, ⟨ok, hv⟩, fun y hy => ⟨rfl, ?_⟩⟩
          rw [show y = _ from hy]
          rfl
    subst hx
    walk_at "go"
    refine ⟨(ws, m, v), rfl, ⟨hws, ok, hv⟩, fun y hy => ?_⟩
    rw [show y = _ from hy]
    walk_at "go"
    refine ⟨(shB ws (small m) v, shB ws (small m) v), rfl, True.intro, fun z hz => ?_⟩
    rw [show z = _ from hz]
    refine exb ?_
    show if (!decide (shB ws (small m) v = shB ws (small m) v)) = true then _ else _
    rw [decide_eq_true rfl]
    refine iteF (ast_next ⟨_, _, _, _, _, _, rfl⟩)
  · obtain ⟨s7, s8, s10, s11, s12, s13, rfl⟩ := hΓ
    walk_at "go"
    rfl
end
end TW
end

section
set_option Elab.async false
set_option linter.all false
set_option maxRecDepth 100000
set_option maxHeartbeats 4000000
namespace TW
open PySem PySem.Spec PyProof.Rows L2
/-! ### tables that start empty -/
def toX (T : List Addr) (H : Hp) : Hp := fun b => if b ∈ T then some (TabX b) else H b
def tabOf (h : Heap) (b : Addr) : Array Value := match h.get? b with
  | some ⟨_, _, .fields ps, _⟩ => ps
  | _ => #[]
def unX (T : List Addr) (h : Heap) (H : Hp) : Hp := fun b => if b ∈ T then some (.tbl (tabOf h b)) else H b
theorem toX_in {T : List Addr} {H : Hp} {b : Addr} (h : b ∈ T) : toX T H b = some (TabX b) := if_pos h
theorem toX_out {T : List Addr} {H : Hp} {b : Addr} (h : b ∉ T) : toX T H b = H b := if_neg h
theorem unX_in {T : List Addr} {hp : Heap} {H : Hp} {b : Addr} (h : b ∈ T) : unX T hp H b = some (.tbl (tabOf hp b)) := if_pos h
theorem unX_out {T : List Addr} {hp : Heap} {H : Hp} {b : Addr} (h : b ∉ T) : unX T hp H b = H b := if_neg h
def spT (T : List Addr) (sp : Sp) : Sp := fun vs H Q E => (∀ P ∈ T, H P = some (.tbl #[])) ∧ ∃ Q0 : V → Prop, (∀ v H', Q0 v → Q v H') ∧ sp vs (toX T H) (fun v H' => Q0 v ∧ Xt (toX T H) H') E
theorem fn_tab {P : Program} {w : World} {K : PySem.W.Frag} {mg : Str → Option Value} {base : Heap} {k : Nat} {f : Addr} {fd : FuncData} {ps : List Str} {sp : Sp} {T : List Addr} (F : FnOk P w K mg base CX0 k f fd ps sp) : FnOk P w K mg base CX0 k f fd ps (spT T sp) := by
  refine ⟨fun vs H Q E ⟨_, Q0, _, h⟩ => F.len vs _ _ E h, fun A outer s H args us vs Q E hr e0 hb hv hs => ?_⟩
  obtain ⟨hT, Q0, hQ, hsp⟩ := hs
  have nT : ∀ {b : Addr}, H b = none → b ∉ T := fun {b} h z => by rw [hT b z] at h; cases h
  have ok : HOk P w (toX T H) s.heap := fun b o e => by
    by_cases hb : b ∈ T
    · rw [toX_in hb] at e
      cases e
      have h1 : s.heap.get? b = some { cls := .none, data := .fields #[] } := e0.hok b _ (hT b hb)
      refine ⟨⟨#[], h1, trivial⟩, ⟨_, h1⟩, fun h1 h2 ⟨ps, a1, a2⟩ kp => ⟨ps, kp _ a1, a2⟩⟩
    · rw [toX_out hb] at e
      refine (e0.hok b o e).stay (fun c u _ q => q) (fun c q => ?_) fun c xs q => ?_
      · by_cases hc : c ∈ T
        · rw [hT c hc] at q; cases q
        · rw [toX_out hc]; exact q
      · by_cases hc : c ∈ T
        · rw [hT c hc] at q; cases q
        · rw [toX_out hc]; exact q
  have e1 : Env0 P w K mg base A outer s (toX T H) := ⟨e0.frames, e0.mod, fun b o e => ⟨(e0.bs b o e).1, by rw [toX_out (nT (e0.bs b o e).2)]; exact (e0.bs b o e).2⟩, e0.bsz, e0.funs, fun b hb => by rw [toX_out (nT (e0.frf b hb))]; exact e0.frf b hb, ok, e0.bare⟩
  refine codeAny_mono (F.run A outer s (toX T H) args us vs _ E hr e1 hb hv hsp) fun r s' h => ?_
  cases r with
  | error e => exact h
  | ok fl =>
    cases fl with
    | next => exact h
    | brk => exact h
    | cont => exact h
    | ret u =>
      obtain ⟨v, H', os, bare, un, hok, rv, q0, xt⟩ := h
      have tabH : ∀ b ∈ T, H' b = some (TabX b) := fun b hb => xt b _ (toX_in hb)
      have tabG : ∀ b ∈ T, s'.heap.get? b = some { cls := .none, data := .fields (tabOf s'.heap b) } := fun b hb => by
        obtain ⟨⟨ps, h1, _⟩, _⟩ := hok b _ (tabH b hb)
        have e : tabOf s'.heap b = ps := by unfold tabOf; rw [h1]
        rw [e]
        exact h1
      refine ⟨v, unX T s'.heap H', os, bare, ⟨fun b o e n hb hx => ?_, fun b o e n hb hx => ?_, fun b o e n hx => ?_, un.there, fun b xs e => ?_, fun b o u e => ?_, fun b qs e => ?_⟩, fun b o e => ?_, rv, hQ v _ q0⟩
      · exact un.keep b o e (by rw [toX_out (nT n)]; exact n) hb hx
      · exact un.slot b o e (by rw [toX_out (nT n)]; exact n) hb hx
      · rw [unX_out (nT n)]
        exact un.free b o e (by rw [toX_out (nT n)]; exact n) hx
      · have hb : b ∉ T := fun z => by rw [hT b z] at e; cases e
        rw [unX_out hb]
        exact un.tups b xs (by rw [toX_out hb]; exact e)
      · have hb : b ∉ T := fun z => by rw [hT b z] at e; cases e
        rw [unX_out hb]
        exact un.frzs b o u (by rw [toX_out hb]; exact e)
      · by_cases hb : b ∈ T
        · rw [hT b hb] at e
          cases e
          rw [unX_in hb]
          exact ⟨tabOf s'.heap b, by rw [Array.empty_append]⟩
        · rw [unX_out hb]
          exact un.tbls b qs (by rw [toX_out hb]; exact e)
      · by_cases hb : b ∈ T
        · rw [unX_in hb] at e
          cases e
          exact tabG b hb
        · rw [unX_out hb] at e
          refine (hok b o e).stay (fun c u _ q => q) (fun c q => ?_) fun c xs q => ?_
          · by_cases hc : c ∈ T
            · rw [tabH c hc] at q; cases q
            · rw [unX_out hc]; exact q
          · by_cases hc : c ∈ T
            · rw [tabH c hc] at q; cases q
            · rw [unX_out hc]; exact q

section
variable {P : Program} {w : World} {K : PySem.W.Frag} {mg : Str → Option Value} {base : Heap} {T : List Addr}
structure Facts (K : PySem.W.Frag) (mg : Str → Option Value) (base : Heap) (T : List Addr) : Prop where
  t : Bt K mg
  d_is_number : Dd K mg "is_number" s_is_number
  d_are_steps : DdG K mg base T "are_steps" s_are_steps
  d_need_question : DdG K mg base T "need_question" s_need_question
  d_led : Dd K mg "led" s_led
  d_parted : Dd K mg "parted" s_parted
  d_shrunk : Dd K mg "shrunk" s_shrunk
  d_least_of : Dd K mg "least_of" s_least_of
  d_then : Dd K mg "then" s_then
  d_letter_maps : Dd K mg "letter_maps" s_letter_maps
  d_need_world : Dd K mg "need_world" s_need_world
  d_are_one_to_one : DdG K mg base T "are_one_to_one" s_are_one_to_one
  d_do_commute : DdG K mg base T "do_commute" s_do_commute
  d_can : Dd K mg "can" s_can
  d_texts_to : Dd K mg "texts_to" s_texts_to
  d_parting : Dd K mg "parting" s_parting
  d_order_reason : Dd K mg "order_reason" s_order_reason
  d_merge_reason : Dd K mg "merge_reason" s_merge_reason
  d_why_not : Dd K mg "why_not" s_why_not
  d_reason : Dd K mg "reason" s_reason
  d_is_text : DdG K mg base T "is_text" s_is_text
  d_is_order : Dd K mg "is_order" s_is_order
  d_is_merge : DdG K mg base T "is_merge" s_is_merge
  d_shows_reason : Dd K mg "shows_reason" s_shows_reason
  d_law_taken : Dd K mg "_law_taken" s_law_taken
  d_law_pick : Dd K mg "_law_pick" s_law_pick
  d_law_question : Dd K mg "_law_question" s_law_question
  d_law_world : Dd K mg "_law_world" s_law_world
  d_law_unlike : Dd K mg "_law_unlike" s_law_unlike
  d_law_least : Dd K mg "_law_least" s_law_least
  d_law_row : Dd K mg "_law_row" s_law_row
  d_law_can : Dd K mg "_law_can" s_law_can
  d_law_text : Dd K mg "_law_text" s_law_text
  d_law_led : Dd K mg "_law_led" s_law_led
  d_law_shows : Dd K mg "_law_shows" s_law_shows
  d_law_alike : Dd K mg "_law_alike" s_law_alike
theorem all_ok {f0 : Addr} {fd0 : FuncData} (FL : FnP K "law" s_law f0 fd0) (F : Facts K mg base T) : FnOk P w K mg base CX0 7 f0 fd0 ["_law_script"] (sp_law ⟨K, T⟩) := by
  have h_law_taken := @ok_law_taken P w K mg base T F.d_law_taken F.t 
  have h_law_pick := @ok_law_pick P w K mg base T F.d_law_pick F.t h_law_taken
  have h_law_question := @ok_law_question P w K mg base T F.d_law_question F.t h_law_pick h_law_taken
  have h_law_world := @ok_law_world P w K mg base T F.d_law_world F.t h_law_pick
  have h_law_unlike := @ok_law_unlike P w K mg base T F.d_law_unlike F.t 
  have h_law_least := @ok_law_least P w K mg base T F.d_law_least F.t h_law_unlike
  have h_law_row := @ok_law_row P w K mg base T F.d_law_row F.t 
  have h_law_can := @ok_law_can P w K mg base T F.d_law_can F.t h_law_least h_law_row
  have h_need_world := @ok_need_world P w K mg base T F.d_need_world F.t 
  have h_is_number := @ok_is_number P w K mg base T F.d_is_number F.t 
  have h_are_steps := @ok_are_steps P w K mg base T F.d_are_steps F.t h_is_number
  have h_need_question := @ok_need_question P w K mg base T F.d_need_question F.t h_is_number h_are_steps
  have h_letter_maps := @ok_letter_maps P w K mg base T F.d_letter_maps F.t 
  have h_texts_to := @ok_texts_to P w K mg base T F.d_texts_to F.t 
  have h_then := @ok_then P w K mg base T F.d_then F.t 
  have h_parting := @ok_parting P w K mg base T F.d_parting F.t 
  have h_order_reason := @ok_order_reason P w K mg base T F.d_order_reason F.t h_letter_maps h_texts_to h_then h_parting
  have h_merge_reason := @ok_merge_reason P w K mg base T F.d_merge_reason F.t h_texts_to h_letter_maps h_parting
  have h_why_not := @ok_why_not P w K mg base T F.d_why_not F.t h_order_reason h_merge_reason
  have h_parted := @ok_parted P w K mg base T F.d_parted F.t 
  have h_shrunk := @ok_shrunk P w K mg base T F.d_shrunk F.t h_parted
  have h_least_of := @ok_least_of P w K mg base T F.d_least_of F.t h_shrunk
  have h_reason := @ok_reason P w K mg base T F.d_reason F.t h_need_world h_need_question h_why_not h_least_of
  have h_do_commute := @ok_do_commute P w K mg base T F.d_do_commute F.t h_letter_maps h_then
  have h_are_one_to_one := @ok_are_one_to_one P w K mg base T F.d_are_one_to_one F.t h_letter_maps
  have h_can := @ok_can P w K mg base T F.d_can F.t h_do_commute h_are_one_to_one
  have h_led := @ok_led P w K mg base T F.d_led F.t 
  have h_is_text := @ok_is_text P w K mg base T F.d_is_text F.t h_is_number
  have h_is_merge := @ok_is_merge P w K mg base T F.d_is_merge F.t h_led h_is_number h_is_text
  have h_is_order := @ok_is_order P w K mg base T F.d_is_order F.t h_led h_is_number h_is_text
  have h_shows_reason := @ok_shows_reason P w K mg base T F.d_shows_reason F.t h_need_world h_need_question h_least_of h_can h_is_merge h_is_order
  have h_law_led := @ok_law_led P w K mg base T F.d_law_led F.t 
  have h_law_text := @ok_law_text P w K mg base T F.d_law_text F.t 
  have h_law_shows := @ok_law_shows P w K mg base T F.d_law_shows F.t h_law_least h_law_led h_law_text
  have h_law_alike := ok_law_alike (P := P) (w := w) (base := base) (T := T) (sp_x := fun _ _ _ _ => False) F.d_law_alike F.t 
  have h_law := ok_law (P := P) (w := w) (base := base) (T := T) FL F.t h_law_question h_law_world h_law_can h_reason h_law_taken h_law_pick h_shows_reason h_law_shows h_law_alike
  exact h_law
end

theorem dd_of {h : Heap} {K : PySem.W.Frag} {mg : Str → Option Value} (X : K.In h) (G : h.Ns mainGlobals mg) (c : He.SaysD faL fnL K) {x : Str} {st : Stmt} {d : He.DefD} (hd : d ∈ fnL) (e : d = ⟨(x, none), x, x, defArgs st, defBody st, defScope st, [], []⟩) (hf : He.Fa.glo x ∈ faL) : Dd K mg x st := by
  obtain ⟨fd, F⟩ := c.defs hd
  subst e
  exact ⟨He.ga K x, fd, He.glo_ok X G (c.facts hf), F⟩
theorem ddg_of {x : Str} {st : Stmt} {h : Heap} {K : PySem.W.Frag} {mg : Str → Option Value} {base : Heap} {T : List Addr} (D : Dd K mg x st) (tf : TabF h K x) (e : ∀ f, mg x = some (.ref f) → f = He.ga K x) (hT : ∀ c P o fd, K.lookup (He.ga K x) = some o → o.data = .func fd → fd.code = .ref c → PySem.W.CodeHd h c P → P ∈ T ∧ GxR.TabB base mg c P) : DdG K mg base T x st := by
  obtain ⟨f, fd, g, F⟩ := D
  obtain rfl := e f g
  obtain ⟨c, P, o, fd', l1, l2, l3, l4, l5, l6⟩ := tf
  obtain ⟨h1, h2⟩ := hT c P o fd' l1 l2 l3 l5
  refine ⟨_, fd, c, P, g, F, ?_, h2, h1⟩
  obtain ⟨oc, od, dV, kV, doc, pm, an, cdv, ct, osl, e1, lk, _⟩ := F.ex
  rw [lk] at l1
  cases l1
  have l2' : Data.func fd = Data.func fd' := l2
  injection l2' with l2'
  rw [l2']
  exact l3

end TW
end

section
set_option Elab.async false
set_option linter.all false
set_option maxRecDepth 100000
set_option maxHeartbeats 4000000
namespace TW
open PySem PySem.Spec PyProof.Rows L2
section
variable {P : Program} {w : World} {K : PySem.W.Frag} {mg : Str → Option Value} {base h : Heap}
def GeP (K : PySem.W.Frag) (cs : List (Addr × Addr)) (x : Str) : Prop := ∃ p ∈ cs, ∃ (o : Obj) (fd : FuncData), K.lookup (He.ga K x) = some o ∧ o.data = .func fd ∧ fd.code = .ref p.1
theorem ge_all : ∀ l : List Str, (∀ x ∈ l, TabF h K x) → ∃ cs : List (Addr × Addr), (∀ p ∈ cs, h.get? p.2 = some { cls := .none, data := .fields #[] }) ∧ (∀ p ∈ cs, K.lookup p.2 = none) ∧ (∀ p ∈ cs, PySem.W.CodeHd h p.1 p.2) ∧ ∀ x ∈ l, GeP K cs x
  | [], _ => ⟨[], (by intro p z; cases z), (by intro p z; cases z), (by intro p z; cases z), by intro p z; cases z⟩
  | x :: l, F => by
    obtain ⟨cs, a1, a2, a3, a4⟩ := ge_all l fun y hy => F y (.tail _ hy)
    obtain ⟨c, P, o, fd, b1, b2, b3, b4, b5, b6⟩ := F x (.head _)
    refine ⟨(c, P) :: cs, fun p hp => ?_, fun p hp => ?_, fun p hp => ?_, fun y hy => ?_⟩
    · cases hp with
      | head => exact b6
      | tail _ z => exact a1 p z
    · cases hp with
      | head => exact b4
      | tail _ z => exact a2 p z
    · cases hp with
      | head => exact b5
      | tail _ z => exact a3 p z
    · cases hy with
      | head => exact ⟨(c, P), .head _, o, fd, b1, b2, b3⟩
      | tail _ z =>
        obtain ⟨p, q1, q2⟩ := a4 y z
        exact ⟨p, .tail _ q1, q2⟩
theorem ddg2 {x : Str} {st : Stmt} {cs : List (Addr × Addr)} (X : K.In h) (G : h.Ns mainGlobals mg) (c : He.SaysD faL fnL K) {d : He.DefD} (hd : d ∈ fnL) (e : d = ⟨(x, none), x, x, defArgs st, defBody st, defScope st, [], []⟩) (hf : He.Fa.glo x ∈ faL) (hx : GeP K cs x) (hT : ∀ p ∈ cs, LamX.TabB base mg p.1 p.2) : DdG K mg base (cs.map (·.2)) x st := by
  obtain ⟨fd, F⟩ := c.defs hd
  subst e
  obtain ⟨p, hp, o, fd', l1, l2, l3⟩ := hx
  refine ⟨He.ga K x, fd, p.1, p.2, He.glo_ok X G (c.facts hf), F, ?_, ⟨(hT p hp).code, (hT p hp).bm, (hT p hp).gP⟩, List.mem_map.mpr ⟨p, hp, rfl⟩⟩
  obtain ⟨oc, od, dV, kV, doc, pm, an, cdv, ct, osl, e1, lk, _⟩ := F.ex
  have lk' : K.lookup (He.ga K x) = _ := lk
  rw [lk'] at l1
  cases l1
  have l2' : Data.func fd = Data.func fd' := l2
  injection l2' with l2'
  rw [l2']
  exact l3
theorem bt_of (X : K.In h) (G : h.Ns mainGlobals mg) (c : He.SaysD faL fnL K) (c2 : ∀ p ∈ tuL, He.tupB K p.1 p.2 = true) : Bt K mg where
  isinstance := He.free_ok X G (c.facts (f := .free "isinstance") (List.mem_of_getElem? (i := 43) rfl))
  int := He.free_ok X G (c.facts (f := .free "int") (List.mem_of_getElem? (i := 44) rfl))
  bool := He.free_ok X G (c.facts (f := .free "bool") (List.mem_of_getElem? (i := 45) rfl))
  tuple := He.free_ok X G (c.facts (f := .free "tuple") (List.mem_of_getElem? (i := 46) rfl))
  str := He.free_ok X G (c.facts (f := .free "str") (List.mem_of_getElem? (i := 47) rfl))
  len := He.free_ok X G (c.facts (f := .free "len") (List.mem_of_getElem? (i := 48) rfl))
  all := He.free_ok X G (c.facts (f := .free "all") (List.mem_of_getElem? (i := 49) rfl))
  list := He.free_ok X G (c.facts (f := .free "list") (List.mem_of_getElem? (i := 50) rfl))
  range := He.free_ok X G (c.facts (f := .free "range") (List.mem_of_getElem? (i := 51) rfl))
  set := He.free_ok X G (c.facts (f := .free "set") (List.mem_of_getElem? (i := 52) rfl))
  enumerate := He.free_ok X G (c.facts (f := .free "enumerate") (List.mem_of_getElem? (i := 53) rfl))
  min := He.free_ok X G (c.facts (f := .free "min") (List.mem_of_getElem? (i := 54) rfl))
  sorted := He.free_ok X G (c.facts (f := .free "sorted") (List.mem_of_getElem? (i := 55) rfl))
  c_letters := He.int_ok X G (c.facts (f := .int "MOST_LETTERS" 3) (List.mem_of_getElem? (i := 39) rfl))
  c_states := He.int_ok X G (c.facts (f := .int "MOST_STATES" 40) (List.mem_of_getElem? (i := 40) rfl))
  c_answer := He.int_ok X G (c.facts (f := .int "MOST_ANSWER" 3) (List.mem_of_getElem? (i := 41) rfl))
  c_reason := He.int_ok X G (c.facts (f := .int "MOST_REASON" 160) (List.mem_of_getElem? (i := 42) rfl))
  worlds := ⟨He.ga K "WORLDS", He.glo_ok X G (c.facts (f := .glo "WORLDS") (List.mem_of_getElem? (i := 36) rfl)), He.tupB_ok (c2 _ (.head _)) _⟩
  oto := ⟨He.ga K "ONE_TO_ONE", He.glo_ok X G (c.facts (f := .glo "ONE_TO_ONE") (List.mem_of_getElem? (i := 37) rfl)), He.tupB_ok (c2 _ (.tail _ (.head _))) _⟩
  orderless := ⟨He.ga K "ORDERLESS", He.glo_ok X G (c.facts (f := .glo "ORDERLESS") (List.mem_of_getElem? (i := 38) rfl)), He.tupB_ok (c2 _ (.tail _ (.tail _ (.head _)))) _⟩
theorem facts_of {cs : List (Addr × Addr)} (X : K.In h) (G : h.Ns mainGlobals mg) (c : He.SaysD faL fnL K) (c2 : ∀ p ∈ tuL, He.tupB K p.1 p.2 = true) (c3 : ∀ x ∈ geL, GeP K cs x) (hT : ∀ p ∈ cs, LamX.TabB base mg p.1 p.2) : Facts K mg base (cs.map (·.2)) where
  t := bt_of X G c c2
  d_is_number := dd_of X G c (d := d_is_number) (List.mem_of_getElem? (i := 0) rfl) rfl (List.mem_of_getElem? (i := 0) rfl)
  d_are_steps := ddg2 X G c (d := d_are_steps) (List.mem_of_getElem? (i := 1) rfl) rfl (List.mem_of_getElem? (i := 1) rfl) (c3 _ (List.mem_of_getElem? (i := 0) rfl)) hT
  d_need_question := ddg2 X G c (d := d_need_question) (List.mem_of_getElem? (i := 2) rfl) rfl (List.mem_of_getElem? (i := 2) rfl) (c3 _ (List.mem_of_getElem? (i := 1) rfl)) hT
  d_led := dd_of X G c (d := d_led) (List.mem_of_getElem? (i := 3) rfl) rfl (List.mem_of_getElem? (i := 3) rfl)
  d_parted := dd_of X G c (d := d_parted) (List.mem_of_getElem? (i := 4) rfl) rfl (List.mem_of_getElem? (i := 4) rfl)
  d_shrunk := dd_of X G c (d := d_shrunk) (List.mem_of_getElem? (i := 5) rfl) rfl (List.mem_of_getElem? (i := 5) rfl)
  d_least_of := dd_of X G c (d := d_least_of) (List.mem_of_getElem? (i := 6) rfl) rfl (List.mem_of_getElem? (i := 6) rfl)
  d_then := dd_of X G c (d := d_then) (List.mem_of_getElem? (i := 7) rfl) rfl (List.mem_of_getElem? (i := 7) rfl)
  d_letter_maps := dd_of X G c (d := d_letter_maps) (List.mem_of_getElem? (i := 8) rfl) rfl (List.mem_of_getElem? (i := 8) rfl)
  d_need_world := dd_of X G c (d := d_need_world) (List.mem_of_getElem? (i := 9) rfl) rfl (List.mem_of_getElem? (i := 9) rfl)
  d_are_one_to_one := ddg2 X G c (d := d_are_one_to_one) (List.mem_of_getElem? (i := 10) rfl) rfl (List.mem_of_getElem? (i := 10) rfl) (c3 _ (List.mem_of_getElem? (i := 2) rfl)) hT
  d_do_commute := ddg2 X G c (d := d_do_commute) (List.mem_of_getElem? (i := 11) rfl) rfl (List.mem_of_getElem? (i := 11) rfl) (c3 _ (List.mem_of_getElem? (i := 3) rfl)) hT
  d_can := dd_of X G c (d := d_can) (List.mem_of_getElem? (i := 12) rfl) rfl (List.mem_of_getElem? (i := 12) rfl)
  d_texts_to := dd_of X G c (d := d_texts_to) (List.mem_of_getElem? (i := 13) rfl) rfl (List.mem_of_getElem? (i := 13) rfl)
  d_parting := dd_of X G c (d := d_parting) (List.mem_of_getElem? (i := 14) rfl) rfl (List.mem_of_getElem? (i := 14) rfl)
  d_order_reason := dd_of X G c (d := d_order_reason) (List.mem_of_getElem? (i := 15) rfl) rfl (List.mem_of_getElem? (i := 15) rfl)
  d_merge_reason := dd_of X G c (d := d_merge_reason) (List.mem_of_getElem? (i := 16) rfl) rfl (List.mem_of_getElem? (i := 16) rfl)
  d_why_not := dd_of X G c (d := d_why_not) (List.mem_of_getElem? (i := 17) rfl) rfl (List.mem_of_getElem? (i := 17) rfl)
  d_reason := dd_of X G c (d := d_reason) (List.mem_of_getElem? (i := 18) rfl) rfl (List.mem_of_getElem? (i := 18) rfl)
  d_is_text := ddg2 X G c (d := d_is_text) (List.mem_of_getElem? (i := 19) rfl) rfl (List.mem_of_getElem? (i := 19) rfl) (c3 _ (List.mem_of_getElem? (i := 4) rfl)) hT
  d_is_order := dd_of X G c (d := d_is_order) (List.mem_of_getElem? (i := 20) rfl) rfl (List.mem_of_getElem? (i := 20) rfl)
  d_is_merge := ddg2 X G c (d := d_is_merge) (List.mem_of_getElem? (i := 21) rfl) rfl (List.mem_of_getElem? (i := 21) rfl) (c3 _ (List.mem_of_getElem? (i := 5) rfl)) hT
  d_shows_reason := dd_of X G c (d := d_shows_reason) (List.mem_of_getElem? (i := 22) rfl) rfl (List.mem_of_getElem? (i := 22) rfl)
  d_law_taken := dd_of X G c (d := d_law_taken) (List.mem_of_getElem? (i := 23) rfl) rfl (List.mem_of_getElem? (i := 23) rfl)
  d_law_pick := dd_of X G c (d := d_law_pick) (List.mem_of_getElem? (i := 24) rfl) rfl (List.mem_of_getElem? (i := 24) rfl)
  d_law_question := dd_of X G c (d := d_law_question) (List.mem_of_getElem? (i := 25) rfl) rfl (List.mem_of_getElem? (i := 25) rfl)
  d_law_world := dd_of X G c (d := d_law_world) (List.mem_of_getElem? (i := 26) rfl) rfl (List.mem_of_getElem? (i := 26) rfl)
  d_law_unlike := dd_of X G c (d := d_law_unlike) (List.mem_of_getElem? (i := 27) rfl) rfl (List.mem_of_getElem? (i := 27) rfl)
  d_law_least := dd_of X G c (d := d_law_least) (List.mem_of_getElem? (i := 28) rfl) rfl (List.mem_of_getElem? (i := 28) rfl)
  d_law_row := dd_of X G c (d := d_law_row) (List.mem_of_getElem? (i := 29) rfl) rfl (List.mem_of_getElem? (i := 29) rfl)
  d_law_can := dd_of X G c (d := d_law_can) (List.mem_of_getElem? (i := 30) rfl) rfl (List.mem_of_getElem? (i := 30) rfl)
  d_law_text := dd_of X G c (d := d_law_text) (List.mem_of_getElem? (i := 31) rfl) rfl (List.mem_of_getElem? (i := 31) rfl)
  d_law_led := dd_of X G c (d := d_law_led) (List.mem_of_getElem? (i := 32) rfl) rfl (List.mem_of_getElem? (i := 32) rfl)
  d_law_shows := dd_of X G c (d := d_law_shows) (List.mem_of_getElem? (i := 33) rfl) rfl (List.mem_of_getElem? (i := 33) rfl)
  d_law_alike := dd_of X G c (d := d_law_alike) (List.mem_of_getElem? (i := 34) rfl) rfl (List.mem_of_getElem? (i := 34) rfl)
theorem law_at {fa : Addr} (X : K.In h) (G : h.Ns mainGlobals mg) (hfa : mg ("law" : Str) = some (.ref fa)) (c : SaysX h K) : LamX.LawAtS PySem.Challenge.rw_toldwhat_k04_whole_reasons w K CX0 7 63 "_law_script" mg fa h := by
  obtain ⟨c1, c2, c3⟩ := c
  obtain ⟨cs, t1, t2, t3, t4⟩ := ge_all geL c3
  obtain ⟨fd, F⟩ := c1.defs (d := d_law) (List.mem_of_getElem? (i := 35) rfl)
  have e := hfa.symm.trans (He.glo_ok X G (c1.facts (f := .glo "law") (List.mem_of_getElem? (i := 35) rfl)))
  cases e
  have FL : FnP K "law" s_law (He.ga K "law") fd := F
  have b := FunD.bindsA (ps := ["_law_script"]) FL bd_law
  refine ⟨fd, cs, spT (cs.map (·.2)) (sp_law ⟨K, cs.map (·.2)⟩), t1, t2, t3, fun s v => b s [v] rfl, fun H a ns hlen _ hH hS => ?_, fun base X' G' hT => fn_tab (all_ok FL (facts_of X' G' c1 c2 t4 hT))⟩
  have hT : ∀ P ∈ cs.map (·.2), H P = some (.tbl #[]) := fun P hP => by
    obtain ⟨p, hp, rfl⟩ := List.mem_map.mp hP
    exact hH p hp
  have hS' : SqL K (toX (cs.map (·.2)) H) a (ns.map V.int) := by
    rcases hS with z | z
    · refine .inl ?_
      rcases z with z | ⟨o, z⟩
      · by_cases ha : a ∈ cs.map (·.2)
        · rw [hT a ha] at z
          cases z
        · exact .inl ((toX_out ha).trans z)
      · by_cases ha : a ∈ cs.map (·.2)
        · rw [hT a ha] at z
          cases z
        · exact .inr ⟨o, (toX_out ha).trans z⟩
    · exact .inr z
  refine ⟨hT, fun v => v = .bl true, fun v H' h => h, toX (cs.map (·.2)) H, ns, Xt.rfl', fun P hP => toX_in hP, .cons (.sc hS' (by rw [List.length_map]; exact Nat.le_trans hlen (by decide)) (DvA.ofInts ns)) .nil, hlen, fun v x B' H' hx g d => ⟨?_, g.h⟩⟩
  have hx' : x = .bool true := hx
  subst hx'
  cases d
  rfl
end
end TW
open PySem PySem.W PySem.Calls PyProof.Rows
theorem PySem.Challenge.cw_toldwhat_k04_whole_reasons_holds : PySem.Challenge.rw_toldwhat_k04_whole_reasons.Holds := by
  w_on; o_law
  refine HandSHeadRun.head_any (r := OpenLaw.row PySem.Challenge.rw_toldwhat_k04_whole_reasons) (q := view (OpenLaw.row PySem.Challenge.rw_toldwhat_k04_whole_reasons).prog [51]) (H := TW.hookX) (ob := TW.obT) (M := 20000) (loose := TW.loL) (d := HandSHeadRun.topDef (OpenLaw.row PySem.Challenge.rw_toldwhat_k04_whole_reasons).prog 51) (kwd := []) TW.obT_eq
    (by kernel_rfl) (fun s => by kernel_rfl) TW.headRun (by kernel_rfl) (by kernel_rfl) (by kernel_rfl) (by rfl) (by first | assumption | decide +kernel) (by decide +kernel) ⟨rfl, rfl, rfl, rfl, rfl, by decide +kernel⟩ ?hw ?hc
  case hw => w_witness2
  case hc =>
    refine LamX.walk_ofTsE (l := PySem.Challenge.rw_toldwhat_k04_whole_reasons) (n := 63) (k := 7) (x := "_law_script") (CX := fun _ => L2.CX0) rfl (by decide) (by kernel_rfl) ⟨rfl, by decide, by decide⟩ ?F (fun _ _ _ _ _ z => z)
    intro w mg fa h Y G hmg0
    obtain ⟨K, KX, c⟩ := Y
    have hmg : mg ("law" : PySem.Str) = some (.ref fa) := by
      have e : (HandSHeadRun.topDef (OpenLaw.row PySem.Challenge.rw_toldwhat_k04_whole_reasons).prog 51).name = ("law" : PySem.Str) := by kernel_rfl
      rw [← e]
      exact hmg0
    exact ⟨K, KX, TW.law_at KX G hmg c⟩
end

