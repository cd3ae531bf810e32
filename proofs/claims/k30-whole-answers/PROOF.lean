import PyProof.Rows.All
import Wide.All
import OpenK.AllK
import Wide.FinOn
import HandS.Base
import HandS.Call
import HandS.Defaults
import HandS.Ends
import HandS.More
import HandS.Words
import HandS.Head0
import HandS.Head1
import HandS.Head2
import HandS.HeadEnd
import HandS.HeadHook1
import HandS.HeadHook2
import HandS.HeadHook3
import HandS.HeadHook4
import KE.KStateDown
import PyProof.GenQ
import HandS.GenList
import HandS.GenOver
import HandS.List
import HandS.Deep
import HandS.TupAny
import HandS.WideBits
import HandS.IsInst
import HandS.SortInts
import HandS.TupSets
import HandS.SetFor
import HandS.Iter
import KE.GoesMore
import HandS.Comp
import HandS.SortKw
import KE.SortKeyHeap
import HandS.MakeKwOnly
import HandS.Exc
import HandS.ExcOwn
import HandS.ExcIs
import HandS.WordsExc
import Lean
import PySem.Challenge.RW_webnumbers_k30_whole_answers
set_option Elab.async false
set_option linter.all false
set_option maxRecDepth 100000
set_option maxHeartbeats 0
namespace Wl
open PySem PySem.Spec PyProof.Rows L2
def top (i : Nat) : Stmt := PySem.Challenge.pw_webnumbers_k30_whole_answers.main.body.getD i (.Pass ⟨0, 0, 0, 0⟩)
def loose : List Str := (["WebError", "UnfitWeb", "NoResult", "InvalidWeb", "InvalidRow", "InvalidKind", "InvalidCode", "TooLarge", "HasLoops", "NotTwist", "NoBound", "MAX_NODES", "make_web", "neighbour_rows", "first_loop", "check_simple", "image", "renamed", "bit_of", "code_of", "web_of_code", "MAX_SORTED", "MAX_LISTED", "all_renamings", "code_under", "sort_row", "sort_of", "MAX_SIMPLE", "MAX_LOOPED", "check_limit"] : List Str) ++ (["code_with", "is_least", "all_webs", "reached", "sides", "can_cancel", "MAX_RENAMED", "may_follow", "completed", "find_renaming", "inverse_row", "MAX_TWISTED", "twist_fault", "twisted", "may_extend", "twists", "is_new", "twist_sorts", "answers", "KINDS", "joined", "product", "MAX_RESULT", "direct_quotients", "_law_cell", "_law_draws", "_law_same", "_law_web", "_law_matrix", "_law_of_matrix"] : List Str) ++ (["_law_shuffle", "_law_renamed", "_law_permutations", "_law_may_follow", "_law_completes", "_law_alike", "_law_joined", "_law_product", "_law_two_sided", "_law_inverse", "_law_fault", "_law_twisted", "_law_drawn_row", "_law_least", "_law_of_code", "_law_sorts_of", "_law_all_sorts", "_law_twisted_webs", "_law_sides", "_law_ties", "_law_fits", "_law_unbounded", "_law_second", "_law_third", "_law_answers_told"] : List Str)
def mkD (x : Str) (i : Nat) (kw : List (Str × He.Dv)) : He.DefD := ⟨(x, none), x, x, defArgs (top i), defBody (top i), defScope (top i), [], kw⟩
def fn : List He.DefD := ([mkD "make_web" 14 [], mkD "neighbour_rows" 15 [], mkD "first_loop" 16 [], mkD "check_simple" 17 [], mkD "image" 18 [], mkD "renamed" 19 [], mkD "bit_of" 21 [], mkD "code_of" 22 [], mkD "web_of_code" 23 [], mkD "all_renamings" 27 [], mkD "code_under" 28 [], mkD "sort_row" 29 [], mkD "sort_of" 30 [], mkD "check_limit" 34 [], mkD "code_with" 35 [], mkD "is_least" 36 [], mkD "all_webs" 37 [("loops", .bl false)], mkD "reached" 39 [], mkD "sides" 40 [], mkD "can_cancel" 42 [], mkD "may_follow" 45 [], mkD "completed" 46 [], mkD "find_renaming" 47 [], mkD "inverse_row" 48 [], mkD "twist_fault" 51 []] : List He.DefD) ++ ([mkD "twisted" 52 [], mkD "may_extend" 53 [], mkD "twists" 54 [], mkD "is_new" 55 [], mkD "twist_sorts" 56 [], mkD "answers" 58 [], mkD "joined" 61 [], mkD "product" 62 [], mkD "direct_quotients" 65 [], mkD "_law_cell" 67 [], mkD "_law_draws" 68 [], mkD "_law_same" 69 [], mkD "_law_web" 70 [], mkD "_law_matrix" 71 [], mkD "_law_of_matrix" 72 [], mkD "_law_shuffle" 73 [], mkD "_law_renamed" 74 [], mkD "_law_permutations" 75 [], mkD "_law_may_follow" 76 [], mkD "_law_completes" 77 [], mkD "_law_alike" 78 [], mkD "_law_joined" 79 [], mkD "_law_product" 80 [], mkD "_law_two_sided" 81 [], mkD "_law_inverse" 82 []] : List He.DefD) ++ ([mkD "_law_fault" 83 [], mkD "_law_twisted" 84 [], mkD "_law_drawn_row" 85 [], mkD "_law_least" 86 [], mkD "_law_of_code" 87 [], mkD "_law_sorts_of" 88 [], mkD "_law_all_sorts" 89 [], mkD "_law_twisted_webs" 90 [], mkD "_law_sides" 91 [], mkD "_law_ties" 92 [], mkD "_law_fits" 93 [], mkD "_law_unbounded" 94 [], mkD "_law_second" 95 [], mkD "_law_third" 96 [], mkD "_law_answers_told" 97 [], mkD "law" 98 []] : List He.DefD)
def fa : List He.Fa := ([.glo "make_web", .glo "neighbour_rows", .glo "first_loop", .glo "check_simple", .glo "image", .glo "renamed", .glo "bit_of", .glo "code_of", .glo "web_of_code", .glo "all_renamings", .glo "code_under", .glo "sort_row", .glo "sort_of", .glo "check_limit", .glo "code_with", .glo "is_least", .glo "all_webs", .glo "reached", .glo "sides", .glo "can_cancel", .glo "may_follow", .glo "completed", .glo "find_renaming", .glo "inverse_row", .glo "twist_fault"] : List He.Fa) ++ ([.glo "twisted", .glo "may_extend", .glo "twists", .glo "is_new", .glo "twist_sorts", .glo "answers", .glo "joined", .glo "product", .glo "direct_quotients", .glo "_law_cell", .glo "_law_draws", .glo "_law_same", .glo "_law_web", .glo "_law_matrix", .glo "_law_of_matrix", .glo "_law_shuffle", .glo "_law_renamed", .glo "_law_permutations", .glo "_law_may_follow", .glo "_law_completes", .glo "_law_alike", .glo "_law_joined", .glo "_law_product", .glo "_law_two_sided", .glo "_law_inverse"] : List He.Fa) ++ ([.glo "_law_fault", .glo "_law_twisted", .glo "_law_drawn_row", .glo "_law_least", .glo "_law_of_code", .glo "_law_sorts_of", .glo "_law_all_sorts", .glo "_law_twisted_webs", .glo "_law_sides", .glo "_law_ties", .glo "_law_fits", .glo "_law_unbounded", .glo "_law_second", .glo "_law_third", .glo "_law_answers_told", .glo "law", .glo "NoBound", .glo "WebError", .glo "TooLarge", .glo "UnfitWeb", .glo "NoResult", .glo "KINDS", .free "len", .free "abs", .free "min"] : List He.Fa) ++ ([.free "max", .free "divmod", .free "sorted", .free "isinstance", .free "int", .free "bool", .free "str", .free "tuple", .free "list", .free "set", .free "range", .free "enumerate", .int "MAX_NODES" 64, .int "MAX_SORTED" 5, .int "MAX_LISTED" 6, .int "MAX_SIMPLE" 4, .int "MAX_LOOPED" 3, .int "MAX_RENAMED" 9, .int "MAX_TWISTED" 6, .int "MAX_RESULT" 3, .exc "NoBound", .exm "NoBound" "WebError" true] : List He.Fa)
def kinds : List He.Dv := [.str "box", .str "strong", .str "direct", .str "levels"]
def exB (K : PySem.W.Frag) : Bool := He.tupB K "KINDS" kinds && (decide (PySem.W.kitOne K (.ref (He.ga K "NoBound")) (.ref (He.ga K "TooLarge")) = some false) && (decide (PySem.W.kitOne K (.ref (He.ga K "NoBound")) (.ref (He.ga K "UnfitWeb")) = some false) &&
  (decide (PySem.W.kitOne K (.ref (He.ga K "NoBound")) (.ref (He.ga K "NoBound")) = some true) && (decide (PySem.W.kitOne K (.ref (He.ga K "NoBound")) (.ref (He.ga K "NoResult")) = some true) &&
  (He.eqO (PySem.W.findIn K (.ref (He.ga K "NoBound")) "__getattribute__") (some (some (.builtin "BaseException.__getattribute__"))) && (He.eqO (PySem.W.findIn K (.ref (He.ga K "NoBound")) "__getattr__") (some none) && (PySem.W.hasDictIn K (He.ga K "NoBound") &&
  (He.eqO (PySem.W.findIn K (.ref (He.ga K "NoBound")) "__class__") (some (some (.builtin "object.__class__"))) && (He.eqO (PySem.W.specialIn K (.builtin "object.__class__") "__get__") (some (some (.builtin "getset_descriptor.__get__"))) &&
  (decide (PySem.W.takesIn K (.builtin "object.__class__") = some true) && decide (PySem.W.mroIn K (He.ga K "NoBound") (.type "object") = some true)))))))))))
abbrev R : PySem.W.OpenRow := PySem.W.OpenLaw.row PySem.Challenge.rw_webnumbers_k30_whole_answers
abbrev hk : PySem.W.Hook := He.hookX 2 fa fn [] [] exB
def ob (s : PySem.W.SharedT) : He.AlX := He.obsX 2 fa fn [] [] exB (HandSHeadRun.getT s)
theorem ob_eq (s : PySem.W.SharedT) : ob s = hk.obs s.abs := He.obsX_eq (HandSHeadRun.getT_eq s)
theorem run (w : World) : HandSHeadRun.RunEq R (PySem.W.view R.prog [98]) hk ob 6000 loose w := by
  intro os
  kernel_rfl
end Wl
set_option maxRecDepth 100000
/-! a run that wakes none of the sleeping generators leaves them as they are -/
namespace Wg
open PySem
open Sem (wp)

def deadK : Resume → Sem PySem.Fin := fun _ => .unsupported "asleep"
def gh : GenState → GenState
  | .suspended _ l c p fs cl => .suspended deadK l c p fs cl
  | x => x
def sleeps : GenState → Bool
  | .suspended .. => true
  | _ => false
theorem sleeps_gh (x : GenState) : sleeps (gh x) = sleeps x := by cases x <;> rfl
theorem seen_gh (x : GenState) : (gh x).seen = x.seen := by cases x <;> rfl
theorem bare_gh (x : GenState) : (gh x).bare = x.bare := by cases x <;> rfl

theorem no_runs {M : Model} {Γ : Ctx} {p : Pos} {wh : String} {fs : List Frame} {s s' : Shared} {e : End} : ¬ Runs M Γ p (.unsupported wh) fs s e s' := by
  intro h
  generalize ht : (Sem.unsupported wh : Sem PySem.Fin) = t at h
  induction h with
  | segRet _ _ ih _ => exact ih ht
  | segGen _ _ ih _ => exact ih ht
  | segSuspOut _ _ ih => exact ih ht
  | segSuspGen _ _ _ _ ih _ => exact ih ht
  | _ => cases ht

/-- the table with the sleepers of T0 put back -/
def pick (T0 : Array GenState) (i : Nat) (y : GenState) : GenState := match T0[i]? with
  | some x => if sleeps x then x else y
  | none => y
def mend (T0 T : Array GenState) : Array GenState := T.mapIdx (pick T0)
def Awake (T0 : Array GenState) (i : Nat) : Prop := ∀ x, T0[i]? = some x → sleeps x = false
theorem pick_awake {T0 : Array GenState} {i : Nat} (h : Awake T0 i) (y : GenState) : pick T0 i y = y := by
  unfold pick
  cases e : T0[i]? with
  | none => rfl
  | some x =>
    have q := h x e
    simp [q]
theorem pick_sleeps {T0 : Array GenState} {i : Nat} {x : GenState} (e : T0[i]? = some x) (h : sleeps x = true) (y : GenState) : pick T0 i y = x := by
  unfold pick
  rw [e]
  simp [h]
theorem awake_or (T0 : Array GenState) (i : Nat) : Awake T0 i ∨ ∃ x, T0[i]? = some x ∧ sleeps x = true := by
  cases e : T0[i]? with
  | none => exact .inl fun x h => by rw [e] at h; cases h
  | some x =>
    cases h : sleeps x with
    | true => exact .inr ⟨x, rfl, h⟩
    | false => exact .inl fun y q => by rw [e] at q; cases q; exact h
theorem mend_get (T0 T : Array GenState) (i : Nat) : (mend T0 T)[i]? = (T[i]?).map (pick T0 i) := by
  unfold mend
  simp
theorem mend_size (T0 T : Array GenState) : (mend T0 T).size = T.size := by
  unfold mend
  simp
def Kpt (T0 T : Array GenState) : Prop :=
  (∀ (i : Nat) (x : GenState), T0[i]? = some x → sleeps x = true → T[i]? = some (gh x)) ∧
  ∀ (i : Nat) k l c p fs cl, T[i]? = some (.suspended k l c p fs cl) → Awake T0 i → splitAtGen fs = none
theorem Kpt.start (T : Array GenState) : Kpt T (T.map gh) := by
  refine ⟨fun i x h _ => by simp [h], fun i k l c p fs cl h a => ?_⟩
  rw [Array.getElem?_map] at h
  cases e : T[i]? with
  | none => rw [e] at h; cases h
  | some x =>
    rw [e] at h
    have h' : gh x = .suspended k l c p fs cl := Option.some.inj h
    have q := a x e
    rw [← sleeps_gh, h'] at q
    cases q
theorem mend_start (T : Array GenState) : mend T (T.map gh) = T := by
  apply Array.ext_getElem?
  intro i
  rw [mend_get, Array.getElem?_map]
  cases e : T[i]? with
  | none => rfl
  | some x =>
    show some (pick T i (gh x)) = some x
    rcases awake_or T i with a | ⟨y, e', h⟩
    · rw [pick_awake a]
      have q := a x e
      cases x <;> first | rfl | cases q
    · rw [pick_sleeps e' h]
      rw [e] at e'
      exact e'.symm
theorem mend_set {T0 T : Array GenState} {g : Nat} (a : Awake T0 g) (y : GenState) : mend T0 (T.setIfInBounds g y) = (mend T0 T).setIfInBounds g y := by
  apply Array.ext_getElem?
  intro i
  rw [mend_get]
  by_cases e : i = g
  · subst e
    by_cases hi : i < T.size
    · simp [hi, mend_size, pick_awake a]
    · simp [hi, mend_size]
  · rw [Array.getElem?_setIfInBounds_ne (Ne.symm e), Array.getElem?_setIfInBounds_ne (Ne.symm e), mend_get]
theorem Kpt.push {T0 T : Array GenState} (h : Kpt T0 T) (c : Code) : Kpt T0 (T.push (.fresh c)) ∧ mend T0 (T.push (.fresh c)) = (mend T0 T).push (.fresh c) := by
  have a : Awake T0 T.size := fun x e => by
    cases q : sleeps x with
    | false => rfl
    | true =>
      have := h.1 _ x e q
      simp at this
  refine ⟨⟨fun i x e q => ?_, fun i k l c' p fs cl e a' => ?_⟩, ?_⟩
  · have h1 := h.1 i x e q
    have hi := (Array.getElem?_eq_some_iff.mp h1).1
    rw [Array.getElem?_push, if_neg (Nat.ne_of_lt hi)]
    exact h1
  · rw [Array.getElem?_push] at e
    split at e
    · cases e
    · exact h.2 i k l c' p fs cl e a'
  · apply Array.ext_getElem?
    intro i
    rw [mend_get, Array.getElem?_push, Array.getElem?_push, mend_size]
    split
    · rename_i e
      subst e
      show some (pick T0 T.size _) = _
      rw [pick_awake a]
    · rw [mend_get]
theorem Kpt.set {T0 T : Array GenState} {g : Nat} (h : Kpt T0 T) (a : Awake T0 g) {y : GenState} (hy : ∀ k l c p fs cl, y = .suspended k l c p fs cl → splitAtGen fs = none) : Kpt T0 (T.setIfInBounds g y) := by
  refine ⟨fun i x e q => ?_, fun i k l c p fs cl e a' => ?_⟩
  · have ne : i ≠ g := fun z => by
      subst z
      rw [a x e] at q
      cases q
    rw [Array.getElem?_setIfInBounds_ne (Ne.symm ne)]
    exact h.1 i x e q
  · by_cases z : i = g
    · subst z
      rw [Array.getElem?_setIfInBounds] at e
      simp at e
      exact hy k l c p fs cl e.2
    · rw [Array.getElem?_setIfInBounds_ne (Ne.symm z)] at e
      exact h.2 i k l c p fs cl e a'
def EndOk : End → Prop
  | .ret _ => True
  | .susp _ _ _ _ _ _ fs => splitAtGen fs = none
theorem EndOk.st {e : End} (h : EndOk e) : ∀ k l c p fs cl, e.genState = .suspended k l c p fs cl → splitAtGen fs = none := by
  intro k l c p fs cl q
  cases e with
  | ret r => cases q
  | susp v g l0 k0 c0 p0 fs0 =>
    have q' : GenState.suspended k0 l0 c0 p0 fs0 _ = .suspended k l c p fs cl := q
    injection q' with _ _ _ _ e _
    subst e
    exact h
def mendS (T0 : Array GenState) (s : Shared) : Shared := { s with gens := mend T0 s.gens }
theorem mendS_set {T0 : Array GenState} {s : Shared} {g : Nat} (a : Awake T0 g) (y : GenState) : mendS T0 (s.setGen g y) = (mendS T0 s).setGen g y := by
  show ({ s with gens := mend T0 (s.gens.setIfInBounds g y) } : Shared) = { s with gens := (mend T0 s.gens).setIfInBounds g y }
  rw [mend_set a]
theorem awake_of {T0 : Array GenState} {s : Shared} {g : Nat} {y : GenState} (h : Kpt T0 s.gens) (e : s.gens[g]? = some y) (q : sleeps y = false) : Awake T0 g := fun x ex => by
  cases z : sleeps x with
  | false => rfl
  | true =>
    have := h.1 g x ex z
    rw [this] at e
    cases e
    rw [sleeps_gh] at q
    rw [← q, z]
theorem get_mend {T0 : Array GenState} {s : Shared} {g : Nat} {y : GenState} (a : Awake T0 g) (e : s.gens[g]? = some y) : (mendS T0 s).gens[g]? = some y := by
  show (mend T0 s.gens)[g]? = some y
  rw [mend_get, e]
  show some (pick T0 g y) = some y
  rw [pick_awake a]
theorem split_cons {k h g l c p kp} {fs : List Frame} (e : splitAtGen (.ret k h g l c p kp :: fs) = none) : splitAtGen fs = none := by
  rw [splitAtGen_ret] at e
  cases q : splitAtGen fs with
  | none => rfl
  | some x => rw [q] at e; cases e

theorem lock {M : Model} {T0 : Array GenState} {Γ : Ctx} {p : Pos} {t : Sem PySem.Fin} {fs : List Frame} {s s' : Shared} {e : End} (h : Runs M Γ p t fs s e s') :
    Kpt T0 s.gens → splitAtGen fs = none → Kpt T0 s'.gens ∧ EndOk e ∧ Runs M Γ p t fs (mendS T0 s) e (mendS T0 s') := by
  induction h with
  | done => intro k _; exact ⟨k, trivial, .done⟩
  | raise => intro k _; exact ⟨k, trivial, .raise⟩
  | again q _ ih => intro k f; obtain ⟨a, b, c⟩ := ih k rfl; exact ⟨a, b, .again q c⟩
  | rule _ ih => intro k f; obtain ⟨a, b, c⟩ := ih k rfl; exact ⟨a, b, .rule c⟩
  | «at» _ ih => intro k f; obtain ⟨a, b, c⟩ := ih k rfl; exact ⟨a, b, .at c⟩
  | load ho _ ih => intro k f; obtain ⟨a, b, c⟩ := ih k rfl; exact ⟨a, b, .load ho c⟩
  | update ho _ ih => intro k f; obtain ⟨a, b, c⟩ := ih k rfl; exact ⟨a, b, .update ho c⟩
  | loadIfAlive _ ih => intro k f; obtain ⟨a, b, c⟩ := ih k rfl; exact ⟨a, b, .loadIfAlive c⟩
  | point _ ih => intro k f; obtain ⟨a, b, c⟩ := ih k rfl; exact ⟨a, b, .point c⟩
  | alloc _ ih => intro k f; obtain ⟨a, b, c⟩ := ih k rfl; exact ⟨a, b, .alloc c⟩
  | fresh _ ih => intro k f; obtain ⟨a, b, c⟩ := ih k rfl; exact ⟨a, b, .fresh c⟩
  | ask _ ih => intro k f; obtain ⟨a, b, c⟩ := ih k rfl; exact ⟨a, b, .ask c⟩
  | choose hn _ ih => intro k f; obtain ⟨a, b, c⟩ := ih k rfl; exact ⟨a, b, .choose hn c⟩
  | os _ ih => intro k f; obtain ⟨a, b, c⟩ := ih k rfl; exact ⟨a, b, .os c⟩
  | handled _ ih => intro k f; obtain ⟨a, b, c⟩ := ih k rfl; exact ⟨a, b, .handled c⟩
  | stack _ ih => intro k f; obtain ⟨a, b, c⟩ := ih k rfl; exact ⟨a, b, .stack c⟩
  | thread _ ih => intro k f; obtain ⟨a, b, c⟩ := ih k rfl; exact ⟨a, b, .thread c⟩
  | @genState g st Γ p k s e s' hg _ ih =>
    intro kp f
    obtain ⟨a, b, c⟩ := ih kp rfl
    refine ⟨a, b, ?_⟩
    rcases awake_or T0 g with aw | ⟨x, ex, q⟩
    · exact .genState (get_mend aw hg) c
    · have h1 := kp.1 g x ex q
      rw [h1] at hg
      cases hg
      rw [seen_gh] at c
      refine .genState (st := x) ?_ c
      show (mend T0 s.gens)[g]? = some x
      rw [mend_get, h1]
      show some (pick T0 g _) = _
      rw [pick_sleeps ex q]
  | @newGen Γ p k s e s' c _ ih =>
    intro kp f
    obtain ⟨k1, e1⟩ := kp.push c
    obtain ⟨a, b, r⟩ := ih k1 rfl
    refine ⟨a, b, .newGen ?_⟩
    have e2 : mendS T0 { s with gens := s.gens.push (.fresh c) } = { mendS T0 s with gens := (mendS T0 s).gens.push (.fresh c) } := by
      show ({ s with gens := mend T0 (s.gens.push (.fresh c)) } : Shared) = { s with gens := (mend T0 s.gens).push (.fresh c) }
      rw [e1]
    rw [e2] at r
    have e3 : (mendS T0 s).gens.size = s.gens.size := mend_size _ _
    rw [e3]
    exact r
  | call _ _ ih1 ih2 =>
    intro kp f
    obtain ⟨a, _, c⟩ := ih1 kp rfl
    obtain ⟨a2, b2, c2⟩ := ih2 a rfl
    exact ⟨a2, b2, .call c c2⟩
  | callSusp _ ih =>
    intro kp f
    obtain ⟨a, b, c⟩ := ih kp rfl
    refine ⟨a, ?_, .callSusp c⟩
    show splitAtGen (_ ++ [_]) = none
    rw [splitAtGen_append_none _ b]
    rfl
  | «yield» => intro kp f; exact ⟨kp, rfl, .yield⟩
  | @resumeFresh Γ p g l k s c e₁ s₁ e s' hg _ hq _ ih1 ih2 =>
    intro kp f
    have aw := awake_of kp hg rfl
    obtain ⟨a, b, r⟩ := ih1 (kp.set aw (y := .running) (fun _ _ _ _ _ _ z => by cases z)) rfl
    obtain ⟨a2, b2, r2⟩ := ih2 (a.set aw b.st) rfl
    rw [mendS_set aw] at r r2
    exact ⟨a2, b2, .resumeFresh (get_mend aw hg) r hq r2⟩
  | @resumeSuspended Γ p g r l k s k₀ l₀ c₀ p₀ fs cl e₁ s₁ e s' hg h1 hq _ ih1 ih2 =>
    intro kp f
    rcases awake_or T0 g with aw | ⟨x, ex, q⟩
    · have nf := kp.2 g _ _ _ _ _ _ hg aw
      obtain ⟨a, b, r⟩ := ih1 (kp.set aw (y := .running) (fun _ _ _ _ _ _ z => by cases z)) nf
      obtain ⟨a2, b2, r2⟩ := ih2 (a.set aw b.st) rfl
      rw [mendS_set aw] at r r2
      exact ⟨a2, b2, .resumeSuspended (get_mend aw hg) r hq r2⟩
    · have h2 := kp.1 g x ex q
      rw [h2] at hg
      cases x with
      | suspended k1 l1 c1 p1 fs1 cl1 =>
        have z : GenState.suspended deadK l1 c1 p1 fs1 cl1 = .suspended k₀ l₀ c₀ p₀ fs cl := Option.some.inj hg
        injection z with z1
        rw [← z1] at h1
        exact absurd h1 no_runs
      | _ => cases q
  | resumeJustStarted hg hv _ ih =>
    intro kp f
    obtain ⟨a, b, c⟩ := ih kp rfl
    exact ⟨a, b, .resumeJustStarted (get_mend (awake_of kp hg rfl) hg) hv c⟩
  | resumeThrowFresh hg _ ih =>
    intro kp f
    have aw := awake_of kp hg rfl
    obtain ⟨a, b, c⟩ := ih (kp.set aw (y := .finished) (fun _ _ _ _ _ _ z => by cases z)) rfl
    rw [mendS_set aw] at c
    exact ⟨a, b, .resumeThrowFresh (get_mend aw hg) c⟩
  | resumeRunning hg _ ih =>
    intro kp f
    obtain ⟨a, b, c⟩ := ih kp rfl
    exact ⟨a, b, .resumeRunning (get_mend (awake_of kp hg rfl) hg) c⟩
  | resumeFinished hg _ ih =>
    intro kp f
    obtain ⟨a, b, c⟩ := ih kp rfl
    exact ⟨a, b, .resumeFinished (get_mend (awake_of kp hg rfl) hg) c⟩
  | segRet _ _ ih1 ih2 =>
    intro kp f
    obtain ⟨a, _, c⟩ := ih1 kp rfl
    obtain ⟨a2, b2, c2⟩ := ih2 a (split_cons f)
    exact ⟨a2, b2, .segRet c c2⟩
  | segGen _ _ _ _ => intro kp f; cases f
  | segSuspOut hs _ ih =>
    intro kp f
    obtain ⟨a, b, c⟩ := ih kp rfl
    refine ⟨a, ?_, .segSuspOut hs c⟩
    show splitAtGen (_ ++ _) = none
    rw [splitAtGen_append_none _ b, hs]
    rfl
  | segSuspGen hs _ _ _ _ _ => intro kp f; rw [f] at hs; cases hs

theorem lockW {M : Model} {T0 : Array GenState} {Γ : Ctx} {p : Pos} {g : Nat} {r : Resume} {s s' : Shared} {res : GenResult} (h : Wakes M Γ p g r s res s') (kp : Kpt T0 s.gens) : Kpt T0 s'.gens ∧ Wakes M Γ p g r (mendS T0 s) res (mendS T0 s') := by
  have fin : ∀ {x : GenState} {P : Prop}, s.gens[g]? = some x → True := fun _ => trivial
  unfold Wakes at h
  split at h
  · exact h.elim
  · rename_i c hg
    have aw := awake_of kp hg rfl
    have hg' := get_mend aw hg
    split at h
    · obtain ⟨e₁, s₁, hr, hq, rfl, rfl⟩ := h
      obtain ⟨a, b, q⟩ := lock hr (kp.set aw (y := .running) (fun _ _ _ _ _ _ z => by cases z)) rfl
      rw [mendS_set aw] at q
      refine ⟨a.set aw b.st, ?_⟩
      unfold Wakes
      rw [hg']
      exact ⟨e₁, _, q, hq, rfl, mendS_set aw _⟩
    · obtain ⟨rfl, rfl⟩ := h
      refine ⟨kp, ?_⟩
      unfold Wakes
      rw [hg']
      rename_i v hv
      cases v <;> first | exact absurd rfl hv | exact ⟨rfl, rfl⟩
    · obtain ⟨rfl, rfl⟩ := h
      refine ⟨kp.set aw (y := .finished) (fun _ _ _ _ _ _ z => by cases z), ?_⟩
      unfold Wakes
      rw [hg']
      exact ⟨rfl, mendS_set aw _⟩
  · rename_i k0 l0 c0 p0 fs cl hg
    obtain ⟨e₁, s₁, hr, hq, rfl, rfl⟩ := h
    rcases awake_or T0 g with aw | ⟨x, ex, q⟩
    · obtain ⟨a, b, q⟩ := lock hr (kp.set aw (y := .running) (fun _ _ _ _ _ _ z => by cases z)) (kp.2 g _ _ _ _ _ _ hg aw)
      rw [mendS_set aw] at q
      refine ⟨a.set aw b.st, ?_⟩
      unfold Wakes
      rw [get_mend aw hg]
      exact ⟨e₁, _, q, hq, rfl, mendS_set aw _⟩
    · have h2 := kp.1 g x ex q
      rw [h2] at hg
      cases x with
      | suspended k1 l1 c1 p1 fs1 cl1 =>
        have z : GenState.suspended deadK l1 c1 p1 fs1 cl1 = .suspended k0 l0 c0 p0 fs cl := Option.some.inj hg
        injection z with z1
        rw [← z1] at hr
        exact absurd hr no_runs
      | _ => cases q
  · rename_i hg
    obtain ⟨rfl, rfl⟩ := h
    refine ⟨kp, ?_⟩
    unfold Wakes
    rw [get_mend (awake_of kp hg rfl) hg]
    exact ⟨rfl, rfl⟩
  · rename_i hg
    obtain ⟨rfl, rfl⟩ := h
    refine ⟨kp, ?_⟩
    unfold Wakes
    rw [get_mend (awake_of kp hg rfl) hg]
    exact ⟨rfl, rfl⟩

theorem wp_lock {α : Type} {M : Model} {T0 : Array GenState} {Γ : Ctx} (t : Sem α) : ∀ (Q : α → Pos → Shared → Prop) (E : Value → Pos → Shared → Prop) (p : Pos) (s : Shared), Kpt T0 s.gens → wp M Γ t Q E p s →
    wp M Γ t (fun a p' s' => ∃ s2, s' = mendS T0 s2 ∧ Kpt T0 s2.gens ∧ Q a p' s2) (fun e p' s' => ∃ s2, s' = mendS T0 s2 ∧ Kpt T0 s2.gens ∧ E e p' s2) p (mendS T0 s) := by
  induction t with
  | pure a => intro Q E p s k h; exact ⟨s, rfl, k, h⟩
  | raise e => intro Q E p s k h; exact ⟨s, rfl, k, h⟩
  | unsupported _ => intro Q E p s _ h; exact h
  | finish _ => intro Q E p s _ h; exact h
  | rule _ k ih => intro Q E p s kp h; exact ih () Q E p s kp h
  | «at» p' k ih => intro Q E p s kp h; exact ih () Q E p' s kp h
  | load a _ k ih => intro Q E p s kp h; obtain ⟨o, ho, h⟩ := h; exact ⟨o, ho, ih o Q E p s kp h⟩
  | update a _ f k ih => intro Q E p s kp h; exact ⟨h.1, ih () Q E p { s with heap := s.heap.update a f } kp h.2⟩
  | loadIfAlive a k ih => intro Q E p s kp h; exact ih _ Q E p s kp h
  | point _ k ih => intro Q E p s kp h; exact ih () Q E p s kp h
  | register _ _ => intro Q E p s _ h; exact h
  | alloc o k ih => intro Q E p s kp h; exact ih _ Q E p { s with heap := s.heap.push o } kp h
  | fresh k ih => intro Q E p s kp h; exact ih _ Q E p { s with toks := s.toks + 1 } kp h
  | ask k ih => intro Q E p s kp h; exact ih _ Q E p s kp h
  | choose src m k ih => intro Q E p s kp h; exact ⟨h.1, ih _ Q E p { s with drawn := s.drawn.bump src } kp h.2⟩
  | os q _ k ih => intro Q E p s kp h; exact ih _ Q E p { s with os := (Os.step s.os q).1 } kp h
  | call c hd _ _ k ih =>
    intro Q E p s kp h
    obtain ⟨r, s', hr, h⟩ := h
    obtain ⟨k1, _, r1⟩ := lock (show Runs _ _ _ _ _ _ _ _ from hr) kp rfl
    exact ⟨r, _, r1, ih r Q E p s' k1 h⟩
  | handled own k ih => intro Q E p s kp h; exact ih _ Q E p s kp h
  | genState g k ih =>
    intro Q E p s kp h
    obtain ⟨st, hg, h⟩ := h
    rcases awake_or T0 g with aw | ⟨x, ex, q⟩
    · exact ⟨st, get_mend aw hg, ih _ Q E p s kp h⟩
    · have h1 := kp.1 g x ex q
      rw [h1] at hg
      cases hg
      have h2 := ih _ Q E p s kp h
      rw [seen_gh] at h2
      refine ⟨x, ?_, by rw [seen_gh] at h; exact ih _ Q E p s kp h⟩
      show (mend T0 s.gens)[g]? = some x
      rw [mend_get, h1]
      show some (pick T0 g _) = _
      rw [pick_sleeps ex q]
  | newGen c k ih =>
    intro Q E p s kp h
    obtain ⟨k1, e1⟩ := kp.push c
    have h2 := ih s.gens.size Q E p { s with gens := s.gens.push (.fresh c) } k1 h
    have e2 : mendS T0 { s with gens := s.gens.push (.fresh c) } = { mendS T0 s with gens := (mendS T0 s).gens.push (.fresh c) } := by
      show ({ s with gens := mend T0 (s.gens.push (.fresh c)) } : Shared) = { s with gens := (mend T0 s.gens).push (.fresh c) }
      rw [e1]
    rw [e2] at h2
    have e3 : (mendS T0 s).gens.size = s.gens.size := mend_size _ _
    show wp M Γ (k (mendS T0 s).gens.size) _ _ p { mendS T0 s with gens := (mendS T0 s).gens.push (.fresh c) }
    rw [e3]
    exact h2
  | resume g r _ k ih =>
    intro Q E p s kp h
    obtain ⟨res, s', hw, h⟩ := h
    obtain ⟨k1, w1⟩ := lockW hw kp
    exact ⟨res, _, w1, ih res Q E p s' k1 h⟩
  | «yield» _ _ _ _ => intro Q E p s _ h; exact h
  | stack k ih => intro Q E p s kp h; exact ih _ Q E p s kp h
  | fork _ _ => intro Q E p s _ h; exact h
  | thread k ih => intro Q E p s kp h; exact ih _ Q E p s kp h
  | await _ _ _ _ _ => intro Q E p s _ h; exact h

/-- the state with all sleepers asleep for good -/
def dead (s : Shared) : Shared := { s with gens := s.gens.map gh }
theorem mend_dead (s : Shared) : mendS s.gens (dead s) = s := by
  show ({ s with gens := mend s.gens (s.gens.map gh) } : Shared) = s
  rw [mend_start]
def Slp (s s' : Shared) : Prop := ∀ (i : Nat) (x : GenState), s.gens[i]? = some x → sleeps x = true → s'.gens[i]? = some x
theorem slp_mend {s s2 : Shared} (k : Kpt s.gens s2.gens) : Slp s (mendS s.gens s2) := fun i x e q => by
  show (mend s.gens s2.gens)[i]? = some x
  rw [mend_get, k.1 i x e q]
  show some (pick s.gens i _) = _
  rw [pick_sleeps e q]
theorem wpAny_dead {α : Type} {M : Model} {A : Around} {t : Sem α} {Q : α → Shared → Prop} {E : Value → Shared → Prop} {s : Shared} (h : wpAny M A t Q E (dead s)) :
    wpAny M A t (fun a s' => ∃ s2, s' = mendS s.gens s2 ∧ Slp s s' ∧ Q a s2) (fun e s' => ∃ s2, s' = mendS s.gens s2 ∧ Slp s s' ∧ E e s2) s := fun Γ p hΓ => by
  have q := wp_lock (T0 := s.gens) t _ _ p (dead s) (Kpt.start s.gens) (h Γ p hΓ)
  rw [mend_dead] at q
  refine Sem.wp_mono M Γ t (fun a p' s' h' => ?_) (fun e p' s' h' => ?_) p s q
  · obtain ⟨s2, rfl, k, hq⟩ := h'; exact ⟨s2, rfl, slp_mend k, hq⟩
  · obtain ⟨s2, rfl, k, hq⟩ := h'; exact ⟨s2, rfl, slp_mend k, hq⟩

end Wg
set_option maxRecDepth 100000
set_option maxHeartbeats 1000000
/-! one turn of a generator, seen by its consumer -/
namespace Wg
open PySem L2 PyProof.Rows
open Sem (wp)

def gcode : GenState → Code
  | .fresh c => c
  | .suspended _ _ c _ _ _ => c
  | _ => default
def gtree (M : Model) : GenState → Sem PySem.Fin
  | .fresh c => M.den c
  | .suspended k _ _ _ _ _ => k (.send .none)
  | _ => .unsupported "not asleep"
def gframes : GenState → List Frame
  | .suspended _ _ _ _ fs _ => fs
  | _ => []
/-- woken from s, it comes to such an end -/
def Wakens (M : Model) (A : Around) (gs : GenState) (s : Shared) (Φ : End → Shared → Prop) : Prop :=
  (gs.status = .fresh ∨ gs.status = .suspended) ∧ ∀ Γ p, Γ.code = gcode gs → Γ.Woken A → ∃ e s1, Runs M Γ p (gtree M gs) (gframes gs) s e s1 ∧ e.quiet = true ∧ Φ e s1
theorem Wakens.mono {M : Model} {A : Around} {gs : GenState} {s : Shared} {Φ Φ' : End → Shared → Prop} (h : Wakens M A gs s Φ) (f : ∀ e s1, Φ e s1 → Φ' e s1) : Wakens M A gs s Φ' :=
  ⟨h.1, fun Γ p c w => let ⟨e, s1, r, q, x⟩ := h.2 Γ p c w; ⟨e, s1, r, q, f e s1 x⟩⟩
theorem resume_by {α : Type} {M : Model} {A : Around} {gs : GenState} {s : Shared} {g : Nat} {l : List Value} {k : GenResult → Sem α} {Q : α → Shared → Prop} {E : Value → Shared → Prop} {Φ : End → Shared → Prop}
    (hg : s.gens[g]? = some gs) (hw : Wakens M A gs (s.setGen g .running) Φ) (hQ : ∀ e s1, Φ e s1 → wpAny M A (k e.result) Q E (s1.setGen g e.genState)) : wpAny M A (.resume g (.send .none) l k) Q E s := fun Γ p hΓ => by
  rw [Sem.wp_resume]
  cases gs with
  | fresh c =>
    obtain ⟨e, s1, hr, hq, hφ⟩ := hw.2 (Γ.wake c p) p rfl (hΓ.wake c p)
    refine ⟨e.result, s1.setGen g e.genState, ?_, hQ e s1 hφ Γ p hΓ⟩
    unfold Wakes
    rw [hg]
    exact ⟨e, s1, hr, hq, rfl, rfl⟩
  | suspended k0 l0 c0 p0 fs0 cl =>
    obtain ⟨e, s1, hr, hq, hφ⟩ := hw.2 (Γ.wake c0 p) p0 rfl (hΓ.wake c0 p)
    refine ⟨e.result, s1.setGen g e.genState, ?_, hQ e s1 hφ Γ p hΓ⟩
    unfold Wakes
    rw [hg]
    exact ⟨e, s1, hr, hq, rfl, rfl⟩
  | running => rcases hw.1 with z | z <;> cases z
  | finished => rcases hw.1 with z | z <;> cases z
/-- it hands out an item -/
theorem next_item {prog : Program} {w : World} {A : Around} {E : Value → Shared → Prop} {s : Shared} {a : Addr} {g : Nat} {gs : GenState} {Q : Option Value → Shared → Prop} {Φ : Value → GenState → Shared → Prop}
    (hl : s.heap.NoLimit) (hd : A.depth < recursionLimit) (hg : s.heap.IsGen a g) (hs : s.gens[g]? = some gs)
    (hw : Wakens (model prog w) A.in1 gs (s.setGen g .running) fun e s1 => ∃ v gd l k c q fs, e = .susp v gd l k c q fs ∧ Φ v e.genState s1) (hQ : ∀ v gs1 s1, Φ v gs1 s1 → Q (some v) (s1.setGen g gs1)) :
    wpAny (model prog w) A (pyNext (.ref a)) Q E s := by
  have hlive := hw.1
  have body : wpAny (model prog w) A.in1 (Builtin.Generator.genWake (.ref a) (.send .none)) (fun fin s' => ∃ v, fin = .done (.ret v) ∧ Q (some v) s') (fun _ _ => False) s := by
    unfold Builtin.Generator.genWake
    have go : wpAny (model prog w) A.in1 (.resume g (.send .none) [] fun x => .pure x) (fun res s' => ∃ v, res = .yielded v ∧ Q (some v) s') (fun _ _ => False) s := by
      refine resume_by hs hw fun e s1 hφ => ?_
      obtain ⟨v, gd, l, k, c, q, fs, rfl, hφ⟩ := hφ
      exact wpAny_pure ⟨v, rfl, hQ v _ s1 hφ⟩
    have fin : wpAny (model prog w) A.in1 (resume g (.send .none) >>= fun r => match r with
      | .yielded v => ret v
      | .returned v => do
        if v == .none then raiseNew (← newExc (.type "StopIteration") [])
        rule "generator.return-value"; throw (← newExc (.type "StopIteration") [v])
      | .raised e => do
        if let .throw _ := (Resume.send .none) then
          if gs.status == GenStatus.fresh then rule "generator.throw.into-fresh"; throw e
        Builtin.Generator.genLeft (.ref a) e
      | .running => do rule "generator.already-executing"; raiseError "ValueError" "generator already executing"
      | .justStarted => do rule "generator.send-to-fresh"; raiseError "TypeError" "can't send non-None value to a just-started generator"
      | .finished => match (Resume.send .none) with
        | .send _ => do raiseNew (← newExc (.type "StopIteration") [])
        | .throw e => throw e) (fun fin s' => ∃ v, fin = .done (.ret v) ∧ Q (some v) s') (fun _ _ => False) s := by
      refine wpAny_bind (wpAny_mono go (fun res s' h => ?_) fun _ _ h => h)
      obtain ⟨v, rfl, hq⟩ := h
      exact wpAny_pure ⟨v, rfl, hq⟩
    refine wpAny_bind (wpAny_holding (wpAny_genNumber hg ?_))
    refine wpAny_bind (wpAny_genState hs ?_)
    rcases hlive with e | e
    · rw [e] at fin ⊢
      exact wpAny_bind (wpAny_roomToWake hl hd fin)
    · rw [e] at fin ⊢
      exact wpAny_bind (wpAny_roomToWake hl hd fin)
  unfold pyNext
  refine wpAny_bind ?_
  refine wpAny_attempt ?_
  refine wpAny_callSpecial?_slot hg.typeIs slot_gen_next ?_
  refine wpAny_call_entry slot_gen_next hg.typeIs entry_gen_next ?_ (args_gen_next _)
  refine wpAny_mono body (fun fin s' h => ?_) fun _ _ h => h.elim
  obtain ⟨v, rfl, hq⟩ := h
  exact ⟨v, rfl, wpAny_pure hq⟩
/-- it has come to its end -/
theorem next_end {prog : Program} {w : World} {A : Around} {E : Value → Shared → Prop} {s : Shared} {a : Addr} {g : Nat} {gs : GenState} {Q : Option Value → Shared → Prop} {Φ : Shared → Prop}
    (hh : A.handled = none) (hl : s.heap.NoLimit) (hd : A.depth < recursionLimit) (hg : s.heap.IsGen a g) (hs : s.gens[g]? = some gs)
    (hw : Wakens (model prog w) A.in1 gs (s.setGen g .running) fun e s1 => ∃ r, e = .ret r ∧ (r = .ok (.ret .none) ∨ r = .ok .next) ∧ Φ s1)
    (hQ : ∀ s1, Φ s1 → ∀ h', (∀ b o, s1.heap.get? b = some o → h'.get? b = some o) → Q none { s1.setGen g .finished with heap := h' }) :
    wpAny (model prog w) A (pyNext (.ref a)) Q E s := by
  refine next_genG (n := 0) (Er := fun _ _ => False) (F := fun _ _ s1 => Φ s1) (Y := fun _ _ _ _ _ => False) hh hl hd hg hs ?_ (fun _ _ _ _ h => h.elim) (fun s1 hp h' hk => hQ s1 hp h' hk) fun _ _ h => h.elim
  cases gs with
  | fresh c =>
    refine ⟨rfl, fun Γ p hc hΓ => ?_⟩
    obtain ⟨e, s1, hr, hq, r, rfl, h1, h2⟩ := hw.2 Γ p hc hΓ
    exact ⟨_, s1, hr, .inl ⟨h1, h2⟩⟩
  | suspended k0 l0 c0 p0 fs0 cl =>
    intro Γ p hc hΓ
    obtain ⟨e, s1, hr, hq, r, rfl, h1, h2⟩ := hw.2 Γ p hc hΓ
    exact ⟨_, s1, hr, .inl ⟨h1, h2⟩⟩
  | running => rcases hw.1 with z | z <;> cases z
  | finished => rcases hw.1 with z | z <;> cases z
end Wg
set_option maxRecDepth 100000
set_option maxHeartbeats 1000000
/-! a for loop over a generator: the consumer -/
namespace Wg
open PySem L2 PyProof.Rows

/-- a thing that is known to stand, no more -/
abbrev dum : HO := .ext fun _ => True
def KeepF (H H' : Hp) : Prop := ∀ b o u, H b = some (.frz o u) → H' b = some (.frz o u)
/-- the generator's own things are forgotten again -/
def Dr (Hh H' H2 : Hp) : Prop := (∀ b o, H' b = some o → (Hh b ≠ none ∨ ∀ x, o ≠ .frz x dum) → H2 b = some o) ∧ ∀ b o, H2 b = some o → H' b = some o
structure Kept (fr : List Addr) (pv : Addr → Prop) (h h' : Heap) : Prop where
  keep : ∀ b o, h.get? b = some o → ¬ pv b → b ∉ fr → h'.get? b = some o
  slot : ∀ b o, h.get? b = some o → ¬ pv b → ∃ sl, h'.get? b = some { o with slots := sl }
  sz : h.objs.size ≤ h'.objs.size
structure Wk (base : Heap) (outer : List Env) (n0 : Nat) (need : Addr → Prop) (s s' : Shared) : Prop where
  os : s'.os = s.os
  bare : AllBare s'.gens
  need : ∀ b o, need b → s.heap.get? b = some o → s'.heap.get? b = some o
  bs : ∀ b o, base.get? b = some o → s'.heap.get? b = some o
  funs : s'.heap.FunFrames base outer
  sz : n0 ≤ s'.heap.objs.size
/-- tuples that the generator made -/
structure TupsOk (P : Program) (w : World) (T : Hp) (need pv : Addr → Prop) (h : Heap) : Prop where
  ok : HOk P w T h
  tup : ∀ b o, T b = some o → need b ∧ ¬ pv b ∧ ∃ xs, o = .tup xs
/-- an item lies at s1, woken from s -/
structure ItemAt (P : Program) (w : World) (n0 : Nat) {α : Type} (rp : Hp → V → α → Prop) (d : α) (v : Value) (need pv need1 pv1 : Addr → Prop) (s s1 : Shared) : Prop where
  pv : ∀ b, pv1 b → need1 b ∧ (pv b ∨ s.heap.objs.size ≤ b)
  nd : ∀ b, need1 b → n0 ≤ b ∧ (∃ o, s1.heap.get? b = some o) ∧ (need b ∨ s.heap.objs.size ≤ b)
  it : ∃ T x, TupsOk P w T need1 pv1 s1.heap ∧ RelV x v ∧ rp T x d
def Sus (P : Program) (w : World) (base : Heap) (outer : List Env) (n0 : Nat) (A : Around) {α : Type} (rp : Hp → V → α → Prop) : List α → GenState → Shared → (Addr → Prop) → (Addr → Prop) → Prop
  | [], gs, s, need, pv => ∀ s', Wk base outer n0 need s s' → Wakens (model P w) A gs s' fun e s1 => ∃ r, e = .ret r ∧ (r = .ok (.ret .none) ∨ r = .ok .next) ∧ s1.os = s'.os ∧ AllBare s1.gens ∧ Kept (frs outer) pv s'.heap s1.heap
  | d :: ds, gs, s, need, pv => ∀ s', Wk base outer n0 need s s' → Wakens (model P w) A gs s' fun e s1 => ∃ v gd l k c q fs, e = .susp v gd l k c q fs ∧ s1.os = s'.os ∧ AllBare s1.gens ∧ Kept (frs outer) pv s'.heap s1.heap ∧
      ∃ need1 pv1, ItemAt P w n0 rp d v need pv need1 pv1 s' s1 ∧ Sus P w base outer n0 A rp ds e.genState s1 need1 pv1

/-- what stood ahead of the generator -/
structure Young (X : Cx) (pins : List (Addr × Obj)) (n0 : Nat) : Prop where
  lo : X.s_0.heap.objs.size ≤ n0
  loc : X.env.locals < n0
  cell : ∀ x c, X.env.cells.lookup x = some c → c < n0
  pin : ∀ p ∈ X.pn ++ pins, p.1 < n0

section
variable {X : Cx} {pins : List (Addr × Obj)} {σ : L2.St} {H H1 : Hp} {s s1 : Shared} {n0 : Nat} {need pv : Addr → Prop}
theorem regens (I : Inv X pins σ H s) {G : Array GenState} (hG : AllBare G) : Inv X pins σ H { s with gens := G } :=
  I.call (h' := s.heap) (g' := G) (d' := s.drawn) (t' := s.toks) (ch := []) Un.refl I.hok hG (fun b z => absurd z (by simp))
/-- the generator ran for a while -/
theorem passed (I : Inv X pins σ H s) (y : Young X pins n0) (kp : Kept (frs X.stack) pv s.heap s1.heap) (os : s1.os = s.os) (bare : AllBare s1.gens) (pvH : ∀ b, pv b → H b = none) (pvn : ∀ b, pv b → n0 ≤ b ∧ need b)
    (ext : ∀ b o, H b = some o → H1 b = some o) (new : ∀ b o, H1 b = some o → H b = none → n0 ≤ b ∧ (need b ∨ s.heap.objs.size ≤ b) ∧ ∃ x u, o = .frz x u ∧ s1.heap.get? b = some x ∧ ObjOk X.prog X.w H1 s1.heap b u) : Inv X pins σ H1 s1 := by
  classical
  refine I.call' (ch := (List.range s.heap.objs.size).filter fun b => decide (n0 ≤ b ∧ need b)) os ⟨fun b o e n hf hc => ?_, fun b o e n hf hc => ?_, fun b o e n hc => ?_, fun b o e hc => ?_, fun b xs e => ext _ _ e, fun b o u e => ext _ _ e, fun b ps e => ⟨#[], by rw [ext _ _ e]; simp⟩⟩ (fun b o e => ?_) bare fun b hb => ?_
  · refine kp.keep b o e (fun z => hc ?_) hf
    exact List.mem_filter.mpr ⟨List.mem_range.mpr (Heap.lt_size e), decide_eq_true (pvn b z)⟩
  · refine kp.slot b o e fun z => hc ?_
    exact List.mem_filter.mpr ⟨List.mem_range.mpr (Heap.lt_size e), decide_eq_true (pvn b z)⟩
  · cases q : H1 b with
    | none => rfl
    | some u =>
      obtain ⟨h1, h2, _⟩ := new b u q n
      rcases h2 with h2 | h2
      · exact absurd (List.mem_filter.mpr ⟨List.mem_range.mpr (Heap.lt_size e), decide_eq_true ⟨h1, h2⟩⟩) hc
      · exact absurd (Nat.lt_of_lt_of_le (Heap.lt_size e) h2) (Nat.lt_irrefl _)
  · obtain ⟨sl, q⟩ := kp.slot b o e fun z => hc (List.mem_filter.mpr ⟨List.mem_range.mpr (Heap.lt_size e), decide_eq_true (pvn b z)⟩)
    exact ⟨_, q⟩
  · cases q : H b with
    | none =>
      obtain ⟨_, _, x, u, rfl, h3, h4⟩ := new b o e q
      exact ⟨h3, h4⟩
    | some u =>
      have e' := ext b u q
      rw [e] at e'
      cases e'
      refine (I.hok b o q).stay (fun c v hc r => ?_) (fun c z => ext _ _ z) fun c xs z => ext _ _ z
      have hcs : ∃ y, H c = some y := by
        rcases hc with z | z
        · exact ⟨o, by rw [z]; exact q⟩
        · exact ⟨_, z⟩
      obtain ⟨y, hy⟩ := hcs
      refine kp.keep c v r (fun z => ?_) fun z => ?_
      · rw [pvH c z] at hy; cases hy
      · rw [I.stkFree c z] at hy; cases hy
  · have q := of_decide_eq_true (List.mem_filter.mp hb).2
    refine ⟨.inr (Nat.le_trans y.lo q.1), Nat.ne_of_gt (Nat.lt_of_lt_of_le y.loc q.1), fun x c e => Nat.ne_of_lt (Nat.lt_of_lt_of_le (y.cell x c e) q.1), fun p hp => Nat.ne_of_lt (Nat.lt_of_lt_of_le (y.pin p hp) q.1)⟩
/-- frozen things are forgotten -/
theorem forget (I : Inv X pins σ H s) {D : Addr → Prop} (hD : ∀ b, D b → ∃ x, H b = some (.frz x dum) ∧ ∀ o u, X.H_0 b ≠ some (.frz o u)) (h1 : ∀ b, D b → H1 b = none) (h2 : ∀ b, ¬ D b → H1 b = H b) : Inv X pins σ H1 s := by
  have hsub : ∀ b o, H1 b = some o → H b = some o := fun b o e => by
    by_cases q : D b
    · rw [h1 b q] at e; cases e
    · rw [← h2 b q]; exact e
  have hno : ∀ b, H b = none → H1 b = none := fun b e => by
    by_cases q : D b
    · exact h1 b q
    · rw [h2 b q]; exact e
  have hot : ∀ b o, H b = some o → (∀ x, o ≠ .frz x dum) → H1 b = some o := fun b o e n => by
    by_cases q : D b
    · obtain ⟨x, hx, _⟩ := hD b q
      rw [e] at hx
      cases hx
      exact absurd rfl (n x)
    · rw [h2 b q]; exact e
  refine ⟨I.ok, I.os, I.bare, ⟨I.base.keep, I.base.slot, fun b o e n hx => hno b (I.base.free b o e n hx), I.base.there, fun b xs e => hot b _ (I.base.tups b xs e) (fun x z => by cases z), fun b o u e => ?_, fun b ps e => ?_⟩, I.loc, I.cell, hno _ I.free, fun x c e => hno c (I.freeC x c e), fun p hp => ?_, fun b o e => ?_, I.len⟩
  · by_cases q : D b
    · exact absurd e ((hD b q).choose_spec.2 o u)
    · rw [h2 b q]; exact I.base.frzs b o u e
  · obtain ⟨more, q⟩ := I.base.tbls b ps e
    exact ⟨more, hot b _ q fun x z => by cases z⟩
  · obtain ⟨a1, a2, a3⟩ := I.pin p hp
    exact ⟨a1, hno _ a2, a3⟩
  · exact (I.hok b o (hsub b o e)).stay (fun _ _ _ r => r) (fun c z => hot c _ z fun x y => by cases y) fun c xs z => hot c _ z fun x y => by cases y
end

/-! ### the loop -/
/-- an expression that makes a generator: what it will hand out -/
abbrev TGe (α : Type) := L2.St → Hp → (List α → Hp → Prop) → Prop
structure Made (X : Cx) (k : Nat) {α : Type} (rp : Hp → V → α → Prop) (pins : List (Addr × Obj)) (H : Hp) (ds : List α) (a : Addr) (s : Shared) : Prop where
  ex : ∃ (g n0 : Nat) (gs : GenState), s.heap.IsGen a g ∧ s.gens[g]? = some gs ∧ g < s.gens.size ∧ Young X pins n0 ∧ n0 ≤ a ∧ a < s.heap.objs.size ∧ (∀ b, n0 ≤ b → H b = none) ∧
    ∀ A, Room k A → A.frames = some X.stack → Sus X.prog X.w X.base X.stack n0 A rp ds gs s (fun b => b < a) fun b => n0 ≤ b ∧ b < a
/-- a generator def was called at s -/
structure GnMade (P : Program) (w : World) (base : Heap) (outer : List Env) (k : Nat) {α : Type} (rp : Hp → V → α → Prop) (ds : List α) (s s' : Shared) (a : Addr) : Prop where
  ex : ∃ (g : Nat) (c : Code), s'.heap.IsGen a g ∧ s'.gens[g]? = some (.fresh c) ∧ s.heap.objs.size ≤ a ∧ a < s'.heap.objs.size ∧ s'.os = s.os ∧ AllBare s'.gens ∧ (∀ b o, s.heap.get? b = some o → s'.heap.get? b = some o) ∧
    ∀ A, Room k A → A.frames = some outer → Sus P w base outer s.heap.objs.size A rp ds (.fresh c) s' (fun b => b < a) fun b => s.heap.objs.size ≤ b ∧ b < a
structure PGn (X : Cx) (k : Nat) (e : Expr) {α : Type} (rp : Hp → V → α → Prop) (tg : TGe α) : Prop where
  run : ∀ (pins : List (Addr × Obj)) (s : Shared) (σ : L2.St) (H : Hp) (R : List α → Hp → Prop), Inv X pins σ H s → tg σ H R → wpAny (model X.prog X.w) X.A (eval e X.env)
    (fun u s' => ∃ a ds H1 sc, u = .ref a ∧ R ds H1 ∧ Inv X pins σ H1 sc ∧ GnMade X.prog X.w X.base X.stack k rp ds sc s' a) X.xe s
theorem made_of {X : Cx} {pins : List (Addr × Obj)} {σ : L2.St} {H : Hp} {s s' : Shared} {k : Nat} {α : Type} {rp : Hp → V → α → Prop} {ds : List α} {a : Addr} (I : Inv X pins σ H s) (M : GnMade X.prog X.w X.base X.stack k rp ds s s' a) :
    Inv X pins σ H s' ∧ Made X k rp pins H ds a s' := by
  obtain ⟨g, c, hg, hgs, h1, h2, os, bare, kp, S⟩ := M.ex
  refine ⟨I.call' (ch := []) os (Un.kept kp) (I.hok.kept kp) bare (fun b z => absurd z (by simp)), ⟨g, s.heap.objs.size, _, hg, hgs, (Array.getElem?_eq_some_iff.mp hgs).1, ⟨I.sz, I.lt, fun x c e => ?_, fun p hp => Heap.lt_size (I.pin p hp).1⟩, h1, h2, fun b hb => I.hok.fresh hb, S⟩⟩
  obtain ⟨v, q⟩ := I.cell x c e
  exact q.lt
def tForG {α : Type} (rp : Hp → V → α → Prop) (tg : TGe α) (g : TG) (tb : TS) : TS := fun D σ H => tg σ H fun ds H1 => ∃ W : List α → L2.St → Hp → Prop, W ds σ H1 ∧ (∀ σ H, W [] σ H → D.nx σ H) ∧
  ∀ d ds σ H, W (d :: ds) σ H → ∀ x H2, (∀ b o, H b = some o → H2 b = some o) → rp H2 x d → g x σ H2 fun σ3 H3 => tb { nx := fun σ' H' => KeepF H2 H' ∧ ∀ H4, Dr H H' H4 → W ds σ' H4, ct := fun σ' H' => KeepF H2 H' ∧ ∀ H4, Dr H H' H4 → W ds σ' H4, rt := D.rt } σ3 H3
/-- the reading of an item leans on its tuples alone -/
def ByTups {α : Type} (rp : Hp → V → α → Prop) : Prop := ∀ (T H : Hp) x d, (∀ b xs, T b = some (.tup xs) → Rd H b (.tup xs)) → (∀ b o, T b = some o → ∃ xs, o = .tup xs) → rp T x d → rp H x d

theorem allBare_set {s : Shared} {g : Nat} {x : GenState} (h : AllBare s.gens) (hx : x.bare = true) : AllBare (s.setGen g x).gens := allBare_setGen h hx
theorem bare_map {G : Array GenState} (h : AllBare G) : AllBare (G.map gh) := fun y hy => by
  obtain ⟨x, hx, rfl⟩ := Array.mem_map.mp hy
  rw [bare_gh]
  exact h x hx
theorem bare_mend {T0 G : Array GenState} (h0 : AllBare T0) (h : AllBare G) : AllBare (mend T0 G) := fun y hy => by
  obtain ⟨i, hi, e⟩ := Array.mem_iff_getElem.mp hy
  have q : (mend T0 G)[i]? = some y := by rw [Array.getElem?_eq_getElem hi, e]
  rw [mend_get] at q
  cases z : G[i]? with
  | none => rw [z] at q; cases q
  | some u =>
    rw [z] at q
    have q' : pick T0 i u = y := Option.some.inj q
    rcases awake_or T0 i with a | ⟨x, ex, sx⟩
    · rw [pick_awake a] at q'
      rw [← q']
      exact h u (Array.mem_of_getElem? z)
    · rw [pick_sleeps ex sx] at q'
      rw [← q']
      exact h0 x (Array.mem_of_getElem? ex)

theorem Wakens.quiet {M : Model} {A : Around} {gs : GenState} {s : Shared} {Φ : End → Shared → Prop} (h : Wakens M A gs s Φ) : Wakens M A gs s fun e s1 => e.quiet = true ∧ Φ e s1 :=
  ⟨h.1, fun Γ p c w => let ⟨e, s1, r, q, x⟩ := h.2 Γ p c w; ⟨e, s1, r, q, q, x⟩⟩
theorem stk_lt {X : Cx} {pins : List (Addr × Obj)} {σ : L2.St} {H : Hp} {s : Shared} {n0 : Nat} (I : Inv X pins σ H s) (y : Young X pins n0) {b : Addr} (hb : b ∈ frs X.stack) : b < n0 := by
  rcases List.mem_cons.mp (I.stkSub b hb) with z | z
  · rw [z]; exact y.loc
  · obtain ⟨_, o, ho, _⟩ := I.ok.funs.mem z
    exact Nat.lt_of_lt_of_le (Heap.lt_size ho) y.lo

/-- one turn's heap: what the generator needs is known to stand, its tuples are read -/
noncomputable def chill (H T : Hp) (need : Addr → Prop) (h : Heap) : Hp := fun b => match H b with
  | some o => some o
  | none => by
    classical
    exact if need b then (h.get? b).map fun o => .frz o ((T b).getD dum) else none
theorem chill_old {H T : Hp} {need : Addr → Prop} {h : Heap} {b : Addr} {o : HO} (e : H b = some o) : chill H T need h b = some o := by
  unfold chill
  rw [e]
theorem chill_new {H T : Hp} {need : Addr → Prop} {h : Heap} {b : Addr} {o : Obj} (e : H b = none) (n : need b) (q : h.get? b = some o) : chill H T need h b = some (.frz o ((T b).getD dum)) := by
  classical
  unfold chill
  rw [e]
  exact (if_pos n).trans (by rw [q]; rfl)
theorem chill_not {H T : Hp} {need : Addr → Prop} {h : Heap} {b : Addr} (e : H b = none) (n : ¬ need b) : chill H T need h b = none := by
  classical
  unfold chill
  rw [e]
  exact if_neg n

section
variable {X : Cx} {α : Type} {rp : Hp → V → α → Prop} {tg : TGe α} {g : TG} {tb : TS} {iter target : Expr} {body : List Stmt} {pos : Pos} {k : Nat}
theorem ps_forG (hx : ∀ e s, ¬ X.xe e s) (hr : Room (k + 1) X.A) (hi : PGn X k iter rp tg) (hg : PG X target g) (hb : PSs X body tb) (hT : ByTups rp) (hs : ∀ x, foldedSetIterable iter X.env x = pure x := by intro _; rfl) :
    PS X (.For target iter body [] pos) (tForG rp tg g tb) := by
  refine ⟨fun pins s σ H D I h => ?_⟩
  refine wpAny_For (thn (hi.run pins s σ H _ I h) fun u s1 hu => ?_) hs
  obtain ⟨a, ds, H1, sc, rfl, ⟨W, w0, wend, wturn⟩, Isc, GM⟩ := hu
  obtain ⟨I1, ⟨g0, n0, gs, hgen, hgs, hlt, y, na, alt, hfresh, hsus⟩⟩ := made_of Isc GM
  refine wpAny_pyIter_gen hgen ?_
  have S := hsus X.A.in1 hr.in1 I1.ok.frames
  refine codeAny_forLoop_any (fun n s' => ∃ ds σ' H' gs need pv sY, n = ds.length ∧ Inv X pins σ' H' s' ∧ s'.heap.IsGen a g0 ∧ s'.gens[g0]? = some gs ∧ W ds σ' H' ∧ Sus X.prog X.w X.base X.stack n0 X.A.in1 rp ds gs sY need pv ∧ Wk X.base X.stack n0 need sY s' ∧
    (∀ b, pv b → n0 ≤ b ∧ need b) ∧ (∀ b, need b → n0 ≤ b → H' b = none ∨ ∃ x xs, H' b = some (.frz x (.tup xs)) ∧ ¬ pv b) ∧ H' a = none ∧ ¬ need a) ?_ ds.length
    ⟨ds, σ, H1, gs, _, _, s1, rfl, I1, hgen, hgs, w0, S, ⟨rfl, I1.bare, fun _ _ _ e => e, I1.bk, I1.stack, Nat.le_trans na (Nat.le_of_lt alt)⟩, fun b z => z, fun b z h => .inl (hfresh b h), hfresh a na, Nat.lt_irrefl a⟩
  rintro n s3 ⟨ds, σ3, H3, gs, need, pv, sY, rfl, I3, hgen3, hgs3, w3, S3, wk3, hpv, hnd, ha, hna⟩
  have hl3 : s3.heap.NoLimit := I3.nolimit
  have hd3 : X.A.depth < recursionLimit := hr.depth
  have wkr : Wk X.base X.stack n0 need sY (s3.setGen g0 .running) := ⟨wk3.os, allBare_set wk3.bare rfl, wk3.need, wk3.bs, wk3.funs, wk3.sz⟩
  have Ir : Inv X pins σ3 H3 (s3.setGen g0 .running) := regens I3 (allBare_set I3.bare rfl)
  have hpvH : ∀ b, pv b → H3 b = none := fun b z => by
    rcases hnd b (hpv b z).2 (hpv b z).1 with q | ⟨x, xs, _, q⟩
    · exact q
    · exact absurd z q
  cases ds with
  | nil =>
    refine next_end (Φ := fun s1 => s1.os = s3.os ∧ AllBare s1.gens ∧ Kept (frs X.stack) pv s3.heap s1.heap) hr.hd hl3 hd3 hgen3 hgs3 (S3 _ wkr) fun s4 ⟨os4, b4, kp4⟩ h' hk => ?_
    have I4 : Inv X pins σ3 H3 s4 := passed Ir y kp4 os4 b4 hpvH hpv (fun _ _ e => e) fun b o e n => by rw [n] at e; cases e
    have I5 : Inv X pins σ3 H3 { s4.setGen g0 .finished with heap := h' } := (regens I4 (allBare_set I4.bare (x := .finished) rfl)).kept (t' := s4.toks) hk
    exact wpAny_execs_nil ⟨σ3, H3, I5, wend σ3 H3 w3⟩
  | cons d ds =>
    refine GenW.wpAny_gsz (n := g0 + 1) (Array.getElem?_eq_some_iff.mp hgs3).1 ?_
    refine next_item (Φ := fun v gs1 s4 => sleeps gs1 = true ∧ gs1.bare = true ∧ s4.os = s3.os ∧ AllBare s4.gens ∧ Kept (frs X.stack) pv s3.heap s4.heap ∧ ∃ need1 pv1, ItemAt X.prog X.w n0 rp d v need pv need1 pv1 s3 s4 ∧ Sus X.prog X.w X.base X.stack n0 X.A.in1 rp ds gs1 s4 need1 pv1)
      hl3 hd3 hgen3 hgs3 ((S3 _ wkr).quiet.mono fun e s4 ⟨hq, v, gd, l, k, c, q, fs, he, os4, b4, kp4, need1, pv1, it, S4⟩ => ⟨v, gd, l, k, c, q, fs, he, by rw [he]; rfl, End.bare_of_quiet hq, os4, b4, kp4, need1, pv1, ⟨it.pv, it.nd, it.it⟩, S4⟩) fun v gs1 s4 hφ hsz => ?_
    have hsz4 : g0 < s4.gens.size := by
      have q : (s4.setGen g0 gs1).gens.size = s4.gens.size := GenW.setGen_size _ _ _
      have q2 : g0 + 1 ≤ (s4.setGen g0 gs1).gens.size := hsz
      omega
    obtain ⟨hsl, hbr, os4, b4, kp4, need1, pv1, it, S4⟩ := hφ
    obtain ⟨T, x, TO, rx, hrp⟩ := it.it
    have hna1 : ¬ need1 a := fun z => by
      rcases (it.nd a z).2.2 with q | q
      · exact hna q
      · obtain ⟨o, _, _, ho, _⟩ := hgen3
        exact absurd (Nat.lt_of_lt_of_le (Heap.lt_size ho) q) (Nat.lt_irrefl _)
    have hTa : T a = none := by
      cases q : T a with
      | none => rfl
      | some o => exact absurd (TO.tup a o q).1 hna1
    have hgen4 : s4.heap.IsGen a g0 := by
      obtain ⟨o, nm, qn, ho, r⟩ := hgen3
      refine ⟨o, nm, qn, kp4.keep a o ho (fun z => hna (hpv a z).2) (fun z => ?_), r⟩
      exact absurd (Nat.lt_of_lt_of_le (stk_lt I3 y z) na) (Nat.lt_irrefl _)
    -- what each thing of the generator is in the new heap
    have hC : ∀ b, (need1 b ∨ b = a) → ∃ o u, s4.heap.get? b = some o ∧ chill H3 T (fun b => need1 b ∨ b = a) s4.heap b = some (.frz o u) ∧ ((H3 b = none ∧ u = (T b).getD dum) ∨ (H3 b = some (.frz o u) ∧ ∃ xs, u = .tup xs)) := fun b hb => by
      have hex : ∃ o, s4.heap.get? b = some o := by
        rcases hb with z | z
        · exact (it.nd b z).2.1
        · obtain ⟨o, _, _, ho, _⟩ := hgen4
          exact ⟨o, by rw [z]; exact ho⟩
      obtain ⟨o, ho⟩ := hex
      cases q : H3 b with
      | none => exact ⟨o, _, ho, chill_new q hb ho, .inl ⟨rfl, rfl⟩⟩
      | some u =>
        rcases hb with z | z
        · have hn : need b := by
            rcases (it.nd b z).2.2 with r | r
            · exact r
            · rw [I3.hok.fresh r] at q; cases q
          rcases hnd b hn (it.nd b z).1 with r | ⟨x', xs, r, r2⟩
          · rw [r] at q; cases q
          · rw [q] at r
            cases r
            have e3 : s3.heap.get? b = some x' := (I3.hok b _ q).1
            have e4 : s4.heap.get? b = some x' := kp4.keep b x' e3 r2 fun z' => by rw [I3.stkFree b z'] at q; cases q
            exact ⟨x', _, e4, chill_old q, .inr ⟨rfl, xs, rfl⟩⟩
        · rw [z, ha] at q; cases q
    have hTup : ∀ b o, T b = some o → ∃ xs, o = .tup xs := fun b o e => (TO.tup b o e).2.2
    have I4 : Inv X pins σ3 (chill H3 T (fun b => need1 b ∨ b = a) s4.heap) s4 := by
      refine passed (need := fun b => need b ∨ b = a) Ir y kp4 os4 b4 hpvH (fun b z => ⟨(hpv b z).1, .inl (hpv b z).2⟩) (fun b o e => chill_old e) fun b o e n => ?_
      by_cases hb : need1 b ∨ b = a
      · obtain ⟨o', u, ho, hc, hu⟩ := hC b hb
        rw [e] at hc
        cases hc
        refine ⟨?_, ?_, o', u, rfl, ho, ?_⟩
        · rcases hb with z | z
          · exact (it.nd b z).1
          · rw [z]; exact na
        · rcases hb with z | z
          · rcases (it.nd b z).2.2 with r | r
            · exact .inl (.inl r)
            · exact .inr r
          · exact .inl (.inr z)
        · rcases hu with ⟨_, hu⟩ | ⟨z, _⟩
          · rw [hu]
            cases q : T b with
            | none => exact ⟨trivial, ⟨o', ho⟩, fun _ _ _ _ => trivial⟩
            | some t =>
              obtain ⟨xs, rfl⟩ := hTup b t q
              exact TO.ok b _ q
          · rw [n] at z; cases z
      · rw [chill_not n hb] at e; cases e
    have I5 : Inv X pins σ3 (chill H3 T (fun b => need1 b ∨ b = a) s4.heap) (s4.setGen g0 gs1) := regens I4 (allBare_set I4.bare hbr)
    obtain ⟨og, nm, qn, hog, hogc, hogd, hogs⟩ := id hgen4
    refine go_of (s := s4.setGen g0 gs1) (n := "generator") hog hogc hogd (by decide) ?_
    have rd : rp (chill H3 T (fun b => need1 b ∨ b = a) s4.heap) x d := hT T _ x d (fun b xs e => by
      have hn := (TO.tup b _ e).1
      obtain ⟨o, u, ho, hc, hu⟩ := hC b (.inl hn)
      rcases hu with ⟨_, hu⟩ | ⟨hz, ys, hu⟩
      · rw [e] at hu
        exact .inr ⟨o, by rw [hc, hu]; rfl⟩
      · subst hu
        have o1 : ObjOk X.prog X.w _ s4.heap b (.tup ys) := (I4.hok b _ hc).2
        have o2 : ObjOk X.prog X.w _ s4.heap b (.tup xs) := TO.ok b _ e
        obtain ⟨_, its, r1, ob, e1, _, n1, d1⟩ := o1
        obtain ⟨_, its2, r2, ob2, e2, _, n2, d2⟩ := o2
        rw [e1] at e2
        cases e2
        rw [d1] at d2
        have d3 : its.toArray = its2.toArray := by injection d2
        have d4 : its = its2 := by simpa using congrArg Array.toList d3
        subst d4
        rw [r1.inj r2] at hc
        exact .inr ⟨o, hc⟩) hTup hrp
    have stp := wturn d ds σ3 H3 w3 x _ (fun b o e => chill_old e) rd
    have hgs5 : (s4.setGen g0 gs1).gens[g0]? = some gs1 := setGen_at hsz4
    have dI : ∀ {pins : List (Addr × Obj)} {σ : L2.St} {H : Hp} {s : Shared}, Inv X pins σ H s → Inv X pins σ H (dead s) := fun J => regens J (bare_map J.bare)
    have mI : ∀ {pins : List (Addr × Obj)} {σ : L2.St} {H : Hp} {s s2 : Shared}, AllBare s.gens → Inv X pins σ H s2 → Inv X pins σ H (mendS s.gens s2) := fun h J => regens J (bare_mend h J.bare)
    refine wpAny_mono (wpAny_dead (hg.run pins (dead (s4.setGen g0 gs1)) σ3 _ x v _ (dI I5) rx stp)) (fun _ s6 h6 => ?_) (fun e s6 ⟨_, _, _, h6⟩ => absurd h6 (hx e _))
    obtain ⟨s6', rfl, sl6, σ6, H6, I6', q6⟩ := h6
    have I6 := mI I5.bare I6'
    refine wpAny_mono (wpAny_dead (hb.run pins _ σ6 H6 _ (dI I6) q6)) (fun f s7 h7 => ?_) (fun e s7 ⟨_, _, _, h7⟩ => absurd h7 (hx e _))
    obtain ⟨s7', rfl, sl7, h7⟩ := h7
    have hgs7 : (mendS (mendS (s4.setGen g0 gs1).gens s6').gens s7').gens[g0]? = some gs1 := sl7 g0 gs1 (sl6 g0 gs1 hgs5 hsl) hsl
    have again : ∀ {σ7 : L2.St} {H7 : Hp}, Inv X pins σ7 H7 s7' → (KeepF (chill H3 T (fun b => need1 b ∨ b = a) s4.heap) H7 ∧ ∀ H8, Dr H3 H7 H8 → W ds σ7 H8) →
        ∃ m, m < (d :: ds).length ∧ ∃ ds σ' H' gs need pv sY, m = ds.length ∧ Inv X pins σ' H' (mendS (mendS (s4.setGen g0 gs1).gens s6').gens s7') ∧ (mendS (mendS (s4.setGen g0 gs1).gens s6').gens s7').heap.IsGen a g0 ∧ (mendS (mendS (s4.setGen g0 gs1).gens s6').gens s7').gens[g0]? = some gs ∧ W ds σ' H' ∧ Sus X.prog X.w X.base X.stack n0 X.A.in1 rp ds gs sY need pv ∧ Wk X.base X.stack n0 need sY (mendS (mendS (s4.setGen g0 gs1).gens s6').gens s7') ∧
    (∀ b, pv b → n0 ≤ b ∧ need b) ∧ (∀ b, need b → n0 ≤ b → H' b = none ∨ ∃ x xs, H' b = some (.frz x (.tup xs)) ∧ ¬ pv b) ∧ H' a = none ∧ ¬ need a := fun {σ7 H7} I7' ⟨kf, hW⟩ => by
      classical
      have I7 := mI I6.bare I7'
      have hD : ∀ b, (H3 b = none ∧ (need1 b ∨ b = a) ∧ T b = none) → ∃ x, H7 b = some (.frz x dum) := fun b ⟨h1, h2, h3⟩ => by
        obtain ⟨o, u, ho, hc, hu⟩ := hC b h2
        rcases hu with ⟨_, hu⟩ | ⟨hz, _⟩
        · rw [h3] at hu
          have hu' : u = dum := hu
          subst hu'
          exact ⟨o, kf b o _ hc⟩
        · rw [h1] at hz; cases hz
      have kpt : ∀ b, (need1 b ∨ b = a) → ∀ o, s4.heap.get? b = some o → (mendS (mendS (s4.setGen g0 gs1).gens s6').gens s7').heap.get? b = some o := fun b hb o ho => by
        obtain ⟨o', u, ho', hc, _⟩ := hC b hb
        rw [ho] at ho'
        cases ho'
        exact (I7.hok b _ (kf b o u hc)).1
      refine ⟨ds.length, Nat.lt_succ_self _, ds, σ7, fun b => if (H3 b = none ∧ (need1 b ∨ b = a) ∧ T b = none) then none else H7 b, gs1, need1, pv1, s4, rfl, ?_, ?_, hgs7, hW _ ⟨fun b o e n => ?_, fun b o e => ?_⟩, S4, ⟨I7.os.trans (I4.os).symm, I7.bare, fun b o hb ho => kpt b (.inl hb) o ho, I7.bk, I7.stack, ?_⟩, fun b z => ⟨(it.nd b (it.pv b z).1).1, (it.pv b z).1⟩, fun b z hz => ?_, ?_, hna1⟩
      · refine forget I7 (D := fun b => H3 b = none ∧ (need1 b ∨ b = a) ∧ T b = none) (fun b hb => ?_) (fun b hb => if_pos hb) fun b hb => if_neg hb
        obtain ⟨x', hx'⟩ := hD b hb
        exact ⟨x', hx', fun o u z => by
          have q := I3.base.frzs b o u z
          rw [hb.1] at q; cases q⟩
      · obtain ⟨o, nm', qn', ho, r⟩ := hgen4
        exact ⟨o, nm', qn', kpt a (.inr rfl) o ho, r⟩
      · by_cases hb : H3 b = none ∧ (need1 b ∨ b = a) ∧ T b = none
        · obtain ⟨x', hx'⟩ := hD b hb
          rw [e] at hx'
          rcases n with n | n
          · exact absurd hb.1 n
          · exact absurd (Option.some.inj hx') (n x')
        · exact (if_neg hb).trans e
      · by_cases hb : H3 b = none ∧ (need1 b ∨ b = a) ∧ T b = none
        · exact absurd ((if_pos hb).symm.trans e) (by intro z; cases z)
        · exact (if_neg hb).symm.trans e
      · obtain ⟨o, _, _, ho, _⟩ := hgen4
        exact Nat.le_trans na (Nat.le_of_lt (Heap.lt_size (kpt a (.inr rfl) o ho)))
      · by_cases hb : H3 b = none ∧ (need1 b ∨ b = a) ∧ T b = none
        · exact .inl (if_pos hb)
        · refine .inr ?_
          obtain ⟨o, u, ho, hc, hu⟩ := hC b (.inl z)
          rcases hu with ⟨h1, hu⟩ | ⟨h1, xs, hu⟩
          · cases q : T b with
            | none => exact absurd ⟨h1, .inl z, q⟩ hb
            | some t =>
              obtain ⟨xs, rfl⟩ := hTup b t q
              rw [q] at hu
              exact ⟨o, xs, (if_neg hb).trans (by rw [kf b o u hc, hu]; rfl), (TO.tup b _ q).2.1⟩
          · refine ⟨o, xs, (if_neg hb).trans (by rw [kf b o u hc, hu]), fun hp => ?_⟩
            rcases (it.pv b hp).2 with r | r
            · rw [hpvH b r] at h1; cases h1
            · rw [I3.hok.fresh r] at h1; cases h1
      · exact if_pos ⟨ha, .inr rfl, hTa⟩
    cases f with
    | next =>
      obtain ⟨σ7, H7, I7, q7⟩ := h7
      exact again I7 q7
    | cont =>
      obtain ⟨σ7, H7, I7, q7⟩ := h7
      exact again I7 q7
    | brk =>
      obtain ⟨_, _, _, q7⟩ := h7
      exact False.elim q7
    | ret v =>
      obtain ⟨x7, σ7, H7, I7, r7, q7⟩ := h7
      exact ⟨x7, σ7, H7, mI I6.bare I7, r7, q7⟩
end
end Wg
set_option maxRecDepth 100000
set_option maxHeartbeats 1000000
/-! heaps grow: what is gone stays gone -/
namespace Wg
open PySem
open Sem (wp)

def Grow (s s' : Shared) : Prop := s.heap.objs.size ≤ s'.heap.objs.size ∧ ∀ b, b < s.heap.objs.size → s.heap.get? b = none → s'.heap.get? b = none
theorem Grow.refl (s : Shared) : Grow s s := ⟨Nat.le_refl _, fun _ _ h => h⟩
theorem Grow.trans {a b c : Shared} (h : Grow a b) (k : Grow b c) : Grow a c := ⟨Nat.le_trans h.1 k.1, fun x hx e => k.2 x (Nat.lt_of_lt_of_le hx h.1) (h.2 x hx e)⟩
theorem grow_heap {s s' : Shared} (h : s'.heap = s.heap) : Grow s s' := ⟨by rw [h]; exact Nat.le_refl _, fun b _ e => by rw [h]; exact e⟩
theorem grow_update {s : Shared} {a : Addr} {f : Obj → Obj} (h : (s.heap.get? a).isSome) : Grow s { s with heap := s.heap.update a f } :=
  ⟨Nat.le_of_eq (Heap.size_update _ _ _).symm, fun b _ e => by
    have ne : a ≠ b := fun z => by rw [z, e] at h; cases h
    exact (Heap.get?_update_other _ f ne).trans e⟩
theorem grow_push {s : Shared} {o : Obj} : Grow s { s with heap := s.heap.push o } :=
  ⟨by show _ ≤ (s.heap.push o).objs.size; rw [Heap.size_push]; exact Nat.le_succ _, fun b hb e => by
    show (s.heap.push o).get? b = none
    have q : (s.heap.push o).objs[b]? = s.heap.objs[b]? := by
      cases h : s.heap with
      | mk ob l =>
        rw [h] at hb
        show (ob.push o)[b]? = ob[b]?
        rw [Array.getElem?_push, if_neg (Nat.ne_of_lt hb)]
    unfold Heap.get? at e ⊢
    rw [q]
    exact e⟩
theorem runs_grow {M : Model} {Γ : Ctx} {p : Pos} {t : Sem PySem.Fin} {fs : List Frame} {s s' : Shared} {e : End} (h : Runs M Γ p t fs s e s') : Grow s s' := by
  induction h with
  | done => exact .refl _
  | raise => exact .refl _
  | «yield» => exact .refl _
  | update ho _ ih => exact (grow_update ho).trans ih
  | alloc _ ih => exact grow_push.trans ih
  | call _ _ i1 i2 => exact i1.trans i2
  | resumeFresh _ _ _ _ i1 i2 => exact ((grow_heap rfl).trans i1).trans ((grow_heap rfl).trans i2)
  | resumeSuspended _ _ _ _ i1 i2 => exact ((grow_heap rfl).trans i1).trans ((grow_heap rfl).trans i2)
  | segRet _ _ i1 i2 => exact i1.trans i2
  | segGen _ _ i1 i2 => exact i1.trans ((grow_heap rfl).trans i2)
  | segSuspOut _ _ ih => exact ih
  | segSuspGen _ _ _ _ i1 i2 => exact i1.trans ((grow_heap rfl).trans i2)
  | again _ _ ih => exact ih
  | rule _ ih => exact ih
  | «at» _ ih => exact ih
  | load _ _ ih => exact ih
  | loadIfAlive _ ih => exact ih
  | point _ ih => exact ih
  | fresh _ ih => exact (grow_heap rfl).trans ih
  | ask _ ih => exact ih
  | choose _ _ ih => exact (grow_heap rfl).trans ih
  | os _ ih => exact (grow_heap rfl).trans ih
  | handled _ ih => exact ih
  | genState _ _ ih => exact ih
  | stack _ ih => exact ih
  | thread _ ih => exact ih
  | newGen _ ih => exact (grow_heap rfl).trans ih
  | callSusp _ ih => exact ih
  | resumeJustStarted _ _ _ ih => exact ih
  | resumeThrowFresh _ _ ih => exact (grow_heap rfl).trans ih
  | resumeRunning _ _ ih => exact ih
  | resumeFinished _ _ ih => exact ih
theorem wakes_grow {M : Model} {Γ : Ctx} {p : Pos} {g : Nat} {r : Resume} {s s' : Shared} {res : GenResult} (h : Wakes M Γ p g r s res s') : Grow s s' := by
  unfold Wakes at h
  split at h
  · exact h.elim
  · split at h
    · obtain ⟨_, _, hr, _, _, rfl⟩ := h
      exact ((grow_heap rfl).trans (runs_grow hr)).trans (grow_heap rfl)
    · rw [h.2]; exact .refl _
    · rw [h.2]; exact grow_heap rfl
  · obtain ⟨_, _, hr, _, _, rfl⟩ := h
    exact ((grow_heap rfl).trans (runs_grow hr)).trans (grow_heap rfl)
  · rw [h.2]; exact .refl _
  · rw [h.2]; exact .refl _
theorem wp_grow {α : Type} (M : Model) (Γ : Ctx) (s0 : Shared) (t : Sem α) : ∀ (Q : α → Pos → Shared → Prop) (E : Value → Pos → Shared → Prop) (p : Pos) (s : Shared), Grow s0 s → wp M Γ t Q E p s →
    wp M Γ t (fun a p' s' => Grow s0 s' ∧ Q a p' s') (fun e p' s' => Grow s0 s' ∧ E e p' s') p s := by
  induction t with
  | pure a => intro Q E p s g h; exact ⟨g, h⟩
  | raise e => intro Q E p s g h; exact ⟨g, h⟩
  | unsupported _ => intro Q E p s _ h; exact h
  | finish _ => intro Q E p s _ h; exact h
  | rule _ k ih => intro Q E p s g h; exact ih () Q E p s g h
  | «at» p' k ih => intro Q E p s g h; exact ih () Q E p' s g h
  | load a _ k ih => intro Q E p s g h; obtain ⟨o, ho, h⟩ := h; exact ⟨o, ho, ih o Q E p s g h⟩
  | update a _ f k ih => intro Q E p s g h; exact ⟨h.1, ih () Q E p _ (g.trans (grow_update h.1)) h.2⟩
  | loadIfAlive a k ih => intro Q E p s g h; exact ih _ Q E p s g h
  | point _ k ih => intro Q E p s g h; exact ih () Q E p s g h
  | register _ _ => intro Q E p s _ h; exact h
  | alloc o k ih => intro Q E p s g h; exact ih _ Q E p _ (g.trans grow_push) h
  | fresh k ih => intro Q E p s g h; exact ih _ Q E p _ (g.trans (grow_heap rfl)) h
  | ask k ih => intro Q E p s g h; exact ih _ Q E p s g h
  | choose src m k ih => intro Q E p s g h; exact ⟨h.1, ih _ Q E p _ (g.trans (grow_heap rfl)) h.2⟩
  | os q _ k ih => intro Q E p s g h; exact ih _ Q E p _ (g.trans (grow_heap rfl)) h
  | call c hd _ _ k ih =>
    intro Q E p s g h
    obtain ⟨r, s', hr, h⟩ := h
    exact ⟨r, s', hr, ih r Q E p s' (g.trans (runs_grow (show Runs _ _ _ _ _ _ _ _ from hr))) h⟩
  | handled own k ih => intro Q E p s g h; exact ih _ Q E p s g h
  | genState g' k ih => intro Q E p s g h; obtain ⟨st, hs, h⟩ := h; exact ⟨st, hs, ih _ Q E p s g h⟩
  | newGen c k ih => intro Q E p s g h; exact ih _ Q E p _ (g.trans (grow_heap rfl)) h
  | resume g' r _ k ih => intro Q E p s g h; obtain ⟨res, s', hw, h⟩ := h; exact ⟨res, s', hw, ih res Q E p s' (g.trans (wakes_grow hw)) h⟩
  | «yield» _ _ _ _ => intro Q E p s _ h; exact h
  | stack k ih => intro Q E p s g h; exact ih _ Q E p s g h
  | fork _ _ => intro Q E p s _ h; exact h
  | thread k ih => intro Q E p s g h; exact ih _ Q E p s g h
  | await _ _ _ _ _ => intro Q E p s _ h; exact h
theorem wpAny_grow {α : Type} {M : Model} {A : Around} {s : Shared} {t : Sem α} {Q : α → Shared → Prop} {E : Value → Shared → Prop} (h : wpAny M A t Q E s) : wpAny M A t (fun a s' => Grow s s' ∧ Q a s') (fun e s' => Grow s s' ∧ E e s') s :=
  fun Γ p hΓ => wp_grow M Γ s t _ _ p s (.refl s) (h Γ p hΓ)
end Wg
set_option maxRecDepth 100000
set_option maxHeartbeats 1000000
/-! a generator's frame, woken again and again -/
namespace Wg
open PySem L2 PyProof.Rows

def cutH (n : Nat) (h : Heap) : Heap := ⟨h.objs.extract 0 n, h.life⟩
theorem cutH_lt {n : Nat} {h : Heap} {b : Addr} (hb : b < n) : (cutH n h).get? b = h.get? b := by
  have q : (cutH n h).objs[b]? = h.objs[b]? := by
    show (h.objs.extract 0 n)[b]? = h.objs[b]?
    have e0 : ∀ (i : Nat), i < n → (h.objs.extract 0 n)[i]? = h.objs[i]? := fun i hi => by
      simp [Array.getElem?_extract]
      intro z; omega
    exact e0 b hb
  unfold Heap.get?
  rw [q]
theorem cutH_ge {n : Nat} {h : Heap} {b : Addr} (hb : n ≤ b) : (cutH n h).get? b = none := by
  apply Heap.get?_none_of_le
  show (h.objs.extract 0 n).size ≤ b
  rw [Array.size_extract]
  omega
theorem cutH_size {n : Nat} {h : Heap} (hn : n ≤ h.objs.size) : (cutH n h).objs.size = n := by
  show (h.objs.extract 0 n).size = n
  rw [Array.size_extract]
  omega
def cutS (n : Nat) (s : Shared) : Shared := { s with heap := cutH n s.heap }

structure Fam where
  P : Program
  w : World
  K : PySem.W.Frag
  mg : Str → Option Value
  base : Heap
  N : List Str
  qual : Str
  scope : Scope
  f : Addr
  cdv : Value
  A : Around
  outer : List Env
  n0 : Nat
def Fam.env (F : Fam) : Env := envOfC F.qual F.scope F.n0 F.f F.cdv
def Fam.cx (F : Fam) (s0 : Shared) (H0 : Hp) : Cx where
  prog := F.P
  w := F.w
  K := F.K
  mg := F.mg
  base := F.base
  A := F.A.deeper (envOfC F.qual F.scope F.n0 F.f F.cdv)
  N := F.N
  s_0 := s0
  H_0 := H0
  env := envOfC F.qual F.scope F.n0 F.f F.cdv
  outer := F.outer
  stack := envOfC F.qual F.scope F.n0 F.f F.cdv :: F.outer
  ex := []
  fn := fun _ => true
  calm := true
  pn := []
  xe := fun _ _ => False

section
variable {F : Fam} {ip : List (Addr × Obj)} {σ : L2.St} {H : Hp} {s s' s2 : Shared}
theorem fam_locals {s0 : Shared} {Hq : Hp} : (F.cx s0 Hq).env.locals = F.n0 := rfl
theorem fam_le {s0 : Shared} {Hq : Hp} (I : Inv (F.cx s0 Hq) ip σ H s) : s0.heap.objs.size ≤ F.n0 := I.ok.above
theorem fam_fr {s0 : Shared} {Hq : Hp} (I : Inv (F.cx s0 Hq) ip σ H s) {b : Addr} (hb : b ∈ frs F.outer) : b < F.n0 := by
  obtain ⟨_, o, ho, _⟩ := I.ok.funs.mem hb
  exact Nat.lt_of_lt_of_le (Heap.lt_size ho) (fam_le I)
theorem funs_cut {base h : Heap} {n : Nat} : ∀ {l : List Env}, h.FunFrames base l → (∀ b ∈ frs l, b < n) → (cutH n h).FunFrames base l
  | [], _, _ => trivial
  | env :: r, hl, hn => by
    obtain ⟨hk, ⟨L, o, hf, hb, ho, hd⟩, hr⟩ := hl
    refine ⟨hk, ⟨L, o, hf, hb, ?_, hd⟩, funs_cut hr fun b z => hn b ?_⟩
    · rw [cutH_lt (hn L (by unfold frs; rw [List.filterMap_cons, hf]; exact List.mem_cons_self))]
      exact ho
    · unfold frs
      rw [List.filterMap_cons]
      cases q : env.frame with
      | none => exact z
      | some L' => exact List.mem_cons_of_mem _ z
/-- its own things: the frame's names, the cells, the iterators -/
def Priv (F : Fam) (ip : List (Addr × Obj)) (b : Addr) : Prop := b = F.n0 ∨ (∃ x, F.env.cells.lookup x = some b) ∨ ∃ p ∈ ip, p.1 = b
theorem rebase {s0 : Shared} {Hq Hw : Hp} (I : Inv (F.cx s0 Hq) ip σ H s) (bare : AllBare s2.gens) (kp : ∀ b o, Priv F ip b → s.heap.get? b = some o → s2.heap.get? b = some o) (bs : ∀ b o, F.base.get? b = some o → s2.heap.get? b = some o)
    (funs : s2.heap.FunFrames F.base F.outer) (sz : F.n0 ≤ s2.heap.objs.size) (hcell : ∀ x c, F.env.cells.lookup x = some c → F.n0 ≤ c) (hb : ∀ b o, F.base.get? b = some o → Hw b = none) (hf : ∀ b ∈ frs F.outer, Hw b = none) (hp : ∀ b, Priv F ip b → Hw b = none) (hok : HOk F.P F.w Hw s2.heap) :
    Inv (F.cx (cutS F.n0 s2) Hw) ip σ Hw s2 := by
  have hcs : (cutS F.n0 s2).heap.objs.size = F.n0 := cutH_size sz
  have bz : F.base.objs.size ≤ F.n0 := Nat.le_trans I.ok.bsz (fam_le I)
  have okk : (F.cx (cutS F.n0 s2) Hw).Ok := ⟨I.ok.mod, I.ok.kind, rfl, rfl, Nat.le_of_eq hcs, I.ok.inj, I.ok.has, fun x c _ e => (by rw [show (F.cx (cutS F.n0 s2) Hw).s_0.heap.objs.size = F.n0 from hcs]; exact hcell x c e), I.ok.hd, I.ok.frames, I.ok.stk, fun b z => absurd z (by simp [Fam.cx]), fun b o e => ⟨?_, hb b o e⟩, ?_, fun b o e z => absurd z (by simp [Fam.cx]), fun b z => absurd z (by simp [Fam.cx]), ?_, fun b z => hf b z⟩
  · refine ⟨okk, rfl, bare, ⟨fun b o e n h1 h2 => ?_, fun b o e n h1 h2 => ?_, fun b o e n _ => n, fun b o e _ => ?_, fun _ _ e => e, fun _ _ _ e => e, fun b ps e => ⟨#[], (show Hw b = _ from e).trans (by simp)⟩⟩, ?_, fun x c e => ?_, hp _ (.inl rfl), fun x c e => hp c (.inr (.inl ⟨x, e⟩)), fun p hpp => ?_, hok, I.len⟩
    · by_cases z : b < F.n0
      · exact (cutH_lt z).symm.trans e
      · rw [show (F.cx (cutS F.n0 s2) Hw).s_0.heap.get? b = none from cutH_ge (Nat.le_of_not_lt z)] at e; cases e
    · by_cases z : b < F.n0
      · exact ⟨o.slots, (cutH_lt z).symm.trans e⟩
      · rw [show (F.cx (cutS F.n0 s2) Hw).s_0.heap.get? b = none from cutH_ge (Nat.le_of_not_lt z)] at e; cases e
    · by_cases z : b < F.n0
      · exact ⟨o, (cutH_lt z).symm.trans e⟩
      · rw [show (F.cx (cutS F.n0 s2) Hw).s_0.heap.get? b = none from cutH_ge (Nat.le_of_not_lt z)] at e; cases e
    · obtain ⟨m, ⟨o, es, ep, ho, hr⟩, hl⟩ := I.loc
      refine ⟨m, ⟨o, es, ep, kp _ o (.inl rfl) ho, hr⟩, fun i x v e1 e2 e3 => ?_⟩
      obtain ⟨u, r, l⟩ := hl i x v e1 e2 e3
      refine ⟨u, r, ?_⟩
      rcases l with l | ⟨k, c, e, ⟨oc, hoc, hdc⟩⟩
      · exact .inl l
      · exact .inr ⟨k, c, e, ⟨oc, kp c oc (.inr (.inl ⟨x, e⟩)) hoc, hdc⟩⟩
    · obtain ⟨v, oc, hoc, hdc⟩ := I.cell x c e
      exact ⟨v, oc, kp c oc (.inr (.inl ⟨x, e⟩)) hoc, hdc⟩
    · have hpi : p ∈ ip := hpp
      obtain ⟨a1, a2, a3⟩ := I.pin p hpp
      exact ⟨kp p.1 p.2 (.inr (.inr ⟨p, hpi, rfl⟩)) a1, hp p.1 (.inr (.inr ⟨p, hpi, rfl⟩)), a3⟩
  · have hlt : b < F.n0 := Nat.lt_of_lt_of_le (Heap.lt_size e) bz
    exact (cutH_lt hlt).trans (bs b o e)
  · show F.base.objs.size ≤ (cutH F.n0 s2.heap).objs.size
    rw [cutH_size sz]; exact bz
  · exact funs_cut funs fun b z => fam_fr I z
end

structure HwOk (F : Fam) (H0 : Hp) (s' : Shared) (need pv : Addr → Prop) (Hw : Hp) : Prop where
  frz : ∀ b o, Hw b = some o → ∃ x u, o = .frz x u ∧ s'.heap.get? b = some x
  lo : ∀ b, b < F.n0 → Hw b ≠ none → H0 b ≠ none
  hi : ∀ b o, F.n0 ≤ b → s'.heap.get? b = some o → ¬ pv b → Hw b ≠ none
  nd : ∀ b x u, F.n0 ≤ b → Hw b = some (.frz x u) → u = dum ∨ need b
/-- woken at s', it runs and stands at s: its slots, its heap -/
structure At (F : Fam) (H0 : Hp) (s' : Shared) (need pv : Addr → Prop) (ip : List (Addr × Obj)) (σ : L2.St) (H : Hp) (s : Shared) : Prop where
  ex : ∃ Hw, HwOk F H0 s' need pv Hw ∧ Inv (F.cx (cutS F.n0 s') Hw) ip σ H s
  gr : Grow s' s
  sz : F.n0 ≤ s'.heap.objs.size
  cl : ∀ x c, F.env.cells.lookup x = some c → F.n0 ≤ c
  pv0 : pv F.n0
  pvC : ∀ x c, F.env.cells.lookup x = some c → pv c
  pvn : ∀ b, pv b → need b ∧ F.n0 ≤ b
  ip : ∀ p ∈ ip, F.n0 ≤ p.1 ∧ (pv p.1 ∨ s'.heap.objs.size ≤ p.1)
section
variable {F : Fam} {H0 : Hp} {ip : List (Addr × Obj)} {σ : L2.St} {H : Hp} {s s' s2 : Shared} {need pv : Addr → Prop}
theorem At.os (a : At F H0 s' need pv ip σ H s) : s.os = s'.os := let ⟨_, _, I⟩ := a.ex; I.os
theorem At.bare (a : At F H0 s' need pv ip σ H s) : AllBare s.gens := let ⟨_, _, I⟩ := a.ex; I.bare
theorem At.hok (a : At F H0 s' need pv ip σ H s) : HOk F.P F.w H s.heap := let ⟨_, _, I⟩ := a.ex; I.hok
theorem At.noex {s0 : Shared} {Hq : Hp} {b : Addr} : b ∉ (F.cx s0 Hq).ex := fun z => absurd z (by simp [Fam.cx])
theorem At.kept (a : At F H0 s' need pv ip σ H s) : Kept (frs F.outer) pv s'.heap s.heap := by
  obtain ⟨Hw, hw, I⟩ := a.ex
  have fz : ∀ b o, Hw b ≠ none → s'.heap.get? b = some o → s.heap.get? b = some o := fun b o n e => by
    cases q : Hw b with
    | none => exact absurd q n
    | some u =>
      obtain ⟨x, u', rfl, hx⟩ := hw.frz b u q
      rw [e] at hx
      cases hx
      exact (I.hok b _ (I.base.frzs b _ _ q)).1
  have kp : ∀ b o, s'.heap.get? b = some o → ¬ pv b → b ∉ frs F.outer → s.heap.get? b = some o := fun b o e n hf => by
    by_cases q : Hw b = none
    · by_cases z : b < F.n0
      · exact I.base.keep b o ((cutH_lt z).trans e) q hf At.noex
      · exact absurd q (hw.hi b o (Nat.le_of_not_lt z) e n)
    · exact fz b o q e
  refine ⟨kp, fun b o e n => ?_, a.gr.1⟩
  by_cases hf : b ∈ frs F.outer
  · have z := fam_fr I hf
    exact I.base.slot b o ((cutH_lt z).trans e) (I.ok.frf b hf) hf At.noex
  · exact ⟨o.slots, kp b o e n hf⟩

/-- its own lists and tuples, as they stand -/
def froz (n0 : Nat) (H : Hp) (h : Heap) : Hp := fun b => if n0 ≤ b then (match H b, h.get? b with
  | some (.lst xs), some o => some (.frz o (.lst xs))
  | some (.tup xs), some o => some (.frz o (.tup xs))
  | some (.frz x (.lst xs)), some _ => some (.frz x (.lst xs))
  | some (.frz x (.tup xs)), some _ => some (.frz x (.tup xs))
  | _, _ => none) else none
def IsSeq (u : HO) : Prop := ∃ xs, u = .lst xs ∨ u = .tup xs
theorem froz_out {n0 : Nat} {H : Hp} {h : Heap} {b : Addr} {o : HO} (hok : ∀ b x u, H b = some (.frz x u) → h.get? b = some x) (e : froz n0 H h b = some o) : n0 ≤ b ∧ ∃ x u, o = .frz x u ∧ IsSeq u ∧ h.get? b = some x ∧ Rd H b u := by
  unfold froz at e
  split at e
  · rename_i hn
    refine ⟨hn, ?_⟩
    split at e
    · rename_i xs x h1 h2; cases e; exact ⟨_, _, rfl, ⟨xs, .inl rfl⟩, h2, .inl h1⟩
    · rename_i xs x h1 h2; cases e; exact ⟨_, _, rfl, ⟨xs, .inr rfl⟩, h2, .inl h1⟩
    · rename_i x xs y h1 h2; cases e; exact ⟨_, _, rfl, ⟨xs, .inl rfl⟩, hok b _ _ h1, .inr ⟨x, h1⟩⟩
    · rename_i x xs y h1 h2; cases e; exact ⟨_, _, rfl, ⟨xs, .inr rfl⟩, hok b _ _ h1, .inr ⟨x, h1⟩⟩
    · cases e
  · cases e
theorem froz_in {n0 : Nat} {H : Hp} {h : Heap} {b : Addr} {u : HO} {x : Obj} (hn : n0 ≤ b) (hu : IsSeq u) (r : Rd H b u) (hx : h.get? b = some x) : ∃ y, froz n0 H h b = some (.frz y u) := by
  unfold froz
  rw [if_pos hn]
  obtain ⟨xs, rfl | rfl⟩ := hu
  · rcases r with r | ⟨y, r⟩ <;> rw [r, hx] <;> exact ⟨_, rfl⟩
  · rcases r with r | ⟨y, r⟩ <;> rw [r, hx] <;> exact ⟨_, rfl⟩
noncomputable def wokeH (n0 : Nat) (G : Hp) (pr : Addr → Prop) (h : Heap) : Hp := fun b => match G b with
  | some o => some o
  | none => by
    classical
    exact if n0 ≤ b ∧ ¬ pr b then (h.get? b).map fun o => .frz o dum else none
theorem woke_old {n0 : Nat} {G : Hp} {pr : Addr → Prop} {h : Heap} {b : Addr} {o : HO} (e : G b = some o) : wokeH n0 G pr h b = some o := by
  unfold wokeH
  rw [e]
theorem woke_new {n0 : Nat} {G : Hp} {pr : Addr → Prop} {h : Heap} {b : Addr} (e : G b = none) (hc : n0 ≤ b ∧ ¬ pr b) : wokeH n0 G pr h b = (h.get? b).map fun o => .frz o dum := by
  classical
  unfold wokeH
  rw [e]
  exact if_pos hc
theorem woke_not {n0 : Nat} {G : Hp} {pr : Addr → Prop} {h : Heap} {b : Addr} (e : G b = none) (hc : ¬ (n0 ≤ b ∧ ¬ pr b)) : wokeH n0 G pr h b = none := by
  classical
  unfold wokeH
  rw [e]
  exact if_neg hc
theorem woke_out {n0 : Nat} {G : Hp} {pr : Addr → Prop} {h : Heap} {b : Addr} {o : HO} (e : wokeH n0 G pr h b = some o) : G b = some o ∨ (G b = none ∧ n0 ≤ b ∧ ¬ pr b ∧ ∃ x, h.get? b = some x ∧ o = .frz x dum) := by
  cases q : G b with
  | some u =>
    rw [woke_old q] at e
    exact .inl e
  | none =>
    refine .inr ⟨rfl, ?_⟩
    by_cases hc : n0 ≤ b ∧ ¬ pr b
    · rw [woke_new q hc] at e
      cases z : h.get? b with
      | none => rw [z] at e; cases e
      | some x =>
        rw [z] at e
        exact ⟨hc.1, hc.2, x, rfl, (Option.some.inj e).symm⟩
    · rw [woke_not q hc] at e; cases e

def need1 (F : Fam) (ip : List (Addr × Obj)) (H : Hp) (s : Shared) (b : Addr) : Prop := Priv F ip b ∨ froz F.n0 H s.heap b ≠ none
def tupsOf (F : Fam) (H : Hp) (s : Shared) : Hp := fun b => match froz F.n0 H s.heap b with
  | some (.frz _ (.tup xs)) => some (.tup xs)
  | _ => none
theorem tupsOf_out {b : Addr} {o : HO} (e : tupsOf F H s b = some o) : ∃ x xs, o = .tup xs ∧ froz F.n0 H s.heap b = some (.frz x (.tup xs)) := by
  unfold tupsOf at e
  split at e
  · rename_i x xs h; cases e; exact ⟨x, xs, rfl, h⟩
  · cases e
theorem At.priv (a : At F H0 s' need pv ip σ H s) {b : Addr} (h : Priv F ip b) : F.n0 ≤ b ∧ (pv b ∨ s'.heap.objs.size ≤ b) ∧ H b = none ∧ ∃ o, s.heap.get? b = some o := by
  obtain ⟨Hw, hw, I⟩ := a.ex
  rcases h with rfl | ⟨x, e⟩ | ⟨p, hp, rfl⟩
  · obtain ⟨m, ⟨o, _, _, ho, _⟩, _⟩ := I.loc
    exact ⟨Nat.le_refl _, .inl a.pv0, I.free, o, ho⟩
  · obtain ⟨v, o, ho, _⟩ := I.cell x b e
    exact ⟨a.cl x b e, .inl (a.pvC x b e), I.freeC x b e, o, ho⟩
  · obtain ⟨h1, h2, _⟩ := I.pin p (List.mem_append_right _ hp)
    exact ⟨(a.ip p hp).1, (a.ip p hp).2, h2, p.2, h1⟩
theorem At.fz (a : At F H0 s' need pv ip σ H s) : ∀ b x u, H b = some (.frz x u) → s.heap.get? b = some x := fun b x u e => (a.hok b _ e).1
theorem At.new1 (a : At F H0 s' need pv ip σ H s) {b : Addr} (h : need1 F ip H s b) : F.n0 ≤ b ∧ (∃ o, s.heap.get? b = some o) ∧ (need b ∨ s'.heap.objs.size ≤ b) := by
  rcases h with h | h
  · obtain ⟨h1, h2, _, h4⟩ := a.priv h
    exact ⟨h1, h4, h2.elim (fun z => .inl (a.pvn b z).1) .inr⟩
  · cases q : froz F.n0 H s.heap b with
    | none => exact absurd q h
    | some o =>
      obtain ⟨hn, x, u, rfl, hu, hx, rd⟩ := froz_out a.fz q
      refine ⟨hn, ⟨x, hx⟩, ?_⟩
      obtain ⟨Hw, hw, I⟩ := a.ex
      by_cases z : b < s'.heap.objs.size
      · cases e : s'.heap.get? b with
        | none =>
          have := a.gr.2 b z e
          rw [hx] at this; cases this
        | some o' =>
          by_cases p : pv b
          · exact .inl (a.pvn b p).1
          · cases q2 : Hw b with
            | none => exact absurd q2 (hw.hi b o' hn e p)
            | some v =>
              obtain ⟨x2, u2, rfl, _⟩ := hw.frz b v q2
              rcases hw.nd b x2 u2 hn q2 with rfl | n
              · have q3 := I.base.frzs b _ _ q2
                rcases rd with rd | ⟨y, rd⟩
                · rw [q3] at rd
                  obtain ⟨xs, rfl | rfl⟩ := hu <;> cases rd
                · rw [q3] at rd
                  obtain ⟨xs, rfl | rfl⟩ := hu <;> cases rd
              · exact .inl n
      · exact .inr (Nat.le_of_not_lt z)
theorem At.tups (a : At F H0 s' need pv ip σ H s) : TupsOk F.P F.w (tupsOf F H s) (need1 F ip H s) (Priv F ip) s.heap := by
  refine ⟨fun b o e => ?_, fun b o e => ?_⟩
  · obtain ⟨x, xs, rfl, q⟩ := tupsOf_out e
    obtain ⟨_, x', u, z, hu, hx, rd⟩ := froz_out a.fz q
    cases z
    have k := rd.ok a.hok
    exact k
  · obtain ⟨x, xs, rfl, q⟩ := tupsOf_out e
    obtain ⟨_, x', u, z, hu, hx, rd⟩ := froz_out a.fz q
    cases z
    refine ⟨.inr (by rw [q]; intro w; cases w), fun pr => ?_, xs, rfl⟩
    have hn := (a.priv pr).2.2.1
    rcases rd with rd | ⟨y, rd⟩ <;> rw [hn] at rd <;> cases rd
/-- what is new since the generator's call lies above -/
theorem At.above (a : At F H0 s' need pv ip σ H s) {b : Addr} {u : HO} (h0 : H0 b = none) (rd : Rd H b u) : F.n0 ≤ b := by
  obtain ⟨Hw, hw, I⟩ := a.ex
  have hb : ∃ v, H b = some v := by
    rcases rd with rd | ⟨y, rd⟩
    · exact ⟨_, rd⟩
    · exact ⟨_, rd⟩
  obtain ⟨v, hv⟩ := hb
  by_cases z : b < F.n0
  · exfalso
    have hne : s.heap.get? b ≠ none := fun q => by
      obtain ⟨o, ho⟩ : ∃ o, s.heap.get? b = some o := by
        have k := rd.ok I.hok
        have := I.hok b v hv
        have e1 := I.hok.lt hv
        cases v with
        | frz x w => exact ⟨x, this.1⟩
        | lst xs => obtain ⟨_, its, n, _, e⟩ := this; exact ⟨_, e⟩
        | tup xs => obtain ⟨_, its, _, o, e, _⟩ := this; exact ⟨o, e⟩
        | dK kvs => obtain ⟨_, _, _, _, o, _, _, e, _⟩ := this; exact ⟨o, e⟩
        | dT kvs => obtain ⟨_, _, _, _, o, _, _, e, _⟩ := this; exact ⟨o, e⟩
        | set S n => obtain ⟨o, _, _, _, e, _⟩ := this; exact ⟨o, e⟩
        | ins C dx fs => obtain ⟨_, _, _, e, _⟩ := this; exact ⟨_, e⟩
        | own y => exact this
        | xd fs => obtain ⟨_, ⟨o, _, _, e, _⟩, _⟩ := this; exact ⟨o, e⟩
        | rng lo hi => obtain ⟨_, _, _, e⟩ := this; exact ⟨_, e⟩
        | tbl ps => exact ⟨_, this⟩
        | met f y => exact ⟨_, this⟩
        | ext φ => exact this.2.1
      rw [ho] at q; cases q
    cases e : s'.heap.get? b with
    | none => exact hne (a.gr.2 b (Nat.lt_of_lt_of_le z a.sz) e)
    | some o =>
      by_cases q : Hw b = none
      · have := I.base.free b o ((cutH_lt z).trans e) q At.noex
        rw [hv] at this; cases this
      · exact hw.lo b z q h0
  · exact Nat.le_of_not_lt z
/-- woken once more -/
theorem At.woken (a : At F H0 s' need pv ip σ H s) (wk : Wk F.base F.outer F.n0 (need1 F ip H s) s s2) :
    ∃ H2, At F H0 s2 (need1 F ip H s) (Priv F ip) ip σ H2 s2 ∧ ∀ b u, H0 b = none → IsSeq u → Rd H b u → Rd H2 b u := by
  have hG : ∀ b o, froz F.n0 H s.heap b = some o → F.n0 ≤ b ∧ ∃ x u, o = .frz x u ∧ IsSeq u ∧ s.heap.get? b = some x ∧ Rd H b u := fun b o e => froz_out a.fz e
  have nG : ∀ b, Priv F ip b → froz F.n0 H s.heap b = none := fun b pr => by
    cases q : froz F.n0 H s.heap b with
    | none => rfl
    | some o =>
      obtain ⟨_, x, u, _, _, _, rd⟩ := hG b o q
      have hn := (a.priv pr).2.2.1
      rcases rd with rd | ⟨y, rd⟩ <;> rw [hn] at rd <;> cases rd
  have lG : ∀ b, b < F.n0 → froz F.n0 H s.heap b = none := fun b hb => by
    cases q : froz F.n0 H s.heap b with
    | none => rfl
    | some o => exact absurd (Nat.lt_of_lt_of_le hb (hG b o q).1) (Nat.lt_irrefl _)
  have lW : ∀ b, b < F.n0 → wokeH F.n0 (froz F.n0 H s.heap) (Priv F ip) s2.heap b = none := fun b hb => woke_not (lG b hb) fun z => absurd (Nat.lt_of_lt_of_le hb z.1) (Nat.lt_irrefl _)
  have gk : ∀ b x u, froz F.n0 H s.heap b = some (.frz x u) → s2.heap.get? b = some x := fun b x u q => by
    obtain ⟨_, x', u', z, _, hx, _⟩ := hG b _ q
    cases z
    exact wk.need b x (.inr (by rw [q]; intro w; cases w)) hx
  obtain ⟨Hw, hw, I⟩ := a.ex
  have bz : F.base.objs.size ≤ F.n0 := Nat.le_trans I.ok.bsz (fam_le I)
  have hok2 : HOk F.P F.w (wokeH F.n0 (froz F.n0 H s.heap) (Priv F ip) s2.heap) s2.heap := fun b o e => by
    rcases woke_out e with q | ⟨_, _, _, x, hx, rfl⟩
    · obtain ⟨_, x, u, rfl, hu, hx, rd⟩ := hG b o q
      refine ⟨gk b x u q, ?_⟩
      have k := rd.ok I.hok
      have kq : s2.heap.get? b = some x := gk b x u q
      obtain ⟨xs, rfl | rfl⟩ := hu
      · obtain ⟨hz, its, n, r, e2⟩ := k
        exact ⟨hz, its, n, r, by rw [hx] at e2; rw [kq]; exact e2⟩
      · obtain ⟨hz, its, r, o', e2, c⟩ := k
        rw [hx] at e2
        cases e2
        exact ⟨hz, its, r, x, kq, c⟩
    · exact ⟨hx, trivial, ⟨x, hx⟩, fun _ _ _ _ => trivial⟩
  refine ⟨wokeH F.n0 (froz F.n0 H s.heap) (Priv F ip) s2.heap, ⟨⟨_, ⟨fun b o e => ?_, fun b hb n => absurd (lW b hb) n, fun b o hn e np => ?_, fun b x u hn e => ?_⟩, rebase I wk.bare (fun b o pr e => wk.need b o (.inl pr) e) wk.bs wk.funs wk.sz a.cl (fun b o e => lW b (Nat.lt_of_lt_of_le (Heap.lt_size e) bz)) (fun b hb => lW b (fam_fr I hb)) (fun b pr => woke_not (nG b pr) fun z => z.2 pr) hok2⟩,
    .refl _, wk.sz, a.cl, .inl rfl, fun x c e => .inr (.inl ⟨x, e⟩), fun b pr => ⟨.inl pr, (a.priv pr).1⟩, fun p hp => ⟨(a.ip p hp).1, .inl (.inr (.inr ⟨p, hp, rfl⟩))⟩⟩, fun b u h0 hu rd => ?_⟩
  · rcases woke_out e with q | ⟨_, _, _, x, hx, rfl⟩
    · obtain ⟨_, x, u, rfl, _, _, _⟩ := hG b o q
      exact ⟨x, u, rfl, gk b x u q⟩
    · exact ⟨x, dum, rfl, hx⟩
  · cases q : froz F.n0 H s.heap b with
    | some v => rw [woke_old q]; intro z; cases z
    | none =>
      rw [woke_new q ⟨hn, np⟩, e]
      intro z; cases z
  · rcases woke_out e with q | ⟨_, _, _, y, hy, z⟩
    · exact .inr (.inr (by rw [q]; intro w; cases w))
    · cases z; exact .inl rfl
  · have hn := a.above h0 rd
    have k := rd.ok I.hok
    have hx : ∃ x, s.heap.get? b = some x := by
      obtain ⟨xs, rfl | rfl⟩ := hu
      · obtain ⟨_, its, n, _, e⟩ := k; exact ⟨_, e⟩
      · obtain ⟨_, its, _, o, e, _⟩ := k; exact ⟨o, e⟩
    obtain ⟨x, hx⟩ := hx
    obtain ⟨y, q⟩ := froz_in hn hu rd hx
    exact .inr ⟨y, woke_old q⟩
end
end Wg
set_option maxRecDepth 100000
set_option maxHeartbeats 1000000
/-! a generator's statements -/
namespace Wg
open PySem L2 PyProof.Rows

def Sg (M : Model) (A : Around) (c : Code) (t : Sem PySem.Fin) (fs : List Frame) (s : Shared) (Φ : End → Shared → Prop) : Prop :=
  ∀ Γ p, Γ.code = c → Γ.Woken A → ∃ e s1, Runs M Γ p t fs s e s1 ∧ e.quiet = true ∧ Φ e s1
section
variable {M : Model} {A : Around} {c : Code} {fs : List Frame} {s : Shared} {Φ : End → Shared → Prop}
theorem sg_wrap {α : Type} {m : Sem α} {K : α → Sem PySem.Fin} {J : Value → Sem PySem.Fin} {gd : Bool → Bool} {lv : List Value → List Value} (h : wpAny M (A.over c fs) m (fun a s' => Sg M A c (K a) fs s' Φ) (fun x s' => Sg M A c (J x) fs s' Φ) s) : Sg M A c (m.wrap K J gd lv) fs s Φ := by
  rintro Γ p rfl hΓ
  obtain ⟨e, s1, hr, hq⟩ := runs_wrap_of_wp (Φ := fun e s1 => e.quiet = true ∧ Φ e s1) K J gd lv m (h (Γ.over fs) p (hΓ.over fs)) (fun a p' s' q => q Γ p' rfl hΓ) fun x p' s' q => q Γ p' rfl hΓ
  exact ⟨e, s1, hr, hq⟩
theorem sg_bind {α : Type} {m : Sem α} {K : α → Sem PySem.Fin} (h : wpAny M (A.over c fs) m (fun a s' => Sg M A c (K a) fs s' Φ) (fun x s' => Sg M A c (.raise x) fs s' Φ) s) : Sg M A c (m >>= K) fs s Φ := by
  rw [Sem.bind_eq_wrap']
  exact sg_wrap h
theorem sg_at {p' : Pos} {k : Unit → Sem PySem.Fin} (h : Sg M A c (k ()) fs s Φ) : Sg M A c (.at p' k) fs s Φ :=
  sg_wrap (m := standAt p') (K := k) (J := .raise) (gd := id) (lv := id) (wpAny_standAt h)
theorem sg_point {l : List Value} {k : Unit → Sem PySem.Fin} (h : Sg M A c (k ()) fs s Φ) : Sg M A c (.point l k) fs s Φ :=
  sg_wrap (m := point) (K := k) (J := .raise) (gd := id) (lv := fun _ => l) (wpAny_point h)
theorem sg_call {c' : Code} {h : Option Value} {g : Bool} {l : List Value} {k : Result → Sem PySem.Fin} (hc : ∀ p, Sg M A c' (M.den c') (.ret k h g l c p [] :: fs) s Φ) : Sg M A c (.call c' h g l k) fs s Φ := by
  rintro Γ p rfl hΓ
  obtain ⟨e, s1, hr, hq⟩ := hc p (Γ.goto c') p rfl (hΓ.goto c')
  exact ⟨e, s1, runs_call_seg hr, hq⟩
theorem sg_leaf {k : Result → Sem PySem.Fin} {h : Option Value} {g : Bool} {l : List Value} {c₁ : Code} {p₁ : Pos} {kp : List Value} (r : Result) (hk : Sg M A c₁ (k r) fs s Φ) : Sg M A c (leafOf r) (.ret k h g l c₁ p₁ kp :: fs) s Φ := by
  rintro Γ p rfl hΓ
  obtain ⟨e, s1, hr, hq⟩ := hk (Γ.goto c₁) p₁ rfl (hΓ.goto c₁)
  exact ⟨e, s1, Runs.pop r hr, hq⟩
theorem sg_again {c' : Code} (hq : c'.quiet = true) (hc : Sg M A c' (M.den c') fs s Φ) : Sg M A c (.pure (.again c')) fs s Φ := by
  rintro Γ p rfl hΓ
  obtain ⟨e, s1, hr, hq1⟩ := hc (Γ.goto c') p rfl (hΓ.goto c')
  exact ⟨e, s1, Runs.head (c₁ := c') (fun _ _ x => .again hq x) hr, hq1⟩
theorem sg_end (r : Result) (h : Φ (.ret r) s) : Sg M A c (leafOf r) [] s Φ := fun Γ p _ _ => ⟨.ret r, s, Runs.leaf r, rfl, h⟩
theorem sg_yield {v : Value} {g : Bool} {l : List Value} {k : Resume → Sem PySem.Fin} (hfs : splitAtGen fs = none) (hg : g = false) (hfg : fs.any Frame.guarded = false) (h : ∀ p, Φ (.susp v g l k c p fs) s) : Sg M A c (.yield v g l k) fs s Φ := by
  rintro Γ p rfl _
  exact ⟨_, s, Runs.yield' fs hfs, by simp [End.quiet, hg, hfg], h p⟩
theorem wrap_bind {α β γ : Type} (m : Sem α) (f : α → Sem β) (K : β → Sem γ) (J : Value → Sem γ) (gd : Bool → Bool) (lv : List Value → List Value) : (m >>= f).wrap K J gd lv = m.wrap (fun a => (f a).wrap K J gd lv) J gd lv := by
  rw [Sem.bind_eq_wrap', Sem.wrap_wrap]
  rfl
end

/-- the rest of the items, from here -/
def Φs (F : Fam) {α : Type} (rp : Hp → V → α → Prop) : List α → Shared → (Addr → Prop) → (Addr → Prop) → End → Shared → Prop
  | [], s', need, pv => fun e s1 => ∃ r, e = .ret r ∧ (r = .ok (.ret .none) ∨ r = .ok .next) ∧ s1.os = s'.os ∧ AllBare s1.gens ∧ Kept (frs F.outer) pv s'.heap s1.heap
  | d :: ds, s', need, pv => fun e s1 => ∃ v gd l k c q fs, e = .susp v gd l k c q fs ∧ s1.os = s'.os ∧ AllBare s1.gens ∧ Kept (frs F.outer) pv s'.heap s1.heap ∧
      ∃ need1 pv1, ItemAt F.P F.w F.n0 rp d v need pv need1 pv1 s' s1 ∧ Sus F.P F.w F.base F.outer F.n0 F.A rp ds e.genState s1 need1 pv1
theorem sus_iff {F : Fam} {α : Type} {rp : Hp → V → α → Prop} {ds : List α} {gs : GenState} {s : Shared} {need pv : Addr → Prop} :
    Sus F.P F.w F.base F.outer F.n0 F.A rp ds gs s need pv ↔ ∀ s', Wk F.base F.outer F.n0 need s s' → Wakens (model F.P F.w) F.A gs s' (Φs F rp ds s' need pv) := by
  cases ds <;> exact Iff.rfl

/-- where the generator's code stands -/
structure Pl (F : Fam) (c : Code) (fs : List Frame) (gd : Bool → Bool) : Prop where
  over : F.A.over c fs = F.A.deeper F.env
  split : splitAtGen fs = none
  guard : fs.any Frame.guarded = false
  gd : gd false = false
abbrev GT (α : Type) := (List α → L2.St → Hp → Prop) → List α → L2.St → Hp → Prop
abbrev GRun (F : Fam) {α : Type} (rp : Hp → V → α → Prop) (H0 : Hp) (w : (Flow → Sem PySem.Fin) → (Value → Sem PySem.Fin) → (Bool → Bool) → (List Value → List Value) → Sem PySem.Fin) (t : GT α) : Prop :=
  ∀ (c : Code) (fs : List Frame) (K : Flow → Sem PySem.Fin) (J : Value → Sem PySem.Fin) (gd : Bool → Bool) (lv : List Value → List Value) (ip : List (Addr × Obj)) (s' s : Shared) (need pv : Addr → Prop) (σ : L2.St) (H : Hp) (ds : List α) (nx : List α → L2.St → Hp → Prop),
    Pl F c fs gd → At F H0 s' need pv ip σ H s → t nx ds σ H →
    (∀ ds' s2 need' pv' σ' H' s1, At F H0 s2 need' pv' ip σ' H' s1 → nx ds' σ' H' → Sg (model F.P F.w) F.A c (K .next) fs s1 (Φs F rp ds' s2 need' pv')) →
    Sg (model F.P F.w) F.A c (w K J gd lv) fs s (Φs F rp ds s' need pv)
structure GS1 (F : Fam) {α : Type} (rp : Hp → V → α → Prop) (H0 : Hp) (st : Stmt) (t : GT α) : Prop where
  run : GRun F rp H0 (fun K J gd lv => (exec st F.env).wrap K J gd lv) t
structure GSs (F : Fam) {α : Type} (rp : Hp → V → α → Prop) (H0 : Hp) (st : List Stmt) (t : GT α) : Prop where
  run : GRun F rp H0 (fun K J gd lv => (execs st F.env).wrap K J gd lv) t

section
variable {F : Fam} {α : Type} {rp : Hp → V → α → Prop} {H0 : Hp}
def gP (t : TS) : GT α := fun nx ds σ H => t { nx := nx ds, rt := fun _ _ => False } σ H
theorem g_plain {st : Stmt} {t : TS} (h : ∀ s0 Hq, PS (F.cx s0 Hq) st t) : GS1 F rp H0 st (gP t) := by
  refine ⟨fun c fs K J gd lv ip s' s need pv σ H ds nx pl a ht k => ?_⟩
  obtain ⟨Hw, hw, I⟩ := a.ex
  refine sg_wrap ?_
  rw [pl.over]
  refine wpAny_mono (wpAny_grow ((h _ _).run ip s σ H _ I ht)) (fun f s1 ⟨g, hs⟩ => ?_) fun _ _ z => z.2.elim
  cases f with
  | next =>
    obtain ⟨σ', H', I', q⟩ := hs
    exact k ds s' need pv σ' H' s1 ⟨⟨Hw, hw, I'⟩, a.gr.trans g, a.sz, a.cl, a.pv0, a.pvC, a.pvn, a.ip⟩ q
  | brk => obtain ⟨_, _, _, q⟩ := hs; exact q.elim
  | cont => obtain ⟨_, _, _, q⟩ := hs; exact q.elim
  | ret u => obtain ⟨_, _, _, _, _, q⟩ := hs; exact q.elim
def gNil : GT α := fun nx ds σ H => nx ds σ H
theorem g_nil : GSs F rp H0 [] gNil := ⟨fun c fs K J gd lv ip s' s need pv σ H ds nx pl a ht k => k ds s' need pv σ H s a ht⟩
def gThen (t u : GT α) : GT α := fun nx ds σ H => t (fun ds' σ' H' => u nx ds' σ' H') ds σ H
theorem g_cons {st : Stmt} {rest : List Stmt} {t u : GT α} (h1 : GS1 F rp H0 st t) (h2 : GSs F rp H0 rest u) : GSs F rp H0 (st :: rest) (gThen t u) := by
  refine ⟨fun c fs K J gd lv ip s' s need pv σ H ds nx pl a ht k => ?_⟩
  show Sg _ _ _ ((execs (st :: rest) F.env).wrap K J gd lv) _ _ _
  rw [execs_cons_wrap]
  exact h1.run c fs _ J gd lv ip s' s need pv σ H ds _ pl a ht fun ds' s2 need' pv' σ' H' s1 a1 q => h2.run c fs K J gd lv ip s2 s1 need' pv' σ' H' ds' nx pl a1 q k
/-- an item is read off the tuples that are new -/
def ItemR (rp : Hp → V → α → Prop) (H0 H : Hp) (x : V) (d : α) : Prop := ∀ T : Hp, (∀ b xs, H0 b = none → Rd H b (.tup xs) → T b = some (.tup xs)) → rp T x d
def Stay (H0 H H2 : Hp) : Prop := ∀ b u, H0 b = none → IsSeq u → Rd H b u → Rd H2 b u
def gY (rp : Hp → V → α → Prop) (H0 : Hp) (te : TE) : GT α := fun nx ds σ H => te σ H fun x H1 => ∃ d ds', ds = d :: ds' ∧ ItemR rp H0 H1 x d ∧ ∀ H2, Stay H0 H1 H2 → nx ds' σ H2
/-- an item is handed out: what the consumer sees, what is left -/
theorem At.out {ip : List (Addr × Obj)} {s' s : Shared} {need pv : Addr → Prop} {σ : L2.St} {H : Hp} (a : At F H0 s' need pv ip σ H s) {x : V} {v : Value} {d : α} {ds : List α} (rv : RelV x v) (hi : ItemR rp H0 H x d) {gd : Bool} {l : List Value} {k : Resume → Sem PySem.Fin} {c : Code} {q : Pos} {fs : List Frame}
    (hk : ∀ s2 H2, At F H0 s2 (need1 F ip H s) (Priv F ip) ip σ H2 s2 → Stay H0 H H2 → Sg (model F.P F.w) F.A c (k (.send .none)) fs s2 (Φs F rp ds s2 (need1 F ip H s) (Priv F ip))) : Φs F rp (d :: ds) s' need pv (.susp v gd l k c q fs) s := by
  refine ⟨v, gd, l, k, c, q, fs, rfl, a.os, a.bare, a.kept, need1 F ip H s, Priv F ip, ⟨fun b pr => ⟨.inl pr, (a.priv pr).2.1⟩, fun b n => a.new1 n, tupsOf F H s, x, a.tups, rv, hi _ fun b xs h0 rd => ?_⟩, ?_⟩
  · have hn := a.above h0 rd
    have kk := rd.ok a.hok
    obtain ⟨_, its, _, o, e, _⟩ := kk
    obtain ⟨y, qy⟩ := froz_in hn ⟨xs, .inr rfl⟩ rd e
    unfold tupsOf
    rw [qy]
  · rw [sus_iff]
    intro s2 wk
    refine ⟨.inr rfl, fun Γ p hc hΓ => ?_⟩
    obtain ⟨H2, a2, st⟩ := a.woken wk
    exact hk s2 H2 a2 st Γ p hc hΓ
theorem g_yield {e : Expr} {yp pos : Pos} {te : TE} (he : ∀ s0 Hq, PE (F.cx s0 Hq) e te) (hco : F.env.scope.isCoroutine = false) (hin : interactive F.env = false := by rfl) : GS1 F rp H0 (.Expr (.Yield (some e) yp) pos) (gY rp H0 te) := by
  refine ⟨fun c fs K J gd lv ip s' s need pv σ H ds nx pl a ht k => ?_⟩
  show Sg _ _ _ ((exec (.Expr (.Yield (some e) yp) pos) F.env).wrap K J gd lv) _ _ _
  rw [exec_Expr F.env _ pos hin rfl]
  have hy : ∀ v, yieldOut F.env v = yieldValue v := fun v => by simp only [yieldOut, hco, Bool.false_eq_true, if_false]
  rw [wrap_bind]
  refine sg_wrap (wpAny_standAt ?_)
  show Sg _ _ _ (((eval e F.env >>= fun v => (standAt yp >>= fun _ => yieldOut F.env v)) >>= fun x => dropValue (.Yield (some e) yp) pos x).wrap K J gd lv) _ _ _
  simp only [hy]
  rw [wrap_bind, wrap_bind]
  obtain ⟨Hw, hw, I⟩ := a.ex
  refine sg_wrap ?_
  rw [pl.over]
  refine wpAny_mono (wpAny_grow ((he _ _).run ip s σ H _ I ht)) (fun v s1 ⟨g, hs⟩ => ?_) fun _ _ z => z.2.elim
  obtain ⟨x, H1, I1, rv, d, ds', rfl, hi, hn⟩ := hs
  have a1 : At F H0 s' need pv ip σ H1 s1 := ⟨⟨Hw, hw, I1⟩, a.gr.trans g, a.sz, a.cl, a.pv0, a.pvC, a.pvn, a.ip⟩
  rw [wrap_bind]
  refine sg_wrap (wpAny_standAt ?_)
  refine sg_yield pl.split pl.gd pl.guard fun p => a1.out rv hi fun s2 H2 a2 st => ?_
  exact k ds' s2 _ _ σ H2 s2 a2 (hn H2 st)
def gIf (tt : TT) (tb : GT α) : GT α := fun nx ds σ H => tt σ H fun b H1 => if b = true then tb nx ds σ H1 else nx ds σ H1
theorem g_if {test : Expr} {body : List Stmt} {pos : Pos} {tt : TT} {tb : GT α} (ht : ∀ s0 Hq, PT (F.cx s0 Hq) test tt) (hb : GSs F rp H0 body tb) : GS1 F rp H0 (.If test body [] pos) (gIf tt tb) := by
  refine ⟨fun c fs K J gd lv ip s' s need pv σ H ds nx pl a hq k => ?_⟩
  have e0 : exec (.If test body [] pos) F.env = (standAt pos >>= fun _ => isTrue test F.env (eval test F.env) >>= fun b => if b = true then execs body F.env else execs [] F.env) := rfl
  show Sg _ _ _ ((exec (.If test body [] pos) F.env).wrap K J gd lv) _ _ _
  rw [e0, wrap_bind]
  refine sg_wrap (wpAny_standAt ?_)
  rw [wrap_bind]
  obtain ⟨Hw, hw, I⟩ := a.ex
  refine sg_wrap ?_
  rw [pl.over]
  refine wpAny_mono (wpAny_grow ((ht _ _).run ip s σ H _ I hq)) (fun b s1 ⟨g, hs⟩ => ?_) fun _ _ z => z.2.elim
  obtain ⟨H1, I1, q1⟩ := hs
  have a1 : At F H0 s' need pv ip σ H1 s1 := ⟨⟨Hw, hw, I1⟩, a.gr.trans g, a.sz, a.cl, a.pv0, a.pvC, a.pvn, a.ip⟩
  cases b with
  | true =>
    rw [if_pos rfl] at q1
    exact hb.run c fs K J gd lv ip s' s1 need pv σ H1 ds nx pl a1 q1 k
  | false =>
    rw [if_neg Bool.false_ne_true] at q1
    exact k ds s' need pv σ H1 s1 a1 q1
end
end Wg
set_option maxRecDepth 100000
set_option maxHeartbeats 1000000
/-! a generator's for loop -/
namespace Wg
open PySem L2 PyProof.Rows

abbrev hdl (env : Env) (x : Value) : Sem Unit := do noteFrame x env; theTreesLotGoes x
abbrev lpK (c : Code) (f : Flow) : Sem PySem.Fin := match f with
  | .next | .cont => .pure (.again c)
  | .brk => .pure (.done .next)
  | .ret v => .pure (.done (.ret v))
abbrev lpJ (env : Env) (x : Value) : Sem PySem.Fin := (hdl env x).bind fun _ => .raise x
theorem sg_forTurn {P : Program} {w : World} {A : Around} {fs : List Frame} {s : Shared} {Φ : End → Shared → Prop} {tg : Expr} {it : Value} {body : List Stmt} {env : Env} {X : Around} (hX : A.over (.forLoop tg it body [] env) fs = X)
    (h : wpAny (model P w) X (pyNext it) (fun r s1 => match r with
      | none => Sg (model P w) A (.block [] env) ((model P w).den (.block [] env)) fs s1 Φ
      | some v => wpAny (model P w) X (letOwnedTupleGo tg it v) (fun _ s2 => wpAny (model P w) X (assign tg env v) (fun _ s3 => Sg (model P w) A (.forLoop tg it body [] env) ((execs body env).wrap (lpK (.forLoop tg it body [] env)) (lpJ env) id id) fs s3 Φ) (fun _ _ => False) s2) (fun _ _ => False) s1) (fun _ _ => False) s) :
    Sg (model P w) A (.forLoop tg it body [] env) ((model P w).den (.forLoop tg it body [] env)) fs s Φ := by
  show Sg _ A _ ((forTurn tg it body [] env).onRaise (hdl env)) fs s Φ
  unfold forTurn
  rw [Sem.onRaise_eq_wrap, wrap_bind]
  refine sg_wrap (wpAny_standAt ?_)
  rw [wrap_bind]
  refine sg_wrap ?_
  rw [hX]
  refine wpAny_onRaise (wpAny_mono h (fun r s1 q => ?_) fun _ _ z => z.elim)
  cases r with
  | none => exact sg_again rfl q
  | some v =>
    show Sg _ A _ ((letOwnedTupleGo tg it v >>= fun _ => assign tg env v >>= fun _ => execs body env >>= fun f => _).wrap _ _ _ _) fs s1 Φ
    rw [wrap_bind]
    refine sg_wrap ?_
    rw [hX]
    refine wpAny_mono q (fun _ s2 q2 => ?_) fun _ _ z => z.elim
    rw [wrap_bind]
    refine sg_wrap ?_
    rw [hX]
    refine wpAny_mono q2 (fun _ s3 q3 => ?_) fun _ _ z => z.elim
    rw [wrap_bind]
    have e1 : ∀ f : Flow, ((match f with
      | .next | .cont => again (.forLoop tg it body [] env)
      | .brk => pure (.done .next)
      | .ret v => pure (.done (.ret v))) : Sem PySem.Fin).wrap .pure (lpJ env) id id = lpK (.forLoop tg it body [] env) f := fun f => by cases f <;> rfl
    rw [Sem.wrap_congr (execs body env) id id (K' := lpK (.forLoop tg it body [] env)) (H' := lpJ env) (fun f => by cases f <;> rfl) (fun _ => rfl)]
    exact q3

section
variable {F : Fam} {α : Type} {rp : Hp → V → α → Prop} {H0 : Hp}
def gFor (wi : TI) (g : TG) (tb : GT α) : GT α := fun nx ds σ H => wi σ H fun J H1 => ∃ W : Nat → Nat → List α → L2.St → Hp → Prop, (∃ m, W 0 m ds σ H1) ∧ ∀ i m ds σ H, W i m ds σ H →
  (J.stop i H ∧ nx ds σ H) ∨ (J.go i H ∧ ∃ N : List α → L2.St → Hp → Prop, (∀ ds' σ' H', N ds' σ' H' → ∃ m', m' < m ∧ W (i + 1) m' ds' σ' H') ∧ ∀ x H', J.yld i H x H' → g x σ H' fun σ2 H2 => tb N ds σ2 H2)
theorem FpAt {s0 : Shared} {Hq H : Hp} {ip : List (Addr × Obj)} {b : Addr} (h1 : H b = none) (h2 : b ≠ F.n0) (h3 : b ∉ frs F.outer) (h4 : s0.heap.objs.size ≤ b) (h5 : ∀ x c, F.env.cells.lookup x = some c → c ≠ b) (h6 : ∀ p ∈ ip, p.1 ≠ b) : FpOk (F.cx s0 Hq) ip H b :=
  ⟨h1, h2, h3, .inr h4, h5, h6⟩
theorem g_for {tg iter : Expr} {body : List Stmt} {pos : Pos} {wi : TI} {g : TG} {tb : GT α} (hi : ∀ s0 Hq, PI (F.cx s0 Hq) tg iter wi) (hg : ∀ s0 Hq, PG (F.cx s0 Hq) tg g) (hb : GSs F rp H0 body tb) (hs : ∀ x, foldedSetIterable iter F.env x = pure x) :
    GS1 F rp H0 (.For tg iter body [] pos) (gFor wi g tb) := by
  refine ⟨fun c fs K J gd lv ip s' s need pv σ H ds nx pl a ht k => ?_⟩
  show Sg _ _ _ ((exec (.For tg iter body [] pos) F.env).wrap K J gd lv) _ _ _
  rw [exec_For, wrap_bind]
  refine sg_wrap (wpAny_standAt ?_)
  rw [wrap_bind]
  obtain ⟨Hw, hw, I⟩ := a.ex
  refine sg_wrap ?_
  rw [pl.over]
  refine wpAny_mono (wpAny_grow ((hi _ _).run ip s σ H _ I ht)) (fun v s1 ⟨g1, hv⟩ => ?_) fun _ _ z => z.2.elim
  rw [wrap_bind, hs v]
  refine sg_wrap (wpAny_pure ?_)
  rw [wrap_bind]
  refine sg_wrap (wpAny_standAt ?_)
  rw [wrap_bind]
  refine sg_wrap (wpAny_holding ?_)
  rw [pl.over]
  refine wpAny_mono (wpAny_grow hv) (fun itv s2 ⟨g2, h2⟩ => ?_) fun _ _ z => z.2.elim
  obtain ⟨it, fp, tn, Jt, H2, rfl, I2, T, st2, f2, W, ⟨m0, w0⟩, turn⟩ := h2
  have a2 : At F H0 s' need pv ip σ H2 s2 := ⟨⟨Hw, hw, I2⟩, (a.gr.trans g1).trans g2, a.sz, a.cl, a.pv0, a.pvC, a.pvn, a.ip⟩
  have hfpn : ∀ b ∈ fp, F.n0 ≤ b := fun b hb => by
    obtain ⟨_, _, _, h, _⟩ := f2 b hb
    rcases h with h | h
    · exact absurd h At.noex
    · rw [show (F.cx (cutS F.n0 s') Hw).s_0.heap.objs.size = F.n0 from cutH_size a.sz] at h
      exact h
  have hL : ∀ b ∈ fp, b ≠ F.n0 := fun b hb => (f2 b hb).2.1
  have hfs : ∀ b ∈ fp, b ∉ frs F.outer := fun b hb => (f2 b hb).2.2.1
  have hcl : ∀ b ∈ fp, ∀ x c, F.env.cells.lookup x = some c → c ≠ b := fun b hb => (f2 b hb).2.2.2.2.1
  have hpi : ∀ b ∈ fp, ∀ p ∈ ip, p.1 ≠ b := fun b hb p hp => (f2 b hb).2.2.2.2.2 p hp
  -- the iterator's records: new, or the generator's own
  have hnew : ∀ b ∈ fp, pv b ∨ s'.heap.objs.size ≤ b := fun b hb => by
    by_cases z : b < s'.heap.objs.size
    · left
      obtain ⟨o, ho, _⟩ := T.obj 0 _ st2 b hb
      cases e : s'.heap.get? b with
      | none =>
        have := a2.gr.2 b z e
        rw [ho] at this; cases this
      | some o' =>
        by_cases q : pv b
        · exact q
        · exfalso
          have n := hw.hi b o' (hfpn b hb) e q
          cases q2 : Hw b with
          | none => exact n q2
          | some u =>
            obtain ⟨x, u', rfl, _⟩ := hw.frz b u q2
            have q3 := I2.base.frzs b _ _ q2
            rw [(f2 b hb).1] at q3; cases q3
    · exact .inr (Nat.le_of_not_lt z)
  show Sg _ _ _ ((runOwn (.forLoop tg (.ref it) body [] F.env) F.env).wrap K J gd lv) _ _ _
  refine sg_call fun p => ?_
  have loop : ∀ (m i : Nat) (s3' s3 : Shared) (need3 pv3 : Addr → Prop) (σ3 : L2.St) (H3 : Hp) (ds3 : List α), At F H0 s3' need3 pv3 ip σ3 H3 s3 → (∀ b ∈ fp, H3 b = none) → (∀ b ∈ fp, pv3 b ∨ s3'.heap.objs.size ≤ b) → tn i s3.heap → W i m ds3 σ3 H3 →
      Sg (model F.P F.w) F.A (.forLoop tg (.ref it) body [] F.env) ((model F.P F.w).den (.forLoop tg (.ref it) body [] F.env)) (.ret (fun r => ((match r with
        | .ok f => (.pure f : Sem Flow)
        | .error e => .raise e).onRaise fun x => do
          if (← field x 1) == Value.none then unsupported "frame.own-activation:exception-without-traceback"
          setFlight x F.env.frame).wrap K J gd lv) none (gd false) (lv []) c p [] :: fs) s3 (Φs F rp ds3 s3' need3 pv3) := by
    intro m
    induction m using Nat.strongRecOn with
    | ind m ih =>
      intro i s3' s3 need3 pv3 σ3 H3 ds3 a3 hH3 hn3 htn w3
      obtain ⟨Hw3, hw3, I3⟩ := a3.ex
      have plL : Pl F (.forLoop tg (.ref it) body [] F.env) (.ret (fun r => ((match r with
        | .ok f => (.pure f : Sem Flow)
        | .error e => .raise e).onRaise fun x => do
          if (← field x 1) == Value.none then unsupported "frame.own-activation:exception-without-traceback"
          setFlight x F.env.frame).wrap K J gd lv) none (gd false) (lv []) c p [] :: fs) id :=
        ⟨(GenW.over_loop rfl rfl).trans pl.over, by rw [splitAtGen_ret, pl.split]; rfl, by show (gd false || fs.any Frame.guarded) = false; rw [pl.gd, pl.guard]; rfl, rfl⟩
      have stat : ∀ {H : Hp} {s0 : Shared} {Hq : Hp}, s0.heap.objs.size ≤ F.n0 → (∀ b ∈ fp, H b = none) → ∀ b ∈ fp, FpOk (F.cx s0 Hq) ip H b := fun hz hn b hb => FpAt (hn b hb) (hL b hb) (hfs b hb) (Nat.le_trans hz (hfpn b hb)) (hcl b hb) (hpi b hb)
      have hz3 : (cutS F.n0 s3').heap.objs.size ≤ F.n0 := Nat.le_of_eq (cutH_size a3.sz)
      refine sg_forTurn (X := F.A.deeper F.env) plL.over ?_
      rcases turn i m ds3 σ3 H3 w3 with ⟨stop, qn⟩ | ⟨go, N, hN, step⟩
      · refine wpAny_mono (wpAny_grow (T.done (F.cx (cutS F.n0 s3') Hw3) rfl rfl rfl rfl i ip s3 σ3 H3 (fun _ _ => False) I3 (stat hz3 hH3) htn stop)) (fun r s4 ⟨g4, hr, I4⟩ => ?_) fun _ _ z => z.2.elim
        subst hr
        have a4 : At F H0 s3' need3 pv3 ip σ3 H3 s4 := ⟨⟨Hw3, hw3, I4⟩, a3.gr.trans g4, a3.sz, a3.cl, a3.pv0, a3.pvC, a3.pvn, a3.ip⟩
        show Sg _ _ _ (.pure (.done .next)) _ _ _
        exact sg_leaf (.ok .next) (k ds3 s3' need3 pv3 σ3 H3 s4 a4 qn)
      · refine wpAny_mono (wpAny_grow (T.item (F.cx (cutS F.n0 s3') Hw3) rfl rfl rfl rfl i ip s3 σ3 H3 (fun _ _ => False) I3 (stat hz3 hH3) htn go)) (fun r s4 ⟨g4, u, hr, h4⟩ => ?_) fun _ _ z => z.2.elim
        subst hr
        refine wpAny_mono (wpAny_grow h4) (fun _ s5 ⟨g5, x, H5, I5, r5, y5, st5, fr5⟩ => ?_) fun _ _ z => z.2.elim
        have I5' := I5.pinned (stat hz3 fr5) (T.obj _ _ st5)
        refine wpAny_mono (wpAny_grow ((hg _ _).run _ s5 σ3 H5 x u _ I5' r5 (step x H5 y5))) (fun _ s6 ⟨g6, σ6, H6, I6, q6⟩ => ?_) fun _ _ z => z.2.elim
        have hip6 : ∀ p ∈ ip ++ pinsAt fp s5.heap, F.n0 ≤ p.1 ∧ (pv3 p.1 ∨ s3'.heap.objs.size ≤ p.1) := fun p hp => by
          rcases List.mem_append.mp hp with z | z
          · exact a3.ip p z
          · exact ⟨hfpn _ (of_pinsAt z).1, hn3 _ (of_pinsAt z).1⟩
        have a6 : At F H0 s3' need3 pv3 (ip ++ pinsAt fp s5.heap) σ6 H6 s6 := ⟨⟨Hw3, hw3, I6⟩, ((a3.gr.trans g4).trans g5).trans g6, a3.sz, a3.cl, a3.pv0, a3.pvC, a3.pvn, hip6⟩
        refine hb.run _ _ (lpK _) (lpJ _) id id _ s3' s6 need3 pv3 σ6 H6 ds3 N plL a6 q6 fun ds7 s7' need7 pv7 σ7 H7 s7 a7 q7 => ?_
        obtain ⟨m', hm, w7⟩ := hN ds7 σ7 H7 q7
        obtain ⟨Hw7, hw7, I7⟩ := a7.ex
        refine sg_again rfl (ih m' hm (i + 1) s7' s7 need7 pv7 σ7 H7 ds7 ⟨⟨Hw7, hw7, I7.unpinned⟩, a7.gr, a7.sz, a7.cl, a7.pv0, a7.pvC, a7.pvn, fun p hp => a7.ip p (List.mem_append_left _ hp)⟩ (fun b hb => ?_) (fun b hb => ?_) ?_ w7)
        · obtain ⟨o, e, d⟩ := T.obj _ _ st5 b hb
          exact (I7.pin (b, o) (List.mem_append_right _ (List.mem_append_right _ (mem_pinsAt hb e)))).2.1
        · obtain ⟨o, e, d⟩ := T.obj _ _ st5 b hb
          exact (a7.ip (b, o) (List.mem_append_right _ (mem_pinsAt hb e))).2
        · exact T.keep _ _ _ st5 fun b hb o e => (I7.pin (b, o) (List.mem_append_right _ (List.mem_append_right _ (mem_pinsAt hb e)))).1
  exact loop m0 0 s' s2 need pv σ H2 ds a2 (fun b hb => (f2 b hb).1) hnew st2 w0
end
end Wg
set_option maxRecDepth 100000
set_option maxHeartbeats 1000000
/-! yield from a list -/
namespace Wg
open PySem L2 PyProof.Rows

section
variable {prog : Program} {w : World} {A : Around} {E : Value → Shared → Prop} {s : Shared}
theorem it_item {it l : Addr} {i : Nat} {items : Array Value} {x : Value} {Q : Option Value → Shared → Prop} (hit : s.heap.IsListIter it l i) (hl : s.heap.IsList l items) (hx : items[i]? = some x)
    (hQ : ∀ h', h'.IsListIter it l (i + 1) → Heap.SameBut it s.heap h' → Q (some x) { s with heap := h' }) : wpAny (model prog w) A (callSpecial? (.ref it) "__next__") Q E s := by
  have hT := hit.typeIs
  obtain ⟨oi, hoi, hci, hdi⟩ := hit
  obtain ⟨ol, hol, _, nl, hdl⟩ := hl
  refine wpAny_callSpecial?_slot hT slot_listiter_next ?_
  refine wpAny_call_entry slot_listiter_next hT entry_listiter_next ?_ (args_listiter_next _)
  refine wpAny_bind (m := field (.ref it) 0) (wpAny_field hoi hdi (x := .ref l) rfl ?_)
  show wpAny _ _ (if (Value.ref l == Value.none) = true then _ else _) _ _ s
  rw [if_neg (by intro z; cases z)]
  refine wpAny_bind (m := field (.ref it) 1) (wpAny_field hoi hdi (x := .int i 0) rfl ?_)
  refine wpAny_bind (m := seqItems? (.ref l)) (wpAny_seqItems hol hdl ?_)
  simp only [Int.toNat_natCast, hx]
  refine wpAny_bind (wpAny_setField hoi hdi (by simp) (wpAny_pure ⟨x, rfl, ?_⟩))
  refine hQ _ ?_ (Heap.SameBut.update ..)
  exact ⟨_, Heap.get?_update_self _ hoi (Obj.isFreed_of_fields (Obj.data_mapFields hdi _)), (Obj.cls_mapFields ..).trans hci, by
    rw [Obj.data_mapFields hdi]
    simp [rawInt]⟩
theorem it_end {it l : Addr} {i : Nat} {items : Array Value} {Q : Option Value → Shared → Prop} (hh : A.handled = none) (hit : s.heap.IsListIter it l i) (hl : s.heap.IsList l items) (hx : items[i]? = none)
    (hE : ∀ e h', StopX e h' → Heap.ExtBut it s.heap h' → E e { s with heap := h' }) : wpAny (model prog w) A (callSpecial? (.ref it) "__next__") Q E s := by
  have hT := hit.typeIs
  obtain ⟨oi, hoi, hci, hdi⟩ := hit
  obtain ⟨ol, hol, _, nl, hdl⟩ := hl
  refine wpAny_callSpecial?_slot hT slot_listiter_next ?_
  refine wpAny_call_entry slot_listiter_next hT entry_listiter_next ?_ (args_listiter_next _)
  refine wpAny_bind (m := field (.ref it) 0) (wpAny_field hoi hdi (x := .ref l) rfl ?_)
  show wpAny _ _ (if (Value.ref l == Value.none) = true then _ else _) _ _ s
  rw [if_neg (by intro z; cases z)]
  refine wpAny_bind (m := field (.ref it) 1) (wpAny_field hoi hdi (x := .int i 0) rfl ?_)
  refine wpAny_bind (m := seqItems? (.ref l)) (wpAny_seqItems hol hdl ?_)
  simp only [Int.toNat_natCast, hx]
  refine wpAny_bind (wpAny_rule ?_)
  refine wpAny_bind (wpAny_setField hoi hdi (by simp) ?_)
  refine wpAny_bind (m := newExc (.type "StopIteration") []) ?_
  simp only [newExc, newTuple]
  refine wpAny_bind (wpAny_newObj_type ?_ (by size_fits))
  refine wpAny_bind (m := firstArgMember _ _) (wpAny_of_eq (a := Value.none) (by first | rfl | (simp only [firstArgMember]; rfl)) ?_)
  refine wpAny_newObj_type ?_ (by size_fits)
  simp only [raiseNew]
  refine wpAny_bind (wpAny_handled ?_)
  have hh1 : A.in1.handled = none := hh
  rw [hh1]
  refine wpAny_bind (wpAny_pure (wpAny_throw ?_))
  refine hE _ _ ⟨_, _, _, rfl, Heap.get?_push_size _ rfl, rfl, rfl, ?_⟩ (((Heap.SameBut.update ..).extBut.push _).push _)
  first
    | rfl
    | (rw [Array.getElem?_append_left (by decide)]; rfl)
    | kernel_rfl
end
theorem close_list : typeLookup (.type "list_iterator") "close" = pure none := by
  rw [typeLookup_type, builtinLookup_eq_fast]
  kernel_rfl
abbrev yfC (it : Addr) : Code := .builtin "proto.yield_from" ⟨[.ref it, .bool false, .none], []⟩
theorem den_yfC (F : Fam) (s : Shared) {it : Addr} : (model F.P F.w).den (yfC it) = Builtin.«proto.yield_from» ⟨[.ref it, .bool false, .none], []⟩ := den_yf (X := F.cx s fun _ => none)

section
variable {F : Fam} {α : Type} {rp : Hp → V → α → Prop} {H0 : Hp}
abbrev Items (rp : Hp → V → α → Prop) (H0 H : Hp) : List V → List α → Prop := Paired (ItemR rp H0 H)
theorem ItemR.stay {H H2 : Hp} {x : V} {d : α} (h : ItemR rp H0 H x d) (st : Stay H0 H H2) : ItemR rp H0 H2 x d := fun T hT => h T fun b xs h0 rd => hT b xs h0 (st b _ h0 ⟨xs, .inr rfl⟩ rd)
theorem Items.stay {H H2 : Hp} (st : Stay H0 H H2) : ∀ {xs : List V} {ds : List α}, Items rp H0 H xs ds → Items rp H0 H2 xs ds
  | _, _, .nil => .nil
  | _, _, .cons r t => .cons (r.stay st) (Items.stay st t)
theorem yf_loop {it l : Addr} {xs : List V} {fs : List Frame} {ds2 : List α} {ip : List (Addr × Obj)} {σ : L2.St} (ho : (F.A.over (yfC it) fs).handled = none) (hsp : splitAtGen fs = none) (hgd : fs.any Frame.guarded = false) (n0 : F.n0 ≤ it) (nL : it ≠ F.n0) (nf : it ∉ frs F.outer) (nc : ∀ x c, F.env.cells.lookup x = some c → c ≠ it) (ni : ∀ p ∈ ip, p.1 ≠ it) (hl0 : H0 l = none) (hlit : l ≠ it)
    (hend : ∀ (s' s : Shared) (need pv : Addr → Prop) (H : Hp), At F H0 s' need pv ip σ H s → Rd H l (.lst xs) → Sg (model F.P F.w) F.A (yfC it) (.pure (.done (.ret .none))) fs s (Φs F rp ds2 s' need pv)) :
    ∀ (ds1 : List α) (j : Nat) (s' s : Shared) (need pv : Addr → Prop) (H : Hp), At F H0 s' need pv ip σ H s → H it = none → (pv it ∨ s'.heap.objs.size ≤ it) → s.heap.IsListIter it l j → Rd H l (.lst xs) → Items rp H0 H (xs.drop j) ds1 → j ≤ xs.length →
      Sg (model F.P F.w) F.A (yfC it) ((model F.P F.w).den (yfC it)) fs s (Φs F rp (ds1 ++ ds2) s' need pv) := by
  intro ds1
  induction ds1 with
  | nil =>
    intro j s' s need pv H a hH hn st rd its hj
    have hjl : xs.length ≤ j := by
      have q := its.length
      rw [List.length_drop] at q
      have q2 : xs.length - j = 0 := q
      omega
    obtain ⟨Hw, hw, I⟩ := a.ex
    obtain ⟨hz, iv, nn, rv, hobj⟩ := rd.ok I.hok
    have hlst : s.heap.IsList l iv.toArray := ⟨_, hobj, rfl, _, rfl⟩
    have hlen := rv.length
    rw [den_yfC F s]
    unfold Builtin.«proto.yield_from»
    refine sg_bind (wpAny_pure ?_)
    try dsimp only
    refine sg_bind (wpAny_mono (wpAny_grow (Q := fun r s2 => ∃ e h', r = .error e ∧ s2 = { s with heap := h' } ∧ StopX e h' ∧ Heap.ExtBut it s.heap h') (E := fun _ _ => False) (wpAny_attempt (wpAny_holding ?_))) (fun r s2 ⟨g2, e, h', hr, hs2, hS, hk⟩ => ?_) fun _ _ z => z.2.elim)
    · rw [if_neg Bool.false_ne_true, if_pos (show (Value.none == Value.none) = true from rfl)]
      refine wpAny_bind (wpAny_rule (wpAny_bind ?_))
      exact it_end ho st hlst (by simp; omega) fun e h' hS hk => ⟨e, h', rfl, rfl, hS, hk⟩
    subst hr hs2
    try dsimp only
    obtain ⟨ea, eo, vs, rfl, hoa, hcls, hdat, h5⟩ := hS
    refine sg_bind (wpAny_endsTurn (s := { s with heap := h' }) hoa hcls ?_)
    try dsimp only
    rw [if_pos rfl]
    first
      | refine sg_bind (wpAny_rule ?_)
      | (rw [if_neg Bool.false_ne_true]; refine sg_bind (wpAny_rule ?_))
      | (rw [if_neg Bool.false_ne_true]; refine sg_bind (wpAny_pure ?_); refine sg_bind (wpAny_rule ?_))
    refine sg_bind (wpAny_field (s := { s with heap := h' }) hoa hdat h5 ?_)
    have I2 : Inv (F.cx (cutS F.n0 s') Hw) ip σ H { s with heap := h' } := I.turned (it := it) (t' := s.toks) (fun b o hb e => hk b o hb e) hH nL (.inr (by rw [show (F.cx (cutS F.n0 s') Hw).s_0.heap.objs.size = F.n0 from cutH_size a.sz]; exact n0)) nc ni
    exact hend s' _ need pv H ⟨⟨Hw, hw, I2⟩, a.gr.trans g2, a.sz, a.cl, a.pv0, a.pvC, a.pvn, a.ip⟩ rd
  | cons d ds1 ih =>
    intro j s' s need pv H a hH hn st rd its hj
    obtain ⟨Hw, hw, I⟩ := a.ex
    obtain ⟨hz, iv, nn, rv, hobj⟩ := rd.ok I.hok
    have hlst : s.heap.IsList l iv.toArray := ⟨_, hobj, rfl, _, rfl⟩
    have hlen := rv.length
    have hjl : j < xs.length := by
      have q := its.length
      rw [List.length_drop] at q
      have q2 : xs.length - j = ds1.length + 1 := q
      omega
    have hxd : xs.drop j = xs[j] :: xs.drop (j + 1) := List.drop_eq_getElem_cons hjl
    have its2 := its
    rw [hxd] at its2
    cases its2 with
    | cons ir its3 =>
    obtain ⟨u, hu, ru⟩ := rv.get (i := j) (x := xs[j]) (by simp [hjl])
    rw [den_yfC F s]
    unfold Builtin.«proto.yield_from»
    refine sg_bind (wpAny_pure ?_)
    try dsimp only
    refine sg_bind (wpAny_mono (wpAny_grow (Q := fun r s2 => ∃ h', r = .ok u ∧ s2 = { s with heap := h' } ∧ h'.IsListIter it l (j + 1) ∧ Heap.SameBut it s.heap h') (E := fun _ _ => False) (wpAny_attempt (wpAny_holding ?_))) (fun r s2 ⟨g2, h', hr, hs2, hS, hk⟩ => ?_) fun _ _ z => z.2.elim)
    · rw [if_neg Bool.false_ne_true, if_pos (show (Value.none == Value.none) = true from rfl)]
      refine wpAny_bind (wpAny_rule (wpAny_bind ?_))
      exact it_item st hlst (x := u) (by simpa using hu) fun h' hS hk => wpAny_pure ⟨h', rfl, rfl, hS, hk⟩
    subst hr hs2
    try dsimp only
    obtain ⟨oi, hoi, hoc, hod⟩ := id hS
    refine sg_bind (wpAny_typeOf (T := "list_iterator") ⟨oi, hoi, hoc⟩ ?_)
    try dsimp only
    first
      | (refine sg_bind (wpAny_of_eq close_list ?_); refine sg_bind (wpAny_pure ?_))
      | refine sg_bind (wpAny_bind (wpAny_of_eq close_list (wpAny_pure ?_)))
      | refine sg_bind (wpAny_of_eq close_list ?_)
    try dsimp only
    refine sg_bind (wpAny_sleptOver (s := { s with heap := h' }) hoi hoc (by decide) ?_)
    have I2 : Inv (F.cx (cutS F.n0 s') Hw) ip σ H { s with heap := h' } := I.turned (it := it) (t' := s.toks) (fun b o hb e => (hk.2 b hb).trans e) hH nL (.inr (by rw [show (F.cx (cutS F.n0 s') Hw).s_0.heap.objs.size = F.n0 from cutH_size a.sz]; exact n0)) nc ni
    have I3 : Inv (F.cx (cutS F.n0 s') Hw) (ip ++ pinsAt [it] h') σ H { s with heap := h' } := I2.pinned (fp := [it]) (fun b hb => by
      obtain rfl := List.mem_singleton.mp hb
      exact FpAt hH nL nf (Nat.le_trans (Nat.le_of_eq (cutH_size a.sz)) n0) nc ni) (fun b hb => by
      obtain rfl := List.mem_singleton.mp hb
      exact ⟨oi, hoi, fun v z => by rw [hod] at z; cases z⟩)
    have a3 : At F H0 s' need pv (ip ++ pinsAt [it] h') σ H { s with heap := h' } := ⟨⟨Hw, hw, I3⟩, a.gr.trans g2, a.sz, a.cl, a.pv0, a.pvC, a.pvn, fun p hp => by
      rcases List.mem_append.mp hp with z | z
      · exact a.ip p z
      · have e := List.mem_singleton.mp (of_pinsAt z).1
        rw [e]
        exact ⟨n0, hn⟩⟩
    have hmem : (it, oi) ∈ ip ++ pinsAt [it] h' := List.mem_append_right _ (mem_pinsAt (List.mem_singleton.mpr rfl) hoi)
    show Sg _ _ _ (.yield u false [] _) _ _ _
    refine sg_yield hsp rfl hgd fun p => a3.out ru ir fun s4 H4 a4 sta => ?_
    obtain ⟨Hw4, hw4, I4⟩ := a4.ex
    have p4 := I4.pin (it, oi) (List.mem_append_right _ hmem)
    show Sg _ _ _ (Builtin.Generator.sleptOver (.ref it) false >>= fun _ => _) _ _ _
    refine sg_bind (wpAny_sleptOver p4.1 hoc (by decide) ?_)
    try dsimp only
    refine sg_bind (wpAny_pure ?_)
    refine sg_again (plainId_quiet plain_yf _) ?_
    exact ih (j + 1) s4 s4 _ _ H4 ⟨⟨Hw4, hw4, I4.unpinned⟩, a4.gr, a4.sz, a4.cl, a4.pv0, a4.pvC, a4.pvn, fun p hp => a4.ip p (List.mem_append_left _ hp)⟩ p4.2.1 (a4.ip (it, oi) hmem).2 ⟨oi, p4.1, hoc, hod⟩ (sta l _ hl0 ⟨xs, .inl rfl⟩ rd) (Items.stay sta its3) hjl
def gYf (rp : Hp → V → α → Prop) (H0 : Hp) (te : TE) : GT α := fun nx ds σ H => te σ H fun x H1 => ∃ a xs ds1 ds2, x = .ref a ∧ H0 a = none ∧ Rd H1 a (.lst xs) ∧ ds = ds1 ++ ds2 ∧ Items rp H0 H1 xs ds1 ∧ ∀ H2, Rd H2 a (.lst xs) → nx ds2 σ H2
theorem g_yieldFrom {e : Expr} {yp pos : Pos} {te : TE} (he : ∀ s0 Hq, PE (F.cx s0 Hq) e te) (hh : F.A.handled = none) (hin : interactive F.env = false := by rfl) : GS1 F rp H0 (.Expr (.YieldFrom e yp) pos) (gYf rp H0 te) := by
  refine ⟨fun c fs K J gd lv ip s' s need pv σ H ds nx pl a ht k => ?_⟩
  show Sg _ _ _ ((exec (.Expr (.YieldFrom e yp) pos) F.env).wrap K J gd lv) _ _ _
  rw [exec_Expr F.env _ pos hin rfl]
  rw [wrap_bind]
  refine sg_wrap (wpAny_standAt ?_)
  show Sg _ _ _ (((eval e F.env >>= fun v => (standAt yp >>= fun _ => yieldFrom F.env v)) >>= fun x => dropValue (.YieldFrom e yp) pos x).wrap K J gd lv) _ _ _
  rw [wrap_bind, wrap_bind]
  obtain ⟨Hw, hw, I⟩ := a.ex
  refine sg_wrap ?_
  rw [pl.over]
  refine wpAny_mono (wpAny_grow ((he _ _).run ip s σ H _ I ht)) (fun v s1 ⟨g1, hs⟩ => ?_) fun _ _ z => z.2.elim
  obtain ⟨x, H1, I1, rv, l, xs, ds1, ds2, rfl, h0, rd, rfl, hit, hn⟩ := hs
  obtain rfl : v = .ref l := rv
  have a1 : At F H0 s' need pv ip σ H1 s1 := ⟨⟨Hw, hw, I1⟩, a.gr.trans g1, a.sz, a.cl, a.pv0, a.pvC, a.pvn, a.ip⟩
  rw [wrap_bind]
  refine sg_wrap (wpAny_standAt ?_)
  obtain ⟨hz, its, nn, rits, hobj⟩ := rd.ok I1.hok
  have hl1 : s1.heap.IsList l its.toArray := ⟨_, hobj, rfl, _, rfl⟩
  unfold yieldFrom
  rw [wrap_bind]
  refine sg_wrap (wpAny_typeOf hl1.typeIs ?_)
  rw [if_neg (show ¬ ((Value.type "list" == Value.type "coroutine") = true) by decide)]
  rw [wrap_bind]
  refine sg_wrap (wpAny_holding ?_)
  refine wpAny_mono (wpAny_grow (wpAny_pyIter_list (Q := fun u s2 => u = .ref s1.heap.objs.size ∧ s2 = { s1 with heap := s1.heap.push { cls := .type "list_iterator", data := .fields #[.ref l, .int 0 0] } }) (E := fun _ _ => False) hl1 ⟨rfl, rfl⟩)) (fun u s2 ⟨g2, hu, hs2⟩ => ?_) fun _ _ z => z.2.elim
  subst hu
  have I2 : Inv (F.cx (cutS F.n0 s') Hw) ip σ H1 s2 := by
    rw [hs2]
    exact I1.kept (t' := s1.toks) fun b o q => Heap.get?_push_of_some _ q
  have a2 : At F H0 s' need pv ip σ H1 s2 := ⟨⟨Hw, hw, I2⟩, a1.gr.trans g2, a.sz, a.cl, a.pv0, a.pvC, a.pvn, a.ip⟩
  have hfp : FpOk (F.cx (cutS F.n0 s') Hw) ip H1 s1.heap.objs.size := I1.fpOk (Nat.le_refl _) (I1.hok.fresh (Nat.le_refl _))
  have hn0 : F.n0 ≤ s1.heap.objs.size := Nat.le_trans a.sz a1.gr.1
  have hst2 : s2.heap.IsListIter s1.heap.objs.size l 0 := by
    rw [hs2]
    exact ⟨_, Heap.get?_push_size _ rfl, rfl, rfl⟩
  have hlne : l ≠ s1.heap.objs.size := Nat.ne_of_lt (Heap.lt_size hobj)
  obtain ⟨f1, f2, f3, _, f5, f6⟩ := hfp
  unfold runValue
  rw [wrap_bind]
  show Sg _ _ _ (.call (yfC s1.heap.objs.size) none (gd false) (lv []) fun r => ((match r with
    | .ok f => (.pure f : Sem Flow)
    | .error e => .raise e) : Sem Flow).wrap _ _ _ _) _ _ _
  refine sg_call fun p => ?_
  refine yf_loop ?_ (by rw [splitAtGen_ret, pl.split]; rfl) (by show (gd false || fs.any Frame.guarded) = false; rw [pl.gd, pl.guard]; rfl) hn0 f2 f3 f5 (fun p hp => f6 p hp) h0 hlne (fun s3' s3 need3 pv3 H3 a3 rd3 => ?_) ds1 0 s' s2 need pv H1 a2 f1 (.inr a1.gr.1) hst2 rd (by rw [List.drop_zero]; exact hit) (Nat.zero_le _)
  · rw [GenW.over_handled (c := c), pl.over]
    exact hh
  · exact sg_leaf (.ok (.ret .none)) (k ds2 s3' need3 pv3 σ H3 s3 a3 (hn H3 rd3))
end
end Wg
set_option maxRecDepth 100000
set_option maxHeartbeats 1000000
/-! a generator def, called -/
namespace Wg
open PySem L2 PyProof.Rows

/-- the tuples that stood ahead of the call, known -/
def oldT (n0 : Nat) (H : Hp) (h : Heap) : Hp := fun b => if b < n0 then (match H b, h.get? b with
  | some (.tup xs), some o => some (.frz o (.tup xs))
  | some (.frz x (.tup xs)), some _ => some (.frz x (.tup xs))
  | _, _ => none) else none
theorem oldT_out {n0 : Nat} {H : Hp} {h : Heap} {b : Addr} {o : HO} (hok : ∀ b x u, H b = some (.frz x u) → h.get? b = some x) (e : oldT n0 H h b = some o) : b < n0 ∧ ∃ x xs, o = .frz x (.tup xs) ∧ h.get? b = some x ∧ Rd H b (.tup xs) := by
  unfold oldT at e
  split at e
  · rename_i hn
    refine ⟨hn, ?_⟩
    split at e
    · rename_i xs x h1 h2; cases e; exact ⟨_, _, rfl, h2, .inl h1⟩
    · rename_i x xs y h1 h2; cases e; exact ⟨_, _, rfl, hok b _ _ h1, .inr ⟨x, h1⟩⟩
    · cases e
  · cases e
theorem oldT_in {n0 : Nat} {H : Hp} {h : Heap} {b : Addr} {xs : List V} {x : Obj} (hn : b < n0) (r : Rd H b (.tup xs)) (hx : h.get? b = some x) : ∃ y, oldT n0 H h b = some (.frz y (.tup xs)) := by
  unfold oldT
  rw [if_pos hn]
  rcases r with r | ⟨y, r⟩ <;> rw [r, hx] <;> exact ⟨_, rfl⟩

abbrev SpGn (α : Type) := List V → Hp → List α → Prop
structure GnOk (P : Program) (w : World) (K : PySem.W.Frag) (mg : Str → Option Value) (base : Heap) (k : Nat) (f : Addr) (fd : FuncData) (ps : List Str) {α : Type} (rp : Hp → V → α → Prop) (sp : SpGn α) : Prop where
  len : ∀ vs H ds, sp vs H ds → vs.length = ps.length
  run : ∀ (A : Around) (outer : List Env) (s : Shared) (H : Hp) (args : Args) (us : List Value) (vs : List V) (ds : List α), Room k A → Env0 P w K mg base A outer s H → BindsTo s fd args (ps.zip us) → Vals vs us → sp vs H ds →
    codeAny (model P w) A (.call (.ref f) args) (fun r s' => ∃ a, r = .ok (.ret (.ref a)) ∧ GnMade P w base outer k rp ds s s' a) s
/-- a reading of tuples alone -/
def TupsOnly {α : Type} (sp : SpGn α) : Prop := ∀ vs H H' ds, (∀ b xs, Rd H b (.tup xs) → Rd H' b (.tup xs)) → sp vs H ds → sp vs H' ds

theorem sg_func {F : Fam} {α : Type} {rp : Hp → V → α → Prop} {H0 : Hp} {body : List Stmt} {t : GT α} {s : Shared} {need pv : Addr → Prop} {σ : L2.St} {H : Hp} {ds : List α} (hb : GSs F rp H0 body t) (a : At F H0 s need pv [] σ H s) (ht : t (fun ds' _ _ => ds' = []) ds σ H) :
    Sg (model F.P F.w) F.A (.func body F.env) ((model F.P F.w).den (.func body F.env)) [] s (Φs F rp ds s need pv) := by
  have e0 : (model F.P F.w).den (.func body F.env) = (.point [] fun _ => (((execs body F.env).onRaise (leaving F.env)) >>= fun f => match f with
    | .ret v => ret v
    | _ => ret .none)) := rfl
  rw [e0]
  refine sg_point ?_
  rw [Sem.bind_eq_wrap', Sem.onRaise_eq_wrap, Sem.wrap_wrap]
  refine hb.run (.func body F.env) [] _ _ _ _ [] s s need pv σ H ds _ ⟨GenW.over_func, rfl, rfl, rfl⟩ a ht fun ds' s2 need' pv' σ' H' s1 a1 q => ?_
  subst q
  show Sg _ _ _ (.pure (.done (.ret .none))) _ _ _
  exact sg_end (.ok (.ret .none)) ⟨_, rfl, .inl rfl, a1.os, a1.bare, a1.kept⟩

theorem gn_of {P : Program} {w : World} {K : PySem.W.Frag} {mg : Str → Option Value} {base : Heap} {k : Nat} {f : Addr} {name qual : Str} {params : Arguments} {body : List Stmt} {scope : Scope} {dV kV doc pm cdv ct oc : Value} {an od : Option Addr} {osl : Array (Option Value)} {N ps : List Str} {α : Type} {rp : Hp → V → α → Prop} {sp : SpGn α}
    (lk : K.lookup f = some ⟨oc, od, .func (PySem.W.fnOf name qual params body scope dV kV doc pm an cdv ct), osl⟩) (hcd : PySem.W.codeIn K cdv qual = true) (S : GScope N ps scope) (len : ∀ vs H ds, sp vs H ds → vs.length = ps.length) (hsp : TupsOnly sp)
    (hbody : ∀ (A : Around) (outer : List Env) (n0 : Nat) (H0 : Hp) (vs : List V) (ds : List α), Room k (A.deeper (envOfC qual scope n0 f cdv)) → (∀ b o, H0 b = some o → ∃ x u, o = .frz x u) → sp vs H0 ds →
      ∃ t, GSs ⟨P, w, K, mg, base, N, qual, scope, f, cdv, A, outer, n0⟩ rp H0 body t ∧ t (fun ds' _ _ => ds' = []) ds (start N vs) H0) :
    GnOk P w K mg base (k + 1) f (PySem.W.fnOf name qual params body scope dV kV doc pm an cdv ct) ps rp sp := by
  refine ⟨len, fun A outer s H args us vs ds hr e0 hb r hs => ?_⟩
  have hl := len _ _ _ hs
  have KX : K.In s.heap := e0.mod.kin.keeps fun b o e => (e0.bs b o e).1
  have lim : s.heap.NoLimit := e0.mod.nolimit.keeps fun b o e => (e0.bs b o e).1
  have hkind : ∀ y ∈ ps.zip us, scope.names.lookup y.1 = some .local ∨ (scope.names.lookup y.1 = some .cell ∧ ((cellsFrom (s.heap.objs.size + 1) scope.names []).lookup y.1).isSome = true) := fun y hy => by
    have hy1 : y.1 ∈ ps := (List.of_mem_zip (a := y.1) (b := y.2) hy).1
    rcases S.par y.1 hy1 with q | q
    · exact .inl q
    · exact .inr ⟨q, PySem.W.cellsFrom_some _ _ _ (.inl q)⟩
  refine codeAny_call_generator hr.depth (KX _ _ lk) rfl S.co S.gen rfl (PySem.W.codeRec_of KX hcd) (hb _ _ _ _ ?_)
  refine wpAny_newFunctionEnv_cells S.kind hkind fun env he s1 x => ?_
  subst he
  refine ⟨lim.keeps x.toInCall.keep, ?_⟩
  obtain ⟨h1, tk, es1, hk1⟩ := x.done
  have os1 : s1.os = s.os := by rw [es1]
  have gen1 : s1.gens = s.gens := by rw [es1]
  have lt1 : s.heap.objs.size < s1.heap.objs.size := x.toInCall.ns.lt
  have kp1 : ∀ b o, s.heap.get? b = some o → s1.heap.get? b = some o := x.toInCall.keep
  have I1 : Inv (gcxOf P w K mg base N qual scope f cdv A outer s H (fun _ _ _ => False) []) [] (start N vs) H s1 := inv_startG S hr.hd e0 hl r x
  refine ⟨s1.heap.objs.size, rfl, ⟨s1.gens.size, .func body (envOfC qual scope s.heap.objs.size f cdv), ⟨_, _, _, Heap.get?_push_size _ rfl, rfl, rfl, rfl⟩, Array.getElem?_push_size .., Nat.le_of_lt lt1, ?_, os1, ?_, fun b o e => Heap.get?_push_of_some _ (kp1 b o e), fun A' hrA hfA => ?_⟩⟩
  · show _ < (s1.heap.push _).objs.size
    rw [Heap.size_push]
    exact Nat.lt_succ_self _
  · exact AllBare.push (by rw [gen1]; exact e0.bare) rfl
  have cellsUp : ∀ y c, (envOfC qual scope s.heap.objs.size f cdv).cells.lookup y = some c → s.heap.objs.size < c ∧ c < s1.heap.objs.size := fun y c e => by
    obtain ⟨v, q⟩ := I1.cell y c e
    exact ⟨x.above y c (PySem.mem_of_lookup e), q.lt⟩
  -- the same frame, whoever wakes it
  have I1' : Inv ((⟨P, w, K, mg, base, N, qual, scope, f, cdv, A', outer, s.heap.objs.size⟩ : Fam).cx s H) [] (start N vs) H s1 := by
    have okk := I1.ok
    refine ⟨⟨okk.mod, okk.kind, rfl, rfl, okk.above, okk.inj, okk.has, okk.cab, fun _ => hrA.hd, Around.frames_deeper hfA, .inr ⟨rfl, rfl⟩, fun b z => absurd z (by simp [Fam.cx]), okk.bs, okk.bsz, fun b _ _ z => absurd z (by simp [Fam.cx]), fun b z => absurd z (by simp [Fam.cx]), okk.funs, okk.frf⟩, I1.os, I1.bare, I1.base, I1.loc, I1.cell, I1.free, I1.freeC, fun p hp => absurd hp (by simp [Fam.cx]), I1.hok, I1.len⟩
  show Sus (⟨P, w, K, mg, base, N, qual, scope, f, cdv, A', outer, s.heap.objs.size⟩ : Fam).P _ _ _ _ _ rp ds _ _ _ _
  generalize hF : (⟨P, w, K, mg, base, N, qual, scope, f, cdv, A', outer, s.heap.objs.size⟩ : Fam) = F at I1'
  have eP : F.P = P := by rw [← hF]
  have ew : F.w = w := by rw [← hF]
  have eb : F.base = base := by rw [← hF]
  have eo : F.outer = outer := by rw [← hF]
  have en : F.n0 = s.heap.objs.size := by rw [← hF]
  have eA : F.A = A' := by rw [← hF]
  have ee : F.env = envOfC qual scope s.heap.objs.size f cdv := by rw [← hF]; rfl
  rw [← ew, ← eb, ← eo, ← en, ← eA, sus_iff]
  intro s2 wk
  refine ⟨.inl rfl, ?_⟩
  have ee2 : F.env = envOfC qual scope F.n0 f cdv := by rw [← hF]; rfl
  show Sg (model F.P F.w) F.A (.func body (envOfC qual scope F.n0 f cdv)) ((model F.P F.w).den (.func body (envOfC qual scope F.n0 f cdv))) [] s2 (Φs F rp ds s2 _ _)
  rw [← ee2]
  have hfz : ∀ b x u, H b = some (.frz x u) → s.heap.get? b = some x := fun b x u e => (e0.hok b _ e).1
  have up : ∀ b o, b < s1.heap.objs.size → s1.heap.get? b = some o → s2.heap.get? b = some o := fun b o hb e => wk.need b o hb (Heap.get?_push_of_some _ e)
  have up0 : ∀ b o, s.heap.get? b = some o → s2.heap.get? b = some o := fun b o e => up b o (Nat.lt_trans (Heap.lt_size e) lt1) (kp1 b o e)
  have gk : ∀ b o, oldT F.n0 H s.heap b = some o → b < F.n0 ∧ ∃ x xs, o = .frz x (.tup xs) ∧ s2.heap.get? b = some x ∧ Rd H b (.tup xs) := fun b o e => by
    obtain ⟨h1, x, xs, h2, h3, h4⟩ := oldT_out hfz e
    exact ⟨h1, x, xs, h2, up0 b x h3, h4⟩
  have nG : ∀ b, F.n0 ≤ b → oldT F.n0 H s.heap b = none := fun b hb => by
    cases q : oldT F.n0 H s.heap b with
    | none => rfl
    | some o => exact absurd (Nat.lt_of_lt_of_le (gk b o q).1 hb) (Nat.lt_irrefl _)
  have nH : ∀ b, H b = none → oldT F.n0 H s.heap b = none := fun b hb => by
    cases q : oldT F.n0 H s.heap b with
    | none => rfl
    | some o =>
      obtain ⟨_, _, _, _, _, rd⟩ := gk b o q
      rcases rd with rd | ⟨y, rd⟩ <;> rw [hb] at rd <;> cases rd
  have lW : ∀ b, b < F.n0 → oldT F.n0 H s.heap b = none → wokeH F.n0 (oldT F.n0 H s.heap) (fun b => F.n0 ≤ b ∧ b < s1.heap.objs.size) s2.heap b = none := fun b hb q => woke_not q fun z => absurd (Nat.lt_of_lt_of_le hb z.1) (Nat.lt_irrefl _)
  have prv : ∀ b, Priv F [] b → F.n0 ≤ b ∧ b < s1.heap.objs.size := fun b pr => by
    rcases pr with rfl | ⟨y, e⟩ | ⟨p, hp, _⟩
    · exact ⟨Nat.le_refl _, by rw [en]; exact lt1⟩
    · rw [ee] at e
      have q := cellsUp y b e
      exact ⟨by rw [en]; exact Nat.le_of_lt q.1, q.2⟩
    · cases hp
  have hok2 : HOk F.P F.w (wokeH F.n0 (oldT F.n0 H s.heap) (fun b => F.n0 ≤ b ∧ b < s1.heap.objs.size) s2.heap) s2.heap := fun b o e => by
    rcases woke_out e with q | ⟨_, _, _, x, hx, rfl⟩
    · obtain ⟨_, x, xs, rfl, hx, rd⟩ := gk b o q
      refine ⟨hx, ?_⟩
      have kk := rd.ok e0.hok
      obtain ⟨hz, its, rr, o', e2, c⟩ := kk
      have e3 := up0 b o' e2
      rw [hx] at e3
      cases e3
      exact ⟨hz, its, rr, x, hx, c⟩
    · exact ⟨hx, trivial, ⟨x, hx⟩, fun _ _ _ _ => trivial⟩
  have spW : sp vs (wokeH F.n0 (oldT F.n0 H s.heap) (fun b => F.n0 ≤ b ∧ b < s1.heap.objs.size) s2.heap) ds := hsp vs H _ ds (fun b xs rd => by
    have kk := rd.ok e0.hok
    obtain ⟨_, its, _, o, e, _⟩ := kk
    obtain ⟨y, q⟩ := oldT_in (n0 := F.n0) (by rw [en]; exact Heap.lt_size e) rd e
    exact .inr ⟨y, woke_old q⟩) hs
  obtain ⟨t, ht, hq⟩ := hbody A' outer s.heap.objs.size _ vs ds (hrA.deeper _) (fun b o e => by
    rcases woke_out e with q | ⟨_, _, _, x, hx, rfl⟩
    · obtain ⟨_, x, xs, rfl, _, _⟩ := gk b o q
      exact ⟨x, _, rfl⟩
    · exact ⟨x, _, rfl⟩) spW
  rw [hF] at ht
  have bz : F.base.objs.size ≤ F.n0 := by rw [en, eb]; exact e0.bsz
  refine sg_func ht ⟨⟨_, ⟨fun b o e => ?_, fun b hb n => n, fun b o hn e np => ?_, fun b x u hn e => ?_⟩, rebase I1' wk.bare (fun b o pr e => up b o (prv b pr).2 e) wk.bs wk.funs wk.sz (fun y c e => by rw [ee] at e; rw [en]; exact Nat.le_of_lt (cellsUp y c e).1) (fun b o e => ?_) (fun b hb => ?_) (fun b pr => ?_) hok2⟩,
    .refl _, wk.sz, fun y c e => (prv c (.inr (.inl ⟨y, e⟩))).1, prv _ (.inl rfl), fun y c e => prv c (.inr (.inl ⟨y, e⟩)), fun b z => ⟨z.2, z.1⟩, fun p hp => by cases hp⟩ hq
  · rcases woke_out e with q | ⟨_, _, _, x, hx, rfl⟩
    · obtain ⟨_, x, xs, rfl, hx, _⟩ := gk b o q
      exact ⟨x, _, rfl, hx⟩
    · exact ⟨x, dum, rfl, hx⟩
  · rw [woke_new (nG b hn) ⟨hn, np⟩, e]
    intro z; cases z
  · rcases woke_out e with q | ⟨_, _, _, y, hy, z⟩
    · rw [nG b hn] at q; cases q
    · cases z; exact .inl rfl
  · have hb : b < F.n0 := Nat.lt_of_lt_of_le (Heap.lt_size e) bz
    refine lW b hb (nH b ?_)
    rw [eb] at e
    exact (e0.bs b o e).2
  · refine lW b (fam_fr I1' hb) (nH b ?_)
    rw [eo] at hb
    exact e0.frf b hb
  · exact woke_not (nG b (prv b pr).1) fun z => z.2 (prv b pr)
/-- its arguments lean on no tuple: all that it reads is its own -/
theorem gn_ofI {P : Program} {w : World} {K : PySem.W.Frag} {mg : Str → Option Value} {base : Heap} {k : Nat} {f : Addr} {name qual : Str} {params : Arguments} {body : List Stmt} {scope : Scope} {dV kV doc pm cdv ct oc : Value} {an od : Option Addr} {osl : Array (Option Value)} {N ps : List Str} {α : Type} {rp : Hp → V → α → Prop} {sp : List V → List α → Prop}
    (lk : K.lookup f = some ⟨oc, od, .func (PySem.W.fnOf name qual params body scope dV kV doc pm an cdv ct), osl⟩) (hcd : PySem.W.codeIn K cdv qual = true) (S : GScope N ps scope) (len : ∀ vs ds, sp vs ds → vs.length = ps.length)
    (hbody : ∀ (A : Around) (outer : List Env) (n0 : Nat) (H1 : Hp) (vs : List V) (ds : List α), Room k (A.deeper (envOfC qual scope n0 f cdv)) → sp vs ds →
      ∃ t, GSs ⟨P, w, K, mg, base, N, qual, scope, f, cdv, A, outer, n0⟩ rp (fun _ => none) body t ∧ t (fun ds' _ _ => ds' = []) ds (start N vs) H1) :
    GnOk P w K mg base (k + 1) f (PySem.W.fnOf name qual params body scope dV kV doc pm an cdv ct) ps rp (fun vs _ ds => sp vs ds) := by
  refine ⟨fun vs _ ds => len vs ds, fun A outer s H args us vs ds hr e0 hb r hs => ?_⟩
  have hl := len _ _ hs
  have KX : K.In s.heap := e0.mod.kin.keeps fun b o e => (e0.bs b o e).1
  have lim : s.heap.NoLimit := e0.mod.nolimit.keeps fun b o e => (e0.bs b o e).1
  have hkind : ∀ y ∈ ps.zip us, scope.names.lookup y.1 = some .local ∨ (scope.names.lookup y.1 = some .cell ∧ ((cellsFrom (s.heap.objs.size + 1) scope.names []).lookup y.1).isSome = true) := fun y hy => by
    have hy1 : y.1 ∈ ps := (List.of_mem_zip (a := y.1) (b := y.2) hy).1
    rcases S.par y.1 hy1 with q | q
    · exact .inl q
    · exact .inr ⟨q, PySem.W.cellsFrom_some _ _ _ (.inl q)⟩
  refine codeAny_call_generator hr.depth (KX _ _ lk) rfl S.co S.gen rfl (PySem.W.codeRec_of KX hcd) (hb _ _ _ _ ?_)
  refine wpAny_newFunctionEnv_cells S.kind hkind fun env he s1 x => ?_
  subst he
  refine ⟨lim.keeps x.toInCall.keep, ?_⟩
  obtain ⟨h1, tk, es1, hk1⟩ := x.done
  have os1 : s1.os = s.os := by rw [es1]
  have gen1 : s1.gens = s.gens := by rw [es1]
  have lt1 : s.heap.objs.size < s1.heap.objs.size := x.toInCall.ns.lt
  have kp1 : ∀ b o, s.heap.get? b = some o → s1.heap.get? b = some o := x.toInCall.keep
  have I1 : Inv (gcxOf P w K mg base N qual scope f cdv A outer s H (fun _ _ _ => False) []) [] (start N vs) H s1 := inv_startG S hr.hd e0 hl r x
  refine ⟨s1.heap.objs.size, rfl, ⟨s1.gens.size, .func body (envOfC qual scope s.heap.objs.size f cdv), ⟨_, _, _, Heap.get?_push_size _ rfl, rfl, rfl, rfl⟩, Array.getElem?_push_size .., Nat.le_of_lt lt1, ?_, os1, ?_, fun b o e => Heap.get?_push_of_some _ (kp1 b o e), fun A' hrA hfA => ?_⟩⟩
  · show _ < (s1.heap.push _).objs.size
    rw [Heap.size_push]
    exact Nat.lt_succ_self _
  · exact AllBare.push (by rw [gen1]; exact e0.bare) rfl
  have cellsUp : ∀ y c, (envOfC qual scope s.heap.objs.size f cdv).cells.lookup y = some c → s.heap.objs.size < c ∧ c < s1.heap.objs.size := fun y c e => by
    obtain ⟨v, q⟩ := I1.cell y c e
    exact ⟨x.above y c (PySem.mem_of_lookup e), q.lt⟩
  -- the same frame, whoever wakes it
  have I1' : Inv ((⟨P, w, K, mg, base, N, qual, scope, f, cdv, A', outer, s.heap.objs.size⟩ : Fam).cx s H) [] (start N vs) H s1 := by
    have okk := I1.ok
    refine ⟨⟨okk.mod, okk.kind, rfl, rfl, okk.above, okk.inj, okk.has, okk.cab, fun _ => hrA.hd, Around.frames_deeper hfA, .inr ⟨rfl, rfl⟩, fun b z => absurd z (by simp [Fam.cx]), okk.bs, okk.bsz, fun b _ _ z => absurd z (by simp [Fam.cx]), fun b z => absurd z (by simp [Fam.cx]), okk.funs, okk.frf⟩, I1.os, I1.bare, I1.base, I1.loc, I1.cell, I1.free, I1.freeC, fun p hp => absurd hp (by simp [Fam.cx]), I1.hok, I1.len⟩
  show Sus (⟨P, w, K, mg, base, N, qual, scope, f, cdv, A', outer, s.heap.objs.size⟩ : Fam).P _ _ _ _ _ rp ds _ _ _ _
  generalize hF : (⟨P, w, K, mg, base, N, qual, scope, f, cdv, A', outer, s.heap.objs.size⟩ : Fam) = F at I1'
  have eP : F.P = P := by rw [← hF]
  have ew : F.w = w := by rw [← hF]
  have eb : F.base = base := by rw [← hF]
  have eo : F.outer = outer := by rw [← hF]
  have en : F.n0 = s.heap.objs.size := by rw [← hF]
  have eA : F.A = A' := by rw [← hF]
  have ee : F.env = envOfC qual scope s.heap.objs.size f cdv := by rw [← hF]; rfl
  rw [← ew, ← eb, ← eo, ← en, ← eA, sus_iff]
  intro s2 wk
  refine ⟨.inl rfl, ?_⟩
  have ee2 : F.env = envOfC qual scope F.n0 f cdv := by rw [← hF]; rfl
  show Sg (model F.P F.w) F.A (.func body (envOfC qual scope F.n0 f cdv)) ((model F.P F.w).den (.func body (envOfC qual scope F.n0 f cdv))) [] s2 (Φs F rp ds s2 _ _)
  rw [← ee2]
  have hfz : ∀ b x u, H b = some (.frz x u) → s.heap.get? b = some x := fun b x u e => (e0.hok b _ e).1
  have up : ∀ b o, b < s1.heap.objs.size → s1.heap.get? b = some o → s2.heap.get? b = some o := fun b o hb e => wk.need b o hb (Heap.get?_push_of_some _ e)
  have up0 : ∀ b o, s.heap.get? b = some o → s2.heap.get? b = some o := fun b o e => up b o (Nat.lt_trans (Heap.lt_size e) lt1) (kp1 b o e)
  have lW : ∀ b, b < F.n0 → wokeH F.n0 ((fun _ => none)) (fun b => F.n0 ≤ b ∧ b < s1.heap.objs.size) s2.heap b = none := fun b hb => woke_not rfl fun z => absurd (Nat.lt_of_lt_of_le hb z.1) (Nat.lt_irrefl _)
  have prv : ∀ b, Priv F [] b → F.n0 ≤ b ∧ b < s1.heap.objs.size := fun b pr => by
    rcases pr with rfl | ⟨y, e⟩ | ⟨p, hp, _⟩
    · exact ⟨Nat.le_refl _, by rw [en]; exact lt1⟩
    · rw [ee] at e
      have q := cellsUp y b e
      exact ⟨by rw [en]; exact Nat.le_of_lt q.1, q.2⟩
    · cases hp
  have hok2 : HOk F.P F.w (wokeH F.n0 ((fun _ => none)) (fun b => F.n0 ≤ b ∧ b < s1.heap.objs.size) s2.heap) s2.heap := fun b o e => by
    rcases woke_out e with q | ⟨_, _, _, x, hx, rfl⟩
    · cases q
    · exact ⟨hx, trivial, ⟨x, hx⟩, fun _ _ _ _ => trivial⟩
  obtain ⟨t, ht, hq⟩ := hbody A' outer s.heap.objs.size (wokeH F.n0 (fun _ => none) (fun b => F.n0 ≤ b ∧ b < s1.heap.objs.size) s2.heap) vs ds (hrA.deeper _) hs
  rw [hF] at ht
  have bz : F.base.objs.size ≤ F.n0 := by rw [en, eb]; exact e0.bsz
  refine sg_func ht ⟨⟨_, ⟨fun b o e => ?_, fun b hb n => absurd (lW b hb) n, fun b o hn e np => ?_, fun b x u hn e => ?_⟩, rebase I1' wk.bare (fun b o pr e => up b o (prv b pr).2 e) wk.bs wk.funs wk.sz (fun y c e => by rw [ee] at e; rw [en]; exact Nat.le_of_lt (cellsUp y c e).1) (fun b o e => ?_) (fun b hb => ?_) (fun b pr => ?_) hok2⟩,
    .refl _, wk.sz, fun y c e => (prv c (.inr (.inl ⟨y, e⟩))).1, prv _ (.inl rfl), fun y c e => prv c (.inr (.inl ⟨y, e⟩)), fun b z => ⟨z.2, z.1⟩, fun p hp => by cases hp⟩ hq
  · rcases woke_out e with q | ⟨_, _, _, x, hx, rfl⟩
    · cases q
    · exact ⟨x, dum, rfl, hx⟩
  · rw [woke_new rfl ⟨hn, np⟩, e]
    intro z; cases z
  · rcases woke_out e with q | ⟨_, _, _, y, hy, z⟩
    · cases q
    · cases z; exact .inl rfl
  · have hb : b < F.n0 := Nat.lt_of_lt_of_le (Heap.lt_size e) bz
    exact lW b hb
  · exact lW b (fam_fr I1' hb)
  · exact woke_not rfl fun z => z.2 (prv b pr)
end Wg
set_option maxRecDepth 100000
set_option maxHeartbeats 1000000
/-! calls of generator defs; list(g) -/
namespace Wg
open PySem L2 PyProof.Rows

def tGn {α : Type} (sp : SpGn α) (t : TA) : TGe α := fun σ H R => t σ H fun vs H1 => ∃ ds, sp vs H1 ds ∧ R ds H1
def tGnN {α : Type} (n m : Nat) (sp : SpGn α) (gV : List V → List V → List V) (t tk : TA) : TGe α := fun σ H R => t σ H fun vs H1 => tk σ H1 fun zs H2 => vs.length = n ∧ zs.length = m ∧ ∃ ds, sp (gV vs zs) H2 ds ∧ R ds H2
section
variable {X : Cx} {k n : Nat} {f : Addr} {fd : FuncData} {ps ks : List Str} {α : Type} {rp : Hp → V → α → Prop} {sp : SpGn α} {x : Str} {p pos : Pos} {e : Expr} {es : List Expr} {kws : List Keyword} {t tk : TA} {g : List Value → List Value → List Value} {gV : List V → List V → List V}
theorem run_gn {pins : List (Addr × Obj)} {σ : L2.St} {H : Hp} {s : Shared} {us us' : List Value} {kw : List (Str × Value)} {vs : List V} {ds : List α} {R : List α → Hp → Prop} {E : Value → Shared → Prop} (F : GnOk X.prog X.w X.K X.mg X.base k f fd ps rp sp) (hr : Room k X.A) (hb : BindsTo s fd ⟨us, kw⟩ (ps.zip us')) (I : Inv X pins σ H s) (r : Vals vs us') (h : sp vs H ds) (hR : R ds H) :
    wpAny (model X.prog X.w) X.A (call (.ref f) us kw) (fun u s' => ∃ a ds H1 sc, u = .ref a ∧ R ds H1 ∧ Inv X pins σ H1 sc ∧ GnMade X.prog X.w X.base X.stack k rp ds sc s' a) E s := by
  refine wpAny_call (codeAny_mono (F.run X.A X.stack s H ⟨us, kw⟩ us' vs ds hr I.env0 hb r h) fun rr s' ⟨a, hrr, M⟩ => ?_)
  subst hrr
  exact ⟨a, ds, H, s, rfl, hR, I, M⟩
theorem pgn_call (F : GnOk X.prog X.w X.K X.mg X.base k f fd ps rp sp) (hr : Room k X.A) (hg : Gl X x) (hm : X.mg x = some (.ref f)) (hk : PySem.W.keepIn X.K (.ref f) = true) (hb : Binds X.K fd ps []) (ha : PA X (e :: es) t) (hdb : (x == ("__debug__" : Str)) = false := by decide)
    (he : starEach (e :: es) X.env = (false, eval e X.env) :: starEach es X.env := by rfl) (hpl : (backTo pos (starEach es X.env)).any (·.1) = false := by rfl) : PGn X k (.Call (.Name x p) (e :: es) [] pos) rp (tGn sp t) := by
  refine ⟨fun pins s σ H R I h => ?_⟩
  refine wpAny_Call_Name_kw (ld_glob I hg hm ?_ hdb)
  refine PySem.W.callWith_K (h₀ := X.base) I.ok.mod.kin hk (thn (ha.run pos pins s σ H _ I h) fun us s1 ⟨vs, H1, I1, r, ds, hs, hR⟩ => ⟨I1.kIn, ?_⟩) he hpl
  have hl : us.length = ps.length := r.length.symm.trans (F.len _ _ _ hs)
  have hbt : BindsTo s1 fd ⟨us, []⟩ (ps.zip us) := by
    have q := hb s1 us I1.kIn (by rw [List.append_nil]; exact hl)
    rw [List.append_nil] at q
    exact q
  exact run_gn F hr hbt I1 r hs hR
theorem pgn_callN (F : GnOk X.prog X.w X.K X.mg X.base k f fd ps rp sp) (hr : Room k X.A) (hg : Gl X x) (hm : X.mg x = some (.ref f)) (hk : PySem.W.keepIn X.K (.ref f) = true) (hb : KBn X.K fd ps n ks g gV) (ha : PA X (e :: es) t) (hkw : PK X kws tk)
    (hall : (backToKw pos (keywordEach kws X.env)).all (·.1.isSome) = true := by rfl) (hks : (backToKw pos (keywordEach kws X.env)).filterMap (·.1) = ks := by rfl) (hdb : (x == ("__debug__" : Str)) = false := by decide)
    (he : starEach (e :: es) X.env = (false, eval e X.env) :: starEach es X.env := by rfl) (hpl : ((backTo pos (starEach (e :: es) X.env)).any (·.1) || (backToKw pos (keywordEach kws X.env)).any (·.1.isNone)) = false := by rfl) :
    PGn X k (.Call (.Name x p) (e :: es) kws pos) rp (tGnN n ks.length sp gV t tk) := by
  refine ⟨fun pins s σ H R I h => ?_⟩
  refine wpAny_Call_Name_kw (ld_glob I hg hm ?_ hdb)
  refine PySem.W.callWith_KW (h₀ := X.base) I.ok.mod.kin hk hall (thn (ha.run pos pins s σ H _ I h) fun us s1 ⟨vs, H1, I1, r, q⟩ => ?_) hpl he
  refine thn (hkw.run pos pins s1 σ H1 _ I1 q) fun ws s2 ⟨zs, H2, I2, rz, l1, l2, ds, hs, hR⟩ => ⟨I2.kIn, ?_⟩
  rw [hks]
  exact run_gn F hr (hb.to s2 us ws I2.kIn (r.length.symm.trans l1) (rz.length.symm.trans l2)) I2 (hb.rel r rz) hs hR
end

/-- a tuple that came out is known -/
def outH (Hc T : Hp) (h : Heap) : Hp := fun b => match Hc b with
  | some o => some o
  | none => match T b, h.get? b with
    | some (.tup xs), some o => some (.frz o (.tup xs))
    | _, _ => none
theorem outH_old {Hc T : Hp} {h : Heap} {b : Addr} {o : HO} (e : Hc b = some o) : outH Hc T h b = some o := by
  unfold outH
  rw [e]
theorem outH_new {Hc T : Hp} {h : Heap} {b : Addr} {o : HO} (e : outH Hc T h b = some o) : Hc b = some o ∨ (Hc b = none ∧ ∃ x xs, T b = some (.tup xs) ∧ h.get? b = some x ∧ o = .frz x (.tup xs)) := by
  unfold outH at e
  split at e
  · rename_i u q; exact .inl (q.trans e)
  · rename_i q
    split at e
    · rename_i xs x h1 h2; exact .inr ⟨q, x, xs, h1, h2, (Option.some.inj e).symm⟩
    · cases e
theorem outH_tup {Hc T : Hp} {h : Heap} {b : Addr} {xs : List V} {x : Obj} (e : Hc b = none) (t : T b = some (.tup xs)) (q : h.get? b = some x) : outH Hc T h b = some (.frz x (.tup xs)) := by
  unfold outH
  rw [e, t, q]

/-- what stands while list(g) runs -/
structure Col (X : Cx) (H : Hp) (sc : Shared) {α : Type} (rp : Hp → V → α → Prop) (S a : Addr) (g : Nat) (need pv : Addr → Prop) (s : Shared) (ys : List V) (dn : List α) (Hc : Hp) : Prop where
  os : s.os = sc.os
  bare : AllBare s.gens
  kp : ∀ b o, sc.heap.get? b = some o → (b ∉ frs X.stack → s.heap.get? b = some o) ∧ ∃ sl, s.heap.get? b = some { o with slots := sl }
  ext : ∀ b o, H b = some o → Hc b = some o
  hok : HOk X.prog X.w Hc s.heap
  new : ∀ b o, Hc b = some o → H b = none → sc.heap.objs.size ≤ b ∧ b ≠ S ∧ ¬ pv b ∧ ∃ x xs, o = .frz x (.tup xs)
  pvn : ∀ b, pv b → sc.heap.objs.size ≤ b ∧ need b
  ns : ¬ need S
  na : ¬ need a
  hS : ∃ acc c, s.heap.get? S = some (lstObj acc c) ∧ Vals ys acc.toList
  gen : s.heap.IsGen a g
  its : Paired (rp Hc) ys dn
section
variable {X : Cx} {pins : List (Addr × Obj)} {σ : L2.St} {H : Hp} {sc : Shared} {α : Type} {rp : Hp → V → α → Prop} {S a : Addr} {g : Nat} {Q : List V → Hp → Prop} {A : Around}
theorem col_funs {need pv : Addr → Prop} {s : Shared} {ys : List V} {dn : List α} {Hc : Hp} (I : Inv X pins σ H sc) (c : Col X H sc rp S a g need pv s ys dn Hc) : s.heap.FunFrames X.base X.stack :=
  Heap.FunFrames.of_keeps (fun b o e _ => by
    obtain ⟨sl, q⟩ := (c.kp b o e).2
    exact ⟨_, q, rfl⟩) I.stack
theorem col_bs {need pv : Addr → Prop} {s : Shared} {ys : List V} {dn : List α} {Hc : Hp} (I : Inv X pins σ H sc) (c : Col X H sc rp S a g need pv s ys dn Hc) : ∀ b o, X.base.get? b = some o → s.heap.get? b = some o := fun b o e => by
  refine (c.kp b o (I.bk b o e)).1 fun hf => ?_
  rcases List.mem_cons.mp (I.stkSub b hf) with z | z
  · have h1 := Heap.lt_size e
    rw [z] at h1
    exact absurd (Nat.lt_of_lt_of_le h1 (Nat.le_trans I.ok.bsz I.ok.above)) (Nat.lt_irrefl _)
  · exact I.ok.nofr e z
theorem sus_seg (I : Inv X pins σ H sc) (hrt : ByTups rp) (hmono : ∀ H H' x d, (∀ b o, H b = some o → H' b = some o) → rp H x d → rp H' x d) (hnS : sc.heap.objs.size ≤ S) (hna : sc.heap.objs.size ≤ a) (haS : a ≠ S) {all : List α} (hQ : ∀ ys H', (∀ b o, H b = some o → H' b = some o) → Paired (rp H') ys all → Q ys H') :
    ∀ (ds : List α) (gs : GenState) (sY s : Shared) (need pv : Addr → Prop) (n : Nat) (ys : List V) (dn : List α) (Hc : Hp), Sus X.prog X.w X.base X.stack sc.heap.objs.size A rp ds gs sY need pv → Wk X.base X.stack sc.heap.objs.size need sY s → Col X H sc rp S a g need pv s ys dn Hc → dn ++ ds = all → n + ys.length = sizeLine → ds.length ≤ n →
      gs.Goes (model X.prog X.w) A (REnd X.prog X.w X.stack H sc [] S a g Q (fun _ _ _ => False)) (YItem sc S a g) n (.send .none) s := by
  intro ds
  induction ds with
  | nil =>
    intro gs sY s need pv n ys dn Hc hs wk c hall hn hd
    have W := hs s wk
    rw [List.append_nil] at hall
    subst hall
    have fin : ∀ r s1, (r = .ok (.ret .none) ∨ r = .ok .next) → s1.os = s.os → AllBare s1.gens → Kept (frs X.stack) pv s.heap s1.heap → REnd X.prog X.w X.stack H sc [] S a g Q (fun _ _ _ => False) n s r s1 := fun r s1 hr os1 b1 kp1 => by
      obtain ⟨acc, cc, hS, rv⟩ := c.hS
      have lt : ∀ b o, sc.heap.get? b = some o → ¬ pv b := fun b o e z => absurd (Nat.lt_of_lt_of_le (Heap.lt_size e) (c.pvn b z).1) (Nat.lt_irrefl _)
      refine .inl ⟨hr, Hc, ys, acc, cc, os1.trans c.os, b1, ⟨fun b o e n1 hf _ => ?_, fun b o e n1 hf _ => ?_, fun b o e n1 _ => ?_, fun b o e _ => ?_, fun b xs e => c.ext _ _ e, fun b o u e => c.ext _ _ e, fun b ps e => ⟨#[], by rw [c.ext _ _ e]; simp⟩⟩, fun b o e => ?_, ?_, ?_, rv, by omega, hQ ys Hc c.ext c.its⟩
      · exact kp1.keep b o ((c.kp b o e).1 hf) (lt b o e) hf
      · obtain ⟨sl, q⟩ := (c.kp b o e).2
        obtain ⟨sl2, q2⟩ := kp1.slot b _ q (lt b o e)
        exact ⟨sl2, q2⟩
      · cases q : Hc b with
        | none => rfl
        | some u => exact absurd (Nat.lt_of_lt_of_le (Heap.lt_size e) (c.new b u q n1).1) (Nat.lt_irrefl _)
      · obtain ⟨sl, q⟩ := (c.kp b o e).2
        obtain ⟨sl2, q2⟩ := kp1.slot b _ q (lt b o e)
        exact ⟨_, q2⟩
      · refine (c.hok b o e).stay (fun x v hx q => ?_) (fun _ z => z) fun _ _ z => z
        have hcx : ∃ u, Hc x = some u := by
          rcases hx with z | z
          · exact ⟨o, by rw [z]; exact e⟩
          · exact ⟨_, z⟩
        obtain ⟨u, hu⟩ := hcx
        cases hH : H x with
        | none =>
          obtain ⟨h1, _, h3, _⟩ := c.new x u hu hH
          refine kp1.keep x v q h3 fun hf => ?_
          exact absurd (Nat.lt_of_lt_of_le (stk_lt (n0 := sc.heap.objs.size) I ⟨I.sz, I.lt, fun y d ed => by obtain ⟨_, qd⟩ := I.cell y d ed; exact qd.lt, fun p hp => Heap.lt_size (I.pin p hp).1⟩ hf) h1) (Nat.lt_irrefl _)
        | some u' =>
          have hl := I.hok.lt hH
          refine kp1.keep x v q (fun z => absurd (Nat.lt_of_lt_of_le hl (c.pvn x z).1) (Nat.lt_irrefl _)) fun hf => ?_
          rw [I.stkFree x hf] at hH; cases hH
      · cases q : Hc S with
        | none => rfl
        | some u =>
          cases hH : H S with
          | none => exact absurd rfl (c.new S u q hH).2.1
          | some u' => rw [I.hok.fresh hnS] at hH; cases hH
      · refine kp1.keep S _ hS (fun z => c.ns (c.pvn S z).2) fun hf => ?_
        exact absurd (Nat.lt_of_lt_of_le (stk_lt (n0 := sc.heap.objs.size) I ⟨I.sz, I.lt, fun y d ed => by obtain ⟨_, qd⟩ := I.cell y d ed; exact qd.lt, fun p hp => Heap.lt_size (I.pin p hp).1⟩ hf) hnS) (Nat.lt_irrefl _)
    cases gs with
    | fresh cd =>
      refine ⟨rfl, seg_iff.mpr fun Γ p hc hΓ => ?_⟩
      obtain ⟨e, s1, hr, hq, r, rfl, h1, h2, h3, h4⟩ := W.2 Γ p hc hΓ
      exact ⟨_, s1, hr, fin r s1 h1 h2 h3 h4⟩
    | suspended k0 l0 c0 p0 fs0 cl =>
      refine seg_iff.mpr fun Γ p hc hΓ => ?_
      obtain ⟨e, s1, hr, hq, r, rfl, h1, h2, h3, h4⟩ := W.2 Γ p hc hΓ
      exact ⟨_, s1, hr, fin r s1 h1 h2 h3 h4⟩
    | running => rcases W.1 with z | z <;> cases z
    | finished => rcases W.1 with z | z <;> cases z
  | cons d ds ih =>
    intro gs sY s need pv n ys dn Hc hs wk c hall hn hd
    have W := hs s wk
    obtain ⟨m, rfl⟩ : ∃ m, n = m + 1 := ⟨n - 1, by have q : ds.length + 1 ≤ n := hd; omega⟩
    have yg : Young X pins sc.heap.objs.size := ⟨I.sz, I.lt, fun y d ed => by obtain ⟨_, qd⟩ := I.cell y d ed; exact qd.lt, fun p hp => Heap.lt_size (I.pin p hp).1⟩
    obtain ⟨acc, cc, hS, rv⟩ := c.hS
    have hasz : acc.size = ys.length := by
      have e1 := rv.length
      have e2 : acc.toList.length = acc.size := by simp
      omega
    have hd' : ds.length ≤ m := by have q : ds.length + 1 ≤ m + 1 := hd; omega
    have fin : ∀ e s1, e.quiet = true → (∃ v gd l k c1 q fs, e = .susp v gd l k c1 q fs ∧ s1.os = s.os ∧ AllBare s1.gens ∧ Kept (frs X.stack) pv s.heap s1.heap ∧ ∃ need1 pv1, ItemAt X.prog X.w sc.heap.objs.size rp d v need pv need1 pv1 s s1 ∧ Sus X.prog X.w X.base X.stack sc.heap.objs.size A rp ds e.genState s1 need1 pv1) →
        SegEnd (REnd X.prog X.w X.stack H sc [] S a g Q (fun _ _ _ => False)) (YItem sc S a g) (m + 1) (Seg.next (model X.prog X.w) A (REnd X.prog X.w X.stack H sc [] S a g Q (fun _ _ _ => False)) (YItem sc S a g) (m + 1)) s e s1 := fun e s1 hq he => by
      obtain ⟨v, gd, l, k, c1, q, fs, rfl, os1, b1, kp1, need1, pv1, it, hs1⟩ := he
      obtain ⟨T, x, TO, rx, hrp⟩ := it.it
      have kpE : ∀ b o, s.heap.get? b = some o → sc.heap.objs.size ≤ b → ¬ pv b → s1.heap.get? b = some o := fun b o e hb hp => kp1.keep b o e hp fun hf => absurd (Nat.lt_of_lt_of_le (stk_lt I yg hf) hb) (Nat.lt_irrefl _)
      have hnS1 : ¬ need1 S := fun z => by
        rcases (it.nd S z).2.2 with r | r
        · exact c.ns r
        · exact absurd (Nat.lt_of_lt_of_le (Heap.lt_size hS) r) (Nat.lt_irrefl _)
      have hna1 : ¬ need1 a := fun z => by
        rcases (it.nd a z).2.2 with r | r
        · exact c.na r
        · obtain ⟨o, _, _, ho, _⟩ := c.gen
          exact absurd (Nat.lt_of_lt_of_le (Heap.lt_size ho) r) (Nat.lt_irrefl _)
      have hS1 := kpE S _ hS hnS fun z => c.ns (c.pvn S z).2
      have hg1 : s1.heap.IsGen a g := by
        obtain ⟨o, nm, qn, ho, r⟩ := c.gen
        exact ⟨o, nm, qn, kpE a o ho hna fun z => c.na (c.pvn a z).2, r⟩
      have kp01 : ∀ b o, sc.heap.get? b = some o → (b ∉ frs X.stack → s1.heap.get? b = some o) ∧ ∃ sl, s1.heap.get? b = some { o with slots := sl } := fun b o e => by
        have hnp : ¬ pv b := fun z => absurd (Nat.lt_of_lt_of_le (Heap.lt_size e) (c.pvn b z).1) (Nat.lt_irrefl _)
        refine ⟨fun hf => kp1.keep b o ((c.kp b o e).1 hf) hnp hf, ?_⟩
        obtain ⟨sl, q⟩ := (c.kp b o e).2
        obtain ⟨sl2, q2⟩ := kp1.slot b _ q hnp
        exact ⟨sl2, q2⟩
      have hcs : ∀ x v, (∃ u, Hc x = some u) → s.heap.get? x = some v → s1.heap.get? x = some v := fun x v hx q => by
        obtain ⟨u, hu⟩ := hx
        cases hH : H x with
        | none =>
          obtain ⟨h1, _, h3, _⟩ := c.new x u hu hH
          exact kpE x v q h1 h3
        | some u' =>
          have hl := I.hok.lt hH
          refine kp1.keep x v q (fun z => absurd (Nat.lt_of_lt_of_le hl (c.pvn x z).1) (Nat.lt_irrefl _)) fun hf => ?_
          rw [I.stkFree x hf] at hH; cases hH
      have hok1 : HOk X.prog X.w Hc s1.heap := fun b o e => (c.hok b o e).stay (fun x v hx q => hcs x v (by
        rcases hx with z | z
        · exact ⟨o, by rw [z]; exact e⟩
        · exact ⟨_, z⟩) q) (fun _ z => z) fun _ _ z => z
      have lim : s1.heap.NoLimit := I.ok.mod.nolimit.keeps fun b o e => by
        refine (kp01 b o (I.bk b o e)).1 fun hf => ?_
        rcases List.mem_cons.mp (I.stkSub b hf) with z | z
        · have h1 := Heap.lt_size e
          rw [z] at h1
          exact absurd (Nat.lt_of_lt_of_le h1 (Nat.le_trans I.ok.bsz I.ok.above)) (Nat.lt_irrefl _)
        · exact I.ok.nofr e z
      refine ⟨hq, os1.trans c.os, b1, lim, hg1, ⟨acc, cc, hS1, by rw [hasz]; show m + 1 - 1 + 1 + ys.length = sizeLine; omega⟩, fun s2 z => ?_⟩
      show Seg _ _ _ _ m s2 c1 (k (.send .none)) fs s2
      have upE : ∀ b o, b ≠ S → s1.heap.get? b = some o → s2.heap.get? b = some o := z.keep
      have ltS : ∀ b o, sc.heap.get? b = some o → b ≠ S := fun b o e => Nat.ne_of_lt (Nat.lt_of_lt_of_le (Heap.lt_size e) hnS)
      have kp02 : ∀ b o, sc.heap.get? b = some o → (b ∉ frs X.stack → s2.heap.get? b = some o) ∧ ∃ sl, s2.heap.get? b = some { o with slots := sl } := fun b o e => by
        refine ⟨fun hf => upE b o (ltS b o e) ((kp01 b o e).1 hf), ?_⟩
        obtain ⟨sl, q⟩ := (kp01 b o e).2
        exact ⟨sl, upE b _ (ltS b o e) q⟩
      have nT : ∀ b xs, T b = some (.tup xs) → sc.heap.objs.size ≤ b ∧ b ≠ S ∧ ¬ pv1 b := fun b xs e => by
        obtain ⟨h1, h2, _⟩ := TO.tup b _ e
        exact ⟨(it.nd b h1).1, fun y => hnS1 (by rw [← y]; exact h1), h2⟩
      have hHS : Hc S = none := by
        cases q : Hc S with
        | none => rfl
        | some u =>
          cases hH : H S with
          | none => exact absurd rfl (c.new S u q hH).2.1
          | some u' => rw [I.hok.fresh hnS] at hH; cases hH
      have hnew : ∀ b o, outH Hc T s1.heap b = some o → H b = none → sc.heap.objs.size ≤ b ∧ b ≠ S ∧ ¬ pv1 b ∧ ∃ x xs, o = .frz x (.tup xs) := fun b o e hH => by
        rcases outH_new e with q | ⟨_, x, xs, h1, _, h3⟩
        · obtain ⟨h1, h2, h3, h4⟩ := c.new b o q hH
          refine ⟨h1, h2, fun y => ?_, h4⟩
          rcases (it.pv b y).2 with r | r
          · exact h3 r
          · exact absurd (Nat.lt_of_lt_of_le (c.hok.lt q) r) (Nat.lt_irrefl _)
        · obtain ⟨h4, h5, h6⟩ := nT b xs h1
          exact ⟨h4, h5, h6, x, xs, h3⟩
      have hok1' : HOk X.prog X.w (outH Hc T s1.heap) s1.heap := fun b o e => by
        rcases outH_new e with q | ⟨_, x, xs, h1, h2, rfl⟩
        · exact (hok1 b o q).stay (fun _ _ _ y => y) (fun _ y => outH_old y) fun _ _ y => outH_old y
        · exact ⟨h2, TO.ok b _ h1⟩
      have neS : ∀ b o, outH Hc T s1.heap b = some o → b ≠ S := fun b o e y => by
        subst y
        rcases outH_new e with q | ⟨_, x, xs, h1, _, _⟩
        · rw [hHS] at q; cases q
        · exact (nT b xs h1).2.1 rfl
      have hok2 : HOk X.prog X.w (outH Hc T s1.heap) s2.heap := fun b o e => (hok1' b o e).stay (fun x v hx q => upE x v (by
        rcases hx with y | y
        · rw [y]; exact neS b o e
        · exact neS x _ y) q) (fun _ y => y) fun _ _ y => y
      have hrd : rp (outH Hc T s1.heap) x d := hrt T _ x d (fun b xs e => by
        cases q : Hc b with
        | none =>
          obtain ⟨o, ho⟩ := (it.nd b (TO.tup b _ e).1).2.1
          exact .inr ⟨o, outH_tup q e ho⟩
        | some u =>
          cases hH : H b with
          | some u' => exact absurd (Nat.lt_of_lt_of_le (I.hok.lt hH) (nT b xs e).1) (Nat.lt_irrefl _)
          | none =>
            obtain ⟨_, _, _, y, zs, rfl⟩ := c.new b u q hH
            have o1 : ObjOk X.prog X.w _ s1.heap b (.tup zs) := (hok1 b _ q).2
            have o2 : ObjOk X.prog X.w _ s1.heap b (.tup xs) := TO.ok b _ e
            obtain ⟨_, is1, r1, ob, e1, _, n1, d1⟩ := o1
            obtain ⟨_, is2, r2, ob2, e2, _, n2, d2⟩ := o2
            rw [e1] at e2
            cases e2
            rw [d1] at d2
            have d3 : is1.toArray = is2.toArray := by injection d2
            have d4 : is1 = is2 := by simpa using congrArg Array.toList d3
            subst d4
            rw [r1.inj r2] at q
            exact .inr ⟨y, outH_old q⟩) (fun b o e => (TO.tup b o e).2.2) hrp
      have pm : ∀ {vs : List V} {es : List α}, Paired (rp Hc) vs es → Paired (rp (outH Hc T s1.heap)) (vs ++ [x]) (es ++ [d]) := by
        intro vs es pr
        induction pr with
        | nil => exact .cons hrd .nil
        | cons r t ih2 => exact .cons (hmono _ _ _ _ (fun _ _ y => outH_old y) r) ih2
      obtain ⟨c', eS⟩ := z.own acc cc hS1
      have col2 : Col X H sc rp S a g need1 pv1 s2 (ys ++ [x]) (dn ++ [d]) (outH Hc T s1.heap) := ⟨z.os.trans (os1.trans c.os), z.bare, kp02, fun b o e => outH_old (c.ext b o e), hok2, hnew, fun b y => ⟨(it.nd b (it.pv b y).1).1, (it.pv b y).1⟩, hnS1, hna1, ⟨_, c', eS, by rw [Array.toList_push]; exact rv.append (.cons rx .nil)⟩, (by
        obtain ⟨o, nm, qn, ho, r⟩ := hg1
        exact ⟨o, nm, qn, upE a o haS ho, r⟩), pm c.its⟩
      have wk2 : Wk X.base X.stack sc.heap.objs.size need1 s1 s2 := ⟨z.os, z.bare, fun b o n1 e => upE b o (fun y => hnS1 (by rw [← y]; exact n1)) e, col_bs I col2, col_funs I col2, Nat.le_trans hna (Nat.le_of_lt (by
        obtain ⟨o, _, _, ho, _⟩ := col2.gen
        exact Heap.lt_size ho))⟩
      exact ih (.suspended k l c1 q fs (gd || fs.any Frame.guarded)) s1 s2 need1 pv1 m (ys ++ [x]) (dn ++ [d]) _ hs1 wk2 col2 (by rw [List.append_assoc]; exact hall) (by rw [List.length_append, List.length_singleton]; omega) hd'
    cases gs with
    | fresh cd =>
      refine ⟨rfl, seg_iff.mpr fun Γ p hc hΓ => ?_⟩
      obtain ⟨e, s1, hr, hq, h⟩ := W.2 Γ p hc hΓ
      exact ⟨e, s1, hr, fin e s1 hq h⟩
    | suspended k0 l0 c0 p0 fs0 cl =>
      refine seg_iff.mpr fun Γ p hc hΓ => ?_
      obtain ⟨e, s1, hr, hq, h⟩ := W.2 Γ p hc hΓ
      exact ⟨e, s1, hr, fin e s1 hq h⟩
    | running => rcases W.1 with z | z <;> cases z
    | finished => rcases W.1 with z | z <;> cases z
/-- what list(g) is to find -/
def tGnL {α : Type} (rp : Hp → V → α → Prop) (tg : TGe α) : TGen := fun σ H cont => tg σ H fun ds H1 => ds.length ≤ sizeLine ∧ ∀ ys H', (∀ b o, H1 b = some o → H' b = some o) → Paired (rp H') ys ds → cont ys H'
theorem pgen_of {k : Nat} {e : Expr} {tg : TGe α} (hrt : ByTups rp) (hmono : ∀ H H' x d, (∀ b o, H b = some o → H' b = some o) → rp H x d → rp H' x d) (h : PGn X k e rp tg) : PGen X k e (tGnL rp tg) (fun _ _ _ => False) := by
  refine ⟨fun pins s σ H cont I hq => ?_⟩
  refine thn (h.run pins s σ H _ I hq) fun u s' ⟨a, ds, H1, sc, hu, ⟨hl, hc⟩, Isc, GM⟩ => ?_
  obtain ⟨g, c, hg, hgs, h1, h2, os, bare, kp, S⟩ := GM.ex
  have lim : s'.heap.NoLimit := Isc.ok.mod.nolimit.keeps fun b o e => kp b o (Isc.bk b o e)
  refine ⟨H1, sc, [], Isc, .nil, a, g, c, hu, h1, h2, hg, hgs, os, bare, lim, kp, fun A' S' s2 hrA hfA hS' kp2 hSo hos hba => ?_⟩
  obtain ⟨cS, heS⟩ := hSo
  have W := sus_seg (S := S') (a := a) (g := g) (Q := cont) (A := A') Isc hrt hmono (Nat.le_trans (Nat.le_trans h1 (Nat.le_of_lt h2)) hS') h1 (Nat.ne_of_lt (Nat.lt_of_lt_of_le h2 hS')) (all := ds) hc ds (.fresh c) s' s2 _ _ sizeLine [] [] H1 (S A' hrA hfA)
    ⟨hos.trans os.symm, hba, fun b o _ e => kp2 b o e, fun b o e => kp2 b o (kp b o (Isc.bk b o e)), (by
      exact Heap.FunFrames.of_keeps (fun b o e _ => ⟨o, kp2 b o (kp b o e), rfl⟩) Isc.stack), Nat.le_trans (Nat.le_trans h1 (Nat.le_of_lt h2)) (Nat.le_trans hS' (Nat.le_of_lt (Heap.lt_size heS)))⟩
    ⟨hos, hba, fun b o e => ⟨fun _ => kp2 b o (kp b o e), o.slots, kp2 b o (kp b o e)⟩, fun _ _ e => e, (Isc.hok.kept kp).kept kp2, fun b o e n => (by rw [n] at e; cases e), fun b z => ⟨z.1, z.2⟩, fun z => absurd (Nat.lt_of_lt_of_le (Nat.lt_trans z h2) hS') (Nat.lt_irrefl _), Nat.lt_irrefl a, ⟨#[], cS, heS, .nil⟩, hg.keeps kp2, .nil⟩ rfl (Nat.add_zero _) hl
  exact W.2
end
end Wg
set_option maxRecDepth 100000
set_option maxHeartbeats 1000000
/-! plain data, its reading in the abstract heap; expressions that compute plain data -/
namespace Wd
open PySem L2 PyProof.Rows

inductive D where
  | non | bl (b : Bool) | int (i : Int) | str (x : Str) | tup (ds : List D) | lst (ds : List D) | scr (ns : List Int) | ntp (ds : List D) | fls (ds : List D)
instance : Inhabited D := ⟨.non⟩

/-! reading: O are the lists that may yet change -/
mutual
def rep (K : PySem.W.Frag) (H : Hp) (O : Addr → Prop) : D → V → Prop
  | .non, v => v = .non
  | .bl b, v => v = .bl b
  | .int i, v => v = .int i
  | .str x, v => v = .str x
  | .tup ds, v => ∃ a xs, v = .ref a ∧ SqT K H a xs ∧ reps K H O ds xs
  | .lst ds, v => ∃ a xs, v = .ref a ∧ ¬ O a ∧ H a = some (.lst xs) ∧ reps K H O ds xs
  | .scr ns, v => ∃ a, v = .ref a ∧ ((¬ O a ∧ H a = some (.lst (ns.map V.int))) ∨ (∃ o, H a = some (.frz o (.lst (ns.map V.int)))) ∨ ∀ H2, SqL K H2 a (ns.map V.int))
  | .ntp ds, v => ∃ a xs, v = .ref a ∧ (H a = some (.tup xs) ∨ ∀ H2, SqT K H2 a xs) ∧ reps K H O ds xs
  | .fls ds, v => ∃ a xs, v = .ref a ∧ ((¬ O a ∧ H a = some (.lst xs)) ∨ ∃ o, H a = some (.frz o (.lst xs))) ∧ reps K H O ds xs
def reps (K : PySem.W.Frag) (H : Hp) (O : Addr → Prop) : List D → List V → Prop
  | [], xs => xs = []
  | d :: ds, xs => ∃ x r, xs = x :: r ∧ rep K H O d x ∧ reps K H O ds r
end

section
variable {K : PySem.W.Frag} {H H' : Hp} {O O' : Addr → Prop}
theorem reps_len : ∀ {ds : List D} {xs : List V}, reps K H O ds xs → xs.length = ds.length
  | [], xs, h => by unfold reps at h; subst h; rfl
  | d :: ds, xs, h => by
    unfold reps at h
    obtain ⟨x, r, rfl, _, h⟩ := h
    simp [reps_len h]
theorem reps_nil : reps K H O [] [] := by unfold reps; rfl
theorem reps_cons {d : D} {ds : List D} {x : V} {xs : List V} (h : rep K H O d x) (t : reps K H O ds xs) : reps K H O (d :: ds) (x :: xs) := by
  unfold reps; exact ⟨x, xs, rfl, h, t⟩
theorem reps_get : ∀ {ds : List D} {xs : List V} {i : Nat} {d : D}, reps K H O ds xs → ds[i]? = some d → ∃ x, xs[i]? = some x ∧ rep K H O d x
  | [], xs, i, d, _, e => by simp at e
  | d' :: ds, xs, i, d, h, e => by
    unfold reps at h
    obtain ⟨x, r, rfl, hx, h⟩ := h
    cases i with
    | zero => simp at e; subst e; exact ⟨x, rfl, hx⟩
    | succ i => exact reps_get (i := i) h (by simpa using e)
theorem reps_get' : ∀ {ds : List D} {xs : List V} {i : Nat} {x : V}, reps K H O ds xs → xs[i]? = some x → ∃ d, ds[i]? = some d ∧ rep K H O d x
  | [], xs, i, x, h, e => by unfold reps at h; subst h; simp at e
  | d' :: ds, xs, i, x, h, e => by
    unfold reps at h
    obtain ⟨y, r, rfl, hx, h⟩ := h
    cases i with
    | zero => simp at e; subst e; exact ⟨d', rfl, hx⟩
    | succ i => exact reps_get' (i := i) h (by simpa using e)
theorem reps_append : ∀ {ds es : List D} {xs ys : List V}, reps K H O ds xs → reps K H O es ys → reps K H O (ds ++ es) (xs ++ ys)
  | [], _, xs, _, h, h' => by unfold reps at h; subst h; exact h'
  | d :: ds, _, xs, _, h, h' => by
    unfold reps at h
    obtain ⟨x, r, rfl, hx, h⟩ := h
    exact reps_cons hx (reps_append h h')
theorem reps_set : ∀ {ds : List D} {xs : List V} {d : D} {x : V} (i : Nat), reps K H O ds xs → rep K H O d x → reps K H O (ds.set i d) (xs.set i x)
  | [], xs, _, _, _, h, _ => by unfold reps at h; subst h; exact reps_nil
  | d :: ds, xs, d', x', i, h, h' => by
    unfold reps at h
    obtain ⟨x, r, rfl, hx, h⟩ := h
    cases i with
    | zero => exact reps_cons h' h
    | succ i => exact reps_cons hx (reps_set i h h')
theorem reps_take : ∀ {ds : List D} {xs : List V} (n : Nat), reps K H O ds xs → reps K H O (ds.take n) (xs.take n)
  | _, _, 0, _ => by simp; exact reps_nil
  | [], xs, n + 1, h => by unfold reps at h; subst h; exact reps_nil
  | d :: ds, xs, n + 1, h => by
    unfold reps at h
    obtain ⟨x, r, rfl, hx, h⟩ := h
    exact reps_cons hx (reps_take n h)
theorem reps_drop : ∀ {ds : List D} {xs : List V} (n : Nat), reps K H O ds xs → reps K H O (ds.drop n) (xs.drop n)
  | _, _, 0, h => by simpa using h
  | [], xs, n + 1, h => by unfold reps at h; subst h; exact reps_nil
  | d :: ds, xs, n + 1, h => by
    unfold reps at h
    obtain ⟨x, r, rfl, hx, h⟩ := h
    exact reps_drop n h
theorem reps_replicate {d : D} {x : V} (h : rep K H O d x) : ∀ n : Nat, reps K H O (List.replicate n d) (List.replicate n x)
  | 0 => reps_nil
  | n + 1 => by rw [List.replicate_succ, List.replicate_succ]; exact reps_cons h (reps_replicate h n)
theorem reps_flat {ds : List D} {xs : List V} (h : reps K H O ds xs) : ∀ n : Nat, reps K H O (List.replicate n ds).flatten (List.replicate n xs).flatten
  | 0 => reps_nil
  | n + 1 => by rw [List.replicate_succ, List.replicate_succ, List.flatten_cons, List.flatten_cons]; exact reps_append h (reps_flat h n)

/-- what must stay: tuples, and the lists that are not in O -/
structure Stay (O O' : Addr → Prop) (H H' : Hp) : Prop where
  tup : ∀ b xs, Rd H b (.tup xs) → Rd H' b (.tup xs)
  frl : ∀ b o xs, H b = some (.frz o (.lst xs)) → H' b = some (.frz o (.lst xs))
  lst : ∀ b xs, ¬ O b → H b = some (.lst xs) → ¬ O' b ∧ H' b = some (.lst xs)
  tpx : ∀ b xs, H b = some (.tup xs) → H' b = some (.tup xs)
theorem Stay.sqT (s : Stay O O' H H') {b : Addr} {xs : List V} (h : SqT K H b xs) : SqT K H' b xs := h.imp (s.tup b xs) id
mutual
theorem rep_stay (s : Stay O O' H H') : ∀ {d : D} {v : V}, rep K H O d v → rep K H' O' d v
  | .non, v, h => by unfold rep at h ⊢; exact h
  | .bl b, v, h => by unfold rep at h ⊢; exact h
  | .int i, v, h => by unfold rep at h ⊢; exact h
  | .str i, v, h => by unfold rep at h ⊢; exact h
  | .tup ds, v, h => by
    unfold rep at h ⊢
    obtain ⟨a, xs, e, q, r⟩ := h
    exact ⟨a, xs, e, s.sqT q, reps_stay s r⟩
  | .lst ds, v, h => by
    unfold rep at h ⊢
    obtain ⟨a, xs, e, n, q, r⟩ := h
    exact ⟨a, xs, e, (s.lst a xs n q).1, (s.lst a xs n q).2, reps_stay s r⟩
  | .scr ns, v, h => by
    unfold rep at h ⊢
    obtain ⟨a, e, q⟩ := h
    exact ⟨a, e, q.imp (fun q => s.lst a _ q.1 q.2) fun q => q.imp (fun ⟨o, q⟩ => ⟨o, s.frl a o _ q⟩) id⟩
  | .ntp ds, v, h => by
    unfold rep at h ⊢
    obtain ⟨a, xs, e, q, r⟩ := h
    exact ⟨a, xs, e, q.imp (s.tpx a xs) id, reps_stay s r⟩
  | .fls ds, v, h => by
    unfold rep at h ⊢
    obtain ⟨a, xs, e, q, r⟩ := h
    exact ⟨a, xs, e, q.imp (fun q => s.lst a xs q.1 q.2) (fun ⟨o, q⟩ => ⟨o, s.frl a o xs q⟩), reps_stay s r⟩
theorem reps_stay (s : Stay O O' H H') : ∀ {ds : List D} {xs : List V}, reps K H O ds xs → reps K H' O' ds xs
  | [], xs, h => by unfold reps at h ⊢; exact h
  | d :: ds, xs, h => by
    unfold reps at h ⊢
    obtain ⟨x, r, e, hx, h⟩ := h
    exact ⟨x, r, e, rep_stay s hx, reps_stay s h⟩
end
/-- the heap grew -/
def Ext (H H' : Hp) : Prop := ∀ b o, H b = some o → H' b = some o
theorem Ext.refl (H : Hp) : Ext H H := fun _ _ e => e
theorem Ext.trans {H1 H2 H3 : Hp} (a : Ext H1 H2) (b : Ext H2 H3) : Ext H1 H3 := fun x o e => b x o (a x o e)
theorem Ext.upd {a : Addr} {o : HO} (h : H a = none) : Ext H (upd H a o) := fun b u e => by rw [upd_ne (ne_of_none e h)]; exact e
theorem Ext.rd (x : Ext H H') {b : Addr} {u : HO} (h : Rd H b u) : Rd H' b u := h.imp (x b u) fun ⟨o, e⟩ => ⟨o, x b _ e⟩
theorem Ext.stay (x : Ext H H') : Stay O O H H' := ⟨fun b xs h => x.rd h, fun b o xs e => x b _ e, fun b xs n e => ⟨n, x b _ e⟩, fun b xs e => x b _ e⟩
theorem rep_ext (x : Ext H H') {d : D} {v : V} (h : rep K H O d v) : rep K H' O d v := rep_stay x.stay h
theorem reps_ext (x : Ext H H') {d : List D} {v : List V} (h : reps K H O d v) : reps K H' O d v := reps_stay x.stay h
/-- fewer may change -/
theorem Stay.less (h : ∀ b, O' b → O b) : Stay O O' H H := ⟨fun _ _ q => q, fun _ _ _ q => q, fun _ _ n q => ⟨fun z => n (h _ z), q⟩, fun _ _ q => q⟩
theorem upd_rd_tup {p : Addr} {xs ys zs : List V} (hp : H p = some (.lst xs)) {b : Addr} (h : Rd H b (.tup zs)) : Rd (upd H p (.lst ys)) b (.tup zs) := by
  have hb : b ≠ p := by
    rintro rfl
    rcases h with h | ⟨o, h⟩ <;> rw [hp] at h <;> cases h
  rcases h with h | ⟨o, h⟩
  · exact .inl (by rw [upd_ne hb]; exact h)
  · exact .inr ⟨o, by rw [upd_ne hb]; exact h⟩
/-- one of them changes -/
theorem Stay.upd {p : Addr} {xs ys : List V} (hp : H p = some (.lst xs)) (ho : O p) : Stay O O H (upd H p (.lst ys)) where
  tup := fun b zs h => upd_rd_tup hp h
  frl := fun b o zs e => by
    have hb : b ≠ p := by rintro rfl; rw [hp] at e; cases e
    rw [upd_ne hb]; exact e
  lst := fun b zs n e => by
    have hb : b ≠ p := by rintro rfl; exact n ho
    exact ⟨n, by rw [upd_ne hb]; exact e⟩
  tpx := fun b zs e => by
    have hb : b ≠ p := by rintro rfl; rw [hp] at e; cases e
    rw [upd_ne hb]; exact e
mutual
def noL : D → Bool
  | .non => true | .bl _ => true | .int _ => true | .str _ => true
  | .tup ds => noLs ds
  | .lst _ => false | .scr _ => false | .ntp _ => false | .fls _ => false
def noLs : List D → Bool
  | [] => true
  | d :: ds => noL d && noLs ds
end
mutual
/-- data without lists: it leans on the tuples alone -/
theorem rep_tups (s : ∀ b xs, Rd H b (.tup xs) → Rd H' b (.tup xs)) : ∀ {d : D} {v : V}, noL d = true → rep K H O d v → rep K H' O' d v
  | .non, v, _, h => by unfold rep at h ⊢; exact h
  | .bl b, v, _, h => by unfold rep at h ⊢; exact h
  | .int i, v, _, h => by unfold rep at h ⊢; exact h
  | .str i, v, _, h => by unfold rep at h ⊢; exact h
  | .tup ds, v, n, h => by
    unfold rep at h ⊢
    unfold noL at n
    obtain ⟨a, xs, e, q, r⟩ := h
    exact ⟨a, xs, e, q.imp (s a xs) id, reps_tups s n r⟩
  | .lst ds, v, n, h => by unfold noL at n; cases n
  | .scr ds, v, n, h => by unfold noL at n; cases n
  | .ntp ds, v, n, h => by unfold noL at n; cases n
  | .fls ds, v, n, h => by unfold noL at n; cases n
theorem reps_tups (s : ∀ b xs, Rd H b (.tup xs) → Rd H' b (.tup xs)) : ∀ {ds : List D} {xs : List V}, noLs ds = true → reps K H O ds xs → reps K H' O' ds xs
  | [], xs, _, h => by unfold reps at h ⊢; exact h
  | d :: ds, xs, n, h => by
    unfold reps at h ⊢
    unfold noLs at n
    rw [Bool.and_eq_true] at n
    obtain ⟨x, r, e, hx, h⟩ := h
    exact ⟨x, r, e, rep_tups s n.1 hx, reps_tups s n.2 h⟩
end

/-! ### expressions -/
/-- the names' values: st those that stay, fz all as they stand now -/
structure E where
  st : List (Option D)
  fz : List (Option D)
structure Ents (K : PySem.W.Frag) (O : Addr → Prop) (env : List (Option D)) (σ : L2.St) (H : Hp) : Prop where
  ent : ∀ (i : Nat) (d : D), env[i]? = some (some d) → ∃ v, σ[i]? = some (some v) ∧ rep K H O d v
theorem Ents.ext {env : List (Option D)} {σ : L2.St} (r : Ents K O env σ H) (x : Ext H H') : Ents K O env σ H' := ⟨fun i d e => let ⟨v, a, b⟩ := r.ent i d e; ⟨v, a, rep_ext x b⟩⟩
theorem Ext.dom {P : Addr → Prop} (x : Ext H H') (h : ∀ b, P b → H b ≠ none) : ∀ b, P b → H' b ≠ none := fun b o e => h b o (by cases q : H b with | none => rfl | some u => rw [x b u q] at e; cases e)
structure RE (K : PySem.W.Frag) (O : Addr → Prop) (env : E) (σ : L2.St) (H : Hp) : Prop where
  dom : ∀ b, O b → H b ≠ none
  ent : Ents K O env.st σ H
  low : ∃ Ob : Addr → Prop, (∀ b, Ob b → O b) ∧ Ents K Ob env.fz σ H
  len : env.st.length ≤ σ.length ∧ env.fz.length ≤ σ.length
theorem RE.ext {env : E} {σ : L2.St} (r : RE K O env σ H) (x : Ext H H') : RE K O env σ H' :=
  ⟨x.dom r.dom, r.ent.ext x, let ⟨Ob, h, q⟩ := r.low; ⟨Ob, h, q.ext x⟩, r.len⟩
/-- an expression that computes f -/
def TX (K : PySem.W.Frag) (f : E → Option D) : TE := fun σ H Q => ∃ O env d, RE K O env σ H ∧ f env = some d ∧ ∀ v H', Ext H H' → rep K H' O d v → Q v H'
def TXs (K : PySem.W.Frag) (f : E → Option (List D)) : TA := fun σ H Q => ∃ O env ds, RE K O env σ H ∧ f env = some ds ∧ ∀ vs H', Ext H H' → reps K H' O ds vs → Q vs H'
def TXt (K : PySem.W.Frag) (f : E → Option Bool) : TT := fun σ H Q => ∃ O env b, RE K O env σ H ∧ f env = some b ∧ ∀ H', Ext H H' → Q b H'
abbrev PX (X : Cx) (e : Expr) (f : E → Option D) : Prop := PE X e (TX X.K f)
abbrev PXs (X : Cx) (es : List Expr) (f : E → Option (List D)) : Prop := PA X es (TXs X.K f)
abbrev PXt (X : Cx) (e : Expr) (f : E → Option Bool) : Prop := PT X e (TXt X.K f)
end
theorem PE_imp {X : Cx} {e : Expr} {t t' : TE} (h : PE X e t) (i : ∀ σ H Q, t' σ H Q → t σ H Q) : PE X e t' := ⟨fun pins s σ H Q I q => h.run pins s σ H Q I (i σ H Q q)⟩
theorem PT_imp {X : Cx} {e : Expr} {t t' : TT} (h : PT X e t) (i : ∀ σ H Q, t' σ H Q → t σ H Q) : PT X e t' := ⟨fun pins s σ H Q I q => h.run pins s σ H Q I (i σ H Q q)⟩
theorem PA_imp {X : Cx} {e : List Expr} {t t' : TA} (h : PA X e t) (i : ∀ σ H Q, t' σ H Q → t σ H Q) : PA X e t' := ⟨fun pos pins s σ H Q I q => h.run pos pins s σ H Q I (i σ H Q q)⟩
theorem PS_imp {X : Cx} {e : Stmt} {t t' : TS} (h : PS X e t) (i : ∀ D σ H, t' D σ H → t D σ H) : PS X e t' := ⟨fun pins s σ H D I q => h.run pins s σ H D I (i D σ H q)⟩
theorem PSs_imp {X : Cx} {e : List Stmt} {t t' : TS} (h : PSs X e t) (i : ∀ D σ H, t' D σ H → t D σ H) : PSs X e t' := ⟨fun pins s σ H D I q => h.run pins s σ H D I (i D σ H q)⟩

section
variable {X : Cx} {a b c : Expr} {pos : Pos} {fa fb fc : E → Option D}
def gv (i : Nat) (env : E) : Option D := (env.st[i]?).bind id
theorem px_var {i : Nat} {x : Str} (hN : X.N[i]? = some x) (hv : Vis X.env.scope x) (hd : (x == ("__debug__" : Str)) = false := by decide) (hcd : (x == ("__classdict__" : Str)) = false := by decide) : PX X (.Name x pos) (gv i) := by
  refine PE_imp (pe_var hN hv hd hcd) fun σ H Q ⟨O, env, d, r, e, q⟩ => ?_
  have e' : env.st[i]? = some (some d) := by
    unfold gv at e
    cases h : env.st[i]? with
    | none => rw [h] at e; cases e
    | some z => rw [h] at e; exact congrArg some e
  obtain ⟨v, h1, h2⟩ := r.ent.ent i d e'
  exact ⟨v, h1, q v H (.refl H) h2⟩
theorem px_c {d : D} {v : V} (h : PE X a (tC v)) (hr : ∀ H O, rep X.K H O d v) : PX X a (fun _ => some d) :=
  PE_imp h fun σ H Q ⟨O, env, d', r, e, q⟩ => by cases e; exact q v H (.refl H) (hr H O)
theorem px_int {i j} : PX X (.Constant (.int i) j pos) (fun _ => some (.int i)) := px_c pe_int fun _ _ => by unfold rep; rfl
theorem px_bl {i j} : PX X (.Constant (.bool i) j pos) (fun _ => some (.bl i)) := px_c pe_bl fun _ _ => by unfold rep; rfl
theorem px_non {j} : PX X (.Constant .none j pos) (fun _ => some .non) := px_c pe_non fun _ _ => by unfold rep; rfl
theorem px_str {i j} : PX X (.Constant (.str i) j pos) (fun _ => some (.str i)) := px_c pe_str fun _ _ => by unfold rep; rfl
theorem px_glob {x : Str} {v : V} {u : Value} {d : D} (hg : Gl X x) (hm : X.mg x = some u) (r : RelV v u) (hr : ∀ H O, rep X.K H O d v) (hd : (x == ("__debug__" : Str)) = false := by decide) : PX X (.Name x pos) (fun _ => some d) :=
  px_c (pe_glob hg hm r hd) hr
/-- data without lists may be read off what may yet change -/
def bor (f : E → Option D) : E → Option D := fun env => match f ⟨env.fz, env.fz⟩ with
  | some d => if noL d then some d else none
  | none => none
theorem px_bor {f : E → Option D} (h : PX X a f) : PX X a (bor f) := PE_imp h fun σ H Q ⟨O, env, d, r, e, q⟩ => by
  unfold bor at e
  split at e
  · rename_i d' h1
    split at e
    · rename_i h2
      cases e
      obtain ⟨Ob, hb, q'⟩ := r.low
      exact ⟨Ob, ⟨env.fz, env.fz⟩, d, ⟨fun b o => r.dom b (hb b o), q', ⟨Ob, fun _ z => z, q'⟩, ⟨r.len.2, r.len.2⟩⟩, h1, fun v H' x rv => q v H' x (rep_tups (fun _ _ z => z) h2 rv)⟩
    · cases e
  · cases e
/-- a two-place operation g on data, done by r -/
def Does2 (K : PySem.W.Frag) (r : R2) (g : D → D → Option D) : Prop := ∀ H O x y dx dy d Q, rep K H O dx x → rep K H O dy y → g dx dy = some d → (∀ b, O b → H b ≠ none) → (∀ v H', Ext H H' → rep K H' O d v → Q v H') → r x y H Q
def bin2 (g : D → D → Option D) (fa fb : E → Option D) : E → Option D := fun env => match fa env with
  | none => none
  | some x => match fb env with
    | none => none
    | some y => g x y
theorem tx_op {K : PySem.W.Frag} {r : R2} {g : D → D → Option D} (hr : Does2 K r g) : ∀ σ H Q, TX K (bin2 g fa fb) σ H Q → tOp r (TX K fa) (TX K fb) σ H Q := fun σ H Q ⟨O, env, d, re, e, q⟩ => by
  unfold bin2 at e
  cases ha : fa env with
  | none => rw [ha] at e; cases e
  | some x =>
    rw [ha] at e
    cases hb : fb env with
    | none => rw [hb] at e; cases e
    | some y =>
      rw [hb] at e
      refine ⟨O, env, x, re, ha, fun v1 H1 x1 r1 => ⟨O, env, y, re.ext x1, hb, fun v2 H2 x2 r2 => ?_⟩⟩
      exact hr H2 O v1 v2 x y d Q (rep_ext x2 r1) r2 e ((re.ext x1).ext x2).dom fun v H' x3 r3 => q v H' (x1.trans (x2.trans x3)) r3
theorem px_op {op : Operator} {r : R2} {g : D → D → Option D} (ho : OpR X (binaryOp op) r) (hr : Does2 X.K r g) (ha : PX X a fa) (hb : PX X b fb) : PX X (.BinOp a op b pos) (bin2 g fa fb) := PE_imp (pe_op ho ha hb) (tx_op hr)
theorem px_cmp {op : CmpOp} {r : R2} {g : D → D → Option D} (ho : OpR X (compareOp op) r) (hr : Does2 X.K r g) (ha : PX X a fa) (hb : PX X b fb) (hm : behindInMarks op b = false) : PX X (.Compare a [op] [b] pos) (bin2 g fa fb) := PE_imp (pe_cmpR ho ha hb hm) (tx_op hr)
theorem px_ix {r : R2} {g : D → D → Option D} (ho : IxR X r) (hr : Does2 X.K r g) (ha : PX X a fa) (hb : PX X b fb) (hs : PlainIx b) : PX X (.Subscript a b pos) (bin2 g fa fb) := PE_imp (pe_ix ho ha hb hs) (tx_op hr)
end
end Wd
set_option maxRecDepth 100000
set_option maxHeartbeats 1000000
/-! operations on plain data -/
namespace Wd
open PySem L2 PyProof.Rows

def LIM : Nat := 100000
theorem lim_le {n : Nat} (h : n ≤ LIM) : n ≤ sizeLine := Nat.le_trans h (by decide)
theorem lim_lt {n : Nat} (h : n < LIM) : n < sizeLine := Nat.lt_of_lt_of_le h (by decide)
section
variable {K : PySem.W.Frag} {H H' : Hp} {O O' : Addr → Prop} {v : V}
theorem rep_int {i : Int} (h : rep K H O (.int i) v) : v = .int i := by unfold rep at h; exact h
theorem rep_bl {i : Bool} (h : rep K H O (.bl i) v) : v = .bl i := by unfold rep at h; exact h
theorem rep_str {i : Str} (h : rep K H O (.str i) v) : v = .str i := by unfold rep at h; exact h
theorem rep_non (h : rep K H O .non v) : v = .non := by unfold rep at h; exact h
theorem rep_tup {ds : List D} (h : rep K H O (.tup ds) v) : ∃ a xs, v = .ref a ∧ SqT K H a xs ∧ reps K H O ds xs := by unfold rep at h; exact h
theorem rep_lst {ds : List D} (h : rep K H O (.lst ds) v) : ∃ a xs, v = .ref a ∧ ¬ O a ∧ H a = some (.lst xs) ∧ reps K H O ds xs := by unfold rep at h; exact h
theorem rep_scr {ds : List Int} (h : rep K H O (.scr ds) v) : ∃ a, v = .ref a ∧ SqL K H a (ds.map V.int) := by
  unfold rep at h
  obtain ⟨a, e, q⟩ := h
  exact ⟨a, e, q.elim (fun q => .inl (.inl q.2)) fun q => q.elim (fun q => .inl (.inr q)) fun q => q H⟩
theorem mk_int {i : Int} : rep K H O (.int i) (.int i) := by unfold rep; rfl
theorem mk_bl {i : Bool} : rep K H O (.bl i) (.bl i) := by unfold rep; rfl
theorem mk_str {i : Str} : rep K H O (.str i) (.str i) := by unfold rep; rfl
theorem mk_non : rep K H O .non .non := by unfold rep; rfl
theorem mk_tup {ds : List D} {a : Addr} {xs : List V} (h : SqT K H a xs) (r : reps K H O ds xs) : rep K H O (.tup ds) (.ref a) := by unfold rep; exact ⟨a, xs, rfl, h, r⟩
theorem mk_lst {ds : List D} {a : Addr} {xs : List V} (n : ¬ O a) (h : H a = some (.lst xs)) (r : reps K H O ds xs) : rep K H O (.lst ds) (.ref a) := by unfold rep; exact ⟨a, xs, rfl, n, h, r⟩
theorem rep_ntp {ds : List D} (h : rep K H O (.ntp ds) v) : ∃ a xs, v = .ref a ∧ (H a = some (.tup xs) ∨ ∀ H2, SqT K H2 a xs) ∧ reps K H O ds xs := by unfold rep at h; exact h
theorem rep_fls {ds : List D} (h : rep K H O (.fls ds) v) : ∃ a xs, v = .ref a ∧ ((¬ O a ∧ H a = some (.lst xs)) ∨ ∃ o, H a = some (.frz o (.lst xs))) ∧ reps K H O ds xs := by unfold rep at h; exact h
theorem mk_ntp {ds : List D} {a : Addr} {xs : List V} (h : H a = some (.tup xs) ∨ ∀ H2, SqT K H2 a xs) (r : reps K H O ds xs) : rep K H O (.ntp ds) (.ref a) := by unfold rep; exact ⟨a, xs, rfl, h, r⟩
theorem mk_fls {ds : List D} {a : Addr} {xs : List V} (h : (¬ O a ∧ H a = some (.lst xs)) ∨ ∃ o, H a = some (.frz o (.lst xs))) (r : reps K H O ds xs) : rep K H O (.fls ds) (.ref a) := by unfold rep; exact ⟨a, xs, rfl, h, r⟩
/-- a tuple that is ours, as any tuple -/
def weak : D → D
  | .ntp ds => .tup ds
  | d => d
theorem rep_weak {d : D} (h : rep K H O d v) : rep K H O (weak d) v := by
  cases d with
  | ntp ds =>
    obtain ⟨a, xs, rfl, q, r⟩ := rep_ntp h
    exact mk_tup (q.elim (fun q => .of q) fun q => q H) r
  | _ => exact h
def wkV (f : E → Option D) : E → Option D := fun env => (f env).map weak
theorem px_wk {X : Cx} {e : Expr} {f : E → Option D} (h : PX X e f) : PX X e (wkV f) := PE_imp h fun σ H Q ⟨O, env, d, re, e, q⟩ => by
  unfold wkV at e
  cases h' : f env with
  | none => rw [h'] at e; cases e
  | some d' =>
    rw [h'] at e
    cases e
    exact ⟨O, env, d', re, h', fun v H' x r => q v H' x (rep_weak r)⟩
/-- a new tuple, a new list -/
theorem new_tup {ds : List D} {p : Addr} {xs : List V} (n : H p = none) (r : reps K H O ds xs) : rep K (upd H p (.tup xs)) O (.tup ds) (.ref p) := mk_tup (.of upd_same) (reps_ext (.upd n) r)
theorem new_lst {ds : List D} {p : Addr} {xs : List V} (n : H p = none) (hO : ∀ b, O b → H b ≠ none) (r : reps K H O ds xs) : rep K (upd H p (.lst xs)) O (.lst ds) (.ref p) := mk_lst (fun z => hO p z n) upd_same (reps_ext (.upd n) r)

/-! ### arithmetic -/
def gAdd : D → D → Option D
  | .int i, .int j => some (.int (i + j))
  | .tup a, .tup b => if a.length + b.length ≤ LIM then some (.tup (a ++ b)) else none
  | .lst a, .lst b => if a.length + b.length ≤ LIM then some (.lst (a ++ b)) else none
  | _, _ => none
def rAddD (K : PySem.W.Frag) : R2 := fun x y H Q => (rI0 fun i j => .int (i + j)) x y H Q ∨ rCatA K x y H Q ∨ rCat x y H Q
theorem op_addD {X : Cx} : OpR X (binaryOp .Add) (rAddD X.K) := op_add.or (op_catA.or op_cat)
theorem does_add : Does2 K (rAddD K) gAdd := by
  intro H O x y dx dy d Q rx ry e hO q
  cases dx <;> cases dy <;> simp only [gAdd, reduceCtorEq, Option.some.injEq] at e
  · subst e
    refine .inl ⟨_, _, rep_int rx, rep_int ry, q _ H (.refl H) mk_int⟩
  · split at e
    · rename_i hl
      cases e
      obtain ⟨a, xs, rfl, ha, ra⟩ := rep_tup rx
      obtain ⟨b, ys, rfl, hb, rb⟩ := rep_tup ry
      have la := reps_len ra
      have lb := reps_len rb
      refine .inr (.inl ⟨a, b, xs, ys, rfl, rfl, ha, hb, lim_le (by omega), fun z => ?_, fun _ z => ?_, fun _ _ p hp => ?_⟩)
      · subst z
        have : _ = [] := List.eq_nil_of_length_eq_zero (la.symm)
        subst this
        exact q _ H (.refl H) ry
      · subst z
        have : _ = [] := List.eq_nil_of_length_eq_zero (lb.symm)
        subst this
        rw [List.append_nil] at q
        exact q _ H (.refl H) rx
      · exact q _ _ (.upd hp) (new_tup hp (reps_append ra rb))
    · cases e
  · split at e
    · rename_i hl
      cases e
      obtain ⟨a, xs, rfl, na, ha, ra⟩ := rep_lst rx
      obtain ⟨b, ys, rfl, nb, hb, rb⟩ := rep_lst ry
      have la := reps_len ra
      have lb := reps_len rb
      exact .inr (.inr ⟨a, b, xs, ys, rfl, rfl, ha, hb, lim_le (by omega), fun p hp => q _ _ (.upd hp) (new_lst hp hO (reps_append ra rb))⟩)
    · cases e
/-- tuples of ours -/
def gAddN : D → D → Option D
  | .ntp a, .ntp b => if a.length + b.length ≤ LIM then some (.ntp (a ++ b)) else none
  | _, _ => none
theorem does_addN : Does2 K (rAddD K) gAddN := by
  intro H O x y dx dy d Q rx ry e hO q
  cases dx <;> cases dy <;> simp only [gAddN, reduceCtorEq, Option.some.injEq] at e
  split at e
  · rename_i hl
    cases e
    obtain ⟨a, xs, rfl, ha, ra⟩ := rep_ntp rx
    obtain ⟨b, ys, rfl, hb, rb⟩ := rep_ntp ry
    have la := reps_len ra
    have lb := reps_len rb
    refine .inr (.inl ⟨a, b, xs, ys, rfl, rfl, ha.elim (fun q => .of q) fun q => q H, hb.elim (fun q => .of q) fun q => q H, lim_le (by omega), fun z => ?_, fun _ z => ?_, fun _ _ p hp => ?_⟩)
    · subst z
      have : _ = [] := List.eq_nil_of_length_eq_zero (la.symm)
      subst this
      exact q _ H (.refl H) ry
    · subst z
      have : _ = [] := List.eq_nil_of_length_eq_zero (lb.symm)
      subst this
      rw [List.append_nil] at q
      exact q _ H (.refl H) rx
    · exact q _ _ (.upd hp) (mk_ntp (.inl upd_same) (reps_ext (.upd hp) (reps_append ra rb)))
  · cases e
/-- ints, under a condition -/
def gI (c : Int → Int → Bool) (g : Int → Int → D) : D → D → Option D
  | .int i, .int j => if c i j = true then some (g i j) else none
  | _, _ => none
theorem does_I {C : Int → Int → Prop} {c : Int → Int → Bool} {g : Int → Int → V} {gd : Int → Int → D} (hc : ∀ i j, c i j = true → C i j) (hg : ∀ H O i j, c i j = true → rep K H O (gd i j) (g i j)) : Does2 K (rI C g) (gI c gd) := by
  intro H O x y dx dy d Q rx ry e hO q
  cases dx <;> cases dy <;> simp only [gI, reduceCtorEq] at e
  split at e
  · rename_i h
    cases e
    exact ⟨_, _, rep_int rx, rep_int ry, hc _ _ h, q _ H (.refl H) (hg _ _ _ _ h)⟩
  · cases e
def gI0 (g : Int → Int → D) : D → D → Option D
  | .int i, .int j => some (g i j)
  | _, _ => none
theorem does_I0 {g : Int → Int → V} {gd : Int → Int → D} (hg : ∀ H O i j, rep K H O (gd i j) (g i j)) : Does2 K (rI0 g) (gI0 gd) := by
  intro H O x y dx dy d Q rx ry e hO q
  cases dx <;> cases dy <;> simp only [gI0, reduceCtorEq, Option.some.injEq] at e
  cases e
  exact ⟨_, _, rep_int rx, rep_int ry, q _ H (.refl H) (hg _ _ _ _)⟩
def gSub := gI0 fun i j => .int (i - j)
theorem does_sub : Does2 K (rI0 fun i j => .int (i - j)) gSub := does_I0 fun _ _ _ _ => mk_int
def two64 : Int := 18446744073709551616
def gMul : D → D → Option D
  | .int i, .int j => if (decide (-two64 < i) && decide (i < two64)) || (decide (-two64 < j) && decide (j < two64)) then some (.int (i * j)) else none
  | .lst a, .int k => if decide (0 ≤ k) && decide (k ≤ 1000) && decide (a.length ≤ 1) then some (.lst (List.replicate k.toNat a).flatten) else none
  | _, _ => none
def rMulD : R2 := fun x y H Q => (rI CMul fun i j => .int (i * j)) x y H Q ∨ rRep x y H Q
theorem op_mulD {X : Cx} : OpR X (binaryOp .Mult) rMulD := op_mul.or op_rep
theorem does_mul : Does2 K rMulD gMul := by
  intro H O x y dx dy d Q rx ry e hO q
  cases dx <;> cases dy <;> simp only [gMul, reduceCtorEq] at e
  · split at e
    · rename_i h
      cases e
      refine .inl ⟨_, _, rep_int rx, rep_int ry, ?_, q _ H (.refl H) mk_int⟩
      simp only [Bool.or_eq_true, Bool.and_eq_true, decide_eq_true_eq] at h
      simp only [two64] at h
      have e64 : (2 : Int) ^ 64 = 18446744073709551616 := by decide
      unfold CMul
      rw [e64]
      omega
    · cases e
  · split at e
    · rename_i h
      cases e
      simp only [Bool.and_eq_true, decide_eq_true_eq] at h
      obtain ⟨a, xs, rfl, na, ha, ra⟩ := rep_lst rx
      have la := reps_len ra
      refine .inr ⟨a, _, xs, rfl, rep_int ry, ha, by omega, by omega, lim_le ?_, fun p hp => q _ _ (.upd hp) (new_lst hp hO (reps_flat ra _))⟩
      unfold LIM
      have h2 : xs.length ≤ 1 := by omega
      calc xs.length * _ ≤ 1 * _ := Nat.mul_le_mul_right _ h2
        _ ≤ 100000 := by omega
    · cases e
def gFdiv := gI (fun i j => decide (0 < j) && decide (j < 1073741824)) fun i j => .int (i / j)
theorem does_fdiv : Does2 K (rI CDiv fun i j => .int (i / j)) gFdiv := does_I (fun i j h => by simp only [Bool.and_eq_true, decide_eq_true_eq] at h; exact h) fun _ _ _ _ _ => mk_int
def gMod := gI (fun i j => decide (0 < j)) fun i j => .int (i % j)
theorem does_mod : Does2 K (rI (fun _ j => 0 < j) fun i j => .int (i % j)) gMod := does_I (fun i j h => by simpa using h) fun _ _ _ _ _ => mk_int
def cPow (i j : Int) : Bool := decide (0 ≤ j) && decide (j ≤ 1000) && decide (-two64 < i) && decide (i < two64)
theorem cpow_ok {i j : Int} (h : cPow i j = true) : CPow i j := by
  simp only [cPow, Bool.and_eq_true, decide_eq_true_eq] at h
  simp only [two64] at h
  have e64 : (2 : Nat) ^ 64 = 18446744073709551616 := by decide
  unfold CPow
  rw [e64]
  omega
def gPow := gI cPow fun i j => .int (i ^ j.toNat)
theorem does_pow : Does2 K (rI CPow fun i j => .int (i ^ j.toNat)) gPow := does_I (fun i j h => cpow_ok h) fun _ _ _ _ _ => mk_int
def gShl := gI cPow fun i j => .int (i * 2 ^ j.toNat)
theorem does_shl : Does2 K (rI CPow fun i j => .int (i * 2 ^ j.toNat)) gShl := does_I (fun i j h => cpow_ok h) fun _ _ _ _ _ => mk_int
def gShr := gI (fun _ j => decide (0 ≤ j)) fun i j => .int (i / 2 ^ j.toNat)
theorem does_shr : Does2 K (rI (fun _ j => 0 ≤ j) fun i j => .int (i / 2 ^ j.toNat)) gShr := does_I (fun i j h => by simpa using h) fun _ _ _ _ _ => mk_int
/-- & 1 -/
def gOdd : D → D → Option D
  | .int (.ofNat n), .int j => if j == 1 then some (.int ((n % 2 : Nat) : Int)) else none
  | _, _ => none
theorem does_odd : Does2 K (fun x y H Q => ∃ n : Nat, x = .int (n : Int) ∧ y = .int 1 ∧ Q (.int ((n % 2 : Nat) : Int)) H) gOdd := by
  intro H O x y dx dy d Q rx ry e hO q
  unfold gOdd at e
  split at e
  · split at e
    · rename_i h
      have h := beq_iff_eq.mp h
      subst h
      cases e
      exact ⟨_, rep_int rx, rep_int ry, q _ H (.refl H) mk_int⟩
    · cases e
  · cases e
def gLt := gI0 fun i j => .bl (decide (i < j))
def gLe := gI0 fun i j => .bl (decide (i ≤ j))
def gGt := gI0 fun i j => .bl (decide (j < i))
def gGe := gI0 fun i j => .bl (decide (j ≤ i))
theorem does_lt : Does2 K (rI0 fun i j => .bl (decide (i < j))) gLt := does_I0 fun _ _ _ _ => mk_bl
theorem does_le : Does2 K (rI0 fun i j => .bl (decide (i ≤ j))) gLe := does_I0 fun _ _ _ _ => mk_bl
theorem does_gt : Does2 K (rI0 fun i j => .bl (decide (j < i))) gGt := does_I0 fun _ _ _ _ => mk_bl
theorem does_ge : Does2 K (rI0 fun i j => .bl (decide (j ≤ i))) gGe := does_I0 fun _ _ _ _ => mk_bl

/-! ### equality -/
mutual
def eqD : D → D → Bool
  | .non, .non => true
  | .bl a, .bl b => a == b
  | .bl a, .int j => (if a then 1 else 0) == j
  | .int i, .bl b => i == (if b then 1 else 0)
  | .int i, .int j => i == j
  | .str x, .str y => x == y
  | .tup xs, .tup ys => eqDs xs ys
  | .lst xs, .lst ys => eqDs xs ys
  | _, _ => false
def eqDs : List D → List D → Bool
  | [], [] => true
  | x :: xs, y :: ys => eqD x y && eqDs xs ys
  | _, _ => false
end
mutual
def toP : D → PyData
  | .non => .none | .bl b => .bool b | .int i => .int i | .str x => .str x
  | .tup ds => .tuple (toPs ds) | .lst ds => .list (toPs ds) | .scr _ => .none | .ntp _ => .none | .fls _ => .none
def toPs : List D → List PyData
  | [] => []
  | d :: ds => toP d :: toPs ds
end
mutual
/-- of depth at most n, no texts -/
def okN : Nat → D → Bool
  | _, .non => true | _, .bl _ => true | _, .int _ => true | _, .str _ => false | _, .scr _ => false | _, .ntp _ => false | _, .fls _ => false
  | 0, .tup _ => false | 0, .lst _ => false
  | n + 1, .tup ds => okNs n ds | n + 1, .lst ds => okNs n ds
def okNs : Nat → List D → Bool
  | _, [] => true
  | n, d :: ds => okN n d && okNs n ds
end
mutual
theorem okN_dp : ∀ {n : Nat} {d : D} {v : V}, okN n d = true → rep K H O d v → Dp K H v (toP d) ∧ (toP d).canLay0 = true ∧ (toP d).depth ≤ n
  | n, .non, v, _, h => by rw [rep_non h]; exact ⟨.non, rfl, by simp [toP, PyData.depth]⟩
  | n, .bl b, v, _, h => by rw [rep_bl h]; exact ⟨.bl b, rfl, by simp [toP, PyData.depth]⟩
  | n, .int b, v, _, h => by rw [rep_int h]; exact ⟨.int b, rfl, by simp [toP, PyData.depth]⟩
  | n, .str b, v, o, h => by cases n <;> simp [okN] at o
  | n, .scr b, v, o, h => by cases n <;> simp [okN] at o
  | n, .ntp b, v, o, h => by cases n <;> simp [okN] at o
  | n, .fls b, v, o, h => by cases n <;> simp [okN] at o
  | 0, .tup ds, v, o, h => by simp [okN] at o
  | 0, .lst ds, v, o, h => by simp [okN] at o
  | n + 1, .tup ds, v, o, h => by
    obtain ⟨a, xs, rfl, q, r⟩ := rep_tup h
    simp only [okN] at o
    obtain ⟨h1, h2, h3⟩ := okNs_dp o r
    exact ⟨.tup q h1, by simp only [toP, PyData.canLay0]; exact h2, by simp only [toP, PyData.depth]; omega⟩
  | n + 1, .lst ds, v, o, h => by
    obtain ⟨a, xs, rfl, _, q, r⟩ := rep_lst h
    simp only [okN] at o
    obtain ⟨h1, h2, h3⟩ := okNs_dp o r
    exact ⟨.lst (.of q) h1, by simp only [toP, PyData.canLay0]; exact h2, by simp only [toP, PyData.depth]; omega⟩
theorem okNs_dp : ∀ {n : Nat} {ds : List D} {xs : List V}, okNs n ds = true → reps K H O ds xs → DpAll K H xs (toPs ds) ∧ PyData.canLayAll0 (toPs ds) = true ∧ PyData.depthAll (toPs ds) ≤ n
  | n, [], xs, _, h => by
    unfold reps at h
    subst h
    exact ⟨.nil, by simp [toPs, PyData.canLayAll0], by simp [toPs, PyData.depthAll]⟩
  | n, d :: ds, xs, o, h => by
    unfold reps at h
    obtain ⟨x, r, rfl, hx, h⟩ := h
    have o' : okN n d = true ∧ okNs n ds = true := by
      cases n <;> simpa [okNs] using o
    obtain ⟨h1, h2, h3⟩ := okN_dp o'.1 hx
    obtain ⟨g1, g2, g3⟩ := okNs_dp o'.2 h
    refine ⟨.cons h1 g1, by simp only [toPs, PyData.canLayAll0, h2, g2, Bool.and_self], by simp only [toPs, PyData.depthAll]; omega⟩
end
mutual
theorem eqv_toP : ∀ {n m : Nat} {a b : D}, okN n a = true → okN m b = true → PyData.eqv (toP a) (toP b) = eqD a b
  | n, m, .non, b, h, h' => by cases b <;> first | (cases m <;> simp [okN] at h'; done) | simp [toP, PyData.eqv, eqD]
  | n, m, .bl x, b, h, h' => by cases b <;> first | (cases m <;> simp [okN] at h'; done) | simp [toP, PyData.eqv, eqD]
  | n, m, .int x, b, h, h' => by cases b <;> first | (cases m <;> simp [okN] at h'; done) | simp [toP, PyData.eqv, eqD]
  | n, m, .str x, b, h, h' => by cases n <;> simp [okN] at h
  | n, m, .scr x, b, h, h' => by cases n <;> simp [okN] at h
  | n, m, .ntp x, b, h, h' => by cases n <;> simp [okN] at h
  | n, m, .fls x, b, h, h' => by cases n <;> simp [okN] at h
  | 0, m, .tup x, b, h, h' => by simp [okN] at h
  | 0, m, .lst x, b, h, h' => by simp [okN] at h
  | n + 1, m, .tup x, b, h, h' => by
    cases b <;> first | (cases m <;> simp [okN] at h'; done) | (simp [toP, PyData.eqv, eqD]; done) | skip
    cases m with
    | zero => simp [okN] at h'
    | succ m =>
      simp only [okN] at h h'
      simp only [toP, PyData.eqv, eqD]
      exact eqvs_toP h h'
  | n + 1, m, .lst x, b, h, h' => by
    cases b <;> first | (cases m <;> simp [okN] at h'; done) | (simp [toP, PyData.eqv, eqD]; done) | skip
    cases m with
    | zero => simp [okN] at h'
    | succ m =>
      simp only [okN] at h h'
      simp only [toP, PyData.eqv, eqD]
      exact eqvs_toP h h'
theorem eqvs_toP : ∀ {n m : Nat} {a b : List D}, okNs n a = true → okNs m b = true → PyData.eqvAll (toPs a) (toPs b) = eqDs a b
  | n, m, [], [], _, _ => by simp [toPs, PyData.eqvAll, eqDs]
  | n, m, [], _ :: _, _, _ => by simp [toPs, PyData.eqvAll, eqDs]
  | n, m, _ :: _, [], _, _ => by simp [toPs, PyData.eqvAll, eqDs]
  | n, m, a :: as, b :: bs, h, h' => by
    have h1 : okN n a = true ∧ okNs n as = true := by cases n <;> simpa [okNs] using h
    have h2 : okN m b = true ∧ okNs m bs = true := by cases m <;> simpa [okNs] using h'
    simp only [toPs, PyData.eqvAll, eqDs, eqv_toP h1.1 h2.1, eqvs_toP h1.2 h2.2]
end
/-! comparisons of data -/
def flatD : D → Bool
  | .non => true | .bl _ => true | .int _ => true | .str _ => true | _ => false
def toV : D → V
  | .non => .non | .bl b => .bl b | .int i => .int i | .str x => .str x | _ => .non
theorem flat_rep : ∀ {d : D} {v : V}, flatD d = true → rep K H O d v → v = toV d ∧ flatV v = true
  | .non, _, _, h => by rw [rep_non h]; exact ⟨rfl, rfl⟩
  | .bl _, _, _, h => by rw [rep_bl h]; exact ⟨rfl, rfl⟩
  | .int _, _, _, h => by rw [rep_int h]; exact ⟨rfl, rfl⟩
  | .str _, _, _, h => by rw [rep_str h]; exact ⟨rfl, rfl⟩
  | .tup _, _, f, _ => by cases f
  | .lst _, _, f, _ => by cases f
  | .scr _, _, f, _ => by cases f
  | .ntp _, _, f, _ => by cases f
  | .fls _, _, f, _ => by cases f
theorem eqV_flat : ∀ {a b : D}, flatD a = true → flatD b = true → eqV (toV a) (toV b) = eqD a b := by
  intro a b ha hb
  cases a <;> cases b <;> first | (cases ha; done) | (cases hb; done) | rfl
def okD (d : D) : Bool := okN 8 d
theorem okD_shaped {d : D} {v : V} (o : okD d = true) (h : rep K H O d v) : Dp K H v (toP d) ∧ SeqAt.shaped (toP d) = true := by
  obtain ⟨h1, h2, h3⟩ := okN_dp o h
  refine ⟨h1, ?_⟩
  show ((toP d).canLay0 && decide ((toP d).depth ≤ 64)) = true
  rw [h2, decide_eq_true (by omega)]
  rfl
/-- ==: texts by themselves, data without texts at any depth -/
def gEqB (neg : Bool) : D → D → Option D
  | .str x, .str y => some (.bl (neg != (x == y)))
  | a, b => if okD a && okD b then some (.bl (neg != eqD a b)) else none
def rEqB (K : PySem.W.Frag) (neg : Bool) : R2 := fun x y H Q => (∃ a b, x = .str a ∧ y = .str b ∧ Q (.bl (neg != (a == b))) H) ∨ ∃ d e, Dp K H x d ∧ Dp K H y e ∧ SeqAt.shaped d = true ∧ SeqAt.shaped e = true ∧ Q (.bl (neg != PyData.eqv d e)) H
theorem op_eqB {X : Cx} (hu : X.A.units + 64 < cLine) : OpR X (compareOp .Eq) (rEqB X.K false) := by
  intro pins s σ H x y v u Q I rx ry h
  rcases h with ⟨a, b, rfl, rfl, q⟩ | ⟨d, e, h1, h2, h3, h4, q⟩
  · exact op_eq pins s σ H _ _ v u Q I rx ry ⟨rfl, by rw [dec_str]; simpa using q⟩
  · exact op_eqD hu pins s σ H _ _ v u Q I rx ry ⟨d, e, h1, h2, h3, h4, by simpa using q⟩
theorem op_neB {X : Cx} (hu : X.A.units + 64 < cLine) : OpR X (compareOp .NotEq) (rEqB X.K true) := by
  intro pins s σ H x y v u Q I rx ry h
  rcases h with ⟨a, b, rfl, rfl, q⟩ | ⟨d, e, h1, h2, h3, h4, q⟩
  · exact op_ne pins s σ H _ _ v u Q I rx ry ⟨rfl, by rw [dec_str]; simpa using q⟩
  · exact op_neD hu pins s σ H _ _ v u Q I rx ry ⟨d, e, h1, h2, h3, h4, by simpa using q⟩
theorem does_eqB {neg : Bool} : Does2 K (rEqB K neg) (gEqB neg) := by
  intro H O x y dx dy d Q rx ry e hO q
  unfold gEqB at e
  split at e
  · cases e
    exact .inl ⟨_, _, rep_str rx, rep_str ry, q _ H (.refl H) mk_bl⟩
  · split at e
    · rename_i h
      cases e
      rw [Bool.and_eq_true] at h
      obtain ⟨a1, a2⟩ := okD_shaped h.1 rx
      obtain ⟨b1, b2⟩ := okD_shaped h.2 ry
      exact .inr ⟨_, _, a1, b1, a2, b2, by rw [eqv_toP h.1 h.2]; exact q _ H (.refl H) mk_bl⟩
    · cases e

/-! ### in -/
theorem any_flat {x : D} {vx : V} (hx : vx = toV x) (fx : flatD x = true) : ∀ {ds : List D} {xs : List V}, ds.all flatD = true → reps K H O ds xs → xs.all flatV = true ∧ inV vx xs = ds.any fun z => eqD z x
  | [], xs, _, h => by unfold reps at h; subst h; exact ⟨rfl, rfl⟩
  | d :: ds, xs, f, h => by
    unfold reps at h
    obtain ⟨y, r, rfl, hy, h⟩ := h
    rw [List.all_cons, Bool.and_eq_true] at f
    obtain ⟨e1, e2⟩ := flat_rep f.1 hy
    obtain ⟨i1, i2⟩ := any_flat hx fx f.2 h
    refine ⟨by rw [List.all_cons, e2, i1]; rfl, ?_⟩
    show (eqV y vx || inV vx r) = _
    rw [i2, e1, hx, eqV_flat f.1 fx, List.any_cons]
def gInB (neg : Bool) : D → D → Option D
  | x, .tup ds => if flatD x && ds.all flatD then some (.bl (neg != ds.any fun z => eqD z x)) else none
  | x, .lst ds => if flatD x && ds.all flatD then some (.bl (neg != ds.any fun z => eqD z x)) else
      if okD x && okD (.lst ds) then some (.bl (neg != ds.any fun z => eqD z x)) else none
  | _, _ => none
theorem toPs_map : ∀ ds : List D, toPs ds = ds.map toP
  | [] => by simp [toPs]
  | d :: ds => by simp [toPs, toPs_map ds]
theorem any_toP {x : D} {n m : Nat} (hx : okN n x = true) : ∀ {ds : List D}, okNs m ds = true → ((toPs ds).any fun z => PyData.eqv z (toP x)) = ds.any fun z => eqD z x
  | [], _ => by simp [toPs]
  | d :: ds, h => by
    have h2 : okN m d = true ∧ okNs m ds = true := by cases m <;> simpa [okNs] using h
    rw [toPs, List.any_cons, List.any_cons, eqv_toP h2.1 hx, any_toP hx h2.2]
def rInB (K : PySem.W.Frag) (neg : Bool) : R2 := fun x y H Q => rIn K neg x y H Q ∨ ∃ d ds, Dp K H x d ∧ Dp K H y (.list ds) ∧ SeqAt.shaped d = true ∧ SeqAt.shaped (.list ds) = true ∧ Q (.bl (neg != ds.any fun z => PyData.eqv z d)) H
theorem op_inB {X : Cx} (hu : X.A.units + 65 < cLine) : OpR X (compareOp .In) (rInB X.K false) := by
  intro pins s σ H x y v u Q I rx ry h
  rcases h with h | ⟨d, e, h1, h2, h3, h4, q⟩
  · exact op_in_seq pins s σ H _ _ v u Q I rx ry h
  · exact op_inD hu pins s σ H _ _ v u Q I rx ry ⟨d, e, h1, h2, h3, h4, by simpa using q⟩
theorem op_niB {X : Cx} (hu : X.A.units + 65 < cLine) : OpR X (compareOp .NotIn) (rInB X.K true) := by
  intro pins s σ H x y v u Q I rx ry h
  rcases h with h | ⟨d, e, h1, h2, h3, h4, q⟩
  · exact op_notIn_seq pins s σ H _ _ v u Q I rx ry h
  · exact op_notInD hu pins s σ H _ _ v u Q I rx ry ⟨d, e, h1, h2, h3, h4, by simpa using q⟩
theorem neg_ite (neg b : Bool) : (if neg = true then !b else b) = (neg != b) := by cases neg <;> cases b <;> rfl
theorem does_inB {neg : Bool} : Does2 K (rInB K neg) (gInB neg) := by
  intro H O x y dx dy d Q rx ry e hO q
  unfold gInB at e
  split at e
  · split at e
    · rename_i h
      cases e
      rw [Bool.and_eq_true] at h
      obtain ⟨a, xs, rfl, ha, ra⟩ := rep_tup ry
      obtain ⟨e1, e2⟩ := flat_rep h.1 rx
      obtain ⟨i1, i2⟩ := any_flat e1 h.1 h.2 ra
      exact .inl ⟨a, xs, rfl, .inr ha, e2, i1, by rw [neg_ite, i2]; exact q _ H (.refl H) mk_bl⟩
    · cases e
  · split at e
    · rename_i h
      cases e
      rw [Bool.and_eq_true] at h
      obtain ⟨a, xs, rfl, _, ha, ra⟩ := rep_lst ry
      obtain ⟨e1, e2⟩ := flat_rep h.1 rx
      obtain ⟨i1, i2⟩ := any_flat e1 h.1 h.2 ra
      exact .inl ⟨a, xs, rfl, .inl (.of ha), e2, i1, by rw [neg_ite, i2]; exact q _ H (.refl H) mk_bl⟩
    · split at e
      · rename_i h
        cases e
        rw [Bool.and_eq_true] at h
        obtain ⟨a1, a2⟩ := okD_shaped h.1 rx
        obtain ⟨b1, b2⟩ := okD_shaped h.2 ry
        rename_i ds _
        have h5 : okNs 7 ds = true := by simpa [okD, okN] using h.2
        refine .inr ⟨_, toPs ds, a1, by simpa [toP] using b1, a2, by simpa [toP] using b2, ?_⟩
        rw [any_toP h.1 h5]
        exact q _ H (.refl H) mk_bl
      · cases e
  · cases e

/-! ### subscripts -/
def gIx : D → D → Option D
  | .tup ds, .int i => atI ds i
  | .lst ds, .int i => atI ds i
  | .scr ns, .int i => (atI ns i).map D.int
  | _, _ => none
theorem reps_atI {ds : List D} {xs : List V} {i : Int} {d : D} (r : reps K H O ds xs) (e : atI ds i = some d) : ∃ x, atI xs i = some x ∧ rep K H O d x := by
  have hl := reps_len r
  unfold atI at e ⊢
  rw [hl]
  cases h : ixN ds.length i with
  | none => rw [h] at e; cases e
  | some j =>
    rw [h] at e
    exact reps_get r e
def rIxD (K : PySem.W.Frag) : R2 := fun x y H Q => rIxL K x y H Q ∨ rIxT K x y H Q
theorem ix_D {X : Cx} : IxR X (rIxD X.K) := ix_list.or ix_tup
theorem does_ix : Does2 K (rIxD K) gIx := by
  intro H O x y dx dy d Q rx ry e hO q
  unfold gIx at e
  split at e
  · obtain ⟨a, xs, rfl, ha, ra⟩ := rep_tup rx
    obtain ⟨z, e1, e2⟩ := reps_atI ra e
    exact .inr ⟨a, xs, _, z, rfl, rep_int ry, ha, e1, q _ H (.refl H) e2⟩
  · obtain ⟨a, xs, rfl, _, ha, ra⟩ := rep_lst rx
    obtain ⟨z, e1, e2⟩ := reps_atI ra e
    exact .inl ⟨a, xs, _, z, rfl, rep_int ry, .of ha, e1, q _ H (.refl H) e2⟩
  · obtain ⟨a, rfl, ha⟩ := rep_scr rx
    rename_i ns i
    cases h : atI ns i with
    | none => rw [h] at e; cases e
    | some n =>
      rw [h] at e
      cases e
      refine .inl ⟨a, _, i, .int n, rfl, rep_int ry, ha, ?_, q _ H (.refl H) mk_int⟩
      unfold atI at h ⊢
      rw [List.length_map]
      cases h2 : ixN ns.length i with
      | none => rw [h2] at h; cases h
      | some j =>
        rw [h2] at h
        show (ns.map V.int)[j]? = _
        rw [List.getElem?_map, show ns[j]? = some n from h]
        rfl
  · cases e
end
end Wd
set_option maxRecDepth 100000
set_option maxHeartbeats 1000000
/-! calls, tests, displays, slices on plain data -/
namespace Wd
open PySem L2 PyProof.Rows
section
variable {X : Cx} {a b c e : Expr} {es : List Expr} {pos p : Pos} {fa fb fc : E → Option D}
variable {K : PySem.W.Frag} {H H' : Hp} {O O' : Addr → Prop} {v : V}
/-! ### argument lists, displays -/
theorem pxs_nil : PXs X [] (fun _ => some []) := PA_imp pa_nil fun σ H Q ⟨O, env, ds, r, e, q⟩ => by
  cases e
  exact q [] H (.refl H) reps_nil
def cons2 (f : E → Option D) (g : E → Option (List D)) : E → Option (List D) := fun env => match f env with
  | none => none
  | some x => match g env with
    | none => none
    | some xs => some (x :: xs)
theorem pxs_cons {fs : E → Option (List D)} (ha : PX X e fa) (hr : PXs X es fs) (hs : starEach (e :: es) X.env = (false, eval e X.env) :: starEach es X.env := by rfl) : PXs X (e :: es) (cons2 fa fs) :=
  PA_imp (pa_cons ha hr hs) fun σ H Q ⟨O, env, ds, r, e, q⟩ => by
    unfold cons2 at e
    cases h1 : fa env with
    | none => rw [h1] at e; cases e
    | some x =>
      rw [h1] at e
      cases h2 : fs env with
      | none => rw [h2] at e; cases e
      | some xs =>
        rw [h2] at e
        cases e
        exact ⟨O, env, x, r, h1, fun v1 H1 x1 r1 => ⟨O, env, xs, r.ext x1, h2, fun vs H2 x2 r2 => q _ _ (x1.trans x2) (reps_cons (rep_ext x2 r1) r2)⟩⟩
def mapT (g : List D → Option D) (fs : E → Option (List D)) : E → Option D := fun env => match fs env with
  | none => none
  | some xs => g xs
/-- a tuple that is ours -/
def gTupN (ds : List D) : Option D := if ds.length ≤ LIM then some (.ntp ds) else none
def gTup (ds : List D) : Option D := if ds.length ≤ LIM then some (.tup ds) else none
def gLst (ds : List D) : Option D := if ds.length ≤ LIM then some (.lst ds) else none
theorem px_tup {x1} {fs : E → Option (List D)} (h : PXs X es fs) : PX X (.Tuple es x1 pos) (mapT gTup fs) := PE_imp (pe_tup h) fun σ H Q ⟨O, env, d, r, e, q⟩ => by
  unfold mapT at e
  cases h1 : fs env with
  | none => rw [h1] at e; cases e
  | some xs =>
    rw [h1] at e
    simp only [gTup] at e
    split at e
    · rename_i hl
      cases e
      exact ⟨O, env, xs, r, h1, fun vs H1 x1 r1 => ⟨lim_le (by rw [reps_len r1]; exact hl), fun p hp => q _ _ (x1.trans (.upd hp)) (new_tup hp r1)⟩⟩
    · cases e
theorem px_tupN {x1} {fs : E → Option (List D)} (h : PXs X es fs) : PX X (.Tuple es x1 pos) (mapT gTupN fs) := PE_imp (pe_tup h) fun σ H Q ⟨O, env, d, r, e, q⟩ => by
  unfold mapT at e
  cases h1 : fs env with
  | none => rw [h1] at e; cases e
  | some xs =>
    rw [h1] at e
    simp only [gTupN] at e
    split at e
    · rename_i hl
      cases e
      exact ⟨O, env, xs, r, h1, fun vs H1 x1 r1 => ⟨lim_le (by rw [reps_len r1]; exact hl), fun p hp => q _ _ (x1.trans (.upd hp)) (mk_ntp (.inl upd_same) (reps_ext (.upd hp) r1))⟩⟩
    · cases e
theorem px_lst {fs : E → Option (List D)} (h : PXs X es fs) : PX X (.List es pos) (mapT gLst fs) := PE_imp (pe_lst h) fun σ H Q ⟨O, env, d, r, e, q⟩ => by
  unfold mapT at e
  cases h1 : fs env with
  | none => rw [h1] at e; cases e
  | some xs =>
    rw [h1] at e
    simp only [gLst] at e
    split at e
    · rename_i hl
      cases e
      exact ⟨O, env, xs, r, h1, fun vs H1 x1 r1 => ⟨lim_le (by rw [reps_len r1]; exact hl), fun p hp => q _ _ (x1.trans (.upd hp)) (new_lst hp (r.ext x1).dom r1)⟩⟩
    · cases e

/-! ### calls of built-ins -/
def DoesL (K : PySem.W.Frag) (r : List V → Hp → VK → Prop) (g : List D → Option D) : Prop := ∀ H O xs dxs d Q, reps K H O dxs xs → g dxs = some d → (∀ b, O b → H b ≠ none) → (∀ v H', Ext H H' → rep K H' O d v → Q v H') → r xs H Q
theorem tx_cb {r : List V → Hp → VK → Prop} {g : List D → Option D} {fs : E → Option (List D)} (hr : DoesL K r g) : ∀ σ H Q, TX K (mapT g fs) σ H Q → tCB r (TXs K fs) σ H Q := fun σ H Q ⟨O, env, d, re, e, q⟩ => by
  unfold mapT at e
  cases h1 : fs env with
  | none => rw [h1] at e; cases e
  | some xs =>
    rw [h1] at e
    exact ⟨O, env, xs, re, h1, fun vs H1 x1 r1 => hr H1 O vs xs d Q r1 e (re.ext x1).dom fun v H' x2 r2 => q v H' (x1.trans x2) r2⟩
theorem px_callB {x : Str} {id : String} {r : List V → Hp → VK → Prop} {g : List D → Option D} {fs : E → Option (List D)} (hr : DoesL X.K r g) (hc : CallR X (.builtin id) r) (hg : Gl X x) (hm : X.mg x = none) (hv : bootBuiltins x = some (.builtin id)) (ha : PXs X (e :: es) fs)
    (hn : x ≠ "__name__" := by decide) (hdb : (x == ("__debug__" : Str)) = false := by decide) (he : starEach (e :: es) X.env = (false, eval e X.env) :: starEach es X.env := by rfl) (hpl : (backTo pos (starEach es X.env)).any (·.1) = false := by rfl) :
    PX X (.Call (.Name x p) (e :: es) [] pos) (mapT g fs) := PE_imp (pe_callB hc hg hm hv ha hn hdb he hpl) (tx_cb hr)
theorem px_callTy {x : Str} {T : String} {r : List V → Hp → VK → Prop} {g : List D → Option D} {fs : E → Option (List D)} (hr : DoesL X.K r g) (hc : CallR X (.type T) r) (hg : Gl X x) (hm : X.mg x = none) (hv : bootBuiltins x = some (.type T)) (ha : PXs X (e :: es) fs)
    (hn : x ≠ "__name__" := by decide) (hdb : (x == ("__debug__" : Str)) = false := by decide) (he : starEach (e :: es) X.env = (false, eval e X.env) :: starEach es X.env := by rfl) (hpl : (backTo pos (starEach es X.env)).any (·.1) = false := by rfl) :
    PX X (.Call (.Name x p) (e :: es) [] pos) (mapT g fs) := PE_imp (pe_callTy hc hg hm hv ha hn hdb he hpl) (tx_cb hr)
theorem reps1 {d : D} {xs : List V} (h : reps K H O [d] xs) : ∃ x, xs = [x] ∧ rep K H O d x := by
  unfold reps at h
  obtain ⟨x, r, rfl, hx, h⟩ := h
  unfold reps at h
  subst h
  exact ⟨x, rfl, hx⟩
theorem reps2 {d d' : D} {xs : List V} (h : reps K H O [d, d'] xs) : ∃ x y, xs = [x, y] ∧ rep K H O d x ∧ rep K H O d' y := by
  unfold reps at h
  obtain ⟨x, r, rfl, hx, h⟩ := h
  obtain ⟨y, rfl, hy⟩ := reps1 h
  exact ⟨x, y, rfl, hx, hy⟩
def gLen : List D → Option D
  | [.tup ds] => some (.int ds.length)
  | [.lst ds] => some (.int ds.length)
  | [.scr ds] => some (.int ds.length)
  | _ => none
theorem does_len : DoesL K (fun xs H Q => ∃ p ys, xs = [.ref p] ∧ (SqL K H p ys ∨ SqT K H p ys) ∧ Q (.int ys.length) H) gLen := by
  intro H O xs dxs d Q r e hO q
  unfold gLen at e
  split at e
  · obtain ⟨x, rfl, hx⟩ := reps1 r
    obtain ⟨a, ys, rfl, ha, ra⟩ := rep_tup hx
    cases e
    exact ⟨a, ys, rfl, .inr ha, by rw [reps_len ra]; exact q _ H (.refl H) mk_int⟩
  · obtain ⟨x, rfl, hx⟩ := reps1 r
    obtain ⟨a, ys, rfl, _, ha, ra⟩ := rep_lst hx
    cases e
    exact ⟨a, ys, rfl, .inl (.of ha), by rw [reps_len ra]; exact q _ H (.refl H) mk_int⟩
  · obtain ⟨x, rfl, hx⟩ := reps1 r
    obtain ⟨a, rfl, ha⟩ := rep_scr hx
    cases e
    exact ⟨a, _, rfl, .inl ha, by rw [List.length_map]; exact q _ H (.refl H) mk_int⟩
  · cases e
def gAbs : List D → Option D
  | [.int i] => some (.int (if i < 0 then -i else i))
  | _ => none
theorem does_abs : DoesL K (fun xs H Q => ∃ i, xs = [.int i] ∧ Q (.int (if i < 0 then -i else i)) H) gAbs := by
  intro H O xs dxs d Q r e hO q
  unfold gAbs at e
  split at e
  · obtain ⟨x, rfl, hx⟩ := reps1 r
    cases e
    exact ⟨_, by rw [rep_int hx], q _ H (.refl H) mk_int⟩
  · cases e
def gInt : List D → Option D
  | [.int i] => some (.int i)
  | _ => none
theorem does_int : DoesL K (fun xs H Q => (∃ i, xs = [.int i] ∧ Q (.int i) H) ∨ ∃ k, xs = [.bl k] ∧ Q (.int (if k then 1 else 0)) H) gInt := by
  intro H O xs dxs d Q r e hO q
  unfold gInt at e
  split at e
  · obtain ⟨x, rfl, hx⟩ := reps1 r
    cases e
    exact .inl ⟨_, by rw [rep_int hx], q _ H (.refl H) mk_int⟩
  · cases e
def gMin : List D → Option D
  | [.int i, .int j] => some (.int (if j < i then j else i))
  | _ => none
theorem does_min : DoesL K (fun xs H Q => ∃ i j, xs = [.int i, .int j] ∧ Q (.int (if j < i then j else i)) H) gMin := by
  intro H O xs dxs d Q r e hO q
  unfold gMin at e
  split at e
  · obtain ⟨x, y, rfl, hx, hy⟩ := reps2 r
    cases e
    exact ⟨_, _, by rw [rep_int hx, rep_int hy], q _ H (.refl H) mk_int⟩
  · cases e
def gMax : List D → Option D
  | [.int i, .int j] => some (.int (if j > i then j else i))
  | _ => none
theorem does_max : DoesL K (fun xs H Q => ∃ i j, xs = [.int i, .int j] ∧ Q (.int (if j > i then j else i)) H) gMax := by
  intro H O xs dxs d Q r e hO q
  unfold gMax at e
  split at e
  · obtain ⟨x, y, rfl, hx, hy⟩ := reps2 r
    cases e
    exact ⟨_, _, by rw [rep_int hx, rep_int hy], q _ H (.refl H) mk_int⟩
  · cases e
def gDivmod : List D → Option D
  | [.int i, .int j] => if decide (0 < j) && decide (j < 1073741824) then some (.tup [.int (i / j), .int (i % j)]) else none
  | _ => none
theorem does_divmod : DoesL K (fun xs H Q => ∃ i j, xs = [.int i, .int j] ∧ CDiv i j ∧ ∀ p, H p = none → Q (.ref p) (upd H p (.tup [.int (i / j), .int (i % j)]))) gDivmod := by
  intro H O xs dxs d Q r e hO q
  unfold gDivmod at e
  split at e
  · obtain ⟨x, y, rfl, hx, hy⟩ := reps2 r
    split at e
    · rename_i h
      cases e
      simp only [Bool.and_eq_true, decide_eq_true_eq] at h
      exact ⟨_, _, by rw [rep_int hx, rep_int hy], h, fun p hp => q _ _ (.upd hp) (new_tup hp (reps_cons mk_int (reps_cons mk_int reps_nil)))⟩
    · cases e
  · cases e
def gTuple : List D → Option D
  | [.lst ds] => some (.tup ds)
  | [.tup ds] => some (.tup ds)
  | _ => none
theorem does_tuple : DoesL K (fun xs H Q => ∃ p ys, xs = [.ref p] ∧ ((SqL K H p ys ∧ ∀ l, H l = none → Q (.ref l) (upd H l (.tup ys))) ∨ (SqT K H p ys ∧ Q (.ref p) H))) gTuple := by
  intro H O xs dxs d Q r e hO q
  unfold gTuple at e
  split at e
  · obtain ⟨x, rfl, hx⟩ := reps1 r
    obtain ⟨a, ys, rfl, _, ha, ra⟩ := rep_lst hx
    cases e
    exact ⟨a, ys, rfl, .inl ⟨.of ha, fun p hp => q _ _ (.upd hp) (new_tup hp ra)⟩⟩
  · obtain ⟨x, rfl, hx⟩ := reps1 r
    obtain ⟨a, ys, rfl, ha, ra⟩ := rep_tup hx
    cases e
    exact ⟨a, ys, rfl, .inr ⟨ha, q _ H (.refl H) hx⟩⟩
  · cases e
def gList : List D → Option D
  | [.lst ds] => some (.lst ds)
  | [.tup ds] => some (.lst ds)
  | _ => none
theorem does_list : DoesL K (fun xs H Q => ∃ p ys, xs = [.ref p] ∧ (SqL K H p ys ∨ SqT K H p ys) ∧ ∀ l, H l = none → Q (.ref l) (upd H l (.lst ys))) gList := by
  intro H O xs dxs d Q r e hO q
  unfold gList at e
  split at e
  · obtain ⟨x, rfl, hx⟩ := reps1 r
    obtain ⟨a, ys, rfl, _, ha, ra⟩ := rep_lst hx
    cases e
    exact ⟨a, ys, rfl, .inl (.of ha), fun p hp => q _ _ (.upd hp) (new_lst hp hO ra)⟩
  · obtain ⟨x, rfl, hx⟩ := reps1 r
    obtain ⟨a, ys, rfl, ha, ra⟩ := rep_tup hx
    cases e
    exact ⟨a, ys, rfl, .inr ha, fun p hp => q _ _ (.upd hp) (new_lst hp hO ra)⟩
  · cases e
/-! sorted, ints -/
def intsOf : List D → Option (List Int)
  | [] => some []
  | .int i :: r => match intsOf r with
    | none => none
    | some l => some (i :: l)
  | _ => none
theorem intsOf_ok : ∀ {ds : List D} {ns : List Int} {xs : List V}, intsOf ds = some ns → reps K H O ds xs → ds = ns.map D.int ∧ xs = ns.map V.int
  | [], ns, xs, e, h => by unfold reps at h; subst h; cases e; exact ⟨rfl, rfl⟩
  | d :: ds, ns, xs, e, h => by
    unfold reps at h
    obtain ⟨x, r, rfl, hx, h⟩ := h
    cases d <;> simp only [intsOf, reduceCtorEq] at e
    cases h2 : intsOf ds with
    | none => rw [h2] at e; cases e
    | some l =>
      rw [h2] at e
      cases e
      obtain ⟨e1, e2⟩ := intsOf_ok h2 h
      rw [rep_int hx, e1, e2]
      exact ⟨rfl, rfl⟩
theorem reps_ints : ∀ ns : List Int, reps K H O (ns.map D.int) (ns.map V.int)
  | [] => reps_nil
  | n :: ns => reps_cons mk_int (reps_ints ns)
def insI (i : Int) : List Int → List Int
  | [] => [i]
  | j :: r => if i ≤ j then i :: j :: r else j :: insI i r
def sortI : List Int → List Int
  | [] => []
  | i :: r => insI i (sortI r)
theorem insI_perm (i : Int) : ∀ l, (insI i l).Perm (i :: l)
  | [] => .refl _
  | j :: r => by
    unfold insI
    split
    · exact .refl _
    · exact ((insI_perm i r).cons j).trans (.swap i j r)
theorem sortI_perm : ∀ l, (sortI l).Perm l
  | [] => .refl _
  | i :: r => (insI_perm i _).trans ((sortI_perm r).cons i)
theorem insI_sorted (i : Int) : ∀ l : List Int, l.Pairwise (· ≤ ·) → (insI i l).Pairwise (· ≤ ·)
  | [], _ => by simp [insI]
  | j :: r, h => by
    have h1 := List.pairwise_cons.mp h
    unfold insI
    split
    · rename_i hij
      refine List.pairwise_cons.mpr ⟨fun x hx => ?_, h⟩
      rcases List.mem_cons.mp hx with rfl | hx
      · exact hij
      · exact Int.le_trans hij (h1.1 x hx)
    · rename_i hij
      refine List.pairwise_cons.mpr ⟨fun x hx => ?_, insI_sorted i r h1.2⟩
      rcases List.mem_cons.mp ((insI_perm i r).mem_iff.mp hx) with rfl | hx
      · omega
      · exact h1.1 x hx
theorem sortI_sorted : ∀ l : List Int, (sortI l).Pairwise (· ≤ ·)
  | [] => by simp [sortI]
  | i :: r => insI_sorted i _ (sortI_sorted r)
theorem sorted_uniq : ∀ {l m : List Int}, l.Perm m → l.Pairwise (· ≤ ·) → m.Pairwise (· ≤ ·) → l = m
  | [], m, p, _, _ => (List.Perm.eq_nil p.symm).symm
  | x :: l, [], p, _, _ => absurd p.length_eq (by simp)
  | x :: l, y :: m, p, h1, h2 => by
    have a1 := List.pairwise_cons.mp h1
    have a2 := List.pairwise_cons.mp h2
    have e : x = y := by
      have hx : x ∈ y :: m := p.mem_iff.mp (by simp)
      have hy : y ∈ x :: l := p.mem_iff.mpr (by simp)
      rcases List.mem_cons.mp hx with e | hx
      · exact e
      · rcases List.mem_cons.mp hy with e | hy
        · exact e.symm
        · exact Int.le_antisymm (a1.1 y hy) (a2.1 x hx)
    subst e
    rw [sorted_uniq (List.Perm.cons_inv p) a1.2 a2.2]
def gSortI : List D → Option D
  | [.lst ds] => match intsOf ds with
    | none => none
    | some ns => some (.lst ((sortI ns).map D.int))
  | _ => none
theorem does_sortI : DoesL K (rSortedI K) gSortI := by
  intro H O xs dxs d Q r e hO q
  unfold gSortI at e
  split at e
  · obtain ⟨x, rfl, hx⟩ := reps1 r
    obtain ⟨a, ys, rfl, _, ha, ra⟩ := rep_lst hx
    split at e
    · cases e
    · rename_i ns hns
      cases e
      obtain ⟨e1, e2⟩ := intsOf_ok hns ra
      refine ⟨a, ns, rfl, .of (by rw [ha, e2]), fun ns' p hp hs hn => ?_⟩
      have e3 : ns' = sortI ns := sorted_uniq (hp.trans (sortI_perm ns).symm) hs (sortI_sorted ns)
      rw [e3]
      exact q _ _ (.upd hn) (new_lst hn hO (reps_ints _))
  · cases e
end
end Wd
set_option maxRecDepth 100000
set_option maxHeartbeats 1000000
/-! tests, slices, sorted pairs on plain data -/
namespace Wd
open PySem L2 PyProof.Rows
section
variable {X : Cx} {a b c e : Expr} {es : List Expr} {pos p : Pos} {fa fb fc : E → Option D} {ta tb tc : E → Option Bool}
variable {K : PySem.W.Frag} {H H' : Hp} {O O' : Addr → Prop} {v : V}
/-! ### tests -/
def tst (f : E → Option D) : E → Option Bool := fun env => match f env with
  | some (.bl b) => some b
  | _ => none
theorem tst_ok {f : E → Option D} {env : E} {b : Bool} (h : tst f env = some b) : f env = some (.bl b) := by
  unfold tst at h
  split at h
  · rename_i e; cases h; exact e
  · cases h
theorem tx_tst {f : E → Option D} {t : TE} (ht : ∀ σ H Q, TX K f σ H Q → t σ H Q) : ∀ σ H Q, TXt K (tst f) σ H Q → tTest t σ H Q := fun σ H Q ⟨O, env, b, re, e, q⟩ =>
  ht σ H _ ⟨O, env, .bl b, re, tst_ok e, fun v H' x r => ⟨b, rep_bl r, q H' x⟩⟩
theorem pxt_cmp {op : CmpOp} {r : R2} {g : D → D → Option D} (ho : OpR X (compareOp op) r) (hr : Does2 X.K r g) (ha : PX X a fa) (hb : PX X b fb) (hm : behindInMarks op b = false) : PXt X (.Compare a [op] [b] pos) (tst (bin2 g fa fb)) :=
  PT_imp (pt_cmpR ho ha hb hm) (tx_tst (tx_op hr))
/-- a value's truth -/
def tru : D → Option Bool
  | .non => some false
  | .bl b => some b
  | .int i => some (i != 0)
  | .tup ds => some (!ds.isEmpty)
  | .lst ds => some (!ds.isEmpty)
  | _ => none
def truT (f : E → Option D) : E → Option Bool := fun env => match f env with
  | some d => tru d
  | none => none
theorem isEmpty_len {ds : List D} {xs : List V} (h : xs.length = ds.length) : xs.isEmpty = ds.isEmpty := by cases xs <;> cases ds <;> simp_all
theorem tru_ok' {d : D} {v : V} {k : Bool} (h : tru d = some k) (r : rep K H O d v) : TruV K v H k := by
  cases d <;> simp only [tru, reduceCtorEq, Option.some.injEq] at h
  · rw [rep_non r]; exact h.symm
  · rw [rep_bl r]; exact h.symm
  · rw [rep_int r]; exact h.symm
  · obtain ⟨a, xs, rfl, ha, ra⟩ := rep_tup r
    exact .inr (.inl ⟨xs, ha, by rw [isEmpty_len (reps_len ra)]; exact h.symm⟩)
  · obtain ⟨a, xs, rfl, _, ha, ra⟩ := rep_lst r
    exact .inl ⟨xs, .of ha, by rw [isEmpty_len (reps_len ra)]; exact h.symm⟩
/-- a name, a call, a subscript as a test (he by fun _ => rfl) -/
theorem pxt_val (ha : PX X a fa) (he : ∀ whole, isTrue a X.env whole = (do let v ← whole; standAt a.pos; holding [v] (truthy v))) : PXt X a (truT fa) :=
  PT_imp (pt_truth ha he) fun σ H Q ⟨O, env, k, re, e, q⟩ => by
    unfold truT at e
    cases h : fa env with
    | none => rw [h] at e; cases e
    | some d =>
      rw [h] at e
      exact ⟨O, env, d, re, h, fun v H' x r => ⟨k, tru_ok' e r, q H' x⟩⟩
abbrev PXw (X : Cx) (e : Expr) (f : E → Option Bool) : Prop := PW X e (TXt X.K f)
theorem PW_imp {e : Expr} {t t' : TT} (h : PW X e t) (i : ∀ σ H Q, t' σ H Q → t σ H Q) : PW X e t' := ⟨fun w pins s σ H Q I q => h.run w pins s σ H Q I (i σ H Q q)⟩
def andT (f g : E → Option Bool) : E → Option Bool := fun env => match f env with
  | some true => g env
  | some false => some false
  | none => none
def orT (f g : E → Option Bool) : E → Option Bool := fun env => match f env with
  | some true => some true
  | some false => g env
  | none => none
def notT (f : E → Option Bool) : E → Option Bool := fun env => (f env).map (!·)
theorem pxw_and1 (ha : PXt X a ta) : PXw X (.BoolOp .And [a] pos) ta := pw_and1 ha
theorem pxw_or1 (ha : PXt X a ta) : PXw X (.BoolOp .Or [a] pos) ta := pw_or1 ha
theorem pxw_and (ha : PXt X a ta) (hb : PXw X (.BoolOp .And (b :: es) pos) tb) : PXw X (.BoolOp .And (a :: b :: es) pos) (andT ta tb) := PW_imp (pw_and ha hb) fun σ H Q ⟨O, env, k, re, e, q⟩ => by
  unfold andT at e
  split at e
  · rename_i h
    exact ⟨O, env, true, re, h, fun H1 x1 => by show _; exact ⟨O, env, k, re.ext x1, e, fun H2 x2 => q H2 (x1.trans x2)⟩⟩
  · rename_i h
    cases e
    exact ⟨O, env, false, re, h, fun H1 x1 => by show _; exact q H1 x1⟩
  · cases e
theorem pxw_or (ha : PXt X a ta) (hb : PXw X (.BoolOp .Or (b :: es) pos) tb) : PXw X (.BoolOp .Or (a :: b :: es) pos) (orT ta tb) := PW_imp (pw_or ha hb) fun σ H Q ⟨O, env, k, re, e, q⟩ => by
  unfold orT at e
  split at e
  · rename_i h
    cases e
    exact ⟨O, env, true, re, h, fun H1 x1 => by show _; exact q H1 x1⟩
  · rename_i h
    exact ⟨O, env, false, re, h, fun H1 x1 => by show _; exact ⟨O, env, k, re.ext x1, e, fun H2 x2 => q H2 (x1.trans x2)⟩⟩
  · cases e
theorem pxt_w (h : PXw X e ta) : PXt X e ta := h.pt
theorem pxt_not (ha : PXt X a ta) : PXt X (.UnaryOp .Not a pos) (notT ta) := PT_imp (pt_not ha) fun σ H Q ⟨O, env, k, re, e, q⟩ => by
  unfold notT at e
  cases h : ta env with
  | none => rw [h] at e; cases e
  | some d =>
    rw [h] at e
    cases e
    exact ⟨O, env, d, re, h, fun H1 x1 => q H1 x1⟩
/-! as values -/
def andV (f g : E → Option D) : E → Option D := fun env => match f env with
  | some (.bl true) => g env
  | some (.bl false) => some (.bl false)
  | _ => none
def orV (f g : E → Option D) : E → Option D := fun env => match f env with
  | some (.bl true) => some (.bl true)
  | some (.bl false) => g env
  | _ => none
def notV (f : E → Option D) : E → Option D := fun env => match f env with
  | some (.bl b) => some (.bl (!b))
  | _ => none
theorem px_one {op} (ha : PX X a fa) : PX X (.BoolOp op [a] pos) fa := pe_one ha
theorem px_and (ha : PX X a fa) (hb : PX X (.BoolOp .And (b :: es) pos) fb) : PX X (.BoolOp .And (a :: b :: es) pos) (andV fa fb) := PE_imp (pe_and ha hb) fun σ H Q ⟨O, env, d, re, e, q⟩ => by
  unfold andV at e
  split at e
  · rename_i h
    exact ⟨O, env, _, re, h, fun v1 H1 x1 r1 => ⟨true, rep_bl r1, by show _; exact ⟨O, env, d, re.ext x1, e, fun v2 H2 x2 r2 => q v2 H2 (x1.trans x2) r2⟩⟩⟩
  · rename_i h
    cases e
    exact ⟨O, env, _, re, h, fun v1 H1 x1 r1 => ⟨false, rep_bl r1, by show _; exact q _ H1 x1 mk_bl⟩⟩
  · cases e
theorem px_or (ha : PX X a fa) (hb : PX X (.BoolOp .Or (b :: es) pos) fb) : PX X (.BoolOp .Or (a :: b :: es) pos) (orV fa fb) := PE_imp (pe_or ha hb) fun σ H Q ⟨O, env, d, re, e, q⟩ => by
  unfold orV at e
  split at e
  · rename_i h
    cases e
    exact ⟨O, env, _, re, h, fun v1 H1 x1 r1 => ⟨true, rep_bl r1, by show _; exact q _ H1 x1 mk_bl⟩⟩
  · rename_i h
    exact ⟨O, env, _, re, h, fun v1 H1 x1 r1 => ⟨false, rep_bl r1, by show _; exact ⟨O, env, d, re.ext x1, e, fun v2 H2 x2 r2 => q v2 H2 (x1.trans x2) r2⟩⟩⟩
  · cases e
theorem px_not (ha : PX X a fa) : PX X (.UnaryOp .Not a pos) (notV fa) := PE_imp (pe_not ha) fun σ H Q ⟨O, env, d, re, e, q⟩ => by
  unfold notV at e
  split at e
  · rename_i b h
    cases e
    exact ⟨O, env, _, re, h, fun v1 H1 x1 r1 => ⟨b, rep_bl r1, q _ H1 x1 mk_bl⟩⟩
  · cases e
def ifV (t : E → Option Bool) (f g : E → Option D) : E → Option D := fun env => match t env with
  | some true => f env
  | some false => g env
  | none => none
theorem px_if (hc : PXt X c tc) (ha : PX X a fa) (hb : PX X b fb) : PX X (.IfExp c a b pos) (ifV tc fa fb) := PE_imp (pe_ifExp hc ha hb) fun σ H Q ⟨O, env, d, re, e, q⟩ => by
  unfold ifV at e
  split at e
  · rename_i h
    exact ⟨O, env, _, re, h, fun H1 x1 => by show _; exact ⟨O, env, d, re.ext x1, e, fun v2 H2 x2 r2 => q v2 H2 (x1.trans x2) r2⟩⟩
  · rename_i h
    exact ⟨O, env, _, re, h, fun H1 x1 => by show _; exact ⟨O, env, d, re.ext x1, e, fun v2 H2 x2 r2 => q v2 H2 (x1.trans x2) r2⟩⟩
  · cases e
/-- a op1 b op2 c -/
def chainV (g g' : D → D → Option D) (fa fb fc : E → Option D) : E → Option D := fun env => match fa env with
  | none => none
  | some x => match fb env with
    | none => none
    | some y => match g x y with
      | some (.bl true) => (match fc env with
        | none => none
        | some z => g' y z)
      | some (.bl false) => some (.bl false)
      | _ => none
theorem tx_chain {r r' : R2} {g g' : D → D → Option D} (hr : Does2 K r g) (hr' : Does2 K r' g') : ∀ σ H Q, TX K (chainV g g' fa fb fc) σ H Q → tChain r r' (TX K fa) (TX K fb) (TX K fc) σ H Q := fun σ H Q ⟨O, env, d, re, e, q⟩ => by
  unfold chainV at e
  cases ha : fa env with
  | none => rw [ha] at e; cases e
  | some x =>
    rw [ha] at e
    cases hb : fb env with
    | none => rw [hb] at e; cases e
    | some y =>
      rw [hb] at e
      dsimp only at e
      refine ⟨O, env, x, re, ha, fun v1 H1 x1 r1 => ⟨O, env, y, re.ext x1, hb, fun v2 H2 x2 r2 => ?_⟩⟩
      split at e
      · rename_i hg
        refine hr H2 O v1 v2 x y _ _ (rep_ext x2 r1) r2 hg ((re.ext x1).ext x2).dom fun v3 H3 x3 r3 => ⟨true, rep_bl r3, ?_⟩
        cases hc : fc env with
        | none => rw [hc] at e; cases e
        | some z =>
          rw [hc] at e
          exact ⟨O, env, z, ((re.ext x1).ext x2).ext x3, hc, fun v4 H4 x4 r4 => hr' H4 O v2 v4 y z d Q (rep_ext (x3.trans x4) r2) r4 e ((((re.ext x1).ext x2).ext x3).ext x4).dom fun v H' x5 r5 => q v H' (x1.trans (x2.trans (x3.trans (x4.trans x5)))) r5⟩
      · rename_i hg
        cases e
        refine hr H2 O v1 v2 x y _ _ (rep_ext x2 r1) r2 hg ((re.ext x1).ext x2).dom fun v3 H3 x3 r3 => ⟨false, rep_bl r3, ?_⟩
        exact q _ H3 (x1.trans (x2.trans x3)) mk_bl
      · cases e
theorem px_chain {op op' : CmpOp} {r r' : R2} {g g' : D → D → Option D} (ho : OpR X (compareOp op) r) (hr : Does2 X.K r g) (ho' : OpR X (compareOp op') r') (hr' : Does2 X.K r' g') (ha : PX X a fa) (hb : PX X b fb) (hc : PX X c fc)
    (hm : lastMarks [op, op'] [b, c] = false := by with_unfolding_all rfl) : PX X (.Compare a [op, op'] [b, c] pos) (chainV g g' fa fb fc) := PE_imp (pe_chain ho ho' ha hb hc hm) (tx_chain hr hr')
theorem pxt_chain {op op' : CmpOp} {r r' : R2} {g g' : D → D → Option D} (ho : OpR X (compareOp op) r) (hr : Does2 X.K r g) (ho' : OpR X (compareOp op') r') (hr' : Does2 X.K r' g') (ha : PX X a fa) (hb : PX X b fb) (hc : PX X c fc)
    (hm : lastMarks [op, op'] [b, c] = false := by with_unfolding_all rfl) : PXt X (.Compare a [op, op'] [b, c] pos) (tst (chainV g g' fa fb fc)) := PT_imp (pt_chain ho ho' ha hb hc hm) (tx_tst (tx_chain hr hr'))
/-- is None -/
def gNon (neg : Bool) : D → D
  | .non => .bl (!neg)
  | _ => .bl neg
def nonV (neg : Bool) (f : E → Option D) : E → Option D := fun env => (f env).map (gNon neg)
def isNonD : D → Bool
  | .non => true
  | _ => false
theorem rep_isN {d : D} {v : V} (h : rep K H O d v) : decide (v = .non) = isNonD d := by
  cases d
  · rw [rep_non h]; rfl
  · rw [rep_bl h]; rfl
  · rw [rep_int h]; rfl
  · rw [rep_str h]; rfl
  · obtain ⟨a, xs, rfl, _⟩ := rep_tup h; rfl
  · obtain ⟨a, xs, rfl, _⟩ := rep_lst h; rfl
  · obtain ⟨a, rfl, _⟩ := rep_scr h; rfl
  · obtain ⟨a, xs, rfl, _⟩ := rep_ntp h; rfl
  · obtain ⟨a, xs, rfl, _⟩ := rep_fls h; rfl
theorem tx_isN : ∀ σ H Q, TX K (nonV false fa) σ H Q → tIsN (TX K fa) σ H Q := fun σ H Q ⟨O, env, d, re, e, q⟩ => by
  unfold nonV at e
  cases h : fa env with
  | none => rw [h] at e; cases e
  | some x =>
    rw [h] at e
    cases e
    refine ⟨O, env, x, re, h, fun v1 H1 x1 r1 => q _ H1 x1 ?_⟩
    rw [rep_isN r1]
    cases x <;> exact mk_bl
theorem tx_notN : ∀ σ H Q, TX K (nonV true fa) σ H Q → tNotN (TX K fa) σ H Q := fun σ H Q ⟨O, env, d, re, e, q⟩ => by
  unfold nonV at e
  cases h : fa env with
  | none => rw [h] at e; cases e
  | some x =>
    rw [h] at e
    cases e
    refine ⟨O, env, x, re, h, fun v1 H1 x1 r1 => q _ H1 x1 ?_⟩
    rw [rep_isN r1]
    cases x <;> exact mk_bl
theorem px_isN {j pos'} (ha : PX X a fa) : PX X (.Compare a [.Is] [.Constant .none j pos'] pos) (nonV false fa) := PE_imp (pe_cmp (pc_isN ha)) tx_isN
theorem px_notN {j pos'} (ha : PX X a fa) : PX X (.Compare a [.IsNot] [.Constant .none j pos'] pos) (nonV true fa) := PE_imp (pe_cmp (pc_notN ha)) tx_notN
theorem pxt_isN {j pos'} (ha : PX X a fa) : PXt X (.Compare a [.Is] [.Constant .none j pos'] pos) (tst (nonV false fa)) := PT_imp (pt_cmp (pc_isN ha)) (tx_tst tx_isN)
theorem pxt_notN {j pos'} (ha : PX X a fa) : PXt X (.Compare a [.IsNot] [.Constant .none j pos'] pos) (tst (nonV true fa)) := PT_imp (pt_cmp (pc_notN ha)) (tx_tst tx_notN)

/-! ### slices -/
def TXo (K : PySem.W.Frag) (f : E → Option (Option Int)) : TO := fun σ H Q => ∃ O env o, RE K O env σ H ∧ f env = some o ∧ ∀ H', Ext H H' → Q o H'
theorem PO_imp {e : Option Expr} {t t' : TO} (h : PO X e t) (i : ∀ σ H Q, t' σ H Q → t σ H Q) : PO X e t' := ⟨fun pins s σ H Q I q => h.run pins s σ H Q I (i σ H Q q)⟩
abbrev PXo (X : Cx) (e : Option Expr) (f : E → Option (Option Int)) : Prop := PO X e (TXo X.K f)
theorem pxo_none : PXo X none (fun _ => some none) := PO_imp po_none fun σ H Q ⟨O, env, o, re, e, q⟩ => by cases e; exact q H (.refl H)
def partV (f : E → Option D) : E → Option (Option Int) := fun env => match f env with
  | some (.int i) => some (some i)
  | _ => none
theorem pxo_some (ha : PX X a fa) : PXo X (some a) (partV fa) := PO_imp (po_some ha) fun σ H Q ⟨O, env, o, re, e, q⟩ => by
  unfold partV at e
  split at e
  · rename_i i h
    cases e
    exact ⟨O, env, _, re, h, fun v H' x r => ⟨i, rep_int r, q H' x⟩⟩
  · cases e
def cutD (xs : List D) (lo hi : Option Int) : List D := (xs.drop (HT.sIx xs.length 0 lo)).take (HT.sIx xs.length xs.length hi - HT.sIx xs.length 0 lo)
theorem reps_cut {ds : List D} {xs : List V} (r : reps K H O ds xs) (lo hi : Option Int) : reps K H O (cutD ds lo hi) (cutV xs lo hi) := by
  have hl := reps_len r
  unfold cutD cutV
  rw [hl]
  exact reps_take _ (reps_drop _ r)
def gCut (d : D) (lo hi : Option Int) : Option D := match d with
  | .lst ds => some (.lst (cutD ds lo hi))
  | .tup ds => some (.tup (cutD ds lo hi))
  | _ => none
def cutX (f : E → Option D) (fl fh : E → Option (Option Int)) : E → Option D := fun env => match f env with
  | none => none
  | some d => match fl env with
    | none => none
    | some lo => match fh env with
      | none => none
      | some hi => gCut d lo hi
theorem cut_whole {ds : List D} {lo hi : Option Int} (h : HT.sIx ds.length 0 lo = 0 ∧ HT.sIx ds.length ds.length hi = ds.length) : cutD ds lo hi = ds := by
  unfold cutD
  rw [h.1, h.2]
  simp
theorem px_slice {lo hi : Option Expr} {fl fh : E → Option (Option Int)} {p2 : Pos} (he : PX X a fa) (hl : PXo X lo fl) (hu : PXo X hi fh) : PX X (.Subscript a (.Slice lo hi none p2) pos) (cutX fa fl fh) :=
  PE_imp (pe_slice (sl_list.or sl_tupA) he hl hu) fun σ H Q ⟨O, env, d, re, e, q⟩ => by
    unfold cutX at e
    cases h1 : fa env with
    | none => rw [h1] at e; cases e
    | some x =>
      rw [h1] at e
      cases h2 : fl env with
      | none => rw [h2] at e; cases e
      | some l =>
        rw [h2] at e
        cases h3 : fh env with
        | none => rw [h3] at e; cases e
        | some u =>
          rw [h3] at e
          refine ⟨O, env, x, re, h1, fun v1 H1 x1 r1 => ⟨O, env, l, re.ext x1, h2, fun H2 x2 => ⟨O, env, u, (re.ext x1).ext x2, h3, fun H3 x3 => ?_⟩⟩⟩
          have r3 := rep_ext (x2.trans x3) r1
          have dm := (((re.ext x1).ext x2).ext x3).dom
          have q' : ∀ v H', Ext H3 H' → rep X.K H' O d v → Q v H' := fun v H' x4 r4 => q v H' (x1.trans (x2.trans (x3.trans x4))) r4
          cases x <;> simp only [gCut, reduceCtorEq, Option.some.injEq] at e
          · cases e
            obtain ⟨a, xs, rfl, ha, ra⟩ := rep_tup r3
            have hl := reps_len ra
            refine .inr ⟨a, xs, rfl, ha, fun z => ?_, fun z p hp => q' _ _ (.upd hp) (new_tup hp (reps_cut ra l u))⟩
            rw [hl] at z
            rw [cut_whole z] at q'
            exact q' _ _ (.refl _) r3
          · cases e
            obtain ⟨a, xs, rfl, _, ha, ra⟩ := rep_lst r3
            exact .inl ⟨a, xs, rfl, .of ha, fun p hp => q' _ _ (.upd hp) (new_lst hp dm (reps_cut ra l u))⟩
end
end Wd
set_option maxRecDepth 100000
set_option maxHeartbeats 1000000
/-! statements on plain data -/
namespace Wd
open PySem L2 PyProof.Rows

inductive Ent where
  | no | val (d : D) | own (ds : List D) | own2 (dss : List (List D))
inductive SE where
  | no | val (d : D) | own (a : Addr) (ds : List D) | own2 (a : Addr) (js : List Addr) (dss : List (List D))
def SE.er : SE → Ent
  | .no => .no | .val d => .val d | .own _ ds => .own ds | .own2 _ _ dss => .own2 dss
def SE.ads : SE → List Addr
  | .own a _ => [a] | .own2 a js _ => a :: js | _ => []
def ads (se : List SE) : List Addr := se.flatMap SE.ads
abbrev Ow (O0 : Addr → Prop) (se : List SE) : Addr → Prop := fun b => O0 b ∨ b ∈ ads se
inductive Reps2 (K : PySem.W.Frag) (H : Hp) (O : Addr → Prop) : List (List D) → List Addr → Prop
  | nil : Reps2 K H O [] []
  | cons {ds : List D} {dss : List (List D)} {j : Addr} {js : List Addr} {xs : List V} (h : H j = some (.lst xs)) (r : reps K H O ds xs) (t : Reps2 K H O dss js) : Reps2 K H O (ds :: dss) (j :: js)
def SEok (K : PySem.W.Frag) (O : Addr → Prop) (H : Hp) (x : Option (Option V)) : SE → Prop
  | .no => True
  | .val d => ∃ v, x = some (some v) ∧ rep K H O d v
  | .own a ds => x = some (some (.ref a)) ∧ ∃ xs, H a = some (.lst xs) ∧ reps K H O ds xs
  | .own2 a js dss => x = some (some (.ref a)) ∧ H a = some (.lst (js.map .ref)) ∧ Reps2 K H O dss js
structure RSe (K : PySem.W.Frag) (H0 : Hp) (O0 : Addr → Prop) (se : List SE) (σ : L2.St) (H : Hp) : Prop where
  ext : Ext H0 H
  dom : ∀ b, O0 b → H0 b ≠ none
  fresh : ∀ b, b ∈ ads se → H0 b = none
  nd : (ads se).Nodup
  len : se.length = σ.length
  ok : ∀ (i : Nat) (e : SE), se[i]? = some e → SEok K (Ow O0 se) H σ[i]? e
def RS (K : PySem.W.Frag) (H0 : Hp) (O0 : Addr → Prop) (env : List Ent) (σ : L2.St) (H : Hp) : Prop := ∃ se, se.map SE.er = env ∧ RSe K H0 O0 se σ H

section
variable {K : PySem.W.Frag} {H0 H H' : Hp} {O0 O O' : Addr → Prop} {σ : L2.St} {se : List SE} {i : Nat}
theorem Reps2.stay (s : Stay O O' H H') : ∀ {dss : List (List D)} {js : List Addr}, (∀ j ∈ js, ∀ xs, H j = some (.lst xs) → H' j = some (.lst xs)) → Reps2 K H O dss js → Reps2 K H' O' dss js
  | _, _, _, .nil => .nil
  | _, _, k, .cons h r t => .cons (k _ List.mem_cons_self _ h) (reps_stay s r) (Reps2.stay s (fun j hj => k j (List.mem_cons_of_mem _ hj)) t)
theorem Reps2.len : ∀ {dss : List (List D)} {js : List Addr}, Reps2 K H O dss js → dss.length = js.length
  | _, _, .nil => rfl
  | _, _, .cons _ _ t => congrArg Nat.succ t.len
theorem Reps2.get : ∀ {dss : List (List D)} {js : List Addr} {i : Nat} {ds : List D}, Reps2 K H O dss js → dss[i]? = some ds → ∃ j xs, js[i]? = some j ∧ H j = some (.lst xs) ∧ reps K H O ds xs
  | _, _, i, _, .nil, e => by simp at e
  | _, _, 0, _, .cons h r t, e => by simp at e; subst e; exact ⟨_, _, rfl, h, r⟩
  | _, _, i + 1, _, .cons h r t, e => by simpa using Reps2.get (i := i) t (by simpa using e)
theorem Reps2.froz : ∀ {dss : List (List D)} {js : List Addr}, (∀ j ∈ js, ¬ O j) → Reps2 K H O dss js → reps K H O (dss.map D.lst) (js.map V.ref)
  | _, _, _, .nil => reps_nil
  | _, _, k, .cons h r t => reps_cons (mk_lst (k _ List.mem_cons_self) h r) (Reps2.froz (fun j hj => k j (List.mem_cons_of_mem _ hj)) t)
/-- one inner list changes -/
theorem Reps2.upd {j : Addr} {ds : List D} {xs ys : List V} (hO : O j) (hj : H j = some (.lst ys)) (q : reps K H O ds xs) {dss : List (List D)} {js : List Addr} (h : Reps2 K H O dss js) : ∀ {i : Nat}, js.Nodup → js[i]? = some j → Reps2 K (upd H j (.lst xs)) O (dss.set i ds) js := by
  induction h with
  | nil => intro i _ e; simp at e
  | cons h r t ih =>
    intro i nd e
    have n2 := List.nodup_cons.mp nd
    cases i with
    | zero =>
      simp at e
      subst e
      refine .cons upd_same (reps_stay (.upd hj hO) q) (t.stay (.upd hj hO) fun k hk zs hz => ?_)
      rw [upd_ne (by rintro rfl; exact n2.1 hk)]
      exact hz
    | succ i =>
      have e' := (show _ from e)
      rw [List.getElem?_cons_succ] at e'
      refine .cons ?_ (reps_stay (.upd hj hO) r) (ih n2.2 e')
      rw [upd_ne (by rintro rfl; exact n2.1 (List.mem_of_getElem? e'))]
      exact h
theorem mem_ads {e : SE} {b : Addr} (h : se[i]? = some e) (hb : b ∈ e.ads) : b ∈ ads se := List.mem_flatMap.mpr ⟨e, List.mem_of_getElem? h, hb⟩
theorem own_none (I : RSe K H0 O0 se σ H) {b : Addr} (h : b ∈ ads se) : ¬ O0 b := fun z => I.dom b z (I.fresh b h)
theorem own_dom (I : RSe K H0 O0 se σ H) {b : Addr} (h : Ow O0 se b) : H b ≠ none := by
  rcases h with h | h
  · exact I.ext.dom I.dom b h
  · obtain ⟨e, he, hb⟩ := List.mem_flatMap.mp h
    obtain ⟨i, hi⟩ := List.getElem?_of_mem he
    have ok := I.ok i e hi
    cases e with
    | no => simp [SE.ads] at hb
    | val d => simp [SE.ads] at hb
    | own a ds =>
      simp only [SE.ads, List.mem_singleton] at hb
      obtain ⟨_, xs, hx, _⟩ := ok
      rw [hb, hx]
      simp
    | own2 a js dss =>
      obtain ⟨_, hx, r⟩ := ok
      simp only [SE.ads, List.mem_cons] at hb
      rcases hb with rfl | hb
      · rw [hx]; simp
      · obtain ⟨k, hk⟩ := List.getElem?_of_mem hb
        have hl := r.len
        have hk2 : k < dss.length := by rw [hl]; exact (List.getElem?_eq_some_iff.mp hk).1
        obtain ⟨j, xs, h1, h2, _⟩ := r.get (List.getElem?_eq_getElem hk2)
        rw [hk] at h1
        cases h1
        rw [h2]; simp
theorem SEok.ext {x : Option (Option V)} {e : SE} (x' : Ext H H') (h : SEok K O H x e) : SEok K O H' x e := by
  cases e with
  | no => trivial
  | val d => obtain ⟨v, a, b⟩ := h; exact ⟨v, a, rep_ext x' b⟩
  | own a ds => obtain ⟨a1, xs, b, c⟩ := h; exact ⟨a1, xs, x' _ _ b, reps_ext x' c⟩
  | own2 a js dss => obtain ⟨a1, b, c⟩ := h; exact ⟨a1, x' _ _ b, c.stay x'.stay fun j _ xs q => x' _ _ q⟩
theorem RSe.grow (I : RSe K H0 O0 se σ H) (x : Ext H H') : RSe K H0 O0 se σ H' := ⟨I.ext.trans x, I.dom, I.fresh, I.nd, I.len, fun i e h => (I.ok i e h).ext x⟩
/-- an entry as a value -/
def stE : Ent → Option D
  | .val d => some d
  | _ => none
def fzE : Ent → Option D
  | .val d => some d
  | .own ds => some (.lst ds)
  | .own2 dss => some (.lst (dss.map D.lst))
  | .no => none
def en (env : List Ent) : E := ⟨env.map stE, env.map fzE⟩
theorem RSe.re (I : RSe K H0 O0 se σ H) : RE K (Ow O0 se) (en (se.map SE.er)) σ H := by
  refine ⟨fun b o => own_dom I o, ⟨fun i d e => ?_⟩, ⟨O0, fun b z => .inl z, ⟨fun i d e => ?_⟩⟩, by simp [en, I.len]⟩
  · simp only [en, List.map_map, List.getElem?_map] at e
    cases h : se[i]? with
    | none => rw [h] at e; cases e
    | some s =>
      rw [h] at e
      have ok := I.ok i s h
      cases s <;> first | (cases e; done) | (cases e; exact ok)
  · simp only [en, List.map_map, List.getElem?_map] at e
    cases h : se[i]? with
    | none => rw [h] at e; cases e
    | some s =>
      rw [h] at e
      have ok := I.ok i s h
      have less : Stay (Ow O0 se) O0 H H := .less fun b z => .inl z
      cases s with
      | no => cases e
      | val d' =>
        cases e
        obtain ⟨v, a, b⟩ := ok
        exact ⟨v, a, rep_stay less b⟩
      | own a ds =>
        cases e
        obtain ⟨a1, xs, b, c⟩ := ok
        exact ⟨_, a1, mk_lst (own_none I (mem_ads h (by simp [SE.ads]))) b (reps_stay less c)⟩
      | own2 a js dss =>
        cases e
        obtain ⟨a1, b, c⟩ := ok
        refine ⟨_, a1, mk_lst (own_none I (mem_ads h (by simp [SE.ads]))) b ((c.stay less fun _ _ _ q => q).froz fun j hj => own_none I (mem_ads h (by simp [SE.ads, hj])))⟩
theorem RSe.reF (I : RSe K H0 O0 se σ H) : RE K O0 ⟨(se.map SE.er).map fzE, (se.map SE.er).map fzE⟩ σ H := by
  obtain ⟨Ob, h1, h2⟩ := I.re.low
  have q : Ents K O0 (en (se.map SE.er)).fz σ H := by
    -- the low part is at O0
    refine ⟨fun i d e => ?_⟩
    simp only [en, List.map_map, List.getElem?_map] at e
    cases h : se[i]? with
    | none => rw [h] at e; cases e
    | some s =>
      rw [h] at e
      have ok := I.ok i s h
      have less : Stay (Ow O0 se) O0 H H := .less fun b z => .inl z
      cases s with
      | no => cases e
      | val d' =>
        cases e
        obtain ⟨v, a, b⟩ := ok
        exact ⟨v, a, rep_stay less b⟩
      | own a ds =>
        cases e
        obtain ⟨a1, xs, b, c⟩ := ok
        exact ⟨_, a1, mk_lst (own_none I (mem_ads h (by simp [SE.ads]))) b (reps_stay less c)⟩
      | own2 a js dss =>
        cases e
        obtain ⟨a1, b, c⟩ := ok
        exact ⟨_, a1, mk_lst (own_none I (mem_ads h (by simp [SE.ads]))) b ((c.stay less fun _ _ _ q => q).froz fun j hj => own_none I (mem_ads h (by simp [SE.ads, hj])))⟩
  exact ⟨fun b o => I.ext.dom I.dom b o, q, ⟨O0, fun _ z => z, q⟩, by simp [I.len]⟩

/-! ### slots are set -/
theorem ads_set_sub : ∀ {se : List SE} {i : Nat} {e : SE}, e.ads = [] → (ads (se.set i e)).Sublist (ads se)
  | [], _, _, _ => by simp [ads]
  | s :: r, 0, e, h => by
    simp only [ads, List.set_cons_zero, List.flatMap_cons, h, List.nil_append]
    exact List.sublist_append_right _ _
  | s :: r, i + 1, e, h => by
    simp only [ads, List.set_cons_succ, List.flatMap_cons]
    exact (List.Sublist.refl _).append (ads_set_sub (se := r) h)
theorem SEok.stay {x : Option (Option V)} {e : SE} (s : Stay O O' H H') (k : ∀ b ∈ e.ads, ∀ xs, H b = some (.lst xs) → H' b = some (.lst xs)) (h : SEok K O H x e) : SEok K O' H' x e := by
  cases e with
  | no => trivial
  | val d => obtain ⟨v, a, b⟩ := h; exact ⟨v, a, rep_stay s b⟩
  | own a ds => obtain ⟨a1, xs, b, c⟩ := h; exact ⟨a1, xs, k _ (by simp [SE.ads]) _ b, reps_stay s c⟩
  | own2 a js dss => obtain ⟨a1, b, c⟩ := h; exact ⟨a1, k _ (by simp [SE.ads]) _ b, c.stay s fun j hj xs q => k _ (by simp [SE.ads, hj]) _ q⟩
theorem RSe.setV {d : D} {v : V} (I : RSe K H0 O0 se σ H) (r : rep K H (Ow O0 se) d v) : RSe K H0 O0 (se.set i (.val d)) (σ.set i (some v)) H := by
  have sub := ads_set_sub (se := se) (i := i) (e := .val d) rfl
  have less : Stay (Ow O0 se) (Ow O0 (se.set i (.val d))) H H := .less fun b z => z.imp id fun z => sub.mem z
  refine ⟨I.ext, I.dom, fun b hb => I.fresh b (sub.mem hb), sub.nodup I.nd, by simpa using I.len, fun j e h => ?_⟩
  by_cases hj : i = j
  · subst hj
    obtain ⟨hlt, he⟩ := List.getElem?_eq_some_iff.mp h
    rw [List.getElem_set_self] at he
    subst he
    have hlt' : i < σ.length := by rw [← I.len]; simpa using hlt
    exact ⟨v, by rw [List.getElem?_set_self hlt'], rep_stay less r⟩
  · rw [List.getElem?_set_ne hj] at h
    rw [List.getElem?_set_ne hj]
    exact (I.ok j e h).stay less fun _ _ _ q => q
theorem ads_set_mem : ∀ {se : List SE} {i : Nat} {e : SE} {b : Addr}, b ∈ ads (se.set i e) → b ∈ e.ads ∨ b ∈ ads se
  | [], _, _, b, h => by simp [ads] at h
  | s :: r, 0, e, b, h => by
    simp only [ads, List.set_cons_zero, List.flatMap_cons, List.mem_append] at h ⊢
    exact h.imp id .inr
  | s :: r, i + 1, e, b, h => by
    simp only [ads, List.set_cons_succ, List.flatMap_cons, List.mem_append] at h ⊢
    rcases h with h | h
    · exact .inr (.inl h)
    · exact (ads_set_mem (se := r) h).imp id .inr
theorem ads_set_nd : ∀ {se : List SE} {i : Nat} {e : SE}, (ads se).Nodup → e.ads.Nodup → (∀ b ∈ e.ads, b ∉ ads se) → (ads (se.set i e)).Nodup
  | [], _, _, _, _, _ => by simp [ads]
  | s :: r, 0, e, h, he, hx => by
    simp only [ads, List.set_cons_zero, List.flatMap_cons] at h hx ⊢
    rw [List.nodup_append] at h ⊢
    exact ⟨he, h.2.1, fun a ha b hb z => hx a ha (List.mem_append_right _ (z ▸ hb))⟩
  | s :: r, i + 1, e, h, he, hx => by
    simp only [ads, List.set_cons_succ, List.flatMap_cons] at h hx ⊢
    rw [List.nodup_append] at h ⊢
    refine ⟨h.1, ads_set_nd h.2.1 he fun b hb z => hx b hb (List.mem_append_right _ z), fun a ha b hb z => ?_⟩
    rcases ads_set_mem (se := r) hb with q | q
    · exact hx b q (List.mem_append_left _ (z ▸ ha))
    · exact h.2.2 a ha b q z
/-- a new list is bound: made at H, elements read at H -/
theorem RSe.setO {ds : List D} {xs : List V} {p : Addr} (I : RSe K H0 O0 se σ H) (hn : H p = none) (x : Ext H H') (hp : H' p = some (.lst xs)) (r : reps K H' (Ow O0 (se.set i (.own p ds))) ds xs) :
    RSe K H0 O0 (se.set i (.own p ds)) (σ.set i (some (.ref p))) H' := by
  have np : p ∉ ads se := fun z => own_dom I (.inr z) hn
  have h0p : H0 p = none := by
    cases q : H0 p with
    | none => rfl
    | some u => rw [I.ext p u q] at hn; cases hn
  have st : Stay (Ow O0 se) (Ow O0 (se.set i (.own p ds))) H H' := ⟨fun b ys q => x.rd q, fun b o ys q => x b _ q, fun b ys n q => ⟨fun z => ?_, x b _ q⟩, fun b ys q => x b _ q⟩
  · refine ⟨I.ext.trans x, I.dom, fun b hb => ?_, ads_set_nd I.nd (by simp [SE.ads]) (fun b hb => ?_), by simpa using I.len, fun j e h => ?_⟩
    · rcases ads_set_mem hb with q | q
      · simp only [SE.ads, List.mem_singleton] at q
        rw [q]; exact h0p
      · exact I.fresh b q
    · simp only [SE.ads, List.mem_singleton] at hb
      rw [hb]; exact np
    · by_cases hj : i = j
      · subst hj
        obtain ⟨hlt, he⟩ := List.getElem?_eq_some_iff.mp h
        rw [List.getElem_set_self] at he
        subst he
        have hlt' : i < σ.length := by rw [← I.len]; simpa using hlt
        exact ⟨by rw [List.getElem?_set_self hlt'], xs, hp, r⟩
      · rw [List.getElem?_set_ne hj] at h
        rw [List.getElem?_set_ne hj]
        exact (I.ok j e h).stay st fun b _ ys q => x b _ q
  · rcases z with z | z
    · exact n (.inl z)
    · rcases ads_set_mem z with q' | q'
      · simp only [SE.ads, List.mem_singleton] at q'
        rw [q', hn] at q
        cases q
      · exact n (.inr q')
theorem not_ads {a : Addr} {ds : List D} {e : SE} (he : e.ads = []) : ∀ {r : List SE} {i : Nat}, (ads r).Nodup → r[i]? = some (.own a ds) → a ∉ ads (r.set i e)
  | [], i, _, h => by simp at h
  | s :: r, 0, nd, h => by
    simp at h
    subst h
    simp only [ads, List.flatMap_cons, SE.ads, List.cons_append, List.nil_append, List.nodup_cons] at nd
    simpa [ads, he] using nd.1
  | s :: r, i + 1, nd, h => by
    simp only [ads, List.flatMap_cons] at nd
    rw [List.nodup_append] at nd
    simp only [ads, List.set_cons_succ, List.flatMap_cons, List.mem_append, not_or]
    have h' : r[i]? = some (.own a ds) := by simpa using h
    exact ⟨fun z => nd.2.2 a z a (mem_ads h' (by simp [SE.ads])) rfl, not_ads he nd.2.1 h'⟩
/-- a list of ours becomes a value -/
theorem RSe.frz (I : RSe K H0 O0 se σ H) {a : Addr} {ds : List D} (h : se[i]? = some (.own a ds)) : RSe K H0 O0 (se.set i (.val (.lst ds))) σ H := by
  have sub := ads_set_sub (se := se) (i := i) (e := .val (.lst ds)) rfl
  have less : Stay (Ow O0 se) (Ow O0 (se.set i (.val (.lst ds)))) H H := .less fun b z => z.imp id fun z => sub.mem z
  have na := not_ads (e := .val (.lst ds)) rfl I.nd h
  refine ⟨I.ext, I.dom, fun b hb => I.fresh b (sub.mem hb), sub.nodup I.nd, by simpa using I.len, fun j e h' => ?_⟩
  by_cases hj : i = j
  · subst hj
    obtain ⟨hlt, he⟩ := List.getElem?_eq_some_iff.mp h'
    rw [List.getElem_set_self] at he
    subst he
    obtain ⟨a1, xs, b, c⟩ := I.ok i _ h
    exact ⟨_, a1, mk_lst (fun z => z.elim (own_none I (mem_ads h (by simp [SE.ads]))) na) b (reps_stay less c)⟩
  · rw [List.getElem?_set_ne hj] at h'
    exact (I.ok j e h').stay less fun _ _ _ q => q
end
end Wd
set_option maxRecDepth 100000
set_option maxHeartbeats 1000000
/-! statements on plain data: readings -/
namespace Wd
open PySem L2 PyProof.Rows

inductive Out where
  | nx (env : List Ent) | rt (d : D)
abbrev M := List Ent → Option Out
def Fin (K : PySem.W.Frag) (H0 : Hp) (O0 : Addr → Prop) (D : Ends) : Out → Prop
  | .nx env => ∀ σ' H', RS K H0 O0 env σ' H' → D.nx σ' H'
  | .rt d => ∀ v H', Ext H0 H' → rep K H' O0 d v → D.rt v H'
def TSm (K : PySem.W.Frag) (m : M) : TS := fun D σ H => ∃ H0 O0 se o, RSe K H0 O0 se σ H ∧ m (se.map SE.er) = some o ∧ Fin K H0 O0 D o
abbrev PM (X : Cx) (st : Stmt) (m : M) : Prop := PS X st (TSm X.K m)
abbrev PMs (X : Cx) (st : List Stmt) (m : M) : Prop := PSs X st (TSm X.K m)

section
variable {K : PySem.W.Frag} {H0 H1 H H' : Hp} {O0 O O' : Addr → Prop} {σ σ' : L2.St} {se se' : List SE} {i : Nat}
theorem RSe.rs (I : RSe K H0 O0 se σ H) : RS K H0 O0 (se.map SE.er) σ H := ⟨se, rfl, I⟩
/-- the heap of the turn's start, our own lists taken out -/
def wipe (H : Hp) (l : List Addr) : Hp := fun b => if b ∈ l then none else H b
theorem wipe_in {l : List Addr} {b : Addr} (h : b ∈ l) : wipe H l b = none := if_pos h
theorem wipe_out {l : List Addr} {b : Addr} (h : b ∉ l) : wipe H l b = H b := if_neg h
theorem RSe.base (I : RSe K H0 O0 se σ H) : RSe K (wipe H (ads se)) O0 se σ H := by
  refine ⟨fun b o e => ?_, fun b hb e => ?_, fun b hb => wipe_in hb, I.nd, I.len, I.ok⟩
  · by_cases q : b ∈ ads se
    · rw [wipe_in q] at e; cases e
    · rw [wipe_out q] at e; exact e
  · have q : b ∉ ads se := fun z => own_none I z hb
    rw [wipe_out q] at e
    exact I.ext.dom I.dom b hb e
theorem RSe.back_ext (I : RSe K H0 O0 se σ H1) (x : Ext (wipe H1 (ads se)) H') : Ext H0 H' := fun b o e => by
  have q : b ∉ ads se := fun z => by rw [I.fresh b z] at e; cases e
  exact x b o (by rw [wipe_out q]; exact I.ext b o e)
theorem RSe.back (I : RSe K H0 O0 se σ H1) (J : RSe K (wipe H1 (ads se)) O0 se' σ' H') : RSe K H0 O0 se' σ' H' := by
  refine ⟨I.back_ext J.ext, I.dom, fun b hb => ?_, J.nd, J.len, J.ok⟩
  have f := J.fresh b hb
  by_cases q : b ∈ ads se
  · exact I.fresh b q
  · rw [wipe_out q] at f
    cases z : H0 b with
    | none => rfl
    | some u => rw [I.ext b u z] at f; cases f
/-- what is ours is a list -/
theorem RSe.isL (I : RSe K H0 O0 se σ H) {b : Addr} (h : b ∈ ads se) : ∃ xs, H b = some (.lst xs) := by
  obtain ⟨e, he, hb⟩ := List.mem_flatMap.mp h
  obtain ⟨i, hi⟩ := List.getElem?_of_mem he
  have ok := I.ok i e hi
  cases e with
  | no => simp [SE.ads] at hb
  | val d => simp [SE.ads] at hb
  | own a ds =>
    simp only [SE.ads, List.mem_singleton] at hb
    obtain ⟨_, xs, hx, _⟩ := ok
    exact ⟨xs, by rw [hb, hx]⟩
  | own2 a js dss =>
    obtain ⟨_, hx, r⟩ := ok
    simp only [SE.ads, List.mem_cons] at hb
    rcases hb with rfl | hb
    · exact ⟨_, hx⟩
    · obtain ⟨k, hk⟩ := List.getElem?_of_mem hb
      have hk2 : k < dss.length := by rw [r.len]; exact (List.getElem?_eq_some_iff.mp hk).1
      obtain ⟨j, xs, h1, h2, _⟩ := r.get (List.getElem?_eq_getElem hk2)
      rw [hk] at h1
      cases h1
      exact ⟨xs, h2⟩
theorem RSe.stays (I : RSe K H0 O0 se σ H1) (J : RSe K (wipe H1 (ads se)) O0 se' σ' H') : Stay (Ow O0 se) (Ow O0 se') H1 H' := by
  have k : ∀ b, b ∉ ads se → ∀ o, H1 b = some o → H' b = some o := fun b q o e => J.ext b o (by rw [wipe_out q]; exact e)
  refine ⟨fun b xs h => ?_, fun b o xs e => ?_, fun b xs n e => ?_, fun b xs e => ?_⟩
  · have q : b ∉ ads se := fun z => by
      obtain ⟨ys, e⟩ := I.isL z
      rcases h with h | ⟨o, h⟩ <;> rw [e] at h <;> cases h
    exact h.imp (k b q _) fun ⟨o, e⟩ => ⟨o, k b q _ e⟩
  · have q : b ∉ ads se := fun z => by
      obtain ⟨ys, e'⟩ := I.isL z
      rw [e'] at e; cases e
    exact k b q _ e
  · have q : b ∉ ads se := fun z => n (.inr z)
    refine ⟨fun z => z.elim (fun z => n (.inl z)) fun z => ?_, k b q _ e⟩
    have f := J.fresh b z
    rw [wipe_out q, e] at f
    cases f
  · have q : b ∉ ads se := fun z => by
      obtain ⟨ys, e'⟩ := I.isL z
      rw [e'] at e; cases e
    exact k b q _ e
theorem Fin.base {D : Ends} {o : Out} (I : RSe K H0 O0 se σ H1) (f : Fin K H0 O0 D o) : Fin K (wipe H1 (ads se)) O0 D o := by
  cases o with
  | nx env => exact fun σ' H' ⟨se', e, J⟩ => f σ' H' ⟨se', e, I.back J⟩
  | rt d => exact fun v H' x r => f v H' (I.back_ext x) r

/-! ### simple ones -/
def mNil : M := fun env => some (.nx env)
def mSeq (a b : M) : M := fun env => match a env with
  | none => none
  | some (.rt d) => some (.rt d)
  | some (.nx env') => b env'
def mNever : M := fun _ => none
variable {X : Cx} {pos : Pos} {st : Stmt} {rest : List Stmt} {a b m m' : M} {f f1 f2 f3 : E → Option D}
theorem pm_nil : PMs X [] mNil := PSs_imp pss_nil fun D σ H ⟨H0, O0, se, o, I, e, q⟩ => by
  cases e
  exact q σ H I.rs
theorem pm_cons (h1 : PM X st a) (h2 : PMs X rest b) : PMs X (st :: rest) (mSeq a b) := PSs_imp (pss_cons h1 h2) fun D σ H ⟨H0, O0, se, o, I, e, q⟩ => by
  unfold mSeq at e
  cases h : a (se.map SE.er) with
  | none => rw [h] at e; cases e
  | some o1 =>
    rw [h] at e
    cases o1 with
    | rt d => cases e; exact ⟨H0, O0, se, _, I, h, q⟩
    | nx env' => exact ⟨H0, O0, se, _, I, h, fun σ' H' ⟨se', e', I'⟩ => ⟨H0, O0, se', o, I', by rw [e']; exact e, q⟩⟩
theorem pm_one (h1 : PM X st a) : PMs X [st] a := pss_one h1
theorem pm_never : PM X st mNever := PS_imp ps_never fun D σ H ⟨H0, O0, se, o, I, e, q⟩ => by cases e
theorem pms_never {sts : List Stmt} : PMs X sts mNever := PSs_imp pss_never fun D σ H ⟨H0, O0, se, o, I, e, q⟩ => by cases e
/-- a step of the reading alone -/
def mPre (p : List Ent → Option (List Ent)) (m : M) : M := fun env => match p env with
  | none => none
  | some env' => m env'
def fixE (i : Nat) (env : List Ent) : Option (List Ent) := match env[i]? with
  | some (.own ds) => some (env.set i (.val (.lst ds)))
  | _ => none
theorem er_get {e : Ent} (h : (se.map SE.er)[i]? = some e) : ∃ s, se[i]? = some s ∧ s.er = e := by
  rw [List.getElem?_map] at h
  cases q : se[i]? with
  | none => rw [q] at h; cases h
  | some s => rw [q] at h; exact ⟨s, rfl, Option.some.inj h⟩
theorem tsm_fix {D : Ends} (h : TSm K (mPre (fixE i) m) D σ H) : TSm K m D σ H := by
  obtain ⟨H0, O0, se, o, I, e, q⟩ := h
  unfold mPre fixE at e
  split at e
  · cases e
  · rename_i env' h
    split at h
    · rename_i ds h'
      cases h
      obtain ⟨s, hs, he⟩ := er_get h'
      cases s with
      | own a ds' =>
        cases he
        refine ⟨H0, O0, _, o, I.frz hs, ?_, q⟩
        rw [List.map_set]
        exact e
      | no => cases he
      | val => cases he
      | own2 => cases he
    · cases h
theorem pm_fix (h : PM X st m) : PM X st (mPre (fixE i) m) := PS_imp h fun D σ H q => tsm_fix q
def setEnv (i : Nat) (d : D) (env : List Ent) : List Ent := env.set i (.val d)
def mSet (i : Nat) (f : E → Option D) : M := fun env => match f (en env) with
  | none => none
  | some d => some (.nx (setEnv i d env))
theorem pm_set {x : Str} {e : Expr} {pos' : Pos} (hN : X.N.Nodup) (hi : X.N[i]? = some x) (hx : Loc X.env.scope x) (he : PX X e f) (hs : swapsWith e (some (.Name x pos')) pos.line X.env = pure false := by rfl) (hf : X.fn x = true ∨ X.env.scope.names.lookup x = some .local := by first | exact .inl rfl | exact .inr rfl | assumption) :
    PM X (.Assign [.Name x pos'] e pos) (mSet i f) := PS_imp (ps_set hN hi hx he hs hf) fun D σ H ⟨H0, O0, se, o, I, e, q⟩ => by
  unfold mSet at e
  cases h : f (en (se.map SE.er)) with
  | none => rw [h] at e; cases e
  | some d =>
    rw [h] at e
    cases e
    refine ⟨_, _, d, I.re, h, fun v H' x rv => ?_⟩
    exact q _ _ ⟨_, by rw [List.map_set]; rfl, (I.grow x).setV rv⟩
def mRet (f : E → Option D) : M := fun env => match f ⟨env.map fzE, env.map fzE⟩ with
  | none => none
  | some d => some (.rt d)
theorem pm_ret {e : Expr} (he : PX X e f) : PM X (.Return (some e) pos) (mRet f) := PS_imp (ps_ret he) fun D σ H ⟨H0, O0, se, o, I, e, q⟩ => by
  unfold mRet at e
  cases h : f ⟨(se.map SE.er).map fzE, (se.map SE.er).map fzE⟩ with
  | none => rw [h] at e; cases e
  | some d =>
    rw [h] at e
    cases e
    exact ⟨_, _, d, I.reF, h, fun v H' x rv => q _ _ (I.ext.trans x) rv⟩
def mDrop (f : E → Option D) : M := fun env => match f (en env) with
  | none => none
  | some _ => some (.nx env)
theorem pm_drop {e : Expr} (he : PX X e f) (hs : swapsWith e none pos.line X.env = pure false := by rfl) : PM X (.Expr e pos) (mDrop f) := PS_imp (ps_expr he hs) fun D σ H ⟨H0, O0, se, o, I, e, q⟩ => by
  unfold mDrop at e
  cases h : f (en (se.map SE.er)) with
  | none => rw [h] at e; cases e
  | some d =>
    rw [h] at e
    cases e
    exact ⟨_, _, d, I.re, h, fun v H' x rv => q _ _ (I.grow x).rs⟩
def mIf (c : E → Option Bool) (a b : M) : M := fun env => match c (en env) with
  | none => none
  | some true => a env
  | some false => b env
theorem pm_if {c : E → Option Bool} {ec : Expr} {sa sb : List Stmt} (hc : PXt X ec c) (ha : PMs X sa a) (hb : PMs X sb b) : PM X (.If ec sa sb pos) (mIf c a b) := PS_imp (ps_if hc ha hb) fun D σ H ⟨H0, O0, se, o, I, e, q⟩ => by
  unfold mIf at e
  cases h : c (en (se.map SE.er)) with
  | none => rw [h] at e; cases e
  | some k =>
    rw [h] at e
    refine ⟨_, _, k, I.re, h, fun H' x => ?_⟩
    cases k with
    | true => exact ⟨H0, O0, se, o, I.grow x, e, q⟩
    | false => exact ⟨H0, O0, se, o, I.grow x, e, q⟩
/-- name op= e, on whole numbers -/
def mInc (i : Nat) (f : E → Option D) : M := fun env => match f (en env) with
  | some (.int k) => match env[i]? with
    | some (.val (.int j)) => some (.nx (setEnv i (.int (j + k)) env))
    | _ => none
  | _ => none
theorem pm_inc {x : Str} {e : Expr} {pos' : Pos} (hN : X.N.Nodup) (hi : X.N[i]? = some x) (hx : Loc X.env.scope x) (he : PX X e f) (hf : X.fn x = true ∨ X.env.scope.names.lookup x = some .local := by first | exact .inl rfl | exact .inr rfl | assumption) :
    PM X (.AugAssign (.Name x pos') .Add e pos) (mInc i f) := PS_imp (ps_aug hN hi hx he ip_add hf) fun D σ H ⟨H0, O0, se, o, I, e, q⟩ => by
  unfold mInc at e
  split at e
  · rename_i k h
    split at e
    · rename_i j h'
      cases e
      obtain ⟨s, hs, he⟩ := er_get h'
      cases s with
      | val d =>
        cases he
        obtain ⟨v, e1, r⟩ := I.ok i _ hs
        cases rep_int r
        refine ⟨.int j, e1, _, _, _, I.re, h, fun v H' x rv => ?_⟩
        cases rep_int rv
        refine ⟨j, k, rfl, rfl, q _ _ ⟨_, by rw [List.map_set]; rfl, (I.grow x).setV mk_int⟩⟩
      | no => cases he
      | own => cases he
      | own2 => cases he
    · cases e
  · cases e
end
end Wd
set_option maxRecDepth 100000
set_option maxHeartbeats 1000000
/-! lists of our own: made, written -/
namespace Wd
open PySem L2 PyProof.Rows
section
variable {K : PySem.W.Frag} {H0 H1 H H' : Hp} {O0 O O' : Addr → Prop} {σ σ' : L2.St} {se se' : List SE} {i j : Nat}
/-- a new entry is bound, its lists new at H -/
theorem RSe.setN {e : SE} {v : V} (I : RSe K H0 O0 se σ H) (hn : ∀ b ∈ e.ads, H b = none) (nd : e.ads.Nodup) (x : Ext H H') (ok : SEok K (Ow O0 (se.set i e)) H' (some (some v)) e) :
    RSe K H0 O0 (se.set i e) (σ.set i (some v)) H' := by
  have np : ∀ b ∈ e.ads, b ∉ ads se := fun b hb z => own_dom I (.inr z) (hn b hb)
  have h0 : ∀ b, H b = none → H0 b = none := fun b hb => by
    cases q : H0 b with
    | none => rfl
    | some u => rw [I.ext b u q] at hb; cases hb
  have st : Stay (Ow O0 se) (Ow O0 (se.set i e)) H H' := ⟨fun b ys q => x.rd q, fun b o ys q => x b _ q, fun b ys n q => ⟨fun z => by
    rcases z with z | z
    · exact n (.inl z)
    · rcases ads_set_mem z with q' | q'
      · rw [hn b q'] at q; cases q
      · exact n (.inr q'), x b _ q⟩, fun b ys q => x b _ q⟩
  refine ⟨I.ext.trans x, I.dom, fun b hb => ?_, ads_set_nd I.nd nd np, by simpa using I.len, fun j e' h => ?_⟩
  · rcases ads_set_mem hb with q | q
    · exact h0 b (hn b q)
    · exact I.fresh b q
  · by_cases hj : i = j
    · subst hj
      obtain ⟨hlt, he⟩ := List.getElem?_eq_some_iff.mp h
      rw [List.getElem_set_self] at he
      subst he
      have hlt' : i < σ.length := by rw [← I.len]; simpa using hlt
      rw [List.getElem?_set_self hlt']
      exact ok
    · rw [List.getElem?_set_ne hj] at h
      rw [List.getElem?_set_ne hj]
      exact (I.ok j e' h).stay st fun b _ ys q => x b _ q
theorem Stay.new {e : SE} (hn : ∀ b ∈ e.ads, H b = none) (x : Ext H H') : Stay (Ow O0 se) (Ow O0 (se.set i e)) H H' := ⟨fun b ys q => x.rd q, fun b o ys q => x b _ q, fun b ys n q => ⟨fun z => by
    rcases z with z | z
    · exact n (.inl z)
    · rcases ads_set_mem z with q' | q'
      · rw [hn b q'] at q; cases q
      · exact n (.inr q'), x b _ q⟩, fun b ys q => x b _ q⟩
theorem ads_same : ∀ {se : List SE} {i : Nat} {s e : SE}, se[i]? = some s → e.ads = s.ads → ads (se.set i e) = ads se
  | [], i, s, e, h, _ => by simp at h
  | x :: r, 0, s, e, h, q => by
    simp at h
    subst h
    simp only [ads, List.set_cons_zero, List.flatMap_cons, q]
  | x :: r, i + 1, s, e, h, q => by
    have h' : r[i]? = some s := by simpa using h
    have := ads_same h' q
    simp only [ads, List.set_cons_succ, List.flatMap_cons] at this ⊢
    rw [this]
theorem nd_ne : ∀ {se : List SE} {i j : Nat} {s e : SE}, (ads se).Nodup → se[i]? = some s → se[j]? = some e → i ≠ j → ∀ {a b : Addr}, a ∈ s.ads → b ∈ e.ads → a ≠ b
  | [], i, j, s, e, _, h, _, _, _, _, _, _ => by simp at h
  | x :: r, 0, 0, s, e, _, _, _, n, _, _, _, _ => absurd rfl n
  | x :: r, 0, j + 1, s, e, nd, h, h', _, a, b, ha, hb => by
    simp at h
    subst h
    simp only [ads, List.flatMap_cons] at nd
    rw [List.nodup_append] at nd
    exact nd.2.2 a ha b (mem_ads (se := r) (by simpa using h') hb)
  | x :: r, i + 1, 0, s, e, nd, h, h', _, a, b, ha, hb => by
    simp at h'
    subst h'
    simp only [ads, List.flatMap_cons] at nd
    rw [List.nodup_append] at nd
    exact fun z => nd.2.2 b hb a (mem_ads (se := r) (by simpa using h) ha) z.symm
  | x :: r, i + 1, j + 1, s, e, nd, h, h', n, a, b, ha, hb => by
    simp only [ads, List.flatMap_cons] at nd
    rw [List.nodup_append] at nd
    exact nd_ne (se := r) nd.2.1 (by simpa using h) (by simpa using h') (by omega) ha hb
theorem nd_at : ∀ {se : List SE} {i : Nat} {s : SE}, (ads se).Nodup → se[i]? = some s → s.ads.Nodup
  | [], i, s, _, h => by simp at h
  | x :: r, 0, s, nd, h => by
    simp at h
    subst h
    simp only [ads, List.flatMap_cons] at nd
    exact (List.nodup_append.mp nd).1
  | x :: r, i + 1, s, nd, h => by
    simp only [ads, List.flatMap_cons] at nd
    exact nd_at (se := r) (List.nodup_append.mp nd).2.1 (by simpa using h)
theorem set_σ {s : SE} (I : RSe K H0 O0 se σ H) (h : se[i]? = some s) : i < σ.length := by
  rw [← I.len]; exact (List.getElem?_eq_some_iff.mp h).1
/-- one of our lists at p is written -/
theorem RSe.wr' {s e : SE} {p : Addr} {xs ys : List V} (I : RSe K H0 O0 se σ H) (h : se[i]? = some s) (hp : p ∈ s.ads) (hx : H p = some (.lst ys)) (ha : e.ads = s.ads)
    (ok : SEok K (Ow O0 se) (upd H p (.lst xs)) σ[i]? e) : RSe K H0 O0 (se.set i e) σ (upd H p (.lst xs)) := by
  have same := ads_same h ha
  have ow : Ow O0 (se.set i e) = Ow O0 se := by unfold Ow; rw [same]
  have hO : Ow O0 se p := .inr (mem_ads h hp)
  refine ⟨fun b o q => ?_, I.dom, fun b hb => I.fresh b (same ▸ hb), by rw [same]; exact I.nd, by simpa using I.len, fun j e' h' => ?_⟩
  · have n : b ≠ p := by
      rintro rfl
      rw [I.fresh b (mem_ads h hp)] at q
      cases q
    rw [upd_ne n]
    exact I.ext b o q
  · rw [ow]
    by_cases hj : i = j
    · subst hj
      obtain ⟨hlt, he⟩ := List.getElem?_eq_some_iff.mp h'
      rw [List.getElem_set_self] at he
      subst he
      exact ok
    · rw [List.getElem?_set_ne hj] at h'
      refine (I.ok j e' h').stay (.upd hx hO) fun b hb zs hz => ?_
      rw [upd_ne (nd_ne I.nd h' h (Ne.symm hj) hb hp)]
      exact hz
theorem RSe.wr {a : Addr} {ds ds' : List D} {xs ys : List V} (I : RSe K H0 O0 se σ H) (h : se[i]? = some (.own a ds)) (hx : H a = some (.lst ys)) (r : reps K H (Ow O0 se) ds' xs) : RSe K H0 O0 (se.set i (.own a ds')) σ (upd H a (.lst xs)) := by
  refine I.wr' h (by simp [SE.ads]) hx rfl ?_
  obtain ⟨a1, _⟩ := I.ok i _ h
  exact ⟨a1, xs, upd_same, reps_stay (.upd hx (.inr (mem_ads h (by simp [SE.ads])))) r⟩
theorem RSe.wr2 {a p : Addr} {js : List Addr} {dss : List (List D)} {ds' : List D} {xs ys : List V} {k : Nat} (I : RSe K H0 O0 se σ H) (h : se[i]? = some (.own2 a js dss)) (hk : js[k]? = some p) (hx : H p = some (.lst ys)) (r : reps K H (Ow O0 se) ds' xs) :
    RSe K H0 O0 (se.set i (.own2 a js (dss.set k ds'))) σ (upd H p (.lst xs)) := by
  have hp : p ∈ (SE.own2 a js dss).ads := by simp [SE.ads, List.mem_of_getElem? hk]
  refine I.wr' h hp hx rfl ?_
  obtain ⟨a1, a2, a3⟩ := I.ok i _ h
  have nd := nd_at I.nd h
  simp only [SE.ads, List.nodup_cons] at nd
  refine ⟨a1, ?_, a3.upd (.inr (mem_ads h hp)) hx r nd.2 hk⟩
  rw [upd_ne (by rintro rfl; exact nd.1 (List.mem_of_getElem? hk))]
  exact a2

/-! ### expressions that make a new list -/
def TF (K : PySem.W.Frag) (f : E → Option (List D)) : TE := fun σ H Q => ∃ O env ds, RE K O env σ H ∧ f env = some ds ∧ ∀ H1 p xs, Ext H H1 → H1 p = none → reps K H1 O ds xs → Q (.ref p) (upd H1 p (.lst xs))
abbrev PF (X : Cx) (e : Expr) (f : E → Option (List D)) : Prop := PE X e (TF X.K f)
variable {X : Cx} {pos : Pos} {st : Stmt} {rest : List Stmt} {f fa fb : E → Option D} {es : List Expr} {a b : Expr}
def shortF (fs : E → Option (List D)) : E → Option (List D) := fun env => match fs env with
  | none => none
  | some ds => if ds.length ≤ LIM then some ds else none
theorem pf_lst {fs : E → Option (List D)} (h : PXs X es fs) : PF X (.List es pos) (shortF fs) := PE_imp (pe_lst h) fun σ H Q ⟨O, env, ds, r, e, q⟩ => by
  unfold shortF at e
  cases h1 : fs env with
  | none => rw [h1] at e; cases e
  | some xs =>
    rw [h1] at e
    simp only [] at e
    split at e
    · rename_i hl
      cases e
      exact ⟨O, env, _, r, h1, fun vs H1 x1 r1 => ⟨lim_le (by rw [reps_len r1]; exact hl), fun p hp => q H1 p vs x1 hp r1⟩⟩
    · cases e
def mulF (fa fb : E → Option D) : E → Option (List D) := fun env => match fa env with
  | some (.lst ds) => match fb env with
    | some (.int k) => if (decide (ds.length ≤ 1) && decide (0 ≤ k) && decide (k ≤ 100000)) = true then some (List.replicate k.toNat ds).flatten else none
    | _ => none
  | _ => none
theorem pf_mul (ha : PX X a fa) (hb : PX X b fb) : PF X (.BinOp a .Mult b pos) (mulF fa fb) := PE_imp (pe_op op_rep ha hb) fun σ H Q ⟨O, env, ds, r, e, q⟩ => by
  unfold mulF at e
  split at e
  · rename_i ds' h1
    split at e
    · rename_i k h2
      split at e
      · rename_i h
        cases e
        simp only [Bool.and_eq_true, decide_eq_true_eq] at h
        refine ⟨O, env, _, r, h1, fun v1 H1 x1 r1 => ⟨O, env, _, r.ext x1, h2, fun v2 H2 x2 r2 => ?_⟩⟩
        obtain ⟨a, xs, rfl, na, ha, ra⟩ := rep_lst r1
        have la := reps_len ra
        have rb := reps_ext x2 ra
        refine ⟨a, _, xs, rfl, rep_int r2, x2 _ _ ha, by omega, by omega, lim_le ?_, fun p hp => q H2 p _ (x1.trans x2) hp (reps_flat rb _)⟩
        unfold LIM
        have h2 : xs.length ≤ 1 := by omega
        calc xs.length * _ ≤ 1 * _ := Nat.mul_le_mul_right _ h2
          _ ≤ 100000 := by omega
      · cases e
    · cases e
  · cases e
def setOwn (i : Nat) (ds : List D) (env : List Ent) : List Ent := env.set i (.own ds)
def mSetF (i : Nat) (f : E → Option (List D)) : M := fun env => match f (en env) with
  | none => none
  | some ds => some (.nx (setOwn i ds env))
theorem pm_setF {x : Str} {e : Expr} {pos' : Pos} {f : E → Option (List D)} (hN : X.N.Nodup) (hi : X.N[i]? = some x) (hx : Loc X.env.scope x) (he : PF X e f) (hs : swapsWith e (some (.Name x pos')) pos.line X.env = pure false := by rfl) (hf : X.fn x = true ∨ X.env.scope.names.lookup x = some .local := by first | exact .inl rfl | exact .inr rfl | assumption) :
    PM X (.Assign [.Name x pos'] e pos) (mSetF i f) := PS_imp (ps_set hN hi hx he hs hf) fun D σ H ⟨H0, O0, se, o, I, e, q⟩ => by
  unfold mSetF at e
  cases h : f (en (se.map SE.er)) with
  | none => rw [h] at e; cases e
  | some ds =>
    rw [h] at e
    cases e
    refine ⟨_, _, ds, I.re, h, fun H1 p xs x hp r => ?_⟩
    have hn : ∀ b ∈ (SE.own p ds).ads, H1 b = none := fun b hb => by
      simp only [SE.ads, List.mem_singleton] at hb
      rw [hb]; exact hp
    exact q _ _ ⟨_, by rw [List.map_set]; rfl, (I.grow x).setN hn (by simp [SE.ads]) (.upd hp) ⟨rfl, xs, upd_same, reps_stay (.new hn (.upd hp)) r⟩⟩

/-! ### writing -/
theorem call_append {x : Str} {p1 p2 p3 : Pos} {e : Expr} (hi : X.N[i]? = some x) (hv : Vis X.env.scope x) (he : PX X e f)
    (hbase : attributeBase (.Name x p1) "append" X.env (eval (.Name x p1) X.env) = eval (.Name x p1) X.env := by rfl)
    (hfew : ((backTo p3 (starEach [e] X.env)).all (fun x => !x.1) && (backToKw p3 (keywordEach [] X.env)).all (fun x => x.1.isSome)
      && decide ([e].length + ([] : List Keyword).length + (if ([] : List Keyword).isEmpty then 0 else 1) < 30)) = true := by rfl)
    (hline : (p2.endLine == p3.line) = true := by rfl) (hs1 : starEach [e] X.env = (false, eval e X.env) :: starEach [] X.env := by rfl) (hplain : (backTo p3 (starEach [] X.env)).any (·.1) = false := by rfl)
    (hd : (x == ("__debug__" : Str)) = false := by decide) (hcd : (x == ("__classdict__" : Str)) = false := by decide) :
    PE X (.Call (.Attribute (.Name x p1) "append" p2) [e] [] p3) (tBM X.K "list" rAppend (tVar i) (TXs X.K (cons2 f fun _ => some []))) :=
  pe_bm PySem.F.plainAttrs_list PySem.F.slot_list_append PySem.F.type_list_append mt_append (pe_var hi hv hd hcd) (pxs_cons he pxs_nil hs1) hbase hfew hline hs1 hplain
def mApp (i : Nat) (f : E → Option D) : M := fun env => match f (en env) with
  | none => none
  | some d => match env[i]? with
    | some (.own ds) => if ds.length < LIM then some (.nx (setOwn i (ds ++ [d]) env)) else none
    | _ => none
theorem pm_app {x : Str} {p1 p2 p3 : Pos} {e : Expr} (hi : X.N[i]? = some x) (hv : Vis X.env.scope x) (he : PX X e f)
    (hs : swapsWith (.Call (.Attribute (.Name x p1) "append" p2) [e] [] p3) none pos.line X.env = pure false := by rfl)
    (hbase : attributeBase (.Name x p1) "append" X.env (eval (.Name x p1) X.env) = eval (.Name x p1) X.env := by rfl)
    (hfew : ((backTo p3 (starEach [e] X.env)).all (fun x => !x.1) && (backToKw p3 (keywordEach [] X.env)).all (fun x => x.1.isSome)
      && decide ([e].length + ([] : List Keyword).length + (if ([] : List Keyword).isEmpty then 0 else 1) < 30)) = true := by rfl)
    (hline : (p2.endLine == p3.line) = true := by rfl) (hs1 : starEach [e] X.env = (false, eval e X.env) :: starEach [] X.env := by rfl) (hplain : (backTo p3 (starEach [] X.env)).any (·.1) = false := by rfl)
    (hd : (x == ("__debug__" : Str)) = false := by decide) (hcd : (x == ("__classdict__" : Str)) = false := by decide) :
    PM X (.Expr (.Call (.Attribute (.Name x p1) "append" p2) [e] [] p3) pos) (mApp i f) := by
  refine PS_imp (ps_expr (call_append hi hv he hbase hfew hline hs1 hplain hd hcd) hs) fun D σ H ⟨H0, O0, se, o, I, e, q⟩ => ?_
  unfold mApp at e
  cases h : f (en (se.map SE.er)) with
  | none => rw [h] at e; cases e
  | some d =>
    rw [h] at e
    simp only [] at e
    split at e
    · rename_i ds h'
      obtain ⟨s, hs', he'⟩ := er_get h'
      split at e
      · rename_i hl
        cases e
        cases s with
        | own a ds' =>
          cases he'
          obtain ⟨a1, xs, hx, rx⟩ := I.ok i _ hs'
          refine ⟨.ref a, a1, .inl ⟨rfl, xs, .of hx⟩, _, _, [d], I.re, ?_, fun vs H1 x1 r1 => ?_⟩
          · unfold cons2
            rw [h]
          · obtain ⟨v, rfl, rv⟩ := reps1 r1
            refine ⟨a, xs, v, rfl, rfl, x1 _ _ hx, lim_lt (by rw [reps_len rx]; exact hl), ?_⟩
            exact q _ _ ⟨_, by rw [List.map_set]; rfl, (I.grow x1).wr hs' (x1 _ _ hx) (reps_append (reps_ext x1 rx) r1)⟩
        | no => cases he'
        | val => cases he'
        | own2 => cases he'
      · cases e
    · cases e
def mPut (i : Nat) (fi f : E → Option D) : M := fun env => match f (en env) with
  | none => none
  | some d => match fi (en env) with
    | some (.int k) => match env[i]? with
      | some (.own ds) => match ixN ds.length k with
        | some j => some (.nx (setOwn i (ds.set j d) env))
        | none => none
      | _ => none
    | _ => none
theorem pm_put {x : Str} {p1 p2 : Pos} {e ei : Expr} {fi : E → Option D} (hi : X.N[i]? = some x) (hv : Vis X.env.scope x) (he : PX X e f) (hei : PX X ei fi)
    (ha : ∀ v, assign (.Subscript (.Name x p1) ei p2) X.env v = (do
      let ov ← holding [v] (eval (.Name x p1) X.env)
      let iv ← holding [v, ov] (eval ei X.env)
      standAt p2
      holding [v, ov, iv] (setItem ov iv v)
      release [v, ov, iv] []) := by intro _; rfl)
    (hs : swapsWithSole [.Subscript (.Name x p1) ei p2] e pos.line X.env = pure false := by rfl) (hw : swappedStores [.Subscript (.Name x p1) ei p2] e X.env = pure none := by rfl)
    (h1 : (assignEach [.Subscript (.Name x p1) ei p2] X.env).map (·.2) = [assign (.Subscript (.Name x p1) ei p2) X.env] := by rfl)
    (hd : (x == ("__debug__" : Str)) = false := by decide) (hcd : (x == ("__classdict__" : Str)) = false := by decide) :
    PM X (.Assign [.Subscript (.Name x p1) ei p2] e pos) (mPut i fi f) := by
  refine PS_imp (ps_asg he (pg_sub (pe_var hi hv hd hcd) hei set_list ha) hs hw h1) fun D σ H ⟨H0, O0, se, o, I, e, q⟩ => ?_
  unfold mPut at e
  cases h : f (en (se.map SE.er)) with
  | none => rw [h] at e; cases e
  | some d =>
    rw [h] at e
    simp only [] at e
    split at e
    · rename_i k hk
      split at e
      · rename_i ds h'
        split at e
        · rename_i j hj
          cases e
          obtain ⟨s, hs', he'⟩ := er_get h'
          cases s with
          | own a ds' =>
            cases he'
            obtain ⟨a1, xs, hx, rx⟩ := I.ok i _ hs'
            refine ⟨_, _, d, I.re, h, fun v H1 x1 r1 => ⟨.ref a, a1, _, _, _, (I.grow x1).re, hk, fun w H2 x2 r2 => ?_⟩⟩
            cases rep_int r2
            have x3 := x1.trans x2
            refine ⟨a, xs, k, j, rfl, rfl, x3 _ _ hx, by rw [reps_len rx]; exact hj, ?_⟩
            exact q _ _ ⟨_, by rw [List.map_set]; rfl, (I.grow x3).wr hs' (x3 _ _ hx) (reps_set j (reps_ext x3 rx) (rep_ext x2 r1))⟩
          | no => cases he'
          | val => cases he'
          | own2 => cases he'
        · cases e
      · cases e
    · cases e
end
end Wd
set_option maxRecDepth 100000
set_option maxHeartbeats 1000000
/-! enumerate over a tuple -/
namespace Wd
open PySem L2 PyProof.Rows
open AutoSeq1 (wpAny_loadPart')

abbrev itObj (t : Addr) : Obj := { cls := .type "tuple_iterator", data := .fields #[.ref t, .int 0 0] }
abbrev enObj (a : Addr) : Obj := { cls := .type "enumerate", data := .fields #[.none, .bool false, .ref a, rawInt 0, .none, .none] }
theorem meets_en_tup (t : Addr) (items : Array Value) (n : Nat) (dct : Option Addr) (sl : Array (Option Value)) :
    Meets (Builtin.«enumerate.__new__» ⟨[.type "enumerate", .ref t], []⟩) (fun _ R z => z.heap.get? t = some { cls := .type "tuple", dict := dct, data := .seq items n, slots := sl } ∧
      R (.ok (.ret (.ref (z.heap.push (itObj t)).objs.size))) { z with heap := (z.heap.push (itObj t)).push (enObj z.heap.objs.size) }) :=
  .of_wp fun prog w A R z h => by
    obtain ⟨hp, g, d, tk, os⟩ := z; obtain ⟨ht, h⟩ := h
    have h_sub := sub_enumerate
    have hT : Heap.IsTuple (Shared.heap ⟨hp, g, d, tk, os⟩) t items := ⟨_, ht, rfl, n, rfl⟩
    wp_walk using wpAny_loadPart' ht
    refine wpAny_stack_any fun stk => wpAny_pure ?_
    split
    · rename_i cc _ _ _ _ _
      cases (cc == Value.type "enumerate")
      · wp_walk using wpAny_loadPart' ht, wpAny_pyIter_tuple hT
        exact ⟨_, rfl, h⟩
      · wp_walk using wpAny_loadPart' ht, wpAny_pyIter_tuple hT
        exact ⟨_, rfl, h⟩
    · wp_walk using wpAny_loadPart' ht, wpAny_pyIter_tuple hT
      exact ⟨_, rfl, h⟩
section
variable {prog : Program} {w : World} {A : Around} {E : Value → Shared → Prop} {z : Shared}
theorem call_en_tup {t : Addr} {items : Array Value} {Q : Value → Shared → Prop} (hT : z.heap.IsTuple t items)
    (h : ∀ h', IsEnum h' (z.heap.objs.size + 1) z.heap.objs.size 0 .none → h'.IsTupleIter z.heap.objs.size t 0 →
      (∀ b o, z.heap.get? b = some o → h'.get? b = some o) → Q (.ref (z.heap.objs.size + 1)) { z with heap := h' }) :
    wpAny (model prog w) A (call (.type "enumerate") [.ref t]) Q E z := by
  obtain ⟨⟨c, dct, dt, sl⟩, ht, hc, n, hd⟩ := hT
  cases (show c = .type "tuple" from hc)
  cases (show dt = .seq items n from hd)
  refine callType_new F.called_enumerate (by decide) (F.typeCall_enumerate_1 _) (F.newCall_enumerate_1 _) (fun obj => F.args_object_init_2 obj _) F.entry_enumerate_new (meets_en_tup t items n dct sl) ⟨ht, ?_⟩
  have hz : (z.heap.push (itObj t)).objs.size = z.heap.objs.size + 1 := Heap.size_push ..
  show _ ∧ _
  rw [hz]
  have he : IsEnum ((z.heap.push (itObj t)).push (enObj z.heap.objs.size)) (z.heap.objs.size + 1) z.heap.objs.size 0 .none := by
    have q := Heap.get?_push_size (z.heap.push (itObj t)) (o := enObj z.heap.objs.size) rfl
    rw [hz] at q; exact q
  exact ⟨⟨_, he, rfl⟩, h _ he ⟨_, Heap.get?_push_of_some _ (Heap.get?_push_size _ rfl), rfl, rfl⟩ fun b o x => Heap.get?_push_of_some _ (Heap.get?_push_of_some _ x)⟩
end
/-- the tuple at a, each item in a new pair -/
def IteT (K : PySem.W.Frag) (a : Addr) : It :=
  ⟨fun i H => ∃ (xs : List V) (x : V), SqT K H a xs ∧ xs[i]? = some x, fun i H v H' => ∃ T x, v = .ref T ∧ H T = none ∧ H' = upd H T (.tup [.int (i : Nat), x]) ∧ ∀ xs, SqT K H a xs → xs[i]? = some x, fun i H => ∃ xs : List V, SqT K H a xs ∧ xs.length = i⟩
theorem turn_enT {P : Program} {w : World} {K : PySem.W.Frag} {elts : List Expr} {kk : Nat} {tpos : Pos} (a e it : Addr) :
    Turn P w K (.Tuple elts kk tpos) (IteT K a) [e, it] e (fun i h => (∃ old, IsEnum h e it ((i : Nat) : Int) old) ∧ h.IsTupleIter it a i ∧ e ≠ it ∧ a ≠ it ∧ e ≠ a) where
  mem := by simp
  obj := fun i h st b hb => by
    obtain ⟨⟨old, he⟩, ⟨o, ho, hc, hd⟩, _⟩ := st
    rcases (show b = e ∨ b = it by simpa using hb) with q | q
    · rw [q]; exact ⟨_, he, fun v r => nomatch r⟩
    · rw [q]; exact ⟨o, ho, fun v r => by rw [hd] at r; cases r⟩
  keep := fun i h h' st k => let ⟨⟨old, he⟩, hi, hne⟩ := st; ⟨⟨old, k e (by simp) _ he⟩, hi.at fun o q => k it (by simp) o q, hne⟩
  item := by
    intro X hP hw hK hcalm i pins z σ H E I hf st hg
    subst hP hw hK
    obtain ⟨⟨old, he⟩, hit, hne, hai, hea⟩ := st
    obtain ⟨xs, x, hq, hx⟩ := hg
    obtain ⟨its, rv, p, hz⟩ := I.tuple hq
    obtain ⟨u, hu, ru⟩ := rv.get hx
    have hel : e < z.heap.objs.size := Heap.lt_size he
    have hil : it < z.heap.objs.size := by obtain ⟨_, q, _⟩ := hit; exact Heap.lt_size q
    have hlt : i < its.toArray.size := by simp; exact (List.getElem?_eq_some_iff.mp hu).1
    refine wpAny_pyNext_enum_itemD (Draws.tuple (A := X.A.in1) (show X.A.in1.handled = none from I.ok.hd hcalm) it a hai its.toArray) he ⟨hit, p⟩ hlt hne (by simp [hne, hea]) fun x' h' tk hP ho hst hT hsz hk => ?_
    have ex : x' = u := by
      simp at hP
      rw [hu] at hP
      exact (Option.some.inj hP).symm
    subst ex
    refine ⟨_, rfl, wpAny_letOwnedTupleGo_enum (s := { z with heap := h', toks := tk + 1 }) ho fun h'' he' sb => ?_⟩
    have hT2 := (sb.2 _ (Nat.ne_of_gt hel)).trans hT
    have new : ObjOk X.prog X.w (upd H z.heap.objs.size (.tup [.int (i : Nat), x])) h'' z.heap.objs.size (.tup [.int (i : Nat), x]) :=
      ⟨by show 2 ≤ sizeLine; decide, [.int i tk, x'], .cons ⟨_, rfl⟩ (.cons ru .nil), ⟨_, hT2, rfl, _, rfl⟩⟩
    have I1 : Inv X pins σ (upd H z.heap.objs.size (.tup [.int (i : Nat), x])) { z with heap := h'', toks := tk + 1 } :=
      I.turnedNew (ch := [e, it]) (fun b ob hb q => (sb.2 b (fun r => hb (by simp [r]))).trans (hk b ob (fun r => hb (by simp [r])) (fun r => hb (by simp [r])) q)) hf (Nat.le_refl _) new
    refine ⟨.ref z.heap.objs.size, _, I1, rfl, ⟨_, x, rfl, I.hok.fresh (Nat.le_refl _), rfl, fun ys hy => by rw [I.tuple_inj hy hq]; exact hx⟩, ⟨⟨x', ?_⟩, hst.1.at fun o q => (sb.2 it (Ne.symm hne)).trans q, hne, hai, hea⟩, fun b hb => ?_⟩
    · rw [show ((i + 1 : Nat) : Int) = (i : Int) + 1 by omega]
      exact he'
    · have hb' : b < z.heap.objs.size := by
        rcases (show b = e ∨ b = it by simpa using hb) with q | q
        · rw [q]; exact hel
        · rw [q]; exact hil
      rw [upd_ne (Nat.ne_of_lt hb')]
      exact (hf b hb).1
  done := by
    intro X hP hw hK hcalm i pins z σ H E I hf st hg
    subst hP hw hK
    obtain ⟨⟨old, he⟩, hit, hne, hai, hea⟩ := st
    obtain ⟨xs, hq, hx⟩ := hg
    obtain ⟨its, rv, p, hz⟩ := I.tuple hq
    obtain ⟨f0, f1, f2, f3, f4, f5⟩ := hf it (by simp)
    have hl : its.toArray.size = i := by simp [← rv.length, hx]
    subst hl
    exact wpAny_pyNext_enum_endD (Draws.tuple (A := X.A.in1) (show X.A.in1.handled = none from I.ok.hd hcalm) it a hai its.toArray) he ⟨hit, p⟩ fun h' eb => ⟨rfl, I.turned (t' := z.toks) (fun b o hb q => eb b o hb q) f0 f1 f3 f4 f5⟩
  self := fun A i z Q E st h => let ⟨⟨_, he⟩, _⟩ := st; wpAny_pyIter_enum he h
def iEnT (K : PySem.W.Frag) (ta : TA) : TI := fun σ H R => ta σ H fun vs H1 => ∃ a xs, vs = [.ref a] ∧ SqT K H1 a xs ∧ R (IteT K a) H1
theorem pi_enT {X : Cx} {e : Expr} {ta : TA} {p pos tpos : Pos} {elts : List Expr} {kk : Nat} (hg : Gl X "enumerate") (hm : X.mg "enumerate" = none) (ha : PA X [e] ta) (hs : starEach [e] X.env = [(false, eval e X.env)] := by rfl) :
    PI X (.Tuple elts kk tpos) (.Call (.Name "enumerate" p) [e] [] pos) (iEnT X.K ta) := by
  refine ⟨fun pins z σ H R I h => ?_⟩
  refine Call_ (ld_blt I hg hm boot_enumerate (PyProof.Rows.callWith_type1 (thn (ha.run pos pins z σ H _ I h) fun us z1 ⟨vs, H1, I1, r1, q1⟩ => ?_) hs rfl))
  obtain ⟨a, xs, ex, hq, q⟩ := q1
  subst ex
  cases r1 with
  | cons r rr =>
    cases rr
    cases r
    obtain ⟨its, rv, p', hz⟩ := I1.tuple hq
    have hlt : a < z1.heap.objs.size := by obtain ⟨o, ho, _⟩ := p'; exact Heap.lt_size ho
    refine call_en_tup (show z1.heap.IsTuple a its.toArray from p') fun h' he hit hk => wpAny_pyIter_enum he ?_
    have I2 : Inv X pins σ H1 { z1 with heap := h' } := I1.kept (t' := z1.toks) hk
    refine ⟨z1.heap.objs.size + 1, [z1.heap.objs.size + 1, z1.heap.objs.size], _, _, H1, rfl, I2, turn_enT a (z1.heap.objs.size + 1) z1.heap.objs.size, ⟨⟨.none, he⟩, hit, Nat.succ_ne_self _, Nat.ne_of_lt hlt, Nat.ne_of_gt (Nat.lt_succ_of_lt hlt)⟩, fun b hb => ?_, q⟩
    have hle : z1.heap.objs.size ≤ b := by
      rcases (show b = z1.heap.objs.size + 1 ∨ b = z1.heap.objs.size by simpa using hb) with r | r
      · rw [r]; exact Nat.le_add_right _ _
      · rw [r]; exact Nat.le_refl _
    exact I1.fpOk hle (I1.hok.fresh hle)
end Wd
set_option maxRecDepth 100000
set_option maxHeartbeats 1000000
/-! targets, what is walked, loops -/
namespace Wd
open PySem L2 PyProof.Rows
section
variable {K : PySem.W.Frag} {H0 H1 H H' : Hp} {O0 O O' : Addr → Prop} {σ σ' : L2.St} {se se' : List SE} {i j : Nat}
variable {X : Cx} {pos : Pos} {st : Stmt} {rest : List Stmt} {f fa fb : E → Option D} {es : List Expr} {a b : Expr}

/-! ### targets -/
abbrev B := D → List Ent → Option (List Ent)
abbrev Bs := List D → List Ent → Option (List Ent)
def bNm (i : Nat) : B := fun d env => some (setEnv i d env)
def bTp (t : Bs) : B := fun d env => match d with
  | .tup ds => t ds env
  | _ => none
def bNil : Bs := fun ds env => match ds with
  | [] => some env
  | _ => none
def bCons (b : B) (t : Bs) : Bs := fun ds env => match ds with
  | [] => none
  | d :: r => match b d env with
    | none => none
    | some env' => t r env'
def TB (K : PySem.W.Frag) (b : B) : TG := fun v σ H Q => ∃ H0 O0 se d env', RSe K H0 O0 se σ H ∧ rep K H (Ow O0 se) d v ∧ b d (se.map SE.er) = some env' ∧
  ∀ σ' se', RSe K H0 O0 se' σ' H → se'.map SE.er = env' → (∀ b ∈ ads se', b ∈ ads se) → Q σ' H
def TBs (K : PySem.W.Frag) (b : Bs) : TGs := fun vs σ H Q => ∃ H0 O0 se ds env', RSe K H0 O0 se σ H ∧ reps K H (Ow O0 se) ds vs ∧ b ds (se.map SE.er) = some env' ∧
  ∀ σ' se', RSe K H0 O0 se' σ' H → se'.map SE.er = env' → (∀ b ∈ ads se', b ∈ ads se) → Q σ' H
theorem PG_imp {t : Expr} {g g' : TG} (h : PG X t g) (i : ∀ v σ H Q, g' v σ H Q → g v σ H Q) : PG X t g' := ⟨fun pins s σ H v u Q I r q => h.run pins s σ H v u Q I r (i v σ H Q q)⟩
theorem PGs_imp {t : List Expr} {g g' : TGs} (h : PGs X t g) (i : ∀ v σ H Q, g' v σ H Q → g v σ H Q) : PGs X t g' := ⟨fun pins s σ H v u Q I r q => h.run pins s σ H v u Q I r (i v σ H Q q)⟩
theorem pb_name {x : Str} (hN : X.N.Nodup) (hi : X.N[i]? = some x) (hx : Loc X.env.scope x) (hf : X.fn x = true ∨ X.env.scope.names.lookup x = some .local := by first | exact .inl rfl | exact .inr rfl | assumption) : PG X (.Name x pos) (TB X.K (bNm i)) :=
  PG_imp (pg_name hN hi hx hf) fun v σ H Q ⟨H0, O0, se, d, env', I, r, e, q⟩ => by
    cases e
    exact q _ _ (I.setV r) (by rw [List.map_set]; rfl) fun b hb => (ads_set_sub (e := .val d) rfl).mem hb
theorem pbs_nil : PGs X [] (TBs X.K bNil) := PGs_imp pgs_nil fun v σ H Q ⟨H0, O0, se, ds, env', I, r, e, q⟩ => by
  cases ds with
  | nil =>
    cases e
    unfold reps at r
    exact ⟨r, q _ _ I rfl fun _ h => h⟩
  | cons d ds => cases e
theorem pbs_cons {e : Expr} {t : B} {u : Bs} (h1 : PG X e (TB X.K t)) (h2 : PGs X es (TBs X.K u))
    (hs : (assignEach (e :: es) X.env).map (·.2) = assign e X.env :: (assignEach es X.env).map (·.2) := by rfl) : PGs X (e :: es) (TBs X.K (bCons t u)) :=
  PGs_imp (pgs_cons h1 h2 hs) fun v σ H Q ⟨H0, O0, se, ds, env', I, r, e, q⟩ => by
    cases ds with
    | nil => cases e
    | cons d ds =>
      unfold reps at r
      obtain ⟨x, xs, rfl, rx, rr⟩ := r
      unfold bCons at e
      simp only [] at e
      cases h : t d (se.map SE.er) with
      | none => rw [h] at e; cases e
      | some env1 =>
        rw [h] at e
        refine ⟨x, xs, rfl, H0, O0, se, d, env1, I, rx, h, fun σ1 se1 I1 e1 sub => ?_⟩
        refine ⟨H0, O0, se1, ds, env', I1, reps_stay (.less fun b z => z.imp id (sub b)) rr, by rw [e1]; exact e, fun σ2 se2 I2 e2 sub2 => q σ2 se2 I2 e2 fun b hb => sub b (sub2 b hb)⟩
theorem pb_tup {k : Nat} {t : Bs} (hc : X.calm = true) (n : Nat) (hb : ∀ ds env env', t ds env = some env' → ds.length = n) (h : PGs X es (TBs X.K t))
    (hn : (assignEach es X.env).length = n := by rfl) (hst : (assignEach es X.env).findIdx? (·.1) = none := by rfl) : PG X (.Tuple es k pos) (TB X.K (bTp t)) :=
  PG_imp (pg_tup hc h hn hst) fun v σ H Q ⟨H0, O0, se, d, env', I, r, e, q⟩ => by
    unfold bTp at e
    cases d <;> simp only [reduceCtorEq] at e
    obtain ⟨a, xs, rfl, hq, rr⟩ := rep_tup r
    exact ⟨a, xs, rfl, hq, by rw [reps_len rr, hb _ _ _ e], H0, O0, se, _, env', I, rr, e, q⟩
theorem len_nil {ds : List D} {env env' : List Ent} (h : bNil ds env = some env') : ds.length = 0 := by cases ds <;> simp_all [bNil]
theorem len_cons {t : B} {u : Bs} {n : Nat} (k : ∀ ds env env', u ds env = some env' → ds.length = n) : ∀ ds env env', bCons t u ds env = some env' → ds.length = n + 1 := fun ds env env' h => by
  cases ds with
  | nil => cases h
  | cons d ds =>
    unfold bCons at h
    simp only [] at h
    split at h
    · cases h
    · simp [k _ _ _ h]
/-- t = e -/
def mBind (t : B) (f : E → Option D) : M := fun env => match f (en env) with
  | none => none
  | some d => match t d env with
    | none => none
    | some env' => some (.nx env')
theorem pm_bind {tg e : Expr} {t : B} (he : PX X e f) (hg : PG X tg (TB X.K t)) (hs : swapsWithSole [tg] e pos.line X.env = pure false := by rfl) (hw : swappedStores [tg] e X.env = pure none := by rfl)
    (h1 : (assignEach [tg] X.env).map (·.2) = [assign tg X.env] := by rfl) : PM X (.Assign [tg] e pos) (mBind t f) := PS_imp (ps_asg he hg hs hw h1) fun D σ H ⟨H0, O0, se, o, I, e, q⟩ => by
  unfold mBind at e
  cases h : f (en (se.map SE.er)) with
  | none => rw [h] at e; cases e
  | some d =>
    rw [h] at e
    simp only [] at e
    cases h' : t d (se.map SE.er) with
    | none => rw [h'] at e; cases e
    | some env' =>
      rw [h'] at e
      cases e
      exact ⟨_, _, d, I.re, h, fun v H' x r => ⟨H0, O0, se, d, env', I.grow x, r, h', fun σ' se' I' e' _ => q _ _ ⟨se', e', I'⟩⟩⟩

/-! ### what is walked -/
def Feeds (K : PySem.W.Frag) (O : Addr → Prop) (H1 : Hp) (J : It) (ds : List D) : Prop :=
  ∀ i O' H', Stay O O' H1 H' → (∀ d, ds[i]? = some d → J.go i H' ∧ ∀ x H'', J.yld i H' x H'' → Ext H' H'' ∧ rep K H'' O' d x) ∧ (ds.length = i → J.stop i H')
def TIX (K : PySem.W.Frag) (f : E → Option (List D)) : TI := fun σ H R => ∃ O env ds, RE K O env σ H ∧ f env = some ds ∧ ∀ J H1, Ext H H1 → Feeds K O H1 J ds → R J H1
abbrev PXi (X : Cx) (tg iter : Expr) (f : E → Option (List D)) : Prop := PI X tg iter (TIX X.K f)
theorem PI_imp {tg e : Expr} {t t' : TI} (h : PI X tg e t) (i : ∀ σ H Q, t' σ H Q → t σ H Q) : PI X tg e t' := ⟨fun pins s σ H R I q => h.run pins s σ H R I (i σ H R q)⟩
theorem PI_or {tg e : Expr} {t t' : TI} (h : PI X tg e t) (h' : PI X tg e t') : PI X tg e (fun σ H R => t σ H R ∨ t' σ H R) := ⟨fun pins s σ H R I q => q.elim (h.run pins s σ H R I) (h'.run pins s σ H R I)⟩
theorem feeds_list' {a : Addr} {xs : List V} {ds : List D} (n : ¬ O a) (h : H a = some (.lst xs)) (r : reps K H O ds xs) : Feeds K O H (Itl K a) ds := fun i O' H' s => by
  have q := (s.lst a xs n h).2
  refine ⟨fun d e => ?_, fun e => ⟨xs, .of q, by rw [reps_len r]; omega⟩⟩
  obtain ⟨x, ex, rx⟩ := reps_get r e
  refine ⟨⟨xs, x, .of q, ex⟩, fun y H'' yl => ?_⟩
  obtain ⟨rfl, yl⟩ := yl
  have z := yl xs (.of q)
  rw [ex] at z
  cases z
  exact ⟨.refl _, rep_stay s rx⟩
theorem feeds_tup {a : Addr} {xs : List V} {ds : List D} (h : SqT K H a xs) (r : reps K H O ds xs) : Feeds K O H (Itt K a) ds := fun i O' H' s => by
  have q := s.sqT h
  refine ⟨fun d e => ?_, fun e => ⟨xs, q, by rw [reps_len r]; omega⟩⟩
  obtain ⟨x, ex, rx⟩ := reps_get r e
  refine ⟨⟨xs, x, q, ex⟩, fun y H'' yl => ?_⟩
  obtain ⟨rfl, yl⟩ := yl
  have z := yl xs q
  rw [ex] at z
  cases z
  exact ⟨.refl _, rep_stay s rx⟩
theorem feeds_fls {a : Addr} {xs : List V} {ds : List D} (h : (¬ O a ∧ H a = some (.lst xs)) ∨ ∃ o, H a = some (.frz o (.lst xs))) (r : reps K H O ds xs) : Feeds K O H (Itl K a) ds := fun i O' H' s => by
  have q : SqL K H' a xs := h.elim (fun h => .of (s.lst a xs h.1 h.2).2) fun ⟨o, h⟩ => .inl (.inr ⟨o, s.frl a o xs h⟩)
  refine ⟨fun d e => ?_, fun e => ⟨xs, q, by rw [reps_len r]; omega⟩⟩
  obtain ⟨x, ex, rx⟩ := reps_get r e
  refine ⟨⟨xs, x, q, ex⟩, fun y H'' yl => ?_⟩
  obtain ⟨rfl, yl⟩ := yl
  have z := yl xs q
  rw [ex] at z
  cases z
  exact ⟨.refl _, rep_stay s rx⟩
def seqV (f : E → Option D) : E → Option (List D) := fun env => match f env with
  | some (.lst ds) => some ds
  | some (.tup ds) => some ds
  | some (.fls ds) => some ds
  | _ => none
theorem pix_seq {tg : Expr} (h : PX X a f) : PXi X tg a (seqV f) := PI_imp (PI_or (pi_list h) (pi_tup h)) fun σ H R ⟨O, env, ds, re, e, q⟩ => by
  unfold seqV at e
  split at e
  · rename_i ds' h'
    cases e
    refine .inl ⟨O, env, _, re, h', fun v H' x r => ?_⟩
    obtain ⟨p, xs, rfl, n, hp, rr⟩ := rep_lst r
    exact ⟨p, rfl, ⟨xs, .of hp⟩, q _ H' x (feeds_list' n hp rr)⟩
  · rename_i ds' h'
    cases e
    refine .inr ⟨O, env, _, re, h', fun v H' x r => ?_⟩
    obtain ⟨p, xs, rfl, hp, rr⟩ := rep_tup r
    exact ⟨p, rfl, ⟨xs, hp⟩, q _ H' x (feeds_tup hp rr)⟩
  · rename_i ds' h'
    cases e
    refine .inl ⟨O, env, _, re, h', fun v H' x r => ?_⟩
    obtain ⟨p, xs, rfl, hp, rr⟩ := rep_fls r
    exact ⟨p, rfl, ⟨xs, hp.elim (fun h => .of h.2) fun ⟨o, h⟩ => .inl (.inr ⟨o, h⟩)⟩, q _ H' x (feeds_fls hp rr)⟩
  · cases e
def rangeD (lo : Int) : Nat → List D
  | 0 => []
  | n + 1 => .int lo :: rangeD (lo + 1) n
theorem rangeD_len : ∀ (n : Nat) (lo : Int), (rangeD lo n).length = n
  | 0, _ => rfl
  | n + 1, lo => congrArg Nat.succ (rangeD_len n (lo + 1))
theorem rangeD_get : ∀ (n : Nat) (lo : Int) (i : Nat), i < n → (rangeD lo n)[i]? = some (.int (lo + i))
  | 0, _, i, h => absurd h (Nat.not_lt_zero i)
  | n + 1, lo, 0, _ => by simp [rangeD]
  | n + 1, lo, i + 1, h => by
    have := rangeD_get n (lo + 1) i (by omega)
    simp only [rangeD, List.getElem?_cons_succ, this]
    congr 2
    omega
theorem feeds_range {lo : Int} {n : Nat} : Feeds K O H (Itr lo n) (rangeD lo n) := fun i O' H' s => by
  refine ⟨fun d e => ?_, fun e => by rw [rangeD_len] at e; show n ≤ i; omega⟩
  have hi : i < n := by
    have := (List.getElem?_eq_some_iff.mp e).1
    rwa [rangeD_len] at this
  rw [rangeD_get n lo i hi] at e
  cases e
  refine ⟨hi, fun x H'' yl => ?_⟩
  obtain ⟨rfl, rfl⟩ := yl
  exact ⟨.refl _, mk_int⟩
def big62 : Int := 4611686018427387904
def inR (j : Int) : Bool := decide (-big62 ≤ j) && decide (j < big62)
theorem inR_ok {j : Int} (h : inR j = true) : -(2 ^ 62) ≤ j ∧ j < 2 ^ 62 := by
  unfold inR at h
  rw [Bool.and_eq_true] at h
  have h1 := of_decide_eq_true h.1
  have h2 := of_decide_eq_true h.2
  have e : (2 : Int) ^ 62 = big62 := by decide
  rw [e]
  exact ⟨h1, h2⟩
def rng1 (fs : E → Option (List D)) : E → Option (List D) := fun env => match fs env with
  | some [.int j] => if inR j = true then some (rangeD 0 j.toNat) else none
  | _ => none
def rng2 (fs : E → Option (List D)) : E → Option (List D) := fun env => match fs env with
  | some [.int i, .int j] => if (inR i && inR j) = true then some (rangeD i (j - i).toNat) else none
  | _ => none
theorem pix_rng1 {tg : Expr} {fs : E → Option (List D)} {p : Pos} (hg : Gl X "range") (hm : X.mg "range" = none) (ha : PXs X [a] fs) (hs : starEach [a] X.env = [(false, eval a X.env)] := by rfl) : PXi X tg (.Call (.Name "range" p) [a] [] pos) (rng1 fs) :=
  PI_imp (pi_range1 hg hm ha hs) fun σ H R ⟨O, env, ds, re, e, q⟩ => by
    unfold rng1 at e
    split at e
    · rename_i j h
      split at e
      · rename_i hj
        cases e
        refine ⟨O, env, _, re, h, fun vs H' x r => ?_⟩
        obtain ⟨v, rfl, rv⟩ := reps1 r
        cases rep_int rv
        exact ⟨j, rfl, (inR_ok hj).1, (inR_ok hj).2, q _ H' x feeds_range⟩
      · cases e
    · cases e
theorem pix_rng2 {tg : Expr} {fs : E → Option (List D)} {p : Pos} (hg : Gl X "range") (hm : X.mg "range" = none) (ha : PXs X [a, b] fs) (hs : starEach [a, b] X.env = [(false, eval a X.env), (false, eval b X.env)] := by rfl) (hs2 : starEach [b] X.env = [(false, eval b X.env)] := by rfl) : PXi X tg (.Call (.Name "range" p) [a, b] [] pos) (rng2 fs) :=
  PI_imp (pi_range2 hg hm ha hs hs2) fun σ H R ⟨O, env, ds, re, e, q⟩ => by
    unfold rng2 at e
    split at e
    · rename_i i j h
      split at e
      · rename_i hj
        cases e
        rw [Bool.and_eq_true] at hj
        refine ⟨O, env, _, re, h, fun vs H' x r => ?_⟩
        obtain ⟨v, w, rfl, rv, rw'⟩ := reps2 r
        cases rep_int rv
        cases rep_int rw'
        exact ⟨i, j, rfl, ⟨(inR_ok hj.1).1, (inR_ok hj.1).2, (inR_ok hj.2).1, (inR_ok hj.2).2⟩, q _ H' x feeds_range⟩
      · cases e
    · cases e
/-- pairs of place and item -/
def enumD (k : Int) : List D → List D
  | [] => []
  | d :: ds => .tup [.int k, d] :: enumD (k + 1) ds
theorem enumD_len : ∀ (ds : List D) (k : Int), (enumD k ds).length = ds.length
  | [], _ => rfl
  | d :: ds, k => congrArg Nat.succ (enumD_len ds (k + 1))
theorem enumD_get : ∀ (ds : List D) (k : Int) (i : Nat) (e : D), (enumD k ds)[i]? = some e → ∃ d, ds[i]? = some d ∧ e = .tup [.int (k + i), d]
  | [], _, i, e, h => by simp [enumD] at h
  | d :: ds, k, 0, e, h => by
    simp [enumD] at h
    exact ⟨d, rfl, by rw [← h]; simp⟩
  | d :: ds, k, i + 1, e, h => by
    have h' : (enumD (k + 1) ds)[i]? = some e := by simpa [enumD] using h
    obtain ⟨d', e1, e2⟩ := enumD_get ds (k + 1) i e h'
    refine ⟨d', by simpa using e1, ?_⟩
    rw [e2]
    congr 3
    omega
theorem en_pair {T : Addr} {x : V} {d : D} {k : Int} (hn : H T = none) (r : rep K H O d x) : Ext H (upd H T (.tup [.int k, x])) ∧ rep K (upd H T (.tup [.int k, x])) O (.tup [.int k, d]) (.ref T) :=
  ⟨.upd hn, new_tup hn (reps_cons mk_int (reps_cons r reps_nil))⟩
theorem feeds_enL {a : Addr} {xs : List V} {ds : List D} (n : ¬ O a) (h : H a = some (.lst xs)) (r : reps K H O ds xs) : Feeds K O H (Ite K a) (enumD 0 ds) := fun i O' H' s => by
  have q := (s.lst a xs n h).2
  refine ⟨fun e h => ?_, fun e => ⟨xs, .of q, by rw [reps_len r, ← enumD_len ds 0]; omega⟩⟩
  obtain ⟨d, e1, rfl⟩ := enumD_get ds 0 i e h
  obtain ⟨x, ex, rx⟩ := reps_get r e1
  refine ⟨⟨xs, x, .of q, ex⟩, fun y H'' yl => ?_⟩
  obtain ⟨T, x', rfl, hn, rfl, yl⟩ := yl
  have z := yl xs (.of q)
  rw [ex] at z
  cases z
  rw [Int.zero_add]
  exact en_pair hn (rep_stay s rx)
theorem feeds_enF {a : Addr} {xs : List V} {ds : List D} (h : (¬ O a ∧ H a = some (.lst xs)) ∨ ∃ o, H a = some (.frz o (.lst xs))) (r : reps K H O ds xs) : Feeds K O H (Ite K a) (enumD 0 ds) := fun i O' H' s => by
  have q : SqL K H' a xs := h.elim (fun h => .of (s.lst a xs h.1 h.2).2) fun ⟨o, h⟩ => .inl (.inr ⟨o, s.frl a o xs h⟩)
  refine ⟨fun e h => ?_, fun e => ⟨xs, q, by rw [reps_len r, ← enumD_len ds 0]; omega⟩⟩
  obtain ⟨d, e1, rfl⟩ := enumD_get ds 0 i e h
  obtain ⟨x, ex, rx⟩ := reps_get r e1
  refine ⟨⟨xs, x, q, ex⟩, fun y H'' yl => ?_⟩
  obtain ⟨T, x', rfl, hn, rfl, yl⟩ := yl
  have z := yl xs q
  rw [ex] at z
  cases z
  rw [Int.zero_add]
  exact en_pair hn (rep_stay s rx)
theorem feeds_enT {a : Addr} {xs : List V} {ds : List D} (h : SqT K H a xs) (r : reps K H O ds xs) : Feeds K O H (IteT K a) (enumD 0 ds) := fun i O' H' s => by
  have q := s.sqT h
  refine ⟨fun e h => ?_, fun e => ⟨xs, q, by rw [reps_len r, ← enumD_len ds 0]; omega⟩⟩
  obtain ⟨d, e1, rfl⟩ := enumD_get ds 0 i e h
  obtain ⟨x, ex, rx⟩ := reps_get r e1
  refine ⟨⟨xs, x, q, ex⟩, fun y H'' yl => ?_⟩
  obtain ⟨T, x', rfl, hn, rfl, yl⟩ := yl
  have z := yl xs q
  rw [ex] at z
  cases z
  rw [Int.zero_add]
  exact en_pair hn (rep_stay s rx)
def enuV (f : E → Option D) : E → Option (List D) := fun env => match f env with
  | some (.lst ds) => some (enumD 0 ds)
  | some (.tup ds) => some (enumD 0 ds)
  | some (.fls ds) => some (enumD 0 ds)
  | _ => none
theorem pix_enum {elts : List Expr} {kk : Nat} {tpos p : Pos} (hg : Gl X "enumerate") (hm : X.mg "enumerate" = none) (h : PX X a f) (hs : starEach [a] X.env = [(false, eval a X.env)] := by rfl) (hs1 : starEach [a] X.env = (false, eval a X.env) :: starEach [] X.env := by rfl) :
    PXi X (.Tuple elts kk tpos) (.Call (.Name "enumerate" p) [a] [] pos) (enuV f) := PI_imp (PI_or (pi_enum hg hm (pxs_cons h pxs_nil hs1) hs) (pi_enT hg hm (pxs_cons h pxs_nil hs1) hs)) fun σ H R ⟨O, env, ds, re, e, q⟩ => by
  unfold enuV at e
  split at e
  · rename_i ds' h'
    cases e
    refine .inl ⟨O, env, [.lst ds'], re, by unfold cons2; rw [h'], fun vs H' x r => ?_⟩
    obtain ⟨v, rfl, r2⟩ := reps1 r
    obtain ⟨p, xs, rfl, n, hp, rr⟩ := rep_lst r2
    exact ⟨p, xs, rfl, .of hp, q _ H' x (feeds_enL n hp rr)⟩
  · rename_i ds' h'
    cases e
    refine .inr ⟨O, env, [.tup ds'], re, by unfold cons2; rw [h'], fun vs H' x r => ?_⟩
    obtain ⟨v, rfl, r2⟩ := reps1 r
    obtain ⟨p, xs, rfl, hp, rr⟩ := rep_tup r2
    exact ⟨p, xs, rfl, hp, q _ H' x (feeds_enT hp rr)⟩
  · rename_i ds' h'
    cases e
    refine .inl ⟨O, env, [.fls ds'], re, by unfold cons2; rw [h'], fun vs H' x r => ?_⟩
    obtain ⟨v, rfl, r2⟩ := reps1 r
    obtain ⟨p, xs, rfl, hp, rr⟩ := rep_fls r2
    exact ⟨p, xs, rfl, hp.elim (fun h => .of h.2) fun ⟨o, h⟩ => .inl (.inr ⟨o, h⟩), q _ H' x (feeds_enF hp rr)⟩
  · cases e

/-! ### loops -/
def mLoop (t : B) (b : M) : List D → M
  | [], env => some (.nx env)
  | d :: ds, env => match t d env with
    | none => none
    | some env1 => match b env1 with
      | none => none
      | some (.rt r) => some (.rt r)
      | some (.nx env2) => mLoop t b ds env2
def mFor (f : E → Option (List D)) (t : B) (b : M) : M := fun env => match f (en env) with
  | none => none
  | some ds => mLoop t b ds env
theorem pm_for {tg iter : Expr} {body : List Stmt} {fi : E → Option (List D)} {t : B} {m : M} (hp : PassesOwn (model X.prog X.w) X.A X.env X.xe) (hc : X.calm = true) (hi : PXi X tg iter fi) (hg : PG X tg (TB X.K t)) (hb : PMs X body m) (hs : ∀ v, foldedSetIterable iter X.env v = pure v := by intro _; rfl) :
    PM X (.For tg iter body [] pos) (mFor fi t m) := PS_imp (ps_for hp hc hi hg hb hs) fun D σ H ⟨H0, O0, se, o, I, e, q⟩ => by
  unfold mFor at e
  cases h : fi (en (se.map SE.er)) with
  | none => rw [h] at e; cases e
  | some ds =>
    rw [h] at e
    refine ⟨_, _, ds, I.re, h, fun J H1 x fd => ?_⟩
    have I1 := I.grow x
    have q' := q.base I1
    refine ⟨fun i k σ' H' => k = ds.length - i ∧ i ≤ ds.length ∧ ∃ se', RSe X.K (wipe H1 (ads se)) O0 se' σ' H' ∧ mLoop t m (ds.drop i) (se'.map SE.er) = some o, ⟨_, rfl, Nat.zero_le _, se, I1.base, e⟩, ?_⟩
    rintro i k σ' H' ⟨rfl, hi, se', I', e'⟩
    have s := I1.stays I'
    by_cases hlt : i < ds.length
    · refine .inr ?_
      have ed : ds[i]? = some ds[i] := List.getElem?_eq_getElem hlt
      obtain ⟨go, yl⟩ := (fd i _ H' s).1 _ ed
      refine ⟨go, fun σ3 H3 => ∃ se3, RSe X.K (wipe H1 (ads se)) O0 se3 σ3 H3 ∧ mLoop t m (ds.drop (i + 1)) (se3.map SE.er) = some o, fun σ3 H3 z => ⟨_, by omega, rfl, hlt, z⟩, fun v H'' y => ?_⟩
      obtain ⟨x2, rv⟩ := yl v H'' y
      rw [List.drop_eq_getElem_cons hlt] at e'
      unfold mLoop at e'
      cases h1 : t ds[i] (se'.map SE.er) with
      | none => rw [h1] at e'; cases e'
      | some env1 =>
        rw [h1] at e'
        simp only [] at e'
        refine ⟨_, _, se', _, env1, I'.grow x2, rv, h1, fun σ2 se2 I2 e2 _ => ?_⟩
        cases h2 : m env1 with
        | none => rw [h2] at e'; cases e'
        | some o2 =>
          rw [h2] at e'
          refine ⟨_, _, se2, o2, I2, by rw [e2]; exact h2, ?_⟩
          cases o2 with
          | rt r => cases e'; exact q'
          | nx env2 => exact fun σ3 H3 ⟨se3, e3, I3⟩ => ⟨se3, I3, by rw [e3]; exact e'⟩
    · have ei : ds.length = i := by omega
      refine .inl ⟨(fd i _ H' s).2 ei, ?_⟩
      rw [← ei, List.drop_length] at e'
      cases e'
      exact q' _ _ I'.rs
def mWhile (c : E → Option Bool) (b : M) : Nat → M
  | 0, _ => none
  | n + 1, env => match c (en env) with
    | none => none
    | some false => some (.nx env)
    | some true => match b env with
      | none => none
      | some (.rt r) => some (.rt r)
      | some (.nx env') => mWhile c b n env'
theorem pm_while {ec : Expr} {body : List Stmt} {c : E → Option Bool} {m : M} (n : Nat) (hp : PassesOwn (model X.prog X.w) X.A X.env X.xe) (hc : PXt X ec c) (hb : PMs X body m) : PM X (.While ec body [] pos) (mWhile c m n) :=
  PS_imp (ps_while hp hc hb) fun D σ H ⟨H0, O0, se, o, I, e, q⟩ => by
    refine ⟨fun k σ' H' => ∃ se', RSe X.K H0 O0 se' σ' H' ∧ mWhile c m k (se'.map SE.er) = some o, ⟨n, se, I, e⟩, ?_⟩
    rintro k σ' H' ⟨se', I', e'⟩
    cases k with
    | zero => cases e'
    | succ k =>
      unfold mWhile at e'
      cases h : c (en (se'.map SE.er)) with
      | none => rw [h] at e'; cases e'
      | some z =>
        rw [h] at e'
        refine ⟨_, _, z, I'.re, h, fun H'' x => ?_⟩
        cases z with
        | false => cases e'; exact q _ _ (I'.grow x).rs
        | true =>
          simp only [] at e'
          refine ⟨fun σ3 H3 => ∃ se3, RSe X.K H0 O0 se3 σ3 H3 ∧ mWhile c m k (se3.map SE.er) = some o, fun σ3 H3 z => ⟨k, by omega, z⟩, ?_⟩
          cases h2 : m (se'.map SE.er) with
          | none => rw [h2] at e'; cases e'
          | some o2 =>
            rw [h2] at e'
            refine ⟨_, _, se', o2, I'.grow x, h2, ?_⟩
            cases o2 with
            | rt r => cases e'; exact q
            | nx env2 => exact fun σ3 H3 ⟨se3, e3, I3⟩ => ⟨se3, I3, by rw [e3]; exact e'⟩
end
end Wd
set_option maxRecDepth 100000
set_option maxHeartbeats 1000000
/-! defs on plain data -/
namespace Wd
open PySem L2 PyProof.Rows
def SpF (K : PySem.W.Frag) (n : Nat) (g : List D → Option D) : Sp := fun vs H Q _ => vs.length = n ∧ ∃ O ds d, (∀ b, O b → H b ≠ none) ∧ reps K H O ds vs ∧ g ds = some d ∧ ∀ v H', Ext H H' → rep K H' O d v → Q v H'
abbrev FnF (P : Program) (w : World) (K : PySem.W.Frag) (mg : Str → Option Value) (base : Heap) (k : Nat) (f : Addr) (fd : FuncData) (ps : List Str) (g : List D → Option D) : Prop := FnOk P w K mg base CX0 k f fd ps (SpF K ps.length g)
/-- a def's own function: the parameters, then the other names -/
def runF (n N : Nat) (m : M) (ds : List D) : Option D := if ds.length = n then match m (ds.map Ent.val ++ List.replicate (N - n) Ent.no) with
  | some (.rt d) => some d
  | some (.nx _) => some .non
  | none => none
  else none
theorem runF_len {n N : Nat} {m : M} {ds : List D} {d : D} (h : runF n N m ds = some d) : ds.length = n := by
  unfold runF at h
  split at h
  · assumption
  · cases h
section
variable {P : Program} {w : World} {K : PySem.W.Frag} {mg : Str → Option Value} {base : Heap} {x qual : Str} {params : Arguments} {body : List Stmt} {scope : Scope} {f : Addr} {fd : FuncData} {N ps : List Str} {k : Nat} {g : List D → Option D}
theorem se_start {K : PySem.W.Frag} {H : Hp} {O : Addr → Prop} {ds : List D} {vs : List V} {N : List Str} (hO : ∀ b, O b → H b ≠ none) (r : reps K H O ds vs) (hl : vs.length ≤ N.length) :
    RSe K H O (ds.map SE.val ++ List.replicate (N.length - vs.length) SE.no) (L2.start N vs) H := by
  have el := reps_len r
  have e0 : ads (ds.map SE.val ++ List.replicate (N.length - vs.length) SE.no) = [] := by
    unfold ads
    rw [List.flatMap_eq_nil_iff]
    intro x hx
    rcases List.mem_append.mp hx with h | h
    · obtain ⟨d, _, rfl⟩ := List.mem_map.mp h; rfl
    · rw [List.eq_of_mem_replicate h]; rfl
  refine ⟨.refl H, hO, fun b hb => (by rw [e0] at hb; cases hb), by rw [e0]; exact List.nodup_nil, by simp [L2.start, el], fun i e h => ?_⟩
  have ow : Ow O (ds.map SE.val ++ List.replicate (N.length - vs.length) SE.no) = O := by
    funext b
    unfold Ow
    rw [e0]
    simp
  rw [ow]
  by_cases hi : i < ds.length
  · rw [List.getElem?_append_left (by simpa using hi), List.getElem?_map] at h
    have e1 : ds[i]? = some ds[i] := List.getElem?_eq_getElem hi
    rw [e1] at h
    cases h
    obtain ⟨v, hv, rv⟩ := reps_get r e1
    refine ⟨v, ?_, rv⟩
    unfold L2.start
    rw [List.getElem?_append_left (by simpa [el] using hi), List.getElem?_map, hv]
    rfl
  · rw [List.getElem?_append_right (by simpa using hi)] at h
    rw [List.eq_of_mem_replicate (List.mem_of_getElem? h)]
    trivial
theorem fnF_of (F : FunD K x qual params body scope [] [] f fd) (S : FnScope N ps scope) {m : M}
    (hbody : ∀ (cdv : Value) (A : Around) (outer : List Env) (s : Shared) (H : Hp) (E : XK), Room k (A.deeper (envOfC qual scope s.heap.objs.size f cdv)) → PMs (cxOf CX0 P w K mg base N qual scope f cdv A outer s H E).nox body m) :
    FnF P w K mg base (k + 1) f fd ps (runF ps.length N.length m) := by
  refine F.ok S (fun vs H Q E h => h.1) fun cdv A outer s H vs Q E hr h => ⟨_, PSs.nox (hbody cdv A outer s H E hr), ?_⟩
  obtain ⟨hl, O, ds, d, hO, r, e, q⟩ := h
  have el := reps_len r
  have hp : ps.length ≤ N.length := by
    have := congrArg List.length S.pre
    rw [List.length_take] at this
    omega
  have I := se_start (N := N) hO r (by omega)
  unfold runF at e
  rw [if_pos (by omega)] at e
  have em : (ds.map SE.val ++ List.replicate (N.length - vs.length) SE.no).map SE.er = ds.map Ent.val ++ List.replicate (N.length - ps.length) Ent.no := by
    rw [hl]
    simp [SE.er]
  split at e
  · rename_i d' h1
    cases e
    exact ⟨H, O, _, .rt _, I, by rw [em]; exact h1, fun v H' x rv => q v H' x rv⟩
  · rename_i env h1
    cases e
    exact ⟨H, O, _, .nx env, I, by rw [em]; exact h1, fun σ' H' h => q .non H' (let ⟨_, _, I'⟩ := h; I'.ext) mk_non⟩
  · cases e
/-- a def that calls itself: by levels -/
theorem fnF_none (f : Addr) (fd : FuncData) (ps : List Str) (k : Nat) : FnF P w K mg base k f fd ps (fun _ => none) :=
  ⟨fun vs H Q E h => h.1, fun A outer s H args us vs Q E hr he hb hv h => by obtain ⟨_, O, ds, d, _, _, e, _⟩ := h; cases e⟩
end
section
variable {X : Cx} {k : Nat} {f : Addr} {fd : FuncData} {ps : List Str} {g : List D → Option D} {x : Str} {p pos : Pos} {e : Expr} {es : List Expr} {fs : E → Option (List D)}
theorem px_call (F : FnF X.prog X.w X.K X.mg X.base k f fd ps g) (hn : ∀ ds d, g ds = some d → ds.length = ps.length) (hr : Room k X.A) (hg : Gl X x) (hm : X.mg x = some (.ref f)) (hk : PySem.W.keepIn X.K (.ref f) = true) (hb : Binds X.K fd ps [])
    (ha : PXs X (e :: es) fs) (hdb : (x == ("__debug__" : Str)) = false := by decide) (he : starEach (e :: es) X.env = (false, eval e X.env) :: starEach es X.env := by rfl) (hpl : (backTo pos (starEach es X.env)).any (·.1) = false := by rfl) :
    PX X (.Call (.Name x p) (e :: es) [] pos) (mapT g fs) := PE_imp (pe_call F hr hg hm hk hb .nil pass0 ha hdb he hpl) fun σ H Q ⟨O, env, d, re, h, q⟩ => by
  unfold mapT at h
  cases h1 : fs env with
  | none => rw [h1] at h; cases h
  | some ds =>
    rw [h1] at h
    refine ⟨O, env, ds, re, h1, fun vs H1 x1 r1 => ?_⟩
    show SpF X.K ps.length g (vs ++ []) H1 Q E0
    rw [List.append_nil]
    exact ⟨by rw [reps_len r1]; exact hn ds d h, O, ds, d, (re.ext x1).dom, r1, h, fun v H' x2 rv => q v H' (x1.trans x2) rv⟩
end
end Wd
set_option maxRecDepth 100000
set_option maxHeartbeats 1000000
/-! list comprehensions on plain data -/
namespace Wd
open PySem L2 PyProof.Rows
section
variable {K : PySem.W.Frag} {H0 H1 H H' : Hp} {O0 O O' : Addr → Prop} {σ σ' : L2.St} {i j : Nat}
abbrev EL := List (Option D)
def wipeL : List Nat → EL → EL
  | [], l => l
  | v :: vs, l => (wipeL vs l).set v none
theorem wipeL_some {L : EL} {i : Nat} {d : D} : ∀ {vs : List Nat}, (wipeL vs L)[i]? = some (some d) → L[i]? = some (some d) ∧ i ∉ vs
  | [], h => ⟨h, by simp⟩
  | v :: vs, h => by
    unfold wipeL at h
    by_cases hi : v = i
    · subst hi
      rw [List.getElem?_set] at h
      simp only [if_true] at h
      split at h <;> cases h
    · rw [List.getElem?_set_ne hi] at h
      obtain ⟨a, b⟩ := wipeL_some h
      exact ⟨a, by simp only [List.mem_cons, not_or]; exact ⟨fun e => hi e.symm, b⟩⟩
theorem wipeL_len (L : EL) : ∀ vs : List Nat, (wipeL vs L).length = L.length
  | [] => rfl
  | v :: vs => by unfold wipeL; rw [List.length_set, wipeL_len L vs]
theorem wp_out {σ : L2.St} : ∀ {vs : List Nat}, j ∉ vs → (L2.wipe σ vs)[j]? = σ[j]?
  | [], _ => rfl
  | v :: vs, h => by
    simp only [List.mem_cons, not_or] at h
    unfold L2.wipe
    rw [List.getElem?_set_ne (fun e => h.1 e.symm), wp_out h.2]
theorem wp_in {σ : L2.St} : ∀ {vs : List Nat}, j ∈ vs → (L2.wipe σ vs)[j]? = if j < σ.length then some none else none
  | [], h => by cases h
  | v :: vs, h => by
    unfold L2.wipe
    by_cases e : v = j
    · subst e
      rw [List.getElem?_set]
      simp [L2.wipe_length]
    · rw [List.getElem?_set_ne e]
      exact wp_in ((List.mem_cons.mp h).resolve_left fun z => e z.symm)
theorem wp_same {σ2 : L2.St} {vs l : List Nat} (hl : σ2.length = (L2.wipe σ vs).length) (ho : ∀ j, j ∉ l → σ2[j]? = (L2.wipe σ vs)[j]?) (sub : ∀ j ∈ l, j ∈ vs) : L2.wipe σ2 vs = L2.wipe σ vs := by
  rw [L2.wipe_length] at hl
  apply List.ext_getElem?
  intro j
  by_cases h : j ∈ vs
  · rw [wp_in h, wp_in h, hl]
  · rw [wp_out h, ho j fun z => h (sub j z)]
theorem Ents.stay {L : EL} (r : Ents K O L σ H) (s : Stay O O' H H') : Ents K O' L σ H' := ⟨fun i d e => let ⟨v, a, b⟩ := r.ent i d e; ⟨v, a, rep_stay s b⟩⟩
theorem Ents.wipe {L : EL} (vs : List Nat) (r : Ents K O L σ H) : Ents K O (wipeL vs L) (L2.wipe σ vs) H := ⟨fun i d e => by
  obtain ⟨a, b⟩ := wipeL_some e
  obtain ⟨v, c, q⟩ := r.ent i d a
  exact ⟨v, by rw [wp_out b]; exact c, q⟩⟩
theorem RE0 {L : EL} (dom : ∀ b, O b → H b ≠ none) (r : Ents K O L σ H) (l : L.length ≤ σ.length) : RE K O ⟨L, []⟩ σ H := ⟨dom, r, ⟨O, fun _ z => z, ⟨fun i d e => by simp at e⟩⟩, l, Nat.zero_le _⟩
/-! targets -/
abbrev BL := D → EL → Option EL
def eNm (i : Nat) : BL := fun d L => some (L.set i (some d))
def eTp (t : List D → EL → Option EL) : BL := fun d L => match d with
  | .tup ds => t ds L
  | _ => none
def eNil : List D → EL → Option EL := fun ds L => match ds with
  | [] => some L
  | _ => none
def eCons (b : BL) (t : List D → EL → Option EL) : List D → EL → Option EL := fun ds L => match ds with
  | [] => none
  | d :: r => match b d L with
    | none => none
    | some L' => t r L'
structure Chg (l : List Nat) (σ σ' : L2.St) : Prop where
  len : σ'.length = σ.length
  out : ∀ j, j ∉ l → σ'[j]? = σ[j]?
def TL (K : PySem.W.Frag) (l : List Nat) (b : BL) : TG := fun v σ H Q => ∃ O L d L', RE K O ⟨L, []⟩ σ H ∧ rep K H O d v ∧ b d L = some L' ∧ ∀ σ', RE K O ⟨L', []⟩ σ' H → Chg l σ σ' → Q σ' H
def TLs (K : PySem.W.Frag) (l : List Nat) (b : List D → EL → Option EL) : TGs := fun vs σ H Q => ∃ O L ds L', RE K O ⟨L, []⟩ σ H ∧ reps K H O ds vs ∧ b ds L = some L' ∧ ∀ σ', RE K O ⟨L', []⟩ σ' H → Chg l σ σ' → Q σ' H
variable {X : Cx} {pos : Pos} {es : List Expr}
theorem RE.set {L : EL} {d : D} {v : V} (r : RE K O ⟨L, []⟩ σ H) (rv : rep K H O d v) : RE K O ⟨L.set i (some d), []⟩ (σ.set i (some v)) H := RE0 r.dom ⟨fun j e h => by
  by_cases hj : i = j
  · subst hj
    rw [List.getElem?_set] at h
    simp only [if_true] at h
    split at h
    · rename_i hlt
      cases h
      exact ⟨v, List.getElem?_set_self (Nat.lt_of_lt_of_le hlt r.len.1), rv⟩
    · cases h
  · rw [List.getElem?_set_ne hj] at h
    rw [List.getElem?_set_ne hj]
    exact r.ent.ent j e h⟩ (by simpa using r.len.1)
theorem pl_name {x : Str} (hN : X.N.Nodup) (hi : X.N[i]? = some x) (hx : Loc X.env.scope x) (hf : X.fn x = true ∨ X.env.scope.names.lookup x = some .local := by first | exact .inl rfl | exact .inr rfl | assumption) : PG X (.Name x pos) (TL X.K [i] (eNm i)) :=
  PG_imp (pg_name hN hi hx hf) fun v σ H Q ⟨O, L, d, L', r, rv, e, q⟩ => by
    cases e
    exact q _ (r.set rv) ⟨by simp, fun j hj => List.getElem?_set_ne (by simpa [eq_comm] using hj)⟩
theorem pls_nil : PGs X [] (TLs X.K [] eNil) := PGs_imp pgs_nil fun v σ H Q ⟨O, L, ds, L', r, rv, e, q⟩ => by
  cases ds with
  | nil =>
    cases e
    unfold reps at rv
    exact ⟨rv, q σ r ⟨rfl, fun _ _ => rfl⟩⟩
  | cons d ds => cases e
theorem pls_cons {e : Expr} {t : BL} {u : List D → EL → Option EL} {l m : List Nat} (h1 : PG X e (TL X.K l t)) (h2 : PGs X es (TLs X.K m u))
    (hs : (assignEach (e :: es) X.env).map (·.2) = assign e X.env :: (assignEach es X.env).map (·.2) := by rfl) : PGs X (e :: es) (TLs X.K (l ++ m) (eCons t u)) :=
  PGs_imp (pgs_cons h1 h2 hs) fun v σ H Q ⟨O, L, ds, L', r, rv, e, q⟩ => by
    cases ds with
    | nil => cases e
    | cons d ds =>
      unfold reps at rv
      obtain ⟨x, xs, rfl, rx, rr⟩ := rv
      unfold eCons at e
      simp only [] at e
      cases h : t d L with
      | none => rw [h] at e; cases e
      | some L1 =>
        rw [h] at e
        refine ⟨x, xs, rfl, O, L, d, L1, r, rx, h, fun σ1 r1 c1 => ⟨O, L1, ds, L', r1, rr, e, fun σ2 r2 c2 => q σ2 r2 ⟨c2.len.trans c1.len, fun j hj => ?_⟩⟩⟩
        rw [List.mem_append, not_or] at hj
        exact (c2.out j hj.2).trans (c1.out j hj.1)
theorem pl_tup {k : Nat} {t : List D → EL → Option EL} {l : List Nat} (hc : X.calm = true) (n : Nat) (hb : ∀ ds L L', t ds L = some L' → ds.length = n) (h : PGs X es (TLs X.K l t))
    (hn : (assignEach es X.env).length = n := by rfl) (hst : (assignEach es X.env).findIdx? (·.1) = none := by rfl) : PG X (.Tuple es k pos) (TL X.K l (eTp t)) :=
  PG_imp (pg_tup hc h hn hst) fun v σ H Q ⟨O, L, d, L', r, rv, e, q⟩ => by
    unfold eTp at e
    cases d <;> simp only [reduceCtorEq] at e
    obtain ⟨a, xs, rfl, hq, rr⟩ := rep_tup rv
    exact ⟨a, xs, rfl, hq, by rw [reps_len rr, hb _ _ _ e], O, L, _, L', r, rr, e, q⟩
theorem eln_nil {ds : List D} {L L' : EL} (h : eNil ds L = some L') : ds.length = 0 := by cases ds <;> simp_all [eNil]
theorem eln_cons {t : BL} {u : List D → EL → Option EL} {n : Nat} (k : ∀ ds L L', u ds L = some L' → ds.length = n) : ∀ ds L L', eCons t u ds L = some L' → ds.length = n + 1 := fun ds L L' h => by
  cases ds with
  | nil => cases h
  | cons d ds =>
    unfold eCons at h
    simp only [] at h
    split at h
    · cases h
    · simp [k _ _ _ h]

/-! one clause -/
def lcGo (t : BL) (ft : E → Option Bool) (fe : E → Option D) (L : EL) : List D → Option (List D)
  | [] => some []
  | d :: ds => match t d L with
    | none => none
    | some L' => match ft ⟨L', []⟩ with
      | none => none
      | some false => lcGo t ft fe L ds
      | some true => match fe ⟨L', []⟩ with
        | none => none
        | some r => match lcGo t ft fe L ds with
          | none => none
          | some rs => some (r :: rs)
def lstV (f : E → Option (List D)) : E → Option D := fun env => match f env with
  | none => none
  | some rs => if rs.length ≤ LIM then some (.lst rs) else none
def lcV (vs : List Nat) (fi : E → Option (List D)) (t : BL) (ft : E → Option Bool) (fe : E → Option D) : E → Option (List D) := fun env => match fi env with
  | none => none
  | some ds => lcGo t ft fe (wipeL vs env.st) ds
def yesT : E → Option Bool := fun _ => some true
abbrev OD (O : Addr → Prop) (p : Addr) : Addr → Prop := fun b => O b ∨ b = p
def XD (p : Addr) (H H' : Hp) : Prop := ∀ b o, b ≠ p → H b = some o → H' b = some o
theorem XD.trans {p : Addr} {H1 H2 H3 : Hp} (a : XD p H1 H2) (b : XD p H2 H3) : XD p H1 H3 := fun q o n e => b q o n (a q o n e)
theorem Ext.xd {p : Addr} (x : Ext H H') : XD p H H' := fun b o _ e => x b o e
theorem XD.upd {p : Addr} {o : HO} : XD p H (upd H p o) := fun b u n e => by rw [upd_ne n]; exact e
theorem XD.ext {p : Addr} (x : XD p H H') (h : H p = none) : Ext H H' := fun b o e => x b o (by rintro rfl; rw [h] at e; cases e) e
/-- the new list stands at p, the rest grew -/
theorem st_new {p : Addr} (x : XD p H H') (h : H p = none) : Stay O (OD O p) H H' := by
  have y := x.ext h
  exact ⟨fun b xs q => y.rd q, fun b o xs q => y b _ q, fun b xs n q => ⟨fun z => z.elim n (by rintro rfl; rw [h] at q; cases q), y b _ q⟩, fun b xs q => y b _ q⟩
theorem st_old {p : Addr} {xs : List V} (x : XD p H H') (h : H p = some (.lst xs)) (hO : O p) : Stay O O H H' := by
  refine ⟨fun b ys q => ?_, fun b o ys q => ?_, fun b ys n q => ⟨n, x b _ (by rintro rfl; exact n hO) q⟩, fun b ys q => x b _ (by rintro rfl; rw [h] at q; cases q) q⟩
  · have n : b ≠ p := by
      rintro rfl
      rcases q with q | ⟨o, q⟩ <;> rw [h] at q <;> cases q
    exact q.imp (x b _ n) fun ⟨o, q⟩ => ⟨o, x b _ n q⟩
  · exact x b _ (by rintro rfl; rw [h] at q; cases q) q
theorem dom_od {p : Addr} (dom : ∀ b, O b → H b ≠ none) (x : XD p H H') {o : HO} (h : H' p = some o) : ∀ b, OD O p b → H' b ≠ none := fun b z => by
  by_cases e : b = p
  · subst e; rw [h]; simp
  · rcases z with z | z
    · intro q
      cases e' : H b with
      | none => exact dom b z e'
      | some u => rw [x b u e e'] at q; cases q
    · exact absurd z e
structure Acc (K : PySem.W.Frag) (O : Addr → Prop) (p : Addr) (H1 : Hp) (rest : Option (List D)) (all : List D) (H : Hp) : Prop where
  xd : XD p H1 H
  go : ∃ acc ds rs, H p = some (.lst acc) ∧ reps K H (OD O p) ds acc ∧ rest = some rs ∧ ds ++ rs = all
theorem Acc.grow {p : Addr} {rest : Option (List D)} {all : List D} (a : Acc K O p H1 rest all H) (x : Ext H H') : Acc K O p H1 rest all H' := by
  obtain ⟨acc, ds, rs, h, r, e, q⟩ := a.go
  exact ⟨a.xd.trans x.xd, acc, ds, rs, x _ _ h, reps_ext x r, e, q⟩
theorem Acc.push {p : Addr} {d : D} {v : V} {rest : Option (List D)} {rs : List D} {all : List D} (a : Acc K O p H1 (some (d :: rs)) all H) (rv : rep K H (OD O p) d v) (hl : all.length ≤ LIM) (hr : rest = some rs) :
    ∃ acc, H p = some (.lst acc) ∧ acc.length < sizeLine ∧ Acc K O p H1 rest all (upd H p (.lst (acc ++ [v]))) := by
  obtain ⟨acc, ds, rs', h, r, e, q⟩ := a.go
  cases e
  have s : Stay (OD O p) (OD O p) H (upd H p (.lst (acc ++ [v]))) := .upd h (.inr rfl)
  refine ⟨acc, h, lim_lt ?_, a.xd.trans .upd, acc ++ [v], ds ++ [d], rs, upd_same, reps_append (reps_stay s r) (reps_cons (rep_stay s rv) reps_nil), hr, by rw [← q]; simp⟩
  rw [reps_len r]
  have := congrArg List.length q
  simp at this
  omega
theorem tx_lc {l vs : List Nat} {fi : E → Option (List D)} {t : BL} {ft : E → Option Bool} {fe : E → Option D} (hsub : ∀ j ∈ l, j ∈ vs) :
    ∀ σ H Q, TX K (lstV (lcV vs fi t ft fe)) σ H Q → tLc (TIX K fi) (TL K l t) (TXt K ft) (TX K fe) vs σ H Q := fun σ H Q ⟨O, env, d, re, e, q⟩ => by
  unfold lstV lcV at e
  cases h1 : fi env with
  | none => rw [h1] at e; cases e
  | some ds =>
    rw [h1] at e
    simp only [] at e
    cases h2 : lcGo t ft fe (wipeL (vs) env.st) ds with
    | none => rw [h2] at e; cases e
    | some all =>
      rw [h2] at e
      simp only [] at e
      split at e
      · rename_i hlim
        cases e
        refine ⟨O, env, ds, re, h1, fun J H1 x fd p hp => ?_⟩
        have re1 := re.ext x
        refine ⟨fun i m H' => m = ds.length - i ∧ i ≤ ds.length ∧ Acc K O p H1 (lcGo t ft fe (wipeL (vs) env.st) (ds.drop i)) all H', ⟨_, rfl, Nat.zero_le _, .upd, [], [], all, upd_same, reps_nil, h2, rfl⟩, ?_⟩
        rintro i m H' ⟨rfl, hi', a⟩
        obtain ⟨acc, dd, rs, hp', ra, er, ea⟩ := a.go
        have s := st_new (O := O) a.xd hp
        by_cases hlt : i < ds.length
        · refine .inr ?_
          have ed : ds[i]? = some ds[i] := List.getElem?_eq_getElem hlt
          obtain ⟨go, yl⟩ := (fd i _ H' s).1 _ ed
          rw [List.drop_eq_getElem_cons hlt] at er a
          refine ⟨go, Acc K O p H1 (lcGo t ft fe (wipeL (vs) env.st) (ds.drop (i + 1))) all, fun H3 z => ⟨_, by omega, rfl, hlt, z⟩, fun v H'' y => ?_⟩
          obtain ⟨x2, rv⟩ := yl v H'' y
          have a2 := a.grow x2
          have dm := dom_od re1.dom (a.xd.trans x2.xd) (x2 _ _ hp')
          have rL : RE K (OD O p) ⟨wipeL (vs) env.st, []⟩ (L2.wipe σ (vs)) H'' :=
            RE0 dm ((re1.ent.wipe _).stay (st_new (a.xd.trans x2.xd) hp)) (by rw [wipeL_len, L2.wipe_length]; exact re.len.1)
          simp only [lcGo] at er a2
          cases h3 : t ds[i] (wipeL (vs) env.st) with
          | none => rw [h3] at er; cases er
          | some L' =>
            rw [h3] at er a2
            simp only [] at er a2
            refine ⟨_, _, ds[i], L', rL, rv, h3, fun σ2 r2 c2 => ⟨wp_same c2.len c2.out hsub, ?_⟩⟩
            cases h4 : ft ⟨L', []⟩ with
            | none => rw [h4] at er; cases er
            | some b =>
              rw [h4] at er a2
              refine ⟨_, _, b, r2, h4, fun H3 x3 => ?_⟩
              have a3 := a2.grow x3
              cases b with
              | false => exact a3
              | true =>
                show TX K fe σ2 H3 _
                simp only [] at er a3
                cases h5 : fe ⟨L', []⟩ with
                | none => rw [h5] at er; cases er
                | some r =>
                  rw [h5] at er a3
                  simp only [] at er a3
                  cases h6 : lcGo t ft fe (wipeL (vs) env.st) (ds.drop (i + 1)) with
                  | none => rw [h6] at er; cases er
                  | some rs2 =>
                    rw [h6] at a3
                    exact ⟨_, _, r, r2.ext x3, h5, fun y H4 x4 ry => (a3.grow x4).push ry hlim rfl⟩
        · have ei : ds.length = i := by omega
          refine .inl ⟨(fd i _ H' s).2 ei, ?_⟩
          rw [← ei, List.drop_length] at er
          cases er
          rw [List.append_nil] at ea
          subst ea
          exact q _ H' (x.trans (a.xd.ext hp)) (mk_lst (fun z => re1.dom p z hp) hp' (reps_stay (.less fun b z => .inl z) ra))
      · cases e
theorem tx_set {i : Nat} {f : E → Option D} {Dd : Ends} (h : TSm K (mSet i f) Dd σ H) : TX K f σ H fun v H1 => gName i v σ H1 Dd.nx := by
  obtain ⟨H0, O0, se, o, I, e, q⟩ := h
  unfold mSet at e
  cases h : f (en (se.map SE.er)) with
  | none => rw [h] at e; cases e
  | some d =>
    rw [h] at e
    cases e
    refine ⟨_, _, d, I.re, h, fun v H' x rv => ?_⟩
    exact q _ _ ⟨_, by rw [List.map_set]; rfl, (I.grow x).setV rv⟩
theorem plt_nil {X : Cx} : PTs X [] (TXt X.K yesT) := ⟨fun pins s σ H Q I ⟨O, env, b, re, e, q⟩ => by
  cases e
  exact pts_nil.run pins s σ H Q I (q H (.refl H))⟩
theorem plt_one {X : Cx} {c : Expr} {ft : E → Option Bool} (h : PXt X c ft) : PTs X [c] (TXt X.K ft) := pts_one h
theorem px_lc {elt tg iter : Expr} {ifs : List Expr} {scope : Scope} {own : List (Str × Nat)} {l : List Nat} {fi : E → Option (List D)} {t : BL} {ft : E → Option Bool} {fe : E → Option D} (hc : X.calm = true) (hN : X.N.Nodup) (hi : PXi X tg iter fi) (ok : BlkOk X.N X.env.scope scope own) (hsub : ∀ j ∈ l, j ∈ own.map (·.2))
    (hg : ∀ (s : Shared) (H : Hp) (C : Addr) (cl : List (Str × Addr)) (fp : List Addr), PG (X.blk s H scope (compEnvC scope cl C X.env) fp) tg (TL X.K l t)) (ht : ∀ (s : Shared) (H : Hp) (C : Addr) (cl : List (Str × Addr)) (fp : List Addr), PTs (X.blk s H scope (compEnvC scope cl C X.env) fp) ifs (TXt X.K ft))
    (he : ∀ (s : Shared) (H : Hp) (C : Addr) (cl : List (Str × Addr)) (fp : List Addr), PX (X.blk s H scope (compEnvC scope cl C X.env) fp) elt fe) (hs : ∀ v, foldedSetIterable iter X.env v = pure v := by intro _; rfl) :
    PX X (.ListComp elt [⟨tg, iter, ifs, 0⟩] scope pos) (lstV (lcV (own.map (·.2)) fi t ft fe)) := PE_imp (pe_lc (te := TX X.K fe) hc hN hi ok hg ht he hs) (tx_lc hsub)
theorem pm_setLc {y : Str} {py spos : Pos} {elt tg iter : Expr} {ifs : List Expr} {scope : Scope} {own : List (Str × Nat)} {l : List Nat} {fi : E → Option (List D)} {t : BL} {ft : E → Option Bool} {fe : E → Option D} (hc : X.calm = true) (hN : X.N.Nodup) (hy : X.N[i]? = some y) (hyl : X.env.scope.names.lookup y = some .local)
    (hsw : swapsWith (.ListComp elt [⟨tg, iter, ifs, 0⟩] scope pos) (some (.Name y py)) spos.line X.env = pure true) (hi : PXi X tg iter fi) (ok : BlkOk X.N X.env.scope scope own) (hsub : ∀ j ∈ l, j ∈ own.map (·.2))
    (hg : ∀ (s : Shared) (H : Hp) (C : Addr) (cl : List (Str × Addr)) (fp : List Addr), PG (X.blk s H scope (compEnvC scope cl C X.env) fp) tg (TL X.K l t)) (ht : ∀ (s : Shared) (H : Hp) (C : Addr) (cl : List (Str × Addr)) (fp : List Addr), PTs (X.blk s H scope (compEnvC scope cl C X.env) fp) ifs (TXt X.K ft))
    (he : ∀ (s : Shared) (H : Hp) (C : Addr) (cl : List (Str × Addr)) (fp : List Addr), PX (X.blk s H scope (compEnvC scope cl C X.env) fp) elt fe) (hs : ∀ v, foldedSetIterable iter X.env v = pure v := by intro _; rfl) :
    PM X (.Assign [.Name y py] (.ListComp elt [⟨tg, iter, ifs, 0⟩] scope pos) spos) (mSet i (lstV (lcV (own.map (·.2)) fi t ft fe))) := PS_imp (ps_setLc (te := TX X.K fe) hc hN hy hyl hsw hi ok hg ht he hs) fun D σ H h => tx_lc hsub _ _ _ (tx_set h)
/-! two clauses -/
def lcGo2 (t : BL) (ft : E → Option Bool) (f1 : E → Option (List D)) (vs1 : List Nat) (t1 : BL) (ft1 : E → Option Bool) (fe : E → Option D) (L : EL) : List D → Option (List D)
  | [] => some []
  | d :: ds => match t d L with
    | none => none
    | some L' => match ft ⟨L', []⟩ with
      | none => none
      | some false => lcGo2 t ft f1 vs1 t1 ft1 fe L ds
      | some true => match f1 ⟨L', []⟩ with
        | none => none
        | some ds1 => match lcGo t1 ft1 fe (wipeL vs1 L') ds1 with
          | none => none
          | some rs1 => match lcGo2 t ft f1 vs1 t1 ft1 fe L ds with
            | none => none
            | some rs => some (rs1 ++ rs)
def lcV2 (vs vs1 : List Nat) (fi : E → Option (List D)) (t : BL) (ft : E → Option Bool) (f1 : E → Option (List D)) (t1 : BL) (ft1 : E → Option Bool) (fe : E → Option D) : E → Option (List D) := fun env => match fi env with
  | none => none
  | some ds => lcGo2 t ft f1 vs1 t1 ft1 fe (wipeL vs env.st) ds
def catO (rs : List D) : Option (List D) → Option (List D)
  | none => none
  | some r => some (r ++ rs)
theorem tx_lc2 {l l1 vs vs1 : List Nat} {fi f1 : E → Option (List D)} {t t1 : BL} {ft ft1 : E → Option Bool} {fe : E → Option D} (hsub : ∀ j ∈ l, j ∈ vs) (hsub1 : ∀ j ∈ l1, j ∈ vs1) :
    ∀ σ H Q, TX K (lstV (lcV2 vs vs1 fi t ft f1 t1 ft1 fe)) σ H Q → tLc2 (TIX K fi) (TL K l t) (TXt K ft) (TIX K f1) (TL K l1 t1) (TXt K ft1) (TX K fe) vs vs1 σ H Q := fun σ H Q ⟨O, env, d, re, e, q⟩ => by
  unfold lstV lcV2 at e
  cases h1 : fi env with
  | none => rw [h1] at e; cases e
  | some ds =>
    rw [h1] at e
    simp only [] at e
    cases h2 : lcGo2 t ft f1 vs1 t1 ft1 fe (wipeL vs env.st) ds with
    | none => rw [h2] at e; cases e
    | some all =>
      rw [h2] at e
      simp only [] at e
      split at e
      · rename_i hlim
        cases e
        refine ⟨O, env, ds, re, h1, fun J H1 x fd p hp => ?_⟩
        have re1 := re.ext x
        refine ⟨fun i m H' => m = ds.length - i ∧ i ≤ ds.length ∧ Acc K O p H1 (lcGo2 t ft f1 vs1 t1 ft1 fe (wipeL vs env.st) (ds.drop i)) all H', ⟨_, rfl, Nat.zero_le _, .upd, [], [], all, upd_same, reps_nil, h2, rfl⟩, ?_⟩
        rintro i m H' ⟨rfl, hi', a⟩
        obtain ⟨acc, dd, rs, hp', ra, er, ea⟩ := a.go
        have s := st_new (O := O) a.xd hp
        by_cases hlt : i < ds.length
        · refine .inr ?_
          have ed : ds[i]? = some ds[i] := List.getElem?_eq_getElem hlt
          obtain ⟨go, yl⟩ := (fd i _ H' s).1 _ ed
          rw [List.drop_eq_getElem_cons hlt] at er a
          refine ⟨go, Acc K O p H1 (lcGo2 t ft f1 vs1 t1 ft1 fe (wipeL vs env.st) (ds.drop (i + 1))) all, fun H3 z => ⟨_, by omega, rfl, hlt, z⟩, fun v H'' y => ?_⟩
          obtain ⟨x2, rv⟩ := yl v H'' y
          have a2 := a.grow x2
          have dm := dom_od re1.dom (a.xd.trans x2.xd) (x2 _ _ hp')
          have rL : RE K (OD O p) ⟨wipeL vs env.st, []⟩ (L2.wipe σ vs) H'' :=
            RE0 dm ((re1.ent.wipe _).stay (st_new (a.xd.trans x2.xd) hp)) (by rw [wipeL_len, L2.wipe_length]; exact re.len.1)
          simp only [lcGo2] at er a2
          cases h3 : t ds[i] (wipeL vs env.st) with
          | none => rw [h3] at er; cases er
          | some L' =>
            rw [h3] at er a2
            simp only [] at er a2
            refine ⟨_, _, ds[i], L', rL, rv, h3, fun σ2 r2 c2 => ⟨wp_same c2.len c2.out hsub, ?_⟩⟩
            cases h4 : ft ⟨L', []⟩ with
            | none => rw [h4] at er; cases er
            | some b =>
              rw [h4] at er a2
              refine ⟨_, _, b, r2, h4, fun H3 x3 => ?_⟩
              have a3 := a2.grow x3
              cases b with
              | false => exact a3
              | true =>
                show TIX K f1 σ2 H3 _
                cases h5 : f1 ⟨L', []⟩ with
                | none => simp only [h5] at er; cases er
                | some ds1 =>
                  simp only [h5] at er a3
                  cases h7 : lcGo t1 ft1 fe (wipeL vs1 L') ds1 with
                  | none => rw [h7] at er; cases er
                  | some rs1 =>
                    rw [h7] at er a3
                    simp only [] at er a3
                    cases h6 : lcGo2 t ft f1 vs1 t1 ft1 fe (wipeL vs env.st) (ds.drop (i + 1)) with
                    | none => rw [h6] at er; cases er
                    | some rs2 =>
                      rw [h6] at a3
                      simp only [] at a3
                      refine ⟨_, _, ds1, r2.ext x3, h5, fun J1 H4 x4 fd1 => ?_⟩
                      have a4 := a3.grow x4
                      obtain ⟨acc4, _, _, hp4, _⟩ := a4.go
                      have r4 := (r2.ext x3).ext x4
                      refine ⟨fun j k H' => k = ds1.length - j ∧ j ≤ ds1.length ∧ XD p H4 H' ∧ Acc K O p H1 (catO rs2 (lcGo t1 ft1 fe (wipeL vs1 L') (ds1.drop j))) all H', ⟨_, rfl, Nat.zero_le _, fun b o _ e => e, by rw [List.drop_zero, h7]; exact a4⟩, ?_⟩
                      rintro j k H5 ⟨rfl, hj', xd5, a5⟩
                      obtain ⟨acc5, dd5, rs5, hp5, ra5, er5, ea5⟩ := a5.go
                      have s5 := st_old (O := OD O p) xd5 hp4 (.inr rfl)
                      by_cases hlt1 : j < ds1.length
                      · refine .inr ?_
                        have ed1 : ds1[j]? = some ds1[j] := List.getElem?_eq_getElem hlt1
                        obtain ⟨go1, yl1⟩ := (fd1 j _ H5 s5).1 _ ed1
                        rw [List.drop_eq_getElem_cons hlt1] at er5 a5
                        refine ⟨go1, fun H' => XD p H4 H' ∧ Acc K O p H1 (catO rs2 (lcGo t1 ft1 fe (wipeL vs1 L') (ds1.drop (j + 1)))) all H', fun H3 z => ⟨_, by omega, rfl, hlt1, z⟩, fun v1 H6 y1 => ?_⟩
                        obtain ⟨x6, rv1⟩ := yl1 v1 H6 y1
                        have a6 := a5.grow x6
                        have xd6 := xd5.trans x6.xd
                        have dm6 := dom_od re1.dom a6.xd (x6 _ _ hp5)
                        have rL1 : RE K (OD O p) ⟨wipeL vs1 L', []⟩ (L2.wipe σ2 vs1) H6 :=
                          RE0 dm6 ((r4.ent.wipe _).stay (st_old xd6 hp4 (.inr rfl))) (by rw [wipeL_len, L2.wipe_length]; exact r2.len.1)
                        simp only [lcGo] at er5 a6
                        cases h8 : t1 ds1[j] (wipeL vs1 L') with
                        | none => rw [h8] at er5; cases er5
                        | some L1 =>
                          rw [h8] at er5 a6
                          simp only [] at er5 a6
                          refine ⟨_, _, ds1[j], L1, rL1, rv1, h8, fun σ3 r3 c3 => ⟨wp_same c3.len c3.out hsub1, ?_⟩⟩
                          cases h9 : ft1 ⟨L1, []⟩ with
                          | none => rw [h9] at er5; cases er5
                          | some b1 =>
                            rw [h9] at er5 a6
                            refine ⟨_, _, b1, r3, h9, fun H7 x7 => ?_⟩
                            have a7 := a6.grow x7
                            cases b1 with
                            | false => exact ⟨xd6.trans x7.xd, a7⟩
                            | true =>
                              show TX K fe σ3 H7 _
                              cases h10 : fe ⟨L1, []⟩ with
                              | none => simp only [h10] at er5; cases er5
                              | some r =>
                                simp only [h10] at er5 a7
                                cases h11 : lcGo t1 ft1 fe (wipeL vs1 L') (ds1.drop (j + 1)) with
                                | none => rw [h11] at er5; cases er5
                                | some rs3 =>
                                  rw [h11] at a7
                                  refine ⟨_, _, r, r3.ext x7, h10, fun y H8 x8 ry => ?_⟩
                                  obtain ⟨acc8, z1, z2, z3⟩ := ((a7.grow x8).push (rest := catO rs2 (some rs3)) ry hlim rfl)
                                  exact ⟨acc8, z1, z2, ((xd6.trans x7.xd).trans x8.xd).trans .upd, z3⟩
                      · have ej : ds1.length = j := by omega
                        refine .inl ⟨(fd1 j _ H5 s5).2 ej, ?_⟩
                        rw [← ej, List.drop_length] at a5
                        exact a5
        · have ei : ds.length = i := by omega
          refine .inl ⟨(fd i _ H' s).2 ei, ?_⟩
          rw [← ei, List.drop_length] at er
          cases er
          rw [List.append_nil] at ea
          subst ea
          exact q _ H' (x.trans (a.xd.ext hp)) (mk_lst (fun z => re1.dom p z hp) hp' (reps_stay (.less fun b z => .inl z) ra))
      · cases e
theorem px_lc2 {elt tg iter tg1 iter1 : Expr} {ifs ifs1 : List Expr} {scope : Scope} {own : List (Str × Nat)} {l l1 vs1 : List Nat} {fi f1 : E → Option (List D)} {t t1 : BL} {ft ft1 : E → Option Bool} {fe : E → Option D} (hc : X.calm = true) (hN : X.N.Nodup) (hi : PXi X tg iter fi) (ok : BlkOk X.N X.env.scope scope own) (hv : ∀ i ∈ vs1, i ∈ own.map (·.2)) (hsub : ∀ j ∈ l, j ∈ own.map (·.2)) (hsub1 : ∀ j ∈ l1, j ∈ vs1)
    (hg : ∀ (s : Shared) (H : Hp) (C : Addr) (cl : List (Str × Addr)) (fp : List Addr), PG (X.blk s H scope (compEnvC scope cl C X.env) fp) tg (TL X.K l t)) (ht : ∀ (s : Shared) (H : Hp) (C : Addr) (cl : List (Str × Addr)) (fp : List Addr), PTs (X.blk s H scope (compEnvC scope cl C X.env) fp) ifs (TXt X.K ft))
    (hi1 : ∀ (s : Shared) (H : Hp) (C : Addr) (cl : List (Str × Addr)) (fp : List Addr), PXi (X.blk s H scope (compEnvC scope cl C X.env) fp) tg1 iter1 f1)
    (hg1 : ∀ (s : Shared) (H : Hp) (C : Addr) (cl : List (Str × Addr)) (fp : List Addr), PG (X.blk s H scope (compEnvC scope cl C X.env) fp) tg1 (TL X.K l1 t1)) (ht1 : ∀ (s : Shared) (H : Hp) (C : Addr) (cl : List (Str × Addr)) (fp : List Addr), PTs (X.blk s H scope (compEnvC scope cl C X.env) fp) ifs1 (TXt X.K ft1))
    (he : ∀ (s : Shared) (H : Hp) (C : Addr) (cl : List (Str × Addr)) (fp : List Addr), PX (X.blk s H scope (compEnvC scope cl C X.env) fp) elt fe) (hs : ∀ v, foldedSetIterable iter X.env v = pure v := by intro _; rfl) (hs1 : ∀ env v, foldedSetIterable iter1 env v = pure v := by intro _ _; rfl) :
    PX X (.ListComp elt [⟨tg, iter, ifs, 0⟩, ⟨tg1, iter1, ifs1, 0⟩] scope pos) (lstV (lcV2 (own.map (·.2)) vs1 fi t ft f1 t1 ft1 fe)) := PE_imp (pe_lc2 (te := TX X.K fe) hc hN hi ok hv hg ht hi1 hg1 ht1 he hs hs1) (tx_lc2 hsub hsub1)
theorem pm_setLc2 {y : Str} {py spos : Pos} {elt tg iter tg1 iter1 : Expr} {ifs ifs1 : List Expr} {scope : Scope} {own : List (Str × Nat)} {l l1 vs1 : List Nat} {fi f1 : E → Option (List D)} {t t1 : BL} {ft ft1 : E → Option Bool} {fe : E → Option D} (hc : X.calm = true) (hN : X.N.Nodup) (hy : X.N[i]? = some y) (hyl : X.env.scope.names.lookup y = some .local)
    (hsw : swapsWith (.ListComp elt [⟨tg, iter, ifs, 0⟩, ⟨tg1, iter1, ifs1, 0⟩] scope pos) (some (.Name y py)) spos.line X.env = pure true) (hi : PXi X tg iter fi) (ok : BlkOk X.N X.env.scope scope own) (hv : ∀ i ∈ vs1, i ∈ own.map (·.2)) (hsub : ∀ j ∈ l, j ∈ own.map (·.2)) (hsub1 : ∀ j ∈ l1, j ∈ vs1)
    (hg : ∀ (s : Shared) (H : Hp) (C : Addr) (cl : List (Str × Addr)) (fp : List Addr), PG (X.blk s H scope (compEnvC scope cl C X.env) fp) tg (TL X.K l t)) (ht : ∀ (s : Shared) (H : Hp) (C : Addr) (cl : List (Str × Addr)) (fp : List Addr), PTs (X.blk s H scope (compEnvC scope cl C X.env) fp) ifs (TXt X.K ft))
    (hi1 : ∀ (s : Shared) (H : Hp) (C : Addr) (cl : List (Str × Addr)) (fp : List Addr), PXi (X.blk s H scope (compEnvC scope cl C X.env) fp) tg1 iter1 f1)
    (hg1 : ∀ (s : Shared) (H : Hp) (C : Addr) (cl : List (Str × Addr)) (fp : List Addr), PG (X.blk s H scope (compEnvC scope cl C X.env) fp) tg1 (TL X.K l1 t1)) (ht1 : ∀ (s : Shared) (H : Hp) (C : Addr) (cl : List (Str × Addr)) (fp : List Addr), PTs (X.blk s H scope (compEnvC scope cl C X.env) fp) ifs1 (TXt X.K ft1))
    (he : ∀ (s : Shared) (H : Hp) (C : Addr) (cl : List (Str × Addr)) (fp : List Addr), PX (X.blk s H scope (compEnvC scope cl C X.env) fp) elt fe) (hs : ∀ v, foldedSetIterable iter X.env v = pure v := by intro _; rfl) (hs1 : ∀ env v, foldedSetIterable iter1 env v = pure v := by intro _ _; rfl) :
    PM X (.Assign [.Name y py] (.ListComp elt [⟨tg, iter, ifs, 0⟩, ⟨tg1, iter1, ifs1, 0⟩] scope pos) spos) (mSet i (lstV (lcV2 (own.map (·.2)) vs1 fi t ft f1 t1 ft1 fe))) := PS_imp (ps_setLc2 (te := TX X.K fe) hc hN hy hyl hsw hi ok hv hg ht hi1 hg1 ht1 he hs hs1) fun D σ H h => tx_lc2 hsub hsub1 _ _ _ (tx_set h)
end
end Wd
set_option maxRecDepth 100000
set_option maxHeartbeats 1000000
/-! lists of lists of our own -/
namespace Wd
open PySem L2 PyProof.Rows
section
variable {K : PySem.W.Frag} {H0 H1 H H' : Hp} {O0 O O' : Addr → Prop} {σ σ' : L2.St} {se : List SE} {i j : Nat} {X : Cx} {pos : Pos}
def nos : List (List D) → Bool
  | [] => true
  | d :: r => noLs d && nos r
theorem Reps2.any : ∀ {dss : List (List D)} {js : List Addr}, nos dss = true → Reps2 K H O dss js → Reps2 K H O' dss js
  | _, _, _, .nil => .nil
  | _, _, n, .cons h r t => by
    unfold nos at n
    rw [Bool.and_eq_true] at n
    exact .cons h (reps_tups (fun _ _ z => z) n.1 r) (t.any n.2)
theorem Reps2.push {d : List D} {p : Addr} {xs : List V} (h : H p = some (.lst xs)) (r : reps K H O d xs) : ∀ {dss : List (List D)} {js : List Addr}, Reps2 K H O dss js → Reps2 K H O (dss ++ [d]) (js ++ [p])
  | _, _, .nil => .cons h r .nil
  | _, _, .cons h' r' t => .cons h' r' (t.push h r)
theorem Reps2.tups (s : ∀ b xs, Rd H b (.tup xs) → Rd H' b (.tup xs)) : ∀ {dss : List (List D)} {js : List Addr}, nos dss = true → (∀ j ∈ js, ∀ xs, H j = some (.lst xs) → H' j = some (.lst xs)) → Reps2 K H O dss js → Reps2 K H' O' dss js
  | _, _, _, _, .nil => .nil
  | _, _, n, k, .cons h r t => by
    unfold nos at n
    rw [Bool.and_eq_true] at n
    exact .cons (k _ List.mem_cons_self _ h) (reps_tups s n.1 r) (t.tups s n.2 fun j hj => k j (List.mem_cons_of_mem _ hj))
theorem nos_app : ∀ {a b : List (List D)}, nos (a ++ b) = (nos a && nos b)
  | [], b => by simp [nos]
  | x :: a, b => by simp [nos, nos_app (a := a), Bool.and_assoc]
def lcF (t : BL) (fe : E → Option (List D)) (L : EL) : List D → Option (List (List D))
  | [] => some []
  | d :: ds => match t d L with
    | none => none
    | some L' => match fe ⟨L', []⟩ with
      | none => none
      | some r => match lcF t fe L ds with
        | none => none
        | some rs => some (r :: rs)
def setOwn2 (i : Nat) (dss : List (List D)) (env : List Ent) : List Ent := env.set i (.own2 dss)
def mSet2 (i : Nat) (vs : List Nat) (fi : E → Option (List D)) (t : BL) (fe : E → Option (List D)) : M := fun env => match fi (en env) with
  | none => none
  | some ds => match lcF t fe (wipeL vs (en env).st) ds with
    | none => none
    | some dss => if (decide (dss.length ≤ LIM) && nos dss) = true then some (.nx (setOwn2 i dss env)) else none
/-- the new list and its inner ones -/
structure Acc2 (K : PySem.W.Frag) (p : Addr) (H1 : Hp) (rest : Option (List (List D))) (all : List (List D)) (H : Hp) : Prop where
  ext : Ext H1 H
  go : ∃ js dss rs, H p = some (.lst (js.map V.ref)) ∧ (p :: js).Nodup ∧ (∀ j ∈ js, H1 j = none) ∧ (∀ O : Addr → Prop, Reps2 K H O dss js) ∧ rest = some rs ∧ dss ++ rs = all
theorem Acc2.grow {p : Addr} {rest : Option (List (List D))} {all : List (List D)} (a : Acc2 K p H1 rest all H) (x : Ext H H') : Acc2 K p H1 rest all H' := by
  obtain ⟨js, dss, rs, h, nd, fr, r, e, q⟩ := a.go
  exact ⟨a.ext.trans x, js, dss, rs, x _ _ h, nd, fr, fun O => (r O).stay x.stay fun j _ xs z => x _ _ z, e, q⟩
theorem tx_set2 {l vs : List Nat} {fi : E → Option (List D)} {t : BL} {fe : E → Option (List D)} (hsub : ∀ j ∈ l, j ∈ vs) (Dd : Ends) :
    ∀ σ H, TSm K (mSet2 i vs fi t fe) Dd σ H → tLc (TIX K fi) (TL K l t) (TXt K yesT) (TF K fe) vs σ H (fun v H1 => gName i v σ H1 Dd.nx) := fun σ H ⟨H0, O0, se, o, I, e, q⟩ => by
  unfold mSet2 at e
  have re := I.re
  cases h1 : fi (en (se.map SE.er)) with
  | none => rw [h1] at e; cases e
  | some ds =>
    rw [h1] at e
    simp only [] at e
    cases h2 : lcF t fe (wipeL vs (en (se.map SE.er)).st) ds with
    | none => rw [h2] at e; cases e
    | some all =>
      rw [h2] at e
      simp only [] at e
      split at e
      · rename_i hh
        rw [Bool.and_eq_true, decide_eq_true_eq] at hh
        obtain ⟨hlim, hno⟩ := hh
        cases e
        refine ⟨_, _, ds, re, h1, fun J H1 x fd p hp => ?_⟩
        have re1 := re.ext x
        have n0 : ∀ b, H1 b = none → ¬ Ow O0 se b := fun b hb z => re1.dom b z hb
        refine ⟨fun i m H' => m = ds.length - i ∧ i ≤ ds.length ∧ Acc2 K p H1 (lcF t fe (wipeL vs (en (se.map SE.er)).st) (ds.drop i)) all H', ⟨_, rfl, Nat.zero_le _, .upd hp, [], [], all, upd_same, by simp, by simp, fun _ => .nil, h2, rfl⟩, ?_⟩
        rintro i m H' ⟨rfl, hi', a⟩
        obtain ⟨js, dd, rs, hp', nd, fr, ra, er, ea⟩ := a.go
        -- what may change: ours, the new list, its inner ones
        have st : ∀ {H'' : Hp}, Ext H' H'' → Stay (Ow O0 se) (fun b => Ow O0 se b ∨ b ∈ p :: js) H1 H'' := fun {H''} y => by
          have z := a.ext.trans y
          exact ⟨fun b xs q => z.rd q, fun b o xs q => z b _ q, fun b xs n q => ⟨fun w => w.elim n fun w => (by
            rcases List.mem_cons.mp w with rfl | w
            · rw [hp] at q; cases q
            · rw [fr b w] at q; cases q), z b _ q⟩, fun b xs q => z b _ q⟩
        have dm : ∀ {H'' : Hp}, Ext H' H'' → ∀ b, (Ow O0 se b ∨ b ∈ p :: js) → H'' b ≠ none := fun {H''} y b z => by
          rcases z with z | z
          · exact (a.ext.trans y).dom re1.dom b z
          · rcases List.mem_cons.mp z with rfl | z
            · rw [y _ _ hp']; simp
            · obtain ⟨k, hk⟩ := List.getElem?_of_mem z
              have hl := (ra (fun _ => False)).len
              have hk2 : k < dd.length := by rw [hl]; exact (List.getElem?_eq_some_iff.mp hk).1
              obtain ⟨j', xs, e1, e2, _⟩ := (ra (fun _ => False)).get (List.getElem?_eq_getElem hk2)
              rw [hk] at e1
              cases e1
              rw [y _ _ e2]; simp
        by_cases hlt : i < ds.length
        · refine .inr ?_
          have ed : ds[i]? = some ds[i] := List.getElem?_eq_getElem hlt
          obtain ⟨go, yl⟩ := (fd i _ H' (st (.refl _))).1 _ ed
          rw [List.drop_eq_getElem_cons hlt] at er
          refine ⟨go, Acc2 K p H1 (lcF t fe (wipeL vs (en (se.map SE.er)).st) (ds.drop (i + 1))) all, fun H3 z => ⟨_, by omega, rfl, hlt, z⟩, fun v H'' y => ?_⟩
          obtain ⟨x2, rv⟩ := yl v H'' y
          have rL : RE K _ ⟨wipeL vs (en (se.map SE.er)).st, []⟩ (L2.wipe σ vs) H'' :=
            RE0 (dm x2) ((re1.ent.wipe _).stay (st x2)) (by rw [wipeL_len, L2.wipe_length]; exact re.len.1)
          simp only [lcF] at er
          cases h3 : t ds[i] (wipeL vs (en (se.map SE.er)).st) with
          | none => rw [h3] at er; cases er
          | some L' =>
            rw [h3] at er
            simp only [] at er
            refine ⟨_, _, ds[i], L', rL, rv, h3, fun σ2 r2 c2 => ⟨wp_same c2.len c2.out hsub, ?_⟩⟩
            refine ⟨_, _, true, r2, rfl, fun H3 x3 => ?_⟩
            simp only [↓reduceIte]
            cases h5 : fe ⟨L', []⟩ with
            | none => simp only [h5] at er; cases er
            | some r =>
              simp only [h5] at er
              cases h6 : lcF t fe (wipeL vs (en (se.map SE.er)).st) (ds.drop (i + 1)) with
              | none => rw [h6] at er; cases er
              | some rs2 =>
                rw [h6] at er
                cases er
                refine ⟨_, _, r, r2.ext x3, h5, fun H4 j xs x4 hj rr => ?_⟩
                have xx := x2.trans (x3.trans x4)
                have a4 := a.grow xx
                have hp4 := xx _ _ hp'
                have jp : j ≠ p := by rintro rfl; rw [hj] at hp4; cases hp4
                have jn : j ∉ js := fun z => dm xx j (.inr (List.mem_cons_of_mem _ z)) hj
                have hj1 : H1 j = none := by
                  cases z : H1 j with
                  | none => rfl
                  | some u => rw [(a.ext.trans xx) j u z] at hj; cases hj
                have nr : noLs r = true ∧ nos dd = true := by
                  rw [← ea, nos_app, Bool.and_eq_true] at hno
                  have z := hno.2
                  unfold nos at z
                  rw [Bool.and_eq_true] at z
                  exact ⟨z.1, hno.1⟩
                have hp5 : (upd H4 j (.lst xs)) p = some (.lst (js.map V.ref)) := by rw [upd_ne (Ne.symm jp)]; exact hp4
                have tp : ∀ (b : Addr) (zs : List V), Rd H4 b (.tup zs) → Rd (upd (upd H4 j (.lst xs)) p (.lst (js.map V.ref ++ [.ref j]))) b (.tup zs) := fun b zs z => upd_rd_tup hp5 ((Ext.upd hj).rd z)
                refine ⟨js.map V.ref, hp5, lim_lt ?_, fun b o e => ?_, js ++ [j], dd ++ [r], rs2, by rw [upd_same]; simp, ?_, fun j' hj' => ?_, fun O => ?_, rfl, by rw [← ea]; simp⟩
                · have l1 := (ra (fun _ => False)).len
                  have l2 := congrArg List.length ea
                  simp at l2
                  simp
                  omega
                · have nb : b ≠ p := by rintro rfl; rw [hp] at e; cases e
                  rw [upd_ne nb]
                  exact (Ext.upd hj) b o (a4.ext b o e)
                · rw [show p :: (js ++ [j]) = (p :: js) ++ [j] by simp, List.nodup_append]
                  exact ⟨nd, by simp, fun b hb c hc z => by
                    rw [List.mem_singleton] at hc
                    subst hc
                    subst z
                    rcases List.mem_cons.mp hb with w | w
                    · exact jp w
                    · exact jn w⟩
                · rcases List.mem_append.mp hj' with z | z
                  · exact fr _ z
                  · rw [List.mem_singleton] at z; rw [z]; exact hj1
                · have b1 : Reps2 K (upd (upd H4 j (.lst xs)) p (.lst (js.map V.ref ++ [.ref j]))) O dd js := by
                    refine ((ra O).stay xx.stay fun j _ ys z => xx _ _ z).tups tp nr.2 fun j' hj' ys z => ?_
                    have n1 : j' ≠ p := by rintro rfl; exact (List.nodup_cons.mp nd).1 hj'
                    rw [upd_ne n1]
                    exact (Ext.upd hj) _ _ z
                  exact b1.push (by rw [upd_ne jp]; exact upd_same) (reps_tups tp nr.1 rr)
        · have ei : ds.length = i := by omega
          refine .inl ⟨(fd i _ H' (st (.refl _))).2 ei, ?_⟩
          rw [← ei, List.drop_length] at er
          cases er
          rw [List.append_nil] at ea
          subst ea
          have hn : ∀ b ∈ (SE.own2 p js dd).ads, H1 b = none := fun b hb => by
            rcases List.mem_cons.mp hb with rfl | hb
            · exact hp
            · exact fr b hb
          exact q _ _ ⟨_, by rw [List.map_set]; rfl, (I.grow x).setN hn nd a.ext ⟨rfl, hp', ra _⟩⟩
      · cases e
theorem pm_set2 {y : Str} {py spos : Pos} {elt tg iter : Expr} {scope : Scope} {own : List (Str × Nat)} {l : List Nat} {fi : E → Option (List D)} {t : BL} {fe : E → Option (List D)} (hc : X.calm = true) (hN : X.N.Nodup) (hy : X.N[i]? = some y) (hyl : X.env.scope.names.lookup y = some .local)
    (hsw : swapsWith (.ListComp elt [⟨tg, iter, [], 0⟩] scope pos) (some (.Name y py)) spos.line X.env = pure true) (hi : PXi X tg iter fi) (ok : BlkOk X.N X.env.scope scope own) (hsub : ∀ j ∈ l, j ∈ own.map (·.2))
    (hg : ∀ (s : Shared) (H : Hp) (C : Addr) (cl : List (Str × Addr)) (fp : List Addr), PG (X.blk s H scope (compEnvC scope cl C X.env) fp) tg (TL X.K l t))
    (he : ∀ (s : Shared) (H : Hp) (C : Addr) (cl : List (Str × Addr)) (fp : List Addr), PF (X.blk s H scope (compEnvC scope cl C X.env) fp) elt fe) (hs : ∀ v, foldedSetIterable iter X.env v = pure v := by intro _; rfl) :
    PM X (.Assign [.Name y py] (.ListComp elt [⟨tg, iter, [], 0⟩] scope pos) spos) (mSet2 i (own.map (·.2)) fi t fe) := PS_imp (ps_setLc (te := TF X.K fe) (tt := TXt X.K yesT) hc hN hy hyl hsw hi ok hg (fun _ _ _ _ _ => plt_nil) he hs) fun D σ H h => tx_set2 hsub D σ H h
/-! ### writing -/
def mApp2 (i : Nat) (fi f : E → Option D) : M := fun env => match fi (en env) with
  | some (.int k) => match f (en env) with
    | none => none
    | some d => match env[i]? with
      | some (.own2 dss) => match ixN dss.length k with
        | none => none
        | some j => match dss[j]? with
          | none => none
          | some ds => if ds.length < LIM then some (.nx (setOwn2 i (dss.set j (ds ++ [d])) env)) else none
      | _ => none
  | _ => none
def mPut2 (i : Nat) (f1 f2 f : E → Option D) : M := fun env => match f (en env) with
  | none => none
  | some d => match f1 (en env) with
    | some (.int k) => match f2 (en env) with
      | some (.int k2) => match env[i]? with
        | some (.own2 dss) => match ixN dss.length k with
          | none => none
          | some j => match dss[j]? with
            | none => none
            | some ds => match ixN ds.length k2 with
              | none => none
              | some j2 => some (.nx (setOwn2 i (dss.set j (ds.set j2 d)) env))
        | _ => none
      | _ => none
    | _ => none
theorem inner_at {a : Addr} {js : List Addr} {dss : List (List D)} {k : Int} {j : Nat} {ds : List D} (hx : H a = some (.lst (js.map V.ref))) (r : Reps2 K H O dss js) (hk : ixN dss.length k = some j) (hd : dss[j]? = some ds) :
    ∃ p xs, js[j]? = some p ∧ H p = some (.lst xs) ∧ reps K H O ds xs ∧ atI (js.map V.ref) k = some (.ref p) := by
  obtain ⟨p, xs, h1, h2, h3⟩ := r.get hd
  refine ⟨p, xs, h1, h2, h3, ?_⟩
  unfold atI
  rw [List.length_map, ← r.len, hk]
  simp [h1]
theorem pm_app2 {x : Str} {p0 p1 p2 p3 : Pos} {e ei : Expr} {f fi : E → Option D} (hi : X.N[i]? = some x) (hv : Vis X.env.scope x) (hei : PX X ei fi) (hpl : PlainIx ei) (he : PX X e f)
    (hs : swapsWith (.Call (.Attribute (.Subscript (.Name x p0) ei p1) "append" p2) [e] [] p3) none pos.line X.env = pure false := by rfl)
    (hbase : attributeBase (.Subscript (.Name x p0) ei p1) "append" X.env (eval (.Subscript (.Name x p0) ei p1) X.env) = eval (.Subscript (.Name x p0) ei p1) X.env := by rfl)
    (hfew : ((backTo p3 (starEach [e] X.env)).all (fun x => !x.1) && (backToKw p3 (keywordEach [] X.env)).all (fun x => x.1.isSome)
      && decide ([e].length + ([] : List Keyword).length + (if ([] : List Keyword).isEmpty then 0 else 1) < 30)) = true := by rfl)
    (hline : (p2.endLine == p3.line) = true := by rfl) (hs1 : starEach [e] X.env = (false, eval e X.env) :: starEach [] X.env := by rfl) (hplain : (backTo p3 (starEach [] X.env)).any (·.1) = false := by rfl)
    (hd : (x == ("__debug__" : Str)) = false := by decide) (hcd : (x == ("__classdict__" : Str)) = false := by decide) :
    PM X (.Expr (.Call (.Attribute (.Subscript (.Name x p0) ei p1) "append" p2) [e] [] p3) pos) (mApp2 i fi f) := by
  refine PS_imp (ps_expr (pe_bm PySem.F.plainAttrs_list PySem.F.slot_list_append PySem.F.type_list_append mt_append (pe_ix ix_list (pe_var hi hv hd hcd) hei hpl) (pxs_cons he pxs_nil hs1) hbase hfew hline hs1 hplain) hs) fun D σ H ⟨H0, O0, se, o, I, e, q⟩ => ?_
  unfold mApp2 at e
  split at e
  · rename_i k h1
    cases h2 : f (en (se.map SE.er)) with
    | none => rw [h2] at e; cases e
    | some d =>
      rw [h2] at e
      simp only [] at e
      split at e
      · rename_i dss h'
        obtain ⟨s, hs', he'⟩ := er_get h'
        cases s with
        | own2 a js dss' =>
          cases he'
          split at e
          · cases e
          · rename_i j hj
            split at e
            · cases e
            · rename_i ds hds
              split at e
              · rename_i hl
                cases e
                obtain ⟨a1, hx, rr⟩ := I.ok i _ hs'
                refine ⟨.ref a, a1, _, _, _, I.re, h1, fun v1 H1 x1 r1 => ?_⟩
                cases rep_int r1
                have I1 := I.grow x1
                obtain ⟨_, hx1, rr1⟩ := I1.ok i _ hs'
                obtain ⟨p, xs, g1, g2, g3, g4⟩ := inner_at hx1 rr1 hj hds
                refine ⟨a, _, k, .ref p, rfl, rfl, .of hx1, g4, .inl ⟨rfl, xs, .of g2⟩, _, _, [d], I1.re, ?_, fun vs H2 x2 r2 => ?_⟩
                · unfold cons2
                  rw [h2]
                · obtain ⟨v, rfl, rv⟩ := reps1 r2
                  refine ⟨p, xs, v, rfl, rfl, x2 _ _ g2, lim_lt (by rw [reps_len g3]; exact hl), ?_⟩
                  exact q _ _ ⟨_, by rw [List.map_set]; rfl, (I1.grow x2).wr2 hs' g1 (x2 _ _ g2) (reps_append (reps_ext x2 g3) r2)⟩
              · cases e
        | no => cases he'
        | val => cases he'
        | own => cases he'
      · cases e
  · cases e
theorem pm_put2 {x : Str} {p1 p2 p3 : Pos} {e e1 e2 : Expr} {f f1 f2 : E → Option D} (hi : X.N[i]? = some x) (hv : Vis X.env.scope x) (he : PX X e f) (he1 : PX X e1 f1) (hpl : PlainIx e1) (he2 : PX X e2 f2)
    (ha : ∀ v, assign (.Subscript (.Subscript (.Name x p1) e1 p2) e2 p3) X.env v = (do
      let ov ← holding [v] (eval (.Subscript (.Name x p1) e1 p2) X.env)
      let iv ← holding [v, ov] (eval e2 X.env)
      standAt p3
      holding [v, ov, iv] (setItem ov iv v)
      release [v, ov, iv] []) := by intro _; rfl)
    (hs : swapsWithSole [.Subscript (.Subscript (.Name x p1) e1 p2) e2 p3] e pos.line X.env = pure false := by rfl) (hw : swappedStores [.Subscript (.Subscript (.Name x p1) e1 p2) e2 p3] e X.env = pure none := by rfl)
    (h1 : (assignEach [.Subscript (.Subscript (.Name x p1) e1 p2) e2 p3] X.env).map (·.2) = [assign (.Subscript (.Subscript (.Name x p1) e1 p2) e2 p3) X.env] := by rfl)
    (hd : (x == ("__debug__" : Str)) = false := by decide) (hcd : (x == ("__classdict__" : Str)) = false := by decide) :
    PM X (.Assign [.Subscript (.Subscript (.Name x p1) e1 p2) e2 p3] e pos) (mPut2 i f1 f2 f) := by
  refine PS_imp (ps_asg he (pg_sub (pe_ix ix_list (pe_var hi hv hd hcd) he1 hpl) he2 set_list ha) hs hw h1) fun D σ H ⟨H0, O0, se, o, I, e, q⟩ => ?_
  unfold mPut2 at e
  cases h2 : f (en (se.map SE.er)) with
  | none => rw [h2] at e; cases e
  | some d =>
    rw [h2] at e
    simp only [] at e
    split at e
    · rename_i k hk1
      split at e
      · rename_i k2 hk2
        split at e
        · rename_i dss h'
          obtain ⟨s, hs', he'⟩ := er_get h'
          cases s with
          | own2 a js dss' =>
            cases he'
            split at e
            · cases e
            · rename_i j hj
              split at e
              · cases e
              · rename_i ds hds
                split at e
                · cases e
                · rename_i j2 hj2
                  cases e
                  refine ⟨_, _, d, I.re, h2, fun v H1 x1 r1 => ?_⟩
                  have I1 := I.grow x1
                  obtain ⟨a1, _, _⟩ := I1.ok i _ hs'
                  refine ⟨.ref a, a1, _, _, _, I1.re, hk1, fun w1 H2 x2 r2 => ?_⟩
                  cases rep_int r2
                  have I2 := I1.grow x2
                  obtain ⟨_, hx2, rr2⟩ := I2.ok i _ hs'
                  obtain ⟨p, xs, g1, g2, g3, g4⟩ := inner_at hx2 rr2 hj hds
                  refine ⟨a, _, k, .ref p, rfl, rfl, .of hx2, g4, _, _, _, I2.re, hk2, fun w2 H3 x3 r3 => ?_⟩
                  cases rep_int r3
                  refine ⟨p, xs, k2, j2, rfl, rfl, x3 _ _ g2, by rw [reps_len g3]; exact hj2, ?_⟩
                  exact q _ _ ⟨_, by rw [List.map_set]; rfl, (I2.grow x3).wr2 hs' g1 (x3 _ _ g2) (reps_set j2 (reps_ext x3 g3) (rep_ext (x2.trans x3) r1))⟩
          | no => cases he'
          | val => cases he'
          | own => cases he'
        · cases e
      · cases e
    · cases e
end
end Wd
set_option maxRecDepth 100000
set_option maxHeartbeats 1000000
/-! isinstance, count, sorted on pairs -/
namespace Wd
open PySem L2 PyProof.Rows
section
variable {K : PySem.W.Frag} {H H' : Hp} {O O' : Addr → Prop} {X : Cx} {pos : Pos} {a e : Expr} {f fa fe : E → Option D}
/-! isinstance -/
inductive Ty where
  | b | i | s | t | l
def Ty.nm : Ty → String
  | .b => "bool" | .i => "int" | .s => "str" | .t => "tuple" | .l => "list"
def tyD : D → String
  | .non => "NoneType" | .bl _ => "bool" | .int _ => "int" | .str _ => "str" | .tup _ => "tuple" | .lst _ => "list" | .scr _ => "list" | .ntp _ => "tuple" | .fls _ => "list"
def isD : Ty → D → Bool
  | .b, .bl _ => true
  | .i, .bl _ => true
  | .i, .int _ => true
  | .s, .str _ => true
  | .t, .tup _ => true
  | .l, .lst _ => true
  | .l, .scr _ => true
  | .t, .ntp _ => true
  | .l, .fls _ => true
  | _, _ => false
theorem kit_all : ∀ (T : Ty) (d : D), kitB (tyD d) T.nm = some (isD T d) := by
  intro T d
  cases T <;> cases d <;> (simp only [tyD, Ty.nm, isD]; decide +kernel)
def isiV (T : Ty) (f : E → Option D) : E → Option D := fun env => match f env with
  | none => none
  | some (.scr _) => none
  | some (.ntp _) => none
  | some (.fls _) => none
  | some d => some (.bl (isD T d))
theorem ty_rep {d : D} {v : V} (h : rep K H O d v) (n : ∀ ns, d ≠ .scr ns) (n1 : ∀ ns, d ≠ .ntp ns) (n2 : ∀ ns, d ≠ .fls ns) : TyX K H v (.type (tyD d)) := by
  cases d with
  | non => cases rep_non h; exact .base .non
  | bl b => cases rep_bl h; exact .base (.bl b)
  | int b => cases rep_int h; exact .base (.int b)
  | str b => cases rep_str h; exact .base (.str b)
  | tup ds =>
    obtain ⟨a, xs, rfl, q, _⟩ := rep_tup h
    rcases q with (q | ⟨o, q⟩) | ⟨o, its, k, q1, q2, _⟩
    · exact .base (.tup q)
    · exact .fTuple q
    · exact .kTuple q1 q2
  | lst ds =>
    obtain ⟨a, xs, rfl, _, q, _⟩ := rep_lst h
    exact .base (.lst q)
  | scr ns => exact absurd rfl (n ns)
  | ntp ns => exact absurd rfl (n1 ns)
  | fls ns => exact absurd rfl (n2 ns)
theorem px_isi {x y : Str} {p p2 : Pos} (T : Ty) (hg : Gl X x) (hm : X.mg x = none) (hv : bootBuiltins x = some (.builtin "isinstance")) (hgT : Gl X y) (hmT : X.mg y = none) (hvT : bootBuiltins y = some (.type T.nm)) (ha : PX X a f)
    (hn : x ≠ "__name__" := by decide) (hdb : (x == ("__debug__" : Str)) = false := by decide) (hnT : y ≠ "__name__" := by decide) (hdT : (y == ("__debug__" : Str)) = false := by decide)
    (he : starEach [a, .Name y p2] X.env = (false, eval a X.env) :: starEach [.Name y p2] X.env := by rfl) (he2 : starEach [.Name y p2] X.env = (false, eval (.Name y p2) X.env) :: starEach [] X.env := by rfl)
    (hpl : (backTo pos (starEach [.Name y p2] X.env)).any (·.1) = false := by rfl) :
    PX X (.Call (.Name x p) [a, .Name y p2] [] pos) (isiV T f) := PE_imp (pe_callB call_isi hg hm hv (pa_cons ha (pa_cons (pe_bltn (v := .ty T.nm) hgT hmT hvT rfl hnT hdT) pa_nil he2) he) hn hdb he hpl) fun σ H Q ⟨O, env, d, re, h, q⟩ => by
  unfold isiV at h
  cases h1 : f env with
  | none => rw [h1] at h; cases h
  | some d' =>
    rw [h1] at h
    have n : ∀ ns, d' ≠ .scr ns := fun ns z => by rw [z] at h; cases h
    have n1 : ∀ ns, d' ≠ .ntp ns := fun ns z => by rw [z] at h; cases h
    have n2 : ∀ ns, d' ≠ .fls ns := fun ns z => by rw [z] at h; cases h
    have hd : d = .bl (isD T d') := by cases d' <;> simp_all
    subst hd
    exact ⟨O, env, d', re, h1, fun v H' x rv => ⟨v, .ty T.nm, _, _, _, rfl, .ty _, ty_rep rv n n1 n2, kit_ty (kit_all T d'), q _ H' x mk_bl⟩⟩
/-! count -/
def rCntB (K : PySem.W.Frag) : V → List V → Hp → VK → Prop := fun x xs H Q => ∃ (p : Addr) (ys : List V) (y : V), x = .ref p ∧ xs = [y] ∧ SqL K H p ys ∧ flatV y = true ∧ ys.all flatV = true ∧ Q (.int (ys.countP fun z => eqV z y : Nat)) H
theorem cnt_eqU {x : V} : ∀ {xs : List V} {us : List Value}, Vals xs us → xs.all flatV = true → us.countP (eqU x) = xs.countP fun y => eqV y x
  | _, _, .nil, _ => rfl
  | _, _, .cons (a := y) r t, h => by
    simp only [List.all_cons, Bool.and_eq_true] at h
    rw [List.countP_cons, List.countP_cons, cnt_eqU t h.2, eqU_of r h.1]
theorem mt_cntB : MtR X "list.count" (rCntB X.K) := by
  intro pins z σ H x xs v us Q I rx rxs h
  obtain ⟨p, ys, y, rfl, rfl, hs, fy, fys, q⟩ := h
  cases rx
  obtain ⟨u, rfl, ru⟩ := rxs.one
  obtain ⟨its, rv, ⟨⟨cls, dd, data, sl⟩, n, ho, hc, hdn, hd⟩, hlen⟩ := I.list hs
  cases (show cls = .type "list" from hc)
  cases (show data = .seq its.toArray n from hd)
  refine call_meets PySem.F.slot_list_count ⟨_, ho, rfl⟩ PySem.F.entry_list_count (PySem.F.args_list_count_2 _ _)
    (SeqAt.list_countAt p its.toArray n dd sl u (eqU y)) ⟨ho, fun w hw => mem_eqAt ru fy rv fys w (by simpa using hw), ?_⟩
  refine ⟨.int _, H, I.tok _, ⟨z.toks, ?_⟩, q⟩
  show Value.int ((its.toArray.toList.countP (eqU y) : Nat) : Int) z.toks = _
  rw [show its.toArray.toList = its by simp, cnt_eqU rv fys]
def cntD (x : D) : List D → Nat
  | [] => 0
  | d :: ds => if eqD d x = true then cntD x ds + 1 else cntD x ds
def cntV (fo fx : E → Option D) : E → Option D := fun env => match fo env with
  | some (.lst ds) => match fx env with
    | some x => if (flatD x && ds.all flatD) = true then some (.int (cntD x ds)) else none
    | none => none
  | _ => none
theorem cnt_rep {x : D} {vx : V} (hx : vx = toV x) (fx : flatD x = true) : ∀ {ds : List D} {xs : List V}, ds.all flatD = true → reps K H O ds xs → (xs.countP fun z => eqV z vx) = cntD x ds
  | [], xs, _, r => by unfold reps at r; subst r; rfl
  | d :: ds, xs, h, r => by
    unfold reps at r
    obtain ⟨v, rs, rfl, rv, r⟩ := r
    simp only [List.all_cons, Bool.and_eq_true] at h
    rw [List.countP_cons, cnt_rep hx fx h.2 r, (flat_rep h.1 rv).1, hx, eqV_flat h.1 fx]
    show _ = if eqD d x = true then cntD x ds + 1 else cntD x ds
    by_cases hq : eqD d x = true <;> simp [hq]
theorem px_count {o : Expr} {fo fx : E → Option D} {p2 p3 : Pos} (ho : PX X o fo) (he : PX X e fx)
    (hbase : attributeBase o "count" X.env (eval o X.env) = eval o X.env := by rfl)
    (hfew : ((backTo p3 (starEach [e] X.env)).all (fun x => !x.1) && (backToKw p3 (keywordEach [] X.env)).all (fun x => x.1.isSome)
      && decide ([e].length + ([] : List Keyword).length + (if ([] : List Keyword).isEmpty then 0 else 1) < 30)) = true := by rfl)
    (hline : (p2.endLine == p3.line) = true := by rfl) (hs1 : starEach [e] X.env = (false, eval e X.env) :: starEach [] X.env := by rfl) (hplain : (backTo p3 (starEach [] X.env)).any (·.1) = false := by rfl) :
    PX X (.Call (.Attribute o "count" p2) [e] [] p3) (cntV fo fx) := PE_imp (pe_bm PySem.F.plainAttrs_list PySem.F.slot_list_count PySem.F.type_list_count mt_cntB ho (pxs_cons he pxs_nil hs1) hbase hfew hline hs1 hplain) fun σ H Q ⟨O, env, d, re, h, q⟩ => by
  unfold cntV at h
  split at h
  · rename_i ds h1
    split at h
    · rename_i x h2
      split at h
      · rename_i hf
        cases h
        rw [Bool.and_eq_true] at hf
        refine ⟨O, env, _, re, h1, fun v H1 x1 r1 => ?_⟩
        obtain ⟨p, xs, rfl, n, hp, rr⟩ := rep_lst r1
        refine ⟨.inl ⟨rfl, xs, .of hp⟩, O, env, [x], re.ext x1, by unfold cons2; rw [h2], fun vs H2 x2 r2 => ?_⟩
        obtain ⟨w, rfl, rw'⟩ := reps1 r2
        have g := flat_rep hf.1 rw'
        have rr2 := reps_ext x2 rr
        refine ⟨p, xs, w, rfl, rfl, .of (x2 _ _ hp), g.2, (any_flat g.1 hf.1 hf.2 rr2).1, ?_⟩
        rw [cnt_rep g.1 hf.1 hf.2 rr2]
        exact q _ H2 (x1.trans x2) mk_int
      · cases h
    · cases h
  · cases h
/-! sorted on pairs -/
def pairD (p : Int × Int) : D := .tup [.int p.1, .int p.2]
def okI (i : Int) : Bool := decide (0 ≤ i) && decide (i < 64)
def pairsOf : List D → Option (List (Int × Int))
  | [] => some []
  | .tup [.int a, .int b] :: r => if (okI a && okI b) = true then (match pairsOf r with
    | none => none
    | some ps => some ((a, b) :: ps)) else none
  | _ => none
def cdP (p : Int × Int) : Int := p.1 * 64 + p.2
def okP (p : Int × Int) : Prop := (0 ≤ p.1 ∧ p.1 < 64) ∧ (0 ≤ p.2 ∧ p.2 < 64)
theorem pairsOf_ok : ∀ {ds : List D} {ps : List (Int × Int)}, pairsOf ds = some ps → ds = ps.map pairD ∧ ∀ p ∈ ps, okP p
  | [], ps, h => by cases h; exact ⟨rfl, fun p hp => by cases hp⟩
  | d :: r, ps, h => by
    unfold pairsOf at h
    split at h
    · cases h; contradiction
    · rename_i a b r' e
      cases e
      split at h
      · rename_i hb
        cases h2 : pairsOf r with
        | none => rw [h2] at h; cases h
        | some qs =>
          rw [h2] at h
          cases h
          obtain ⟨e1, e2⟩ := pairsOf_ok h2
          simp only [okI, Bool.and_eq_true, decide_eq_true_eq] at hb
          refine ⟨by rw [e1]; rfl, fun p hp => ?_⟩
          rcases List.mem_cons.mp hp with rfl | hp
          · exact hb
          · exact e2 p hp
      · cases h
    · cases h
theorem cdP_inj {p q : Int × Int} (hp : okP p) (hq : okP q) (h : cdP p = cdP q) : p = q := by
  unfold cdP at h
  obtain ⟨⟨a1, a2⟩, b1, b2⟩ := hp
  obtain ⟨⟨c1, c2⟩, d1, d2⟩ := hq
  have e1 : p.1 = q.1 := by omega
  have e2 : p.2 = q.2 := by omega
  exact Prod.ext e1 e2
def insP (p : Int × Int) : List (Int × Int) → List (Int × Int)
  | [] => [p]
  | q :: r => if cdP p ≤ cdP q then p :: q :: r else q :: insP p r
def sortP : List (Int × Int) → List (Int × Int)
  | [] => []
  | p :: r => insP p (sortP r)
theorem insP_cd (p : Int × Int) : ∀ l, (insP p l).map cdP = insI (cdP p) (l.map cdP)
  | [] => rfl
  | q :: r => by
    unfold insP
    simp only [List.map_cons, insI]
    split
    · rfl
    · rw [List.map_cons, insP_cd p r]
theorem sortP_cd : ∀ l, (sortP l).map cdP = sortI (l.map cdP)
  | [] => rfl
  | p :: r => by
    unfold sortP
    rw [insP_cd, sortP_cd r]
    rfl
theorem insP_perm (p : Int × Int) : ∀ l, (insP p l).Perm (p :: l)
  | [] => .refl _
  | q :: r => by
    unfold insP
    split
    · exact .refl _
    · exact ((insP_perm p r).cons q).trans (.swap p q r)
theorem sortP_perm : ∀ l, (sortP l).Perm l
  | [] => .refl _
  | p :: r => (insP_perm p (sortP r)).trans ((sortP_perm r).cons p)
theorem map_cd_inj : ∀ {l m : List (Int × Int)}, (∀ p ∈ l, okP p) → (∀ p ∈ m, okP p) → l.map cdP = m.map cdP → l = m
  | [], [], _, _, _ => rfl
  | [], _ :: _, _, _, h => by cases h
  | _ :: _, [], _, _, h => by cases h
  | p :: l, q :: m, hl, hm, h => by
    simp only [List.map_cons, List.cons.injEq] at h
    rw [cdP_inj (hl p List.mem_cons_self) (hm q List.mem_cons_self) h.1, map_cd_inj (fun x hx => hl x (List.mem_cons_of_mem _ hx)) (fun x hx => hm x (List.mem_cons_of_mem _ hx)) h.2]
theorem sortP_uniq {l m : List (Int × Int)} (p : l.Perm m) (hm : ∀ p ∈ m, okP p) (hs : l.Pairwise fun x y => cdP x ≤ cdP y) : l = sortP m := by
  refine map_cd_inj (fun x hx => hm x (p.mem_iff.mp hx)) (fun x hx => hm x ((sortP_perm m).mem_iff.mp hx)) ?_
  rw [sortP_cd]
  exact sorted_uniq ((p.map cdP).trans (sortI_perm _).symm) (List.pairwise_map.mpr hs) (sortI_sorted _)
theorem reps_perm {xs ys : List V} (p : ys.Perm xs) : ∀ {ds : List D}, reps K H O ds xs → ∃ es, es.Perm ds ∧ reps K H O es ys := by
  induction p with
  | nil => intro ds r; exact ⟨ds, .refl _, r⟩
  | cons x p ih =>
    intro ds r
    cases ds with
    | nil => unfold reps at r; cases r
    | cons d ds =>
      unfold reps at r
      obtain ⟨y, rs, e, rx, r⟩ := r
      cases e
      obtain ⟨es, h1, h2⟩ := ih r
      exact ⟨d :: es, h1.cons d, reps_cons rx h2⟩
  | swap x y l =>
    intro ds r
    cases ds with
    | nil => unfold reps at r; cases r
    | cons d ds =>
      unfold reps at r
      obtain ⟨z, rs, e, rx, r⟩ := r
      cases e
      cases ds with
      | nil => unfold reps at r; cases r
      | cons d' ds =>
        unfold reps at r
        obtain ⟨z, rs, e, ry, r⟩ := r
        cases e
        exact ⟨d' :: d :: ds, .swap _ _ _, reps_cons ry (reps_cons rx r)⟩
  | trans p1 p2 ih1 ih2 =>
    intro ds r
    obtain ⟨es, h1, h2⟩ := ih2 r
    obtain ⟨es', h3, h4⟩ := ih1 h2
    exact ⟨es', h3.trans h1, h4⟩
theorem pair_tup {p : Int × Int} {v : V} (h : rep K H O (pairD p) v) : TupI K H v [p.1, p.2] := by
  obtain ⟨a, xs, rfl, q, r⟩ := rep_tup h
  refine ⟨a, rfl, ?_⟩
  obtain ⟨x, y, rfl, rx, ry⟩ := reps2 r
  cases rep_int rx
  cases rep_int ry
  exact q
theorem tup_pair {p : Int × Int} {v : V} (h : TupI K H v [p.1, p.2]) : rep K H O (pairD p) v := by
  obtain ⟨a, rfl, q⟩ := h
  exact mk_tup q (reps_cons mk_int (reps_cons mk_int reps_nil))
theorem bd_pair {p : Int × Int} (h : okP p) : TS.Bd 64 [p.1, p.2] := fun m hm => by
  simp only [List.mem_cons, List.not_mem_nil, or_false] at hm
  rcases hm with rfl | rfl
  · exact h.1
  · exact h.2
def gSortP : List D → Option D
  | [.lst ds] => match pairsOf ds with
    | none => none
    | some ps => if ps.length < 64 then some (.lst ((sortP ps).map pairD)) else none
  | _ => none
theorem does_sortP : DoesL K (rSortU K 2 64) gSortP := by
  intro H O xs dxs d Q r e hO q
  unfold gSortP at e
  split at e
  · rename_i ds
    obtain ⟨x, rfl, hx⟩ := reps1 r
    obtain ⟨a, ys, rfl, _, ha, ra⟩ := rep_lst hx
    split at e
    · cases e
    · rename_i ps hps
      split at e
      · rename_i hl
        cases e
        obtain ⟨e1, ok⟩ := pairsOf_ok hps
        subst e1
        have ly := reps_len ra
        rw [List.length_map] at ly
        refine ⟨a, ys, rfl, .of ha, by omega, fun x hx => ?_, fun zs p hp hs hn => ?_⟩
        · obtain ⟨i, hi⟩ := List.getElem?_of_mem hx
          obtain ⟨d, h1, h2⟩ := reps_get' ra hi
          rw [List.getElem?_map] at h1
          cases h3 : ps[i]? with
          | none => rw [h3] at h1; cases h1
          | some p =>
            rw [h3] at h1
            cases h1
            exact ⟨[p.1, p.2], pair_tup h2, rfl, bd_pair (ok p (List.mem_of_getElem? h3))⟩
        · obtain ⟨es, pe, re⟩ := reps_perm hp ra
          obtain ⟨qs, eq, pq⟩ : ∃ qs : List (Int × Int), es = qs.map pairD ∧ qs.Perm ps := by
            have : ∀ e ∈ es, ∃ p, e = pairD p := fun e he => by
              obtain ⟨p, _, h⟩ := List.mem_map.mp (pe.mem_iff.mp he)
              exact ⟨p, h.symm⟩
            have hq : ∀ es : List D, (∀ e ∈ es, ∃ p, e = pairD p) → ∃ qs : List (Int × Int), es = qs.map pairD := fun es => by
              induction es with
              | nil => exact fun _ => ⟨[], rfl⟩
              | cons e es ih =>
                intro h
                obtain ⟨p, rfl⟩ := h e List.mem_cons_self
                obtain ⟨qs, rfl⟩ := ih fun x hx => h x (List.mem_cons_of_mem _ hx)
                exact ⟨p :: qs, rfl⟩
            obtain ⟨qs, rfl⟩ := hq es this
            have inj : ∀ l : List (Int × Int), (l.map pairD).map (fun d => match d with | .tup [.int a, .int b] => (a, b) | _ => (0, 0)) = l := fun l => by
              induction l with
              | nil => rfl
              | cons p l ih => simp only [List.map_cons, ih]; rfl
            refine ⟨qs, rfl, ?_⟩
            have := pe.map (fun d => match d with | .tup [.int a, .int b] => (a, b) | _ => ((0 : Int), (0 : Int)))
            rwa [inj, inj] at this
          subst eq
          have hs' : qs.Pairwise fun x y => cdP x ≤ cdP y := by
            have g : ∀ {qs : List (Int × Int)} {zs : List V}, reps K H O (qs.map pairD) zs → zs.Pairwise (fun x y => ∀ n m, TupI K H x n → TupI K H y m → TS.code 64 n ≤ TS.code 64 m) → qs.Pairwise fun x y => cdP x ≤ cdP y := fun {qs} => by
              induction qs with
              | nil => exact fun _ _ => .nil
              | cons p qs ih =>
                intro zs r h
                rw [List.map_cons] at r
                unfold reps at r
                obtain ⟨z, rs, rfl, rz, r⟩ := r
                rw [List.pairwise_cons] at h
                refine .cons (fun p' hp' => ?_) (ih r h.2)
                obtain ⟨i, hi⟩ := List.getElem?_of_mem hp'
                obtain ⟨w, hw, rw'⟩ := reps_get r (show (qs.map pairD)[i]? = some (pairD p') by rw [List.getElem?_map, hi]; rfl)
                have := h.1 w (List.mem_of_getElem? hw) _ _ (pair_tup rz) (pair_tup rw')
                rw [code_pair, code_pair] at this
                exact this
            exact g re hs
          have := sortP_uniq pq ok hs'
          subst this
          exact q _ _ (.upd hn) (new_lst hn hO re)
      · cases e
  · cases e
end
end Wd
set_option maxRecDepth 100000
set_option maxHeartbeats 1000000
/-! sorted(set(..)) on pairs -/
namespace Wd
open PySem L2 PyProof.Rows
def insU (p : Int × Int) : List (Int × Int) → List (Int × Int)
  | [] => [p]
  | q :: r => if cdP p < cdP q then p :: q :: r else if cdP p = cdP q then q :: r else q :: insU p r
def sortU : List (Int × Int) → List (Int × Int)
  | [] => []
  | p :: r => insU p (sortU r)
abbrev Asc (l : List (Int × Int)) : Prop := l.Pairwise fun x y => cdP x < cdP y
theorem insU_mem (p : Int × Int) : ∀ {l}, okP p → (∀ q ∈ l, okP q) → ∀ x, x ∈ insU p l ↔ x = p ∨ x ∈ l
  | [], _, _, x => by simp [insU]
  | q :: r, hp, hl, x => by
    unfold insU
    split
    · simp
    · split
      · rename_i h
        have e := cdP_inj hp (hl q List.mem_cons_self) h
        subst e
        simp
      · rw [List.mem_cons, insU_mem p hp (fun y hy => hl y (List.mem_cons_of_mem _ hy)), List.mem_cons]
        exact ⟨fun h => h.elim (fun h => .inr (.inl h)) fun h => h.elim .inl fun h => .inr (.inr h), fun h => h.elim (fun h => .inr (.inl h)) fun h => h.elim .inl fun h => .inr (.inr h)⟩
theorem insU_asc (p : Int × Int) : ∀ {l}, Asc l → Asc (insU p l) ∧ ∀ x ∈ insU p l, cdP x = cdP p ∨ x ∈ l
  | [], _ => by simp [insU, Asc]
  | q :: r, h => by
    have h' := List.pairwise_cons.mp h
    unfold insU
    split
    · rename_i hlt
      refine ⟨.cons (fun y hy => ?_) h, fun x hx => (List.mem_cons.mp hx).imp (fun e => by rw [e]) id⟩
      rcases List.mem_cons.mp hy with rfl | hy
      · exact hlt
      · exact Int.lt_trans hlt (h'.1 y hy)
    · split
      · exact ⟨h, fun x hx => .inr hx⟩
      · rename_i h1 h2
        obtain ⟨a, b⟩ := insU_asc p h'.2
        refine ⟨.cons (fun y hy => ?_) a, fun x hx => ?_⟩
        · rcases b y hy with e | e
          · rw [e]; omega
          · exact h'.1 y e
        · rcases List.mem_cons.mp hx with rfl | hx
          · exact .inr List.mem_cons_self
          · exact (b x hx).imp id (List.mem_cons_of_mem _)
theorem sortU_mem : ∀ {l}, (∀ q ∈ l, okP q) → ∀ x, x ∈ sortU l ↔ x ∈ l
  | [], _, x => by simp [sortU]
  | q :: r, hl, x => by
    have hr := fun y hy => hl y (List.mem_cons_of_mem _ hy)
    unfold sortU
    rw [insU_mem q (hl q List.mem_cons_self) (fun y hy => hr y ((sortU_mem hr y).mp hy)), sortU_mem hr, List.mem_cons]
theorem sortU_asc : ∀ l, Asc (sortU l)
  | [] => .nil
  | q :: r => (insU_asc q (sortU_asc r)).1
theorem asc_uniq : ∀ {l m : List (Int × Int)}, Asc l → Asc m → (∀ x, x ∈ l ↔ x ∈ m) → l = m
  | [], [], _, _, _ => rfl
  | [], q :: m, _, _, h => by have := (h q).mpr List.mem_cons_self; cases this
  | p :: l, [], _, _, h => by have := (h p).mp List.mem_cons_self; cases this
  | p :: l, q :: m, hl, hm, h => by
    have a := List.pairwise_cons.mp hl
    have b := List.pairwise_cons.mp hm
    have e : p = q := by
      rcases List.mem_cons.mp ((h p).mp List.mem_cons_self) with e | h1
      · exact e
      · rcases List.mem_cons.mp ((h q).mpr List.mem_cons_self) with e | h2
        · exact e.symm
        · have := a.1 q h2
          have := b.1 p h1
          omega
    subst e
    have irr : ∀ x ∈ l, x ≠ p := fun x hx e => by have := a.1 x hx; rw [e] at this; omega
    have irr' : ∀ x ∈ m, x ≠ p := fun x hx e => by have := b.1 x hx; rw [e] at this; omega
    rw [asc_uniq a.2 b.2 fun x => ⟨fun hx => (List.mem_cons.mp ((h x).mp (List.mem_cons_of_mem _ hx))).resolve_left (irr x hx), fun hx => (List.mem_cons.mp ((h x).mpr (List.mem_cons_of_mem _ hx))).resolve_left (irr' x hx)⟩]
section
variable {K : PySem.W.Frag} {H H' : Hp} {O O' : Addr → Prop} {X : Cx} {pos : Pos} {e : Expr} {f : E → Option D}
def two (p : Int × Int) : List Int := [p.1, p.2]
theorem two_inj {p q : Int × Int} (h : two p = two q) : p = q := by
  simp only [two, List.cons.injEq, and_true] at h
  exact Prod.ext h.1 h.2
theorem keys_of : ∀ {ps : List (Int × Int)} {xs : List V}, reps K H O (ps.map pairD) xs → ∃ ks : List (Addr × List Int), ks.map (fun p => V.ref p.1) = xs ∧ ks.map (·.2) = ps.map two ∧ ∀ p ∈ ks, SqT K H p.1 (p.2.map V.int)
  | [], xs, r => by unfold reps at r; exact ⟨[], r.symm, rfl, fun p hp => by cases hp⟩
  | p :: ps, xs, r => by
    rw [List.map_cons] at r
    unfold reps at r
    obtain ⟨x, rs, rfl, rx, r⟩ := r
    obtain ⟨a, rfl, q⟩ := pair_tup rx
    obtain ⟨ks, h1, h2, h3⟩ := keys_of r
    refine ⟨(a, two p) :: ks, by rw [List.map_cons, h1], by rw [List.map_cons, List.map_cons, h2], fun k hk => ?_⟩
    rcases List.mem_cons.mp hk with rfl | hk
    · exact q
    · exact h3 k hk
theorem pairs_of {ps : List (Int × Int)} : ∀ {L : List (Addr × List Int)}, (∀ p ∈ L, p.2 ∈ ps.map two ∧ SqT K H p.1 (p.2.map V.int)) → ∃ qs : List (Int × Int), L.map (·.2) = qs.map two ∧ (∀ q ∈ qs, q ∈ ps) ∧ reps K H O (qs.map pairD) (L.map fun p => V.ref p.1)
  | [], _ => ⟨[], rfl, fun q hq => (by cases hq), reps_nil⟩
  | p :: L, h => by
    obtain ⟨h1, h2⟩ := h p List.mem_cons_self
    obtain ⟨q, hq, eq⟩ := List.mem_map.mp h1
    obtain ⟨qs, g1, g2, g3⟩ := pairs_of (L := L) fun x hx => h x (List.mem_cons_of_mem _ hx)
    refine ⟨q :: qs, by rw [List.map_cons, List.map_cons, g1, eq], fun x hx => ?_, reps_cons (tup_pair ⟨p.1, rfl, ?_⟩) g3⟩
    · rcases List.mem_cons.mp hx with rfl | hx
      · exact hq
      · exact g2 x hx
    · have : [q.1, q.2] = p.2 := eq
      rw [this]
      exact h2
def ssetV (f : E → Option D) : E → Option D := fun env => match f env with
  | some (.lst ds) => match pairsOf ds with
    | none => none
    | some ps => if ps.length < 64 then some (.lst ((sortU ps).map pairD)) else none
  | _ => none
theorem px_sset {x y : Str} {p p2 pos2 : Pos} (hc : X.calm = true) (hu : X.A.units + 64 < cLine) (hg : Gl X x) (hm : X.mg x = none) (hv : bootBuiltins x = some (.builtin "sorted")) (hg2 : Gl X y) (hm2 : X.mg y = none) (hv2 : bootBuiltins y = some (.type "set")) (he : PX X e f)
    (hn : x ≠ "__name__" := by decide) (hdb : (x == ("__debug__" : Str)) = false := by decide) (hn2 : y ≠ "__name__" := by decide) (hdb2 : (y == ("__debug__" : Str)) = false := by decide)
    (hs2 : starEach [e] X.env = (false, eval e X.env) :: starEach [] X.env := by rfl) (hpl2 : (backTo pos2 (starEach [] X.env)).any (·.1) = false := by rfl)
    (hs : starEach [.Call (.Name y p2) [e] [] pos2] X.env = (false, eval (.Call (.Name y p2) [e] [] pos2) X.env) :: starEach [] X.env := by rfl) (hpl : (backTo pos (starEach [] X.env)).any (·.1) = false := by rfl) :
    PX X (.Call (.Name x p) [.Call (.Name y p2) [e] [] pos2] [] pos) (ssetV f) :=
  PE_imp (pe_callB (cr_sortedT hc) hg hm hv (pa_cons (pe_callTy (cr_setOfT hc hu) hg2 hm2 hv2 (pxs_cons he pxs_nil hs2) hn2 hdb2 hs2 hpl2) pa_nil hs) hn hdb hs hpl) fun σ H Q ⟨O, env, d, re, h, q⟩ => by
  unfold ssetV at h
  split at h
  · rename_i ds h1
    split at h
    · cases h
    · rename_i ps hps
      split at h
      · rename_i hl
        cases h
        obtain ⟨e1, ok⟩ := pairsOf_ok hps
        subst e1
        refine ⟨O, env, [.lst (ps.map pairD)], re, by unfold cons2; rw [h1], fun vs H1 x1 r1 => ?_⟩
        obtain ⟨v, rfl, rv⟩ := reps1 r1
        obtain ⟨a, xs, rfl, n, ha, ra⟩ := rep_lst rv
        obtain ⟨ks, k1, k2, k3⟩ := keys_of ra
        have lk : ks.length = ps.length := by simpa using congrArg List.length k2
        refine ⟨a, ks, rfl, .of (by rw [ha, k1]), k3, by omega, fun b L hb sub all => ?_⟩
        have xb : Ext H1 (upd H1 b (SetTO X.prog X.w b L)) := .upd hb
        have sq : ∀ p ∈ L, SqT X.K (upd H1 b (SetTO X.prog X.w b L)) p.1 (p.2.map V.int) := fun p hp => (k3 p (sub p hp)).imp (fun z => xb.rd z) id
        have mem : ∀ p ∈ L, p.2 ∈ ps.map two := fun p hp => by rw [← k2]; exact List.mem_map.mpr ⟨p, sub p hp, rfl⟩
        refine ⟨b, L, 2, 64, rfl, upd_same, sq, by decide, fun p hp => ?_, fun L' p pm nd _ srt hpn => ?_⟩
        · obtain ⟨q, hq, eq⟩ := List.mem_map.mp (mem p hp)
          rw [← eq]
          exact ⟨rfl, bd_pair (ok q hq)⟩
        · obtain ⟨qs, g1, g2, g3⟩ := pairs_of (ps := ps) (O := O) (K := X.K) (H := upd H1 b (SetTO X.prog X.w b L)) (L := L') fun p hp => ⟨mem p (pm.mem_iff.mp hp), sq p (pm.mem_iff.mp hp)⟩
          have asc : Asc qs := by
            have s1 : (L'.map (·.2)).Pairwise (fun m n => TS.code 64 m ≤ TS.code 64 n) := List.pairwise_map.mpr srt
            rw [g1] at s1 nd
            have s2 := List.pairwise_map.mp s1
            have nd2 := List.pairwise_map.mp nd
            refine (s2.and nd2).imp_of_mem fun {x y} hx hy ⟨u, w⟩ => ?_
            have u' : cdP x ≤ cdP y := by
              have := u
              unfold two at this
              rw [code_pair, code_pair] at this
              exact this
            rcases Int.lt_or_eq_of_le u' with e | e
            · exact e
            refine absurd ?_ w
            rw [cdP_inj (ok x (g2 x hx)) (ok y (g2 y hy)) e]
          have eq : qs = sortU ps := asc_uniq asc (sortU_asc ps) fun x => by
            rw [sortU_mem ok]
            refine ⟨g2 x, fun hx => ?_⟩
            have h2 : two x ∈ ks.map (·.2) := by rw [k2]; exact List.mem_map.mpr ⟨x, hx, rfl⟩
            obtain ⟨k, hk, ek⟩ := List.mem_map.mp h2
            have h3 := all k hk
            rw [ek] at h3
            have h4 : two x ∈ L'.map (·.2) := (pm.map _).mem_iff.mpr h3
            rw [g1] at h4
            obtain ⟨z, hz, ez⟩ := List.mem_map.mp h4
            rw [← two_inj ez]
            exact hz
          subst eq
          have dm : ∀ c, O c → (upd H1 b (SetTO X.prog X.w b L)) c ≠ none := xb.dom (re.ext x1).dom
          exact q _ _ (x1.trans (xb.trans (.upd hpn))) (new_lst hpn dm g3)
      · cases h
  · cases h
end
end Wd
set_option maxRecDepth 100000
set_option maxHeartbeats 1000000
/-! sorted(xs, key=f), f a def -/
namespace Wd
open PySem L2 PyProof.Rows PySem.W
/-- the keys -/
def keysD (g : List D → Option D) : List D → Option (List (D × Int))
  | [] => some []
  | d :: r => match g [d] with
    | some (.int k) => match keysD g r with
      | some ks => some ((d, k) :: ks)
      | none => none
    | _ => none
theorem keysD_ok {g : List D → Option D} : ∀ {ds : List D} {ks : List (D × Int)}, keysD g ds = some ks → ds = ks.map (·.1) ∧ ∀ p ∈ ks, g [p.1] = some (.int p.2)
  | [], ks, h => by cases h; exact ⟨rfl, fun p hp => by cases hp⟩
  | d :: r, ks, h => by
    unfold keysD at h
    split at h
    · rename_i k hk
      split at h
      · rename_i ks' h'
        cases h
        obtain ⟨e1, e2⟩ := keysD_ok h'
        refine ⟨by rw [List.map_cons, ← e1], fun p hp => ?_⟩
        rcases List.mem_cons.mp hp with rfl | hp
        · exact hk
        · exact e2 p hp
      · cases h
    · cases h
def insK (p : D × Int) : List (D × Int) → List (D × Int)
  | [] => [p]
  | q :: r => if p.2 ≤ q.2 then p :: q :: r else q :: insK p r
def sortK : List (D × Int) → List (D × Int)
  | [] => []
  | p :: r => insK p (sortK r)
theorem insK_perm (p : D × Int) : ∀ l, (insK p l).Perm (p :: l)
  | [] => .refl _
  | q :: r => by
    unfold insK
    split
    · exact .refl _
    · exact ((insK_perm p r).cons q).trans (.swap p q r)
theorem sortK_perm : ∀ l, (sortK l).Perm l
  | [] => .refl _
  | p :: r => (insK_perm p (sortK r)).trans ((sortK_perm r).cons p)
theorem insK_le (p : D × Int) : ∀ {l : List (D × Int)}, l.Pairwise (fun a b => a.2 ≤ b.2) → (insK p l).Pairwise fun a b => a.2 ≤ b.2
  | [], _ => by simp [insK]
  | q :: r, h => by
    have h' := List.pairwise_cons.mp h
    unfold insK
    split
    · rename_i hlt
      refine .cons (fun y hy => ?_) h
      rcases List.mem_cons.mp hy with rfl | hy
      · exact hlt
      · exact Int.le_trans hlt (h'.1 y hy)
    · refine .cons (fun y hy => ?_) (insK_le p h'.2)
      rcases List.mem_cons.mp ((insK_perm p r).mem_iff.mp hy) with rfl | hy
      · omega
      · exact h'.1 y hy
theorem sortK_le : ∀ l : List (D × Int), (sortK l).Pairwise fun a b => a.2 ≤ b.2
  | [] => .nil
  | p :: r => insK_le p (sortK_le r)
theorem keyed_uniq : ∀ {l m : List (D × Int)}, l.Perm m → (l.map (·.2)).Nodup → l.Pairwise (fun a b => a.2 ≤ b.2) → m.Pairwise (fun a b => a.2 ≤ b.2) → l = m
  | [], m, p, _, _, _ => by rw [List.nil_perm.mp p]
  | x :: l, [], p, _, _, _ => absurd p.length_eq (by simp)
  | x :: l, y :: m, p, nd, a1, a2 => by
    rw [List.pairwise_cons] at a1 a2
    rw [List.map_cons, List.nodup_cons] at nd
    have hx := p.mem_iff.mp (List.mem_cons_self (a := x) (l := l))
    have hy := p.mem_iff.mpr (List.mem_cons_self (a := y) (l := m))
    have e : x = y := by
      rcases List.mem_cons.mp hx with e | hx
      · exact e
      · rcases List.mem_cons.mp hy with e | hy
        · exact e.symm
        · have e2 : x.2 = y.2 := Int.le_antisymm (a1.1 y hy) (a2.1 x hx)
          exact absurd (List.mem_map.mpr ⟨y, hy, e2.symm⟩) nd.1
    subst e
    rw [keyed_uniq (List.Perm.cons_inv p) nd.2 a1.2 a2.2]
def dis : List Int → Bool
  | [] => true
  | k :: r => !r.contains k && dis r
theorem dis_nd : ∀ {l : List Int}, dis l = true → l.Nodup
  | [], _ => .nil
  | k :: r, h => by
    unfold dis at h
    simp only [Bool.and_eq_true, Bool.not_eq_true', List.contains_eq_mem, decide_eq_false_iff_not] at h
    exact List.nodup_cons.mpr ⟨h.1, dis_nd h.2⟩
def skeyV (g : List D → Option D) (f : E → Option D) : E → Option D := fun env => match f env with
  | some (.lst ds) => match keysD g ds with
    | some ks => if (dis (ks.map (·.2)) && decide (ks.length ≤ LIM)) = true then some (.lst ((sortK ks).map (·.1))) else none
    | none => none
  | _ => none
section
variable {X : Cx} {k : Nat} {f : Addr} {fd : FuncData} {y0 : Str} {g : List D → Option D}
theorem ints_each {h : Heap} : ∀ {vs : List Value} {ns : List Int}, IntsAre vs ns → EachIs (fun v d => ∃ as, Reads h v d as) vs (ns.map PyData.int)
  | _, _, .nil => .nil
  | _, _, .cons n t r => .cons ⟨[], .int n t⟩ (ints_each r)
theorem ints_snoc {n : Int} {t : Tok} : ∀ {vs : List Value} {ns : List Int}, IntsAre vs ns → IntsAre (vs ++ [.int n t]) (ns ++ [n])
  | _, _, .nil => .cons n t .nil
  | _, _, .cons n' t' h => .cons n' t' (ints_snoc h)
theorem ints_len : ∀ {vs : List Value} {ns : List Int}, IntsAre vs ns → vs.length = ns.length
  | _, _, .nil => rfl
  | _, _, .cons _ _ h => congrArg Nat.succ (ints_len h)
def Val1 (K : PySem.W.Frag) (H : Hp) (O : Addr → Prop) (u : Value) (p : D × Int) : Prop := ∃ x, RelV x u ∧ rep K H O p.1 x
theorem each_of {K : PySem.W.Frag} {H : Hp} {O : Addr → Prop} : ∀ {ks : List (D × Int)} {xs : List V} {us : List Value}, Vals xs us → reps K H O (ks.map (·.1)) xs → EachIs (Val1 K H O) us ks
  | [], _, _, .nil, _ => .nil
  | [], _, _, .cons _ _, h => by unfold reps at h; cases h
  | p :: ks, _, _, .nil, h => by rw [List.map_cons] at h; unfold reps at h; obtain ⟨_, _, e, _⟩ := h; cases e
  | p :: ks, _, _, .cons r t, h => by
    rw [List.map_cons] at h
    unfold reps at h
    obtain ⟨x, xs, e, rx, h⟩ := h
    cases e
    exact .cons ⟨_, r, rx⟩ (each_of t h)
theorem of_each {K : PySem.W.Frag} {H : Hp} {O : Addr → Prop} : ∀ {ks : List (D × Int)} {us : List Value}, EachIs (Val1 K H O) us ks → ∃ xs, Vals xs us ∧ reps K H O (ks.map (·.1)) xs
  | [], _, .nil => ⟨[], .nil, reps_nil⟩
  | p :: ks, _, .cons ⟨x, r, rx⟩ t => by
    obtain ⟨xs, h1, h2⟩ := of_each t
    exact ⟨x :: xs, .cons r h1, reps_cons rx h2⟩
structure KJ (X : Cx) (pins : List (Addr × Obj)) (σ : L2.St) (H : Hp) (kS a0 : Addr) (e1 : Nat) (ns : List Int) (z : Shared) : Prop where
  go : ∃ H' kA e, Inv X pins σ H' z ∧ Ext H H' ∧ z.heap.get? kS = some (seqObj "list" kA e) ∧ H' kS = none ∧ z.heap.get? a0 = some (seqObj "list" #[] e1) ∧ H' a0 = none ∧ IntsAre kA.toList ns
theorem key_turn {pins : List (Addr × Obj)} {σ : L2.St} {H : Hp} {O : Addr → Prop} {z : Shared} {kS a0 : Addr} {e1 : Nat} {ns : List Int} {u : Value} {d : D} {n : Int} {A2 : Around} {E : Value → Shared → Prop}
    (F : FnF X.prog X.w X.K X.mg X.base k f fd [y0] g) (hb : Binds X.K fd [y0] []) (hA : A2.frames = some X.stack) (hr : Room k A2) (hne : kS ≠ a0) (fk : ∀ H', H' kS = none → FpOk X pins H' kS) (fa : ∀ H', H' a0 = none → FpOk X pins H' a0) (hdom : ∀ b, O b → H b ≠ none)
    (hlim : ns.length < LIM) (hu : Val1 X.K H O u (d, n)) (hg : g [d] = some (.int n)) (J : KJ X pins σ H kS a0 e1 ns z) :
    wpAny (model X.prog X.w) A2 (call (.ref f) [u]) (fun v z' => wpAny (model X.prog X.w) A2 (Builtin.List.listUpdate (.ref kS) (·.push v)) (fun _ z2 => KJ X pins σ H kS a0 e1 (ns ++ [n]) z2) E z') (fun _ _ => False) z := by
  obtain ⟨H', kA, e, I, x, hk, nk, ha, na, hi⟩ := J.go
  obtain ⟨vx, rv, rx⟩ := hu
  have e0 := I.env0
  have env : Env0 X.prog X.w X.K X.mg X.base A2 X.stack z H' := ⟨hA, e0.mod, e0.bs, e0.bsz, e0.funs, e0.frf, e0.hok, e0.bare⟩
  have hbt := hb z [u] I.kIn rfl
  rw [List.append_nil] at hbt
  have nfs : ∀ b, FpOk X pins H' b → b ∉ frs X.stack := fun b q m => by
    rcases List.mem_cons.mp (I.stkSub b m) with w | w
    · exact q.2.1 w
    · exact q.2.2.1 w
  refine wpAny_call (codeAny_mono (F.run A2 X.stack z H' ⟨[u], []⟩ [u] [vx] (fun v H'' => v = .int n ∧ Ext H' H'') E0 hr env hbt (.cons rv .nil) ⟨rfl, O, [d], .int n, x.dom hdom, reps_cons (rep_ext x rx) reps_nil, hg, fun v H'' x2 r2 => ⟨rep_int r2, x2⟩⟩) fun r z' hq => ?_)
  cases r with
  | error e => exact hq.elim
  | ok fl =>
    cases fl with
    | next => exact False.elim hq
    | brk => exact False.elim hq
    | cont => exact False.elim hq
    | ret u' =>
      obtain ⟨v, H2, os, bare, un, hok, rr, ev, x2⟩ := hq
      subst ev
      obtain ⟨t, rfl⟩ := rr
      have I2 : Inv X pins σ H2 z' := I.call' (ch := []) os un hok bare fun b w => absurd w (by simp)
      have hk2 := un.keep kS _ hk nk (nfs kS (fk H' nk)) (by simp)
      have ha2 := un.keep a0 _ ha na (nfs a0 (fa H' na)) (by simp)
      have nk2 := un.free kS _ hk nk (by simp)
      have na2 := un.free a0 _ ha na (by simp)
      have sz : kA.size = ns.length := by
        have := ints_len hi
        rwa [Array.length_toList] at this
      have hz : kA.size + 1 ≤ sizeLine := by rw [sz]; exact lim_lt hlim
      obtain ⟨c2, hc2⟩ : ∃ c2, (z'.heap.update kS (Obj.mapSeq (·.push (.int n t)))).get? kS = some (seqObj "list" (kA.push (.int n t)) c2) := ⟨_, get?_update_seq hk2 (·.push (.int n t))⟩
      have sb := Heap.SameBut.update z'.heap kS (Obj.mapSeq (·.push (.int n t)))
      obtain ⟨f0, f1, f2, f3, f4, f5⟩ := fk H2 nk2
      refine listUpdate_at hk2 rfl ?_ (by omega) (by rw [Array.size_push]; omega)
      refine ⟨H2, kA.push (.int n t), c2, ?_, x.trans x2, hc2, nk2, (sb.2 a0 (Ne.symm hne)).trans ha2, na2, ?_⟩
      · have := I2.turned (t' := z'.toks) (h' := z'.heap.update kS (Obj.mapSeq (·.push (.int n t)))) (it := kS) (fun b o hb' q => (sb.2 b hb').trans q) f0 f1 f3 f4 f5
        exact this
      · rw [show (kA.push (.int n t)).toList = kA.toList ++ [.int n t] by simp]
        exact ints_snoc hi
theorem key_rest {pins : List (Addr × Obj)} {σ : L2.St} {H : Hp} {O : Addr → Prop} {z : Shared} {kS a0 : Addr} {e1 : Nat} {its : List Value} {ks : List (D × Int)} {A2 : Around} {E : Value → Shared → Prop} {Q : VK}
    (F : FnF X.prog X.w X.K X.mg X.base k f fd [y0] g) (hb : Binds X.K fd [y0] []) (hA : A2.frames = some X.stack) (hr : Room k A2) (hne : kS ≠ a0) (fk : ∀ H', H' kS = none → FpOk X pins H' kS) (fa : ∀ H', H' a0 = none → FpOk X pins H' a0) (hdom : ∀ b, O b → H b ≠ none) (hn0 : H a0 = none)
    (hlim : ks.length ≤ LIM) (hu : EachIs (Val1 X.K H O) its ks) (hg : ∀ p ∈ ks, g [p.1] = some (.int p.2)) (J : KJ X pins σ H kS a0 e1 [] z) (nd : (ks.map (·.2)).Nodup)
    (q : ∀ p H' ys, Ext H H' → H' p = some (.lst ys) → H p = none → reps X.K H' O ((sortK ks).map (·.1)) ys → Q (.ref p) H') :
    wpAny (model X.prog X.w) A2 (ksk_rest a0 (.ref f) false its.toArray e1 (.ref kS)) (fun fin s' => fin = .done (.ret .none) ∧ EP X pins σ Q (.ref a0) s') E z := by
  have hl : its.length = ks.length := hu.length
  unfold ksk_rest
  refine wpAny_bind (wpAny_rule ?_)
  rw [List.forIn_toArray]
  refine wpAny_bind (ksk_fold (fun i z' => KJ X pins σ H kS a0 e1 ((ks.map (·.2)).take i) z') its 0 z (by rw [List.take_zero]; exact J) (fun j x z' hx Jj => ?_) fun z' Jd => ?_)
  · rw [Nat.zero_add] at Jj
    have hj : j < ks.length := by rw [← hl]; exact (List.getElem?_eq_some_iff.mp hx).1
    have hz : (x, ks[j]) ∈ its.zip ks := List.mem_of_getElem? (i := j) (by rw [List.getElem?_zip_eq_some]; exact ⟨hx, List.getElem?_eq_getElem hj⟩)
    have et : (ks.map (·.2)).take (0 + j + 1) = (ks.map (·.2)).take j ++ [ks[j].2] := by
      rw [Nat.zero_add, List.take_add_one, List.getElem?_map, List.getElem?_eq_getElem hj]
      rfl
    rw [et]
    have tn := key_turn (E := E) F hb hA hr hne fk fa hdom (ns := (ks.map (·.2)).take j) (by rw [List.length_take, List.length_map]; omega) (d := ks[j].1) (n := ks[j].2) (hu.zip _ hz) (hg _ (List.getElem_mem hj)) Jj
    refine wpAny_bind (wpAny_attempt (wpAny_mono tn (fun v z2 h2 => ?_) fun _ _ h => h.elim))
    refine wpAny_bind (wpAny_mono h2 (fun _ z3 J3 => wpAny_pure ⟨rfl, J3⟩) fun _ _ h => h)
  · rw [Nat.zero_add, List.take_of_length_le (by rw [List.length_map, hl]; exact Nat.le_refl _)] at Jd
    obtain ⟨H', kA, e, I, x, hk, nk, ha, na, hi⟩ := Jd.go
    have sz : kA.size = its.length := by
      have := ints_len hi
      rw [Array.length_toList, List.length_map] at this
      rw [this, hl]
    refine wpAny_bind (listItems_at hk rfl ?_)
    have hI := ints_each (h := z'.heap) hi
    have hal : AllAlike (((ks.map (·.2))).map PyData.int) := fun d hd d' hd' => by
      obtain ⟨i1, _, rfl⟩ := List.mem_map.mp hd
      obtain ⟨i2, _, rfl⟩ := List.mem_map.mp hd'
      rfl
    refine keyH_end (κ := dataKind z'.heap ((ks.map (·.2)).map PyData.int)) (h₁ := hideAll z'.heap [kS]) (fun b o _ h => of_hideAll _ h) (hideAll_none _ (by simp)) hk ha hne
      (SortsAt.data (s := z') hI hal (.inr fun d hd => by obtain ⟨i1, _, rfl⟩ := List.mem_map.mp hd; exact ⟨fun h => (nomatch h), fun _ h => (nomatch h)⟩) fun d hd => by
        obtain ⟨i1, _, rfl⟩ := List.mem_map.mp hd
        have := hr.units
        show A2.units + PyData.depth (.int i1) < cLine
        simp only [PyData.depth]
        omega) sz (lim_le (by rw [hl]; exact hlim)) fun h' tk c kp hD => ⟨rfl, ?_⟩
    have eM : (ks.map (·.2)).map PyData.int = ks.map (fun p => PyData.int p.2) := by rw [List.map_map]; rfl
    have out := keyedOut_each (rev := false) (R := Val1 X.K H O) (bs := ks) (vs := its) (fun p => PyData.int p.2) ⟨z'.heap, kA.toList, by rw [← eM]; exact hal, rfl, by rw [← eM]; exact hI⟩ hu
    rw [dataLe_int] at out
    have es : ks.mergeSort (fun a b => decide (a.2 ≤ b.2)) = sortK ks := by
      have p1 := List.mergeSort_perm ks (fun a b => decide (a.2 ≤ b.2))
      refine keyed_uniq (p1.trans (sortK_perm ks).symm) ((p1.map (·.2)).nodup_iff.mpr nd) ?_ (sortK_le ks)
      have := List.pairwise_mergeSort (le := fun (a b : D × Int) => decide (a.2 ≤ b.2)) (fun a b c h1 h2 => by simp only [decide_eq_true_eq] at *; omega) (fun a b => by simp only [Bool.or_eq_true, decide_eq_true_eq]; omega) ks
      exact this.imp fun h => by simpa using h
    rw [es] at out
    obtain ⟨ys, ry, py⟩ := of_each out
    have e1' : ((sortVals (dataKind z'.heap ((ks.map (·.2)).map PyData.int)) false kA.toList its).toArray) = (sortVals (dataKind z'.heap (ks.map fun p => PyData.int p.2)) false kA.toList its).toArray := by rw [List.map_map]; rfl
    rw [e1'] at hD
    have lys : ys.length ≤ sizeLine := by
      rw [reps_len py, List.length_map, (sortK_perm ks).length_eq]
      exact lim_le hlim
    have hn : ∀ b, FpOk X pins H' b → b ∉ frs X.stack := fun b q m => by
      rcases List.mem_cons.mp (I.stkSub b m) with w | w
      · exact q.2.1 w
      · exact q.2.2.1 w
    have kept : ∀ b o, b ∉ [kS, a0] → z'.heap.get? b = some o → h'.get? b = some o := fun b o hb q => by
      simp only [List.mem_cons, List.not_mem_nil, or_false, not_or] at hb
      exact kp b o hb.2 (hideAll_get _ q (by simpa using hb.1))
    have nt : ∀ b u, H' b = some u → b ∉ [kS, a0] := fun b u q => by
      simp only [List.mem_cons, List.not_mem_nil, or_false, not_or]
      exact ⟨(by rintro rfl; rw [nk] at q; cases q), (by rintro rfl; rw [na] at q; cases q)⟩
    have ne0 : ∀ b u, H' b = some u → b ≠ a0 := fun b u q => by rintro rfl; rw [na] at q; cases q
    have un : Un (frs X.stack) [kS, a0] H' (upd H' a0 (.lst ys)) z'.heap h' := {
      keep := fun b o q _ _ hx => kept b o hx q
      slot := fun b o q _ _ hx => ⟨o.slots, kept b o hx q⟩
      free := fun b o q n hx => by
        simp only [List.mem_cons, List.not_mem_nil, or_false, not_or] at hx
        rw [upd_ne hx.2]
        exact n
      there := fun b o q hx => ⟨o, kept b o hx q⟩
      tups := fun b xs q => by rw [upd_ne (ne0 b _ q)]; exact q
      frzs := fun b o u q => by rw [upd_ne (ne0 b _ q)]; exact q
      tbls := fun b ps q => ⟨#[], by rw [upd_ne (ne0 b _ q), q]; simp⟩ }
    have hok : HOk X.prog X.w (upd H' a0 (.lst ys)) h' := fun b u q => by
      by_cases hb : b = a0
      · subst hb
        rw [upd_same] at q
        cases q
        exact ⟨lys, _, c, ry, hD⟩
      · rw [upd_ne hb] at q
        refine (I.hok b u q).stay (fun c' v hc r => kept c' v ?_ r) (fun c' r => by rw [upd_ne (ne0 c' _ r)]; exact r) fun c' xs r => by rw [upd_ne (ne0 c' _ r)]; exact r
        rcases hc with rfl | hc
        · exact nt _ _ q
        · exact nt _ _ hc
    have I3 : Inv X pins σ (upd H' a0 (.lst ys)) { z' with heap := h', toks := tk } := I.call (ch := [kS, a0]) (t' := tk) un hok I.bare fun b hb => by
      simp only [List.mem_cons, List.not_mem_nil, or_false] at hb
      rcases hb with rfl | rfl
      · obtain ⟨_, f1, _, f3, f4, f5⟩ := fk H' nk
        exact ⟨f3, f1, f4, f5⟩
      · obtain ⟨_, f1, _, f3, f4, f5⟩ := fa H' na
        exact ⟨f3, f1, f4, f5⟩
    have x3 : Ext H (upd H' a0 (.lst ys)) := x.trans (.upd na)
    exact ⟨.ref a0, _, I3, rfl, q a0 _ ys x3 upd_same hn0 (reps_ext x3 py)⟩
theorem px_skey {x y : Str} {p p2 pos : Pos} {kpos : Pos} {e : Expr} {fe : E → Option D} (F : FnF X.prog X.w X.K X.mg X.base k f fd [y0] g) (hb : Binds X.K fd [y0] []) (hr : Room (k + 2) X.A) (hgf : Gl X y) (hmf : X.mg y = some (.ref f)) (hg : Gl X x) (hm : X.mg x = none) (hv : bootBuiltins x = some (.builtin "sorted")) (he : PX X e fe)
    (hn : x ≠ "__name__" := by decide) (hdb : (x == ("__debug__" : Str)) = false := by decide) (hdf : (y == ("__debug__" : Str)) = false := by decide) (hs1 : starEach [e] X.env = (false, eval e X.env) :: starEach [] X.env := by rfl)
    (hs : backTo pos (starEach [e] X.env) = (false, eval e X.env) :: backTo pos (starEach [] X.env) := by rfl) (hpl : (backTo pos (starEach [e] X.env)).any (·.1) = false := by rfl)
    (hall : (backToKw pos (keywordEach [⟨some "key", .Name y p2, kpos⟩] X.env)).all (·.1.isSome) = true := by rfl) (hnone : (backToKw pos (keywordEach [⟨some "key", .Name y p2, kpos⟩] X.env)).any (·.1.isNone) = false := by rfl) (hks : (backToKw pos (keywordEach [⟨some "key", .Name y p2, kpos⟩] X.env)).filterMap (·.1) = [Str.ofString "key"] := by rfl) :
    PX X (.Call (.Name x p) [e] [⟨some "key", .Name y p2, kpos⟩] pos) (skeyV g fe) := by
  let r : List V → List V → Hp → VK → Prop := fun vs zs H Q => ∃ a xs O ks, vs = [V.ref a] ∧ zs = [V.ref f] ∧ H a = some (.lst xs) ∧ (∀ b, O b → H b ≠ none) ∧ reps X.K H O (ks.map (·.1)) xs ∧ (∀ p ∈ ks, g [p.1] = some (.int p.2)) ∧ (ks.map (·.2)).Nodup ∧ ks.length ≤ LIM ∧
    ∀ p H' ys, Ext H H' → H' p = some (.lst ys) → H p = none → reps X.K H' O ((sortK ks).map (·.1)) ys → Q (.ref p) H'
  have hc : CallRK X (.builtin "sorted") [Str.ofString "key"] r := by
    intro pins z σ H vs zs us ws Q I rv rz h
    obtain ⟨a, xs, O, ks, rfl, rfl, ha, dom, rx, hgk, nd, hlim, q⟩ := h
    obtain rfl := Vals.ref1 rv
    obtain rfl := Vals.ref1 rz
    obtain ⟨its, rv2, hl, hz⟩ := I.list (.of ha : SqL X.K H a xs)
    have lx := reps_len rx
    rw [List.length_map] at lx
    have il := rv2.length
    refine sorted_of_sort (kw := [(Str.ofString "key", .ref f)]) hl.isList (by omega) (ksk_s1 _ _) (fun _ => ksk_l1 _ _) fun E' => ?_
    rw [ksk_t1]
    have sza : (copyHeap z.heap its).objs.size = z.heap.objs.size + 2 := by
      unfold copyHeap
      rw [size_push', Heap.size_update, size_push']
    obtain ⟨e1, ho1⟩ : ∃ e1, ((copyHeap z.heap its).update (z.heap.objs.size + 1) (Obj.mapSeq fun _ => (#[] : Array Value))).get? (z.heap.objs.size + 1) = some (seqObj "list" #[] e1) := ⟨_, get?_update_seq (copyHeap_at z.heap its) fun _ => #[]⟩
    have hkS : (((copyHeap z.heap its).update (z.heap.objs.size + 1) (Obj.mapSeq fun _ => (#[] : Array Value))).push (seqObj "tuple" its.toArray 0)).objs.size = z.heap.objs.size + 3 := by rw [size_push', Heap.size_update, sza]
    unfold ksk_tree
    refine wpAny_bind (listItems_at (copyHeap_at z.heap its) rfl ?_)
    refine wpAny_bind (listUpdate_at (copyHeap_at z.heap its) rfl ?_ (by rw [List.size_toArray]; omega) (Nat.zero_le _))
    refine wpAny_bind (seqEpoch_at ho1 rfl ?_)
    refine wpAny_bind (wpAny_newTuple ?_ (by show its.length ≤ _; omega))
    refine wpAny_bind (wpAny_newList ?_ (Nat.zero_le _))
    refine wpAny_holding ?_
    have fresh : ∀ b, z.heap.objs.size ≤ b → H b = none := fun b hb' => I.hok.fresh hb'
    have fp : ∀ b, z.heap.objs.size ≤ b → ∀ H', H' b = none → FpOk X pins H' b := fun b hb' H' hn' => I.fpOk hb' hn'
    have hA : X.A.in1.in1.frames = some X.stack := I.ok.frames
    have old : ∀ b o, z.heap.get? b = some o → (sortingHeap (copyHeap z.heap its) (z.heap.objs.size + 1) its).get? b = some o := fun b o q => sorting_copy_old q
    refine key_rest (z := { z with heap := sortingHeap (copyHeap z.heap its) (z.heap.objs.size + 1) its }) (O := O) (H := H) (ks := ks) F hb hA hr.in1.in1 ?_ (fp _ ?_) (fp _ (Nat.le_succ _)) dom (fresh _ (Nat.le_succ _)) hlim (each_of rv2 rx) hgk ⟨H, #[], 0, I.kept (t' := z.toks) old, .refl H, Heap.get?_push_size _ rfl, ?_, Heap.get?_push_of_some _ (Heap.get?_push_of_some _ ho1), fresh _ (Nat.le_succ _), .nil⟩ nd q
    · show (((copyHeap z.heap its).update (z.heap.objs.size + 1) (Obj.mapSeq fun _ => (#[] : Array Value))).push (seqObj "tuple" its.toArray 0)).objs.size ≠ _
      rw [hkS]; omega
    · show _ ≤ (((copyHeap z.heap its).update (z.heap.objs.size + 1) (Obj.mapSeq fun _ => (#[] : Array Value))).push (seqObj "tuple" its.toArray 0)).objs.size
      rw [hkS]; omega
    · exact fresh _ (by rw [hkS]; omega)
  refine PE_imp (pe_callBK hc hg hm hv (pxs_cons he pxs_nil hs1) (pk_cons (pe_glob (v := .ref f) hgf hmf rfl hdf) pk_nil) hn hdb hs hpl hall hnone hks) fun σ H Q ⟨O, env, d, re, h, q⟩ => ?_
  unfold skeyV at h
  split at h
  · rename_i ds h1
    split at h
    · rename_i ks hks'
      split at h
      · rename_i hh
        cases h
        rw [Bool.and_eq_true, decide_eq_true_eq] at hh
        obtain ⟨e1, e2⟩ := keysD_ok hks'
        refine ⟨O, env, [.lst ds], re, by unfold cons2; rw [h1], fun vs H1 x1 r1 => ?_⟩
        obtain ⟨v, rfl, rv⟩ := reps1 r1
        obtain ⟨a, xs, rfl, n, ha, ra⟩ := rep_lst rv
        rw [e1] at ra
        refine ⟨a, xs, O, ks, rfl, rfl, ha, (re.ext x1).dom, ra, e2, dis_nd hh.1, hh.2, fun p H' ys x2 hp hn ry => ?_⟩
        exact q _ H' (x1.trans x2) (mk_lst (fun z => (re.ext x1).dom p z hn) hp ry)
      · cases h
    · cases h
  · cases h
end
end Wd
set_option maxRecDepth 100000
set_option maxHeartbeats 1000000
/-! loops over generators -/
namespace Wd
open PySem L2 PyProof.Rows Wg
section
variable {K : PySem.W.Frag} {H0 H1 H H' : Hp} {O0 O O' : Addr → Prop} {σ σ' : L2.St} {se se' : List SE} {i j : Nat}
variable {X : Cx} {pos : Pos} {st : Stmt} {rest : List Stmt} {f fa fb : E → Option D} {es : List Expr} {a b : Expr}
/-- an item of a generator: data without lists -/
def rpD (K : PySem.W.Frag) (H : Hp) (x : V) (d : D) : Prop := noL d = true ∧ rep K H (fun _ => False) d x
theorem byTups_rpD : ByTups (rpD K) := fun T H x d h1 h2 ⟨n, r⟩ => ⟨n, rep_tups (fun b xs rd => by
  rcases rd with rd | ⟨o, rd⟩
  · exact h1 b xs rd
  · obtain ⟨ys, z⟩ := h2 b _ rd
    cases z) n r⟩
theorem rpD_mono {H H' : Hp} {x : V} {d : D} (e : ∀ b o, H b = some o → H' b = some o) (h : rpD K H x d) : rpD K H' x d := ⟨h.1, rep_ext e h.2⟩
def TGX (K : PySem.W.Frag) (f : E → Option (List D)) : TGe D := fun σ H R => ∃ O env ds, RE K O env σ H ∧ f env = some ds ∧ ∀ H', Ext H H' → R ds H'
theorem PGn_imp {k : Nat} {e : Expr} {α : Type} {rp : Hp → V → α → Prop} {t t' : TGe α} (h : PGn X k e rp t) (i : ∀ σ H R, t' σ H R → t σ H R) : PGn X k e rp t' := ⟨fun pins s σ H R I q => h.run pins s σ H R I (i σ H R q)⟩
theorem RSe.lower {B : Hp} (J : RSe K H1 O0 se σ H) (x : Ext B H1) (d : ∀ b, O0 b → B b ≠ none) : RSe K B O0 se σ H := ⟨x.trans J.ext, d, fun b hb => (by
  cases q : B b with
  | none => rfl
  | some u => have z := x b u q; rw [J.fresh b hb] at z; exact (by cases z)), J.nd, J.len, J.ok⟩
theorem dr_stay {Hh H4 : Hp} (h : Wg.Dr Hh H' H4) : Stay O O H' H4 := ⟨fun b xs rd => rd.imp (fun e => h.1 b _ e (.inr fun x z => by cases z)) fun ⟨o, e⟩ => ⟨o, h.1 b _ e (.inr fun x z => by cases z)⟩,
  fun b o xs e => h.1 b _ e (.inr fun x z => by cases z), fun b xs n e => ⟨n, h.1 b _ e (.inr fun x z => by cases z)⟩, fun b xs e => h.1 b _ e (.inr fun x z => by cases z)⟩
theorem RSe.drop {Hh H4 : Hp} (J : RSe K (wipe Hh (ads se')) O0 se σ H') (h : Wg.Dr Hh H' H4) : RSe K (wipe Hh (ads se')) O0 se σ H4 := by
  refine ⟨fun b o e => ?_, J.dom, J.fresh, J.nd, J.len, fun i e he => (J.ok i e he).stay (dr_stay h) fun b hb xs q => h.1 b _ q (.inr fun x z => by cases z)⟩
  have q := J.ext b o e
  refine h.1 b o q (.inl ?_)
  by_cases z : b ∈ ads se'
  · rw [wipe_in z] at e; cases e
  · rw [wipe_out z] at e; rw [e]; simp
theorem wipe_ext {H2 : Hp} {l : List Addr} (x : Ext H H2) : Ext (wipe H l) (wipe H2 l) := fun b o e => by
  by_cases z : b ∈ l
  · rw [wipe_in z] at e; cases e
  · rw [wipe_out z] at e ⊢; exact x b o e
theorem pm_forG {tg iter : Expr} {body : List Stmt} {fi : E → Option (List D)} {t : B} {m : M} {k : Nat} (hx : ∀ e s, ¬ X.xe e s) (hr : Room (k + 1) X.A) (hi : PGn X k iter (rpD X.K) (TGX X.K fi)) (hg : PG X tg (TB X.K t)) (hb : PMs X body m) (hs : ∀ v, foldedSetIterable iter X.env v = pure v := by intro _; rfl) :
    PM X (.For tg iter body [] pos) (mFor fi t m) := PS_imp (ps_forG hx hr hi hg hb byTups_rpD hs) fun Dd σ H ⟨H0, O0, se, o, I, e, q⟩ => by
  unfold mFor at e
  cases h : fi (en (se.map SE.er)) with
  | none => rw [h] at e; cases e
  | some ds =>
    rw [h] at e
    refine ⟨_, _, ds, I.re, h, fun H1 x1 => ⟨fun ds σ H => ∃ se, RSe X.K H0 O0 se σ H ∧ mLoop t m ds (se.map SE.er) = some o, ⟨se, I.grow x1, e⟩, fun σ H ⟨se, I, e⟩ => ?_, fun d ds σ H ⟨se, I, e⟩ v H2 x2 ⟨nl, rv⟩ => ?_⟩⟩
    · cases e
      exact q σ H I.rs
    · have J := I.grow x2
      unfold mLoop at e
      cases h1 : t d (se.map SE.er) with
      | none => rw [h1] at e; cases e
      | some env1 =>
        rw [h1] at e
        simp only [] at e
        cases h2 : m env1 with
        | none => rw [h2] at e; cases e
        | some o2 =>
          rw [h2] at e
          refine ⟨_, O0, se, d, env1, J.base, rep_tups (fun _ _ z => z) nl rv, h1, fun σ3 se3 I3 e3 _ => ⟨_, O0, se3, o2, I3, by rw [e3]; exact h2, ?_⟩⟩
          cases o2 with
          | rt r => cases e; exact fun v' H' x' r' => q v' H' (J.back_ext x') r'
          | nx env2 =>
            refine fun σ' H' ⟨se4, e4, I4⟩ => ⟨fun b o u z => ?_, fun H4 dr => ?_⟩
            · refine I4.ext b _ ?_
              rw [wipe_out (fun w => by obtain ⟨xs, y⟩ := J.isL w; rw [z] at y; cases y)]
              exact z
            · have low := I4.lower (wipe_ext (l := ads se) x2) I.base.dom
              exact ⟨se4, I.back (low.drop dr), by rw [e4]; exact e⟩
end
end Wd
set_option maxRecDepth 100000
set_option maxHeartbeats 1000000
/-! bodies of generators -/
namespace Wd
open PySem L2 PyProof.Rows Wg
abbrev MG := List Ent → Option (List D × List Ent)
section
variable {K : PySem.W.Frag} {B H0 H1 H H' : Hp} {O0 O O' : Addr → Prop} {σ σ' : L2.St} {se se' : List SE} {i j : Nat}
def GS (K : PySem.W.Frag) (env : List Ent) (σ : L2.St) (H : Hp) : Prop := ∃ B O0 se, RSe K B O0 se σ H ∧ se.map SE.er = env
def gM (K : PySem.W.Frag) (m : MG) : GT D := fun nx ds σ H => ∃ env ys env', GS K env σ H ∧ m env = some (ys, env') ∧ ∃ ds', ds = ys ++ ds' ∧ ∀ σ' H', GS K env' σ' H' → nx ds' σ' H'
abbrev noH : Hp := fun _ => none
variable {F : Fam} {rp : Hp → V → D → Prop} {st : Stmt} {sts : List Stmt}
theorem GS1_imp {t t' : GT D} (h : GS1 F rp H0 st t) (i : ∀ nx ds σ H, t' nx ds σ H → t nx ds σ H) : GS1 F rp H0 st t' := ⟨fun c fs K J gd lv ip s' s need pv σ H ds nx pl a ht k => h.run c fs K J gd lv ip s' s need pv σ H ds nx pl a (i _ _ _ _ ht) k⟩
theorem GSs_imp {t t' : GT D} (h : GSs F rp H0 sts t) (i : ∀ nx ds σ H, t' nx ds σ H → t nx ds σ H) : GSs F rp H0 sts t' := ⟨fun c fs K J gd lv ip s' s need pv σ H ds nx pl a ht k => h.run c fs K J gd lv ip s' s need pv σ H ds nx pl a (i _ _ _ _ ht) k⟩
def gPl (m : M) : MG := fun env => match m env with
  | some (.nx env') => some ([], env')
  | _ => none
theorem gm_plain {m : M} (h : ∀ s0 Hq, PM (F.cx s0 Hq) st m) : GS1 F rp H0 st (gM F.K (gPl m)) := GS1_imp (g_plain (t := TSm F.K m) h) fun nx ds σ H ⟨env, ys, env', ⟨B, O0, se, I, e0⟩, e, ds', e1, q⟩ => by
  unfold gPl at e
  split at e
  · rename_i env1 h1
    cases e
    subst e0
    rw [List.nil_append] at e1
    subst e1
    exact ⟨B, O0, se, _, I, h1, fun σ' H' ⟨se', e', I'⟩ => q σ' H' ⟨B, O0, se', I', e'⟩⟩
  · cases e
def gNl : MG := fun env => some ([], env)
theorem gm_nil : GSs F rp H0 [] (gM F.K gNl) := GSs_imp g_nil fun nx ds σ H ⟨env, ys, env', g, e, ds', e1, q⟩ => by
  cases e
  rw [List.nil_append] at e1
  subst e1
  exact q σ H g
def gSq (m1 m2 : MG) : MG := fun env => match m1 env with
  | none => none
  | some (ys, env1) => match m2 env1 with
    | none => none
    | some (zs, env2) => some (ys ++ zs, env2)
theorem gm_cons {m1 m2 : MG} (h1 : GS1 F rp H0 st (gM F.K m1)) (h2 : GSs F rp H0 sts (gM F.K m2)) : GSs F rp H0 (st :: sts) (gM F.K (gSq m1 m2)) := GSs_imp (g_cons h1 h2) fun nx ds σ H ⟨env, ys, env', g, e, ds', e1, q⟩ => by
  unfold gSq at e
  split at e
  · cases e
  · rename_i y1 env1 k1
    split at e
    · cases e
    · rename_i z1 env2 k2
      cases e
      rw [List.append_assoc] at e1
      exact ⟨env, y1, env1, g, k1, _, e1, fun σ' H' g' => ⟨env1, z1, _, g', k2, ds', rfl, q⟩⟩
def gIfM (c : E → Option Bool) (m : MG) : MG := fun env => match c (en env) with
  | none => none
  | some true => m env
  | some false => some ([], env)
theorem gm_if {test : Expr} {pos : Pos} {c : E → Option Bool} {m : MG} (ht : ∀ s0 Hq, PXt (F.cx s0 Hq) test c) (hb : GSs F rp H0 sts (gM F.K m)) : GS1 F rp H0 (.If test sts [] pos) (gM F.K (gIfM c m)) := GS1_imp (g_if (tt := TXt F.K c) ht hb) fun nx ds σ H ⟨env, ys, env', ⟨B, O0, se, I, e0⟩, e, ds', e1, q⟩ => by
  subst e0
  unfold gIfM at e
  cases h : c (en (se.map SE.er)) with
  | none => rw [h] at e; cases e
  | some b =>
    rw [h] at e
    refine ⟨_, _, b, I.re, h, fun H' x => ?_⟩
    cases b with
    | true => exact ⟨_, ys, env', ⟨B, O0, se, I.grow x, rfl⟩, e, ds', e1, q⟩
    | false =>
      cases e
      rw [List.nil_append] at e1
      subst e1
      exact q σ H' ⟨B, O0, se, I.grow x, rfl⟩
/-- what stands after a yield -/
def wkE : Ent → Ent
  | .val (.fls ds) => if noLs ds then .val (.fls ds) else .no
  | .val (.lst ds) => if noLs ds then .val (.fls ds) else .no
  | .val d => if noL d then .val d else .no
  | .own ds => if noLs ds then .val (.fls ds) else .no
  | _ => .no
def wkS : SE → SE
  | .val (.fls ds) => if noLs ds then .val (.fls ds) else .no
  | .val (.lst ds) => if noLs ds then .val (.fls ds) else .no
  | .val d => if noL d then .val d else .no
  | .own _ ds => if noLs ds then .val (.fls ds) else .no
  | _ => .no
theorem wkS_er : ∀ s : SE, (wkS s).er = wkE s.er := by
  intro s
  cases s with
  | no => rfl
  | val d =>
    cases d <;> simp only [wkS, wkE, SE.er, noL] <;> first | rfl | (rename_i ds; by_cases h : noLs ds = true <;> simp only [h, if_true, if_false, Bool.false_eq_true] <;> rfl)
  | own a ds => simp only [wkS, wkE, SE.er]; cases noLs ds <;> rfl
  | own2 a js dss => rfl
theorem wkS_ads : ∀ s : SE, (wkS s).ads = [] := by
  intro s
  cases s with
  | no => rfl
  | val d =>
    cases d <;> simp only [wkS, noL] <;> first | rfl | (rename_i ds; by_cases h : noLs ds = true <;> simp only [h, if_true, if_false, Bool.false_eq_true] <;> rfl)
  | own a ds => simp only [wkS]; cases noLs ds <;> rfl
  | own2 a js dss => rfl
theorem ads_wk : ads (se.map wkS) = [] := by
  unfold ads
  rw [List.flatMap_eq_nil_iff]
  intro x hx
  obtain ⟨s, _, rfl⟩ := List.mem_map.mp hx
  exact wkS_ads s
theorem stay_tup {H2 : Hp} (s : Wg.Stay noH H H2) : ∀ b xs, Rd H b (.tup xs) → Rd H2 b (.tup xs) := fun b xs h => s b _ rfl ⟨xs, .inr rfl⟩ h
theorem stay_lst {H2 : Hp} (s : Wg.Stay noH H H2) : ∀ b xs, Rd H b (.lst xs) → Rd H2 b (.lst xs) := fun b xs h => s b _ rfl ⟨xs, .inl rfl⟩ h
theorem gs_wk {H2 : Hp} (I : RSe K B O0 se σ H) (s : Wg.Stay noH H H2) : GS K ((se.map SE.er).map wkE) σ H2 := by
  refine ⟨H2, fun _ => False, se.map wkS, ⟨.refl _, fun b z => z.elim, fun b hb => (by rw [ads_wk] at hb; cases hb), by rw [ads_wk]; exact List.nodup_nil, by simpa using I.len, fun i e he => ?_⟩, ?_⟩
  · rw [List.getElem?_map] at he
    cases hs : se[i]? with
    | none => rw [hs] at he; cases he
    | some s0 =>
      rw [hs] at he
      cases he
      have ok := I.ok i s0 hs
      have fl : ∀ {a : Addr} {xs : List V} {ds : List D} {Oa : Addr → Prop}, Rd H a (.lst xs) → reps K H Oa ds xs → noLs ds = true → rep K H2 (Ow (fun _ => False) (se.map wkS)) (.fls ds) (.ref a) := fun {a xs ds Oa} q r n => by
        refine mk_fls (xs := xs) ?_ (reps_tups (stay_tup s) n r)
        exact (stay_lst s a xs q).imp (fun q => ⟨fun z => z.elim id fun z => (by rw [ads_wk] at z; cases z), q⟩) id
      cases s0 with
      | no => trivial
      | own2 => trivial
      | own a ds =>
        simp only [wkS]
        split
        · rename_i n
          obtain ⟨a1, xs, b, c⟩ := ok
          exact ⟨_, a1, fl (.inl b) c n⟩
        · trivial
      | val d =>
        obtain ⟨v, a1, r⟩ := ok
        have gen : noL d = true → SEok K (Ow (fun _ => False) (se.map wkS)) H2 σ[i]? (.val d) := fun n => ⟨v, a1, rep_tups (stay_tup s) n r⟩
        cases d with
        | fls ds =>
          simp only [wkS]
          split
          · rename_i n
            obtain ⟨a, xs, rfl, q, rr⟩ := rep_fls r
            exact ⟨_, a1, fl (q.imp (fun q => q.2) id) rr n⟩
          · trivial
        | lst ds =>
          simp only [wkS]
          split
          · rename_i n
            obtain ⟨a, xs, rfl, _, q, rr⟩ := rep_lst r
            exact ⟨_, a1, fl (.inl q) rr n⟩
          · trivial
        | _ =>
          simp only [wkS]
          split
          · rename_i n; exact gen n
          · trivial
  · rw [List.map_map, List.map_map]
    exact List.map_congr_left fun s _ => wkS_er s
def gYl (f : E → Option D) : MG := fun env => match f (en env) with
  | none => none
  | some d => if noL d then some ([d], env.map wkE) else none
theorem gm_yield {e : Expr} {yp pos : Pos} {f : E → Option D} (he : ∀ s0 Hq, PX (F.cx s0 Hq) e f) (hco : F.env.scope.isCoroutine = false) (hin : interactive F.env = false := by rfl) : GS1 F (rpD F.K) noH (.Expr (.Yield (some e) yp) pos) (gM F.K (gYl f)) :=
  GS1_imp (g_yield (te := TX F.K f) he hco hin) fun nx ds σ H ⟨env, ys, env', ⟨B, O0, se, I, e0⟩, e, ds', e1, q⟩ => by
    subst e0
    unfold gYl at e
    cases h : f (en (se.map SE.er)) with
    | none => rw [h] at e; cases e
    | some d =>
      rw [h] at e
      simp only [] at e
      split at e
      · rename_i n
        cases e
        refine ⟨_, _, d, I.re, h, fun v H1 x r => ⟨d, ds', e1, fun T hT => ⟨n, rep_tups (fun b xs rd => .inl (hT b xs rfl rd)) n r⟩, fun H2 s => q σ H2 (gs_wk (I.grow x) s)⟩⟩
      · cases e
def gLoop (t : Wd.B) (b : MG) : List D → MG
  | [], env => some ([], env)
  | d :: ds, env => match t d env with
    | none => none
    | some env1 => match b env1 with
      | none => none
      | some (ys, env2) => match gLoop t b ds env2 with
        | none => none
        | some (zs, env3) => some (ys ++ zs, env3)
def gForR (fs : E → Option (List D)) (t : Wd.B) (b : MG) : MG := fun env => match rng1 fs (en env) with
  | none => none
  | some ds => gLoop t b ds env
theorem gm_forR {a tg : Expr} {p pos p2 : Pos} {fs : E → Option (List D)} {t : Wd.B} {m : MG} (hg : ∀ s0 Hq, Gl (F.cx s0 Hq) "range") (hm : F.mg "range" = none) (ha : ∀ s0 Hq, PXs (F.cx s0 Hq) [a] fs) (ht : ∀ s0 Hq, PG (F.cx s0 Hq) tg (TB F.K t)) (hb : GSs F rp H0 sts (gM F.K m))
    (hs : ∀ x, foldedSetIterable (.Call (.Name "range" p) [a] [] p2) F.env x = pure x := by intro _; rfl) (he : starEach [a] F.env = [(false, eval a F.env)] := by rfl) : GS1 F rp H0 (.For tg (.Call (.Name "range" p) [a] [] p2) sts [] pos) (gM F.K (gForR fs t m)) :=
  GS1_imp (g_for (wi := iRng1 (TXs F.K fs)) (g := TB F.K t) (fun s0 Hq => pi_range1 (hg s0 Hq) hm (ha s0 Hq) he) ht hb hs) fun nx ds σ H ⟨env, ys, env', ⟨B, O0, se, I, e0⟩, e, ds', e1, q⟩ => by
    subst e0
    unfold gForR rng1 at e
    split at e
    · cases e
    · rename_i items h
      split at h
      · rename_i j hj
        split at h
        · rename_i hin
          cases h
          refine ⟨_, _, _, I.re, hj, fun vs H1 x r => ?_⟩
          obtain ⟨v, rfl, rv⟩ := reps1 r
          cases rep_int rv
          refine ⟨j, rfl, (inR_ok hin).1, (inR_ok hin).2, ?_⟩
          generalize hN : j.toNat = N at e ⊢
          refine ⟨fun i m1 ds1 σ1 H2 => i ≤ N ∧ m1 = N - i ∧ ∃ env1 ys1, GS F.K env1 σ1 H2 ∧ gLoop t m ((rangeD 0 N).drop i) env1 = some (ys1, env') ∧ ds1 = ys1 ++ ds', ⟨_, Nat.zero_le _, rfl, _, ys, ⟨B, O0, se, I.grow x, rfl⟩, e, e1⟩, ?_⟩
          rintro i m1 ds1 σ1 H2 ⟨hi, rfl, env1, ys1, g, el, rfl⟩
          by_cases hlt : i < N
          · refine .inr ⟨hlt, fun ds2 σ2 H3 => ∃ env2 ys2, GS F.K env2 σ2 H3 ∧ gLoop t m ((rangeD 0 N).drop (i + 1)) env2 = some (ys2, env') ∧ ds2 = ys2 ++ ds', fun ds2 σ2 H3 z => ⟨_, by omega, hlt, rfl, z⟩, fun v H3 y => ?_⟩
            obtain ⟨rfl, rfl⟩ := y
            have hl : i < (rangeD 0 N).length := by rw [rangeD_len]; exact hlt
            have hgt := rangeD_get N 0 i hlt
            rw [List.drop_eq_getElem_cons hl] at el
            rw [List.getElem?_eq_getElem hl] at hgt
            have hgt := Option.some.inj hgt
            rw [hgt] at el
            unfold gLoop at el
            cases k1 : t (.int (0 + (i : Int))) env1 with
            | none => rw [k1] at el; cases el
            | some env2 =>
              rw [k1] at el
              simp only [] at el
              cases k2 : m env2 with
              | none => rw [k2] at el; cases el
              | some w =>
                obtain ⟨y2, env3⟩ := w
                rw [k2] at el
                simp only [] at el
                cases k3 : gLoop t m ((rangeD 0 N).drop (i + 1)) env3 with
                | none => rw [k3] at el; cases el
                | some w =>
                  obtain ⟨z2, env4⟩ := w
                  rw [k3] at el
                  cases el
                  obtain ⟨B1, O1, se1, I1, rfl⟩ := g
                  refine ⟨B1, O1, se1, _, env2, I1, mk_int, k1, fun σ' se' I' e' _ => ⟨env2, y2, env3, ⟨B1, O1, se', I', e'⟩, k2, z2 ++ ds', by rw [List.append_assoc], fun σ3 H4 g3 => ⟨env3, z2, g3, k3, rfl⟩⟩⟩
          · have hN2 : i = N := by omega
            subst hN2
            refine .inl ⟨Nat.le_refl _, ?_⟩
            have hd : (rangeD 0 i).drop i = [] := List.drop_eq_nil_of_le (by rw [rangeD_len]; exact Nat.le_refl _)
            rw [hd] at el
            unfold gLoop at el
            cases el
            rw [List.nil_append]
            exact q σ1 H2 g
        · cases h
      · cases h
end
end Wd
set_option maxRecDepth 100000
set_option maxHeartbeats 1000000
/-! generator defs: promises, calls -/
namespace Wd
open PySem L2 PyProof.Rows Wg
section
variable {K : PySem.W.Frag} {B H0 H1 H H' : Hp} {O0 O O' : Addr → Prop} {σ σ' : L2.St} {se se' : List SE} {i j : Nat}
theorem flat_eq : ∀ {ds : List D} {xs : List V}, ds.all flatD = true → reps K H O ds xs → xs = ds.map toV
  | [], xs, _, h => by unfold reps at h; exact h
  | d :: ds, xs, f, h => by
    unfold reps at h
    rw [List.all_cons, Bool.and_eq_true] at f
    obtain ⟨x, r, rfl, hx, h⟩ := h
    rw [(flat_rep f.1 hx).1, flat_eq f.2 h]
    rfl
theorem flat_mk : ∀ {d : D}, flatD d = true → rep K H O d (toV d)
  | .non, _ => mk_non
  | .bl b, _ => mk_bl
  | .int b, _ => mk_int
  | .str b, _ => mk_str
  | .tup _, f => by cases f
  | .lst _, f => by cases f
  | .scr _, f => by cases f
  | .ntp _, f => by cases f
  | .fls _, f => by cases f
theorem flat_mks : ∀ {ds : List D}, ds.all flatD = true → reps K H O ds (ds.map toV)
  | [], _ => reps_nil
  | d :: ds, f => by
    rw [List.all_cons, Bool.and_eq_true] at f
    exact reps_cons (flat_mk f.1) (flat_mks f.2)
theorem flat_no : ∀ {ds : List D}, ds.all flatD = true → noLs ds = true
  | [], _ => by unfold noLs; rfl
  | d :: ds, f => by
    rw [List.all_cons, Bool.and_eq_true] at f
    unfold noLs
    rw [flat_no f.2, Bool.and_true]
    have h := f.1
    cases d <;> first | (simp only [flatD, reduceCtorEq] at h; done) | (unfold noL; rfl) | cases h
variable {F : Fam} {rp : Hp → V → D → Prop} {st : Stmt} {sts : List Stmt}
/-! for x in xs: yield x -/
def gForY (i : Nat) (f : E → Option D) : MG := fun env => match f (en env) with
  | some (.lst ds) => if noLs ds = true ∧ i < env.length then some (ds, List.replicate env.length .no) else none
  | some (.fls ds) => if noLs ds = true ∧ i < env.length then some (ds, List.replicate env.length .no) else none
  | _ => none
theorem rse_no {n : Nat} (h : σ.length = n) : RSe K H (fun _ => False) (List.replicate n .no) σ H := by
  have e : ads (List.replicate n SE.no) = [] := by
    unfold ads
    rw [List.flatMap_eq_nil_iff]
    intro x hx
    rw [List.eq_of_mem_replicate hx]; rfl
  refine ⟨.refl _, fun _ z => z.elim, fun b hb => (by rw [e] at hb; cases hb), by rw [e]; exact List.nodup_nil, by simp [h], fun i e' he => ?_⟩
  rw [List.eq_of_mem_replicate (List.mem_of_getElem? he)]
  trivial
theorem gs_no {n : Nat} (h : σ.length = n) : GS K (List.replicate n .no) σ H := ⟨H, fun _ => False, _, rse_no h, by rw [List.map_replicate]; rfl⟩
theorem noLs_get {ds : List D} {i : Nat} {d : D} (n : noLs ds = true) (h : ds[i]? = some d) : noL d = true := by
  induction ds generalizing i with
  | nil => simp at h
  | cons e r ih =>
    unfold noLs at n
    rw [Bool.and_eq_true] at n
    cases i with
    | zero => simp at h; rw [← h]; exact n.1
    | succ i => exact ih n.2 (by simpa using h)
theorem gm_forY {iter : Expr} {x : Str} {p1 p2 yp yp2 pos : Pos} {f : E → Option D} (hi : ∀ s0 Hq, PX (F.cx s0 Hq) iter f) (hN : F.N.Nodup) (hx : F.N[i]? = some x) (hl : ∀ s0 Hq, Loc (F.cx s0 Hq).env.scope x) (hv : ∀ s0 Hq, Vis (F.cx s0 Hq).env.scope x) (hco : F.env.scope.isCoroutine = false)
    (hd : (x == ("__debug__" : Str)) = false := by decide) (hcd : (x == ("__classdict__" : Str)) = false := by decide)
    (hs : ∀ v, foldedSetIterable iter F.env v = pure v := by intro _; rfl) (hin : interactive F.env = false := by rfl) :
    GS1 F (rpD F.K) noH (.For (.Name x p1) iter [.Expr (.Yield (some (.Name x p2)) yp) yp2] [] pos) (gM F.K (gForY i f)) := by
  have hy : ∀ s0 Hq, PX (F.cx s0 Hq) (.Name x p2) (gv i) := fun s0 Hq => px_var hx (hv s0 Hq) hd hcd
  refine GS1_imp (g_for (wi := iList F.K (TX F.K f)) (g := TB F.K (bNm i)) (fun s0 Hq => pi_list (hi s0 Hq)) (fun s0 Hq => pb_name hN hx (hl s0 Hq) (.inl rfl)) (g_cons (g_yield (te := TX F.K (gv i)) hy hco hin) g_nil) hs) fun nx ds σ H ⟨env, ys, env', ⟨B, O0, se, I, e0⟩, e, ds', e1, q⟩ => ?_
  subst e0
  have main : ∀ (items : List D) (d0 : D), f (en (se.map SE.er)) = some d0 → noLs items = true → i < (se.map SE.er).length → ys = items → env' = List.replicate (se.map SE.er).length .no →
      (∀ {H2 : Hp} {v : V}, rep F.K H2 (Ow O0 se) d0 v → ∃ a xs, v = .ref a ∧ Rd H2 a (.lst xs) ∧ reps F.K H2 (Ow O0 se) items xs) → iList F.K (TX F.K f) σ H (fun J H1 => ∃ W : Nat → Nat → List D → L2.St → Hp → Prop, (∃ m, W 0 m ds σ H1) ∧ ∀ i_1 m ds σ H, W i_1 m ds σ H →
        (J.stop i_1 H ∧ nx ds σ H) ∨ (J.go i_1 H ∧ ∃ N : List D → L2.St → Hp → Prop, (∀ ds' σ' H', N ds' σ' H' → ∃ m', m' < m ∧ W (i_1 + 1) m' ds' σ' H') ∧ ∀ x H', J.yld i_1 H x H' → TB F.K (bNm i) x σ H' fun σ2 H2 => gThen (gY (rpD F.K) noH (TX F.K (gv i))) gNil N ds σ2 H2)) := by
    rintro items d0 h n hil rfl rfl rd
    refine ⟨_, _, d0, I.re, h, fun v H1 x1 r => ?_⟩
    obtain ⟨a, xs, rfl, hq, rr⟩ := rd r
    have rr := reps_tups (O' := fun _ => False) (fun _ _ z => z) n rr
    have lx := reps_len rr
    refine ⟨a, rfl, ⟨xs, .inl hq⟩, fun k m1 ds1 σ1 H2 => k ≤ ys.length ∧ m1 = ys.length - k ∧ ds1 = ys.drop k ++ ds' ∧ Rd H2 a (.lst xs) ∧ reps F.K H2 (fun _ => False) ys xs ∧ σ1.length = (se.map SE.er).length, ⟨_, Nat.zero_le _, rfl, by rw [List.drop_zero]; exact e1, hq, rr, by rw [List.length_map]; exact I.len.symm⟩, ?_⟩
    rintro k m1 ds1 σ1 H2 ⟨hk, rfl, rfl, hq2, r2, hl2⟩
    by_cases hlt : k < ys.length
    · obtain ⟨y, hy1, ry⟩ := reps_get r2 (List.getElem?_eq_getElem hlt)
      refine .inr ⟨⟨xs, y, .inl hq2, hy1⟩, fun ds2 σ2 H3 => ds2 = ys.drop (k + 1) ++ ds' ∧ Rd H3 a (.lst xs) ∧ reps F.K H3 (fun _ => False) ys xs ∧ σ2.length = (se.map SE.er).length, fun ds2 σ2 H3 z => ⟨_, by omega, hlt, rfl, z⟩, fun v H3 yl => ?_⟩
      obtain ⟨rfl, yl⟩ := yl
      have z := yl xs (.inl hq2)
      rw [hy1] at z
      cases z
      have nd := noLs_get n (List.getElem?_eq_getElem hlt)
      refine ⟨H3, fun _ => False, List.replicate (se.map SE.er).length .no, ys[k], _, rse_no hl2, rep_tups (fun _ _ z => z) nd ry, rfl, fun σ' se' I' e' _ => ?_⟩
      refine ⟨_, _, ys[k], I'.re, ?_, fun v H' x' r' => ⟨ys[k], ys.drop (k + 1) ++ ds', by rw [List.drop_eq_getElem_cons hlt]; rfl, fun T hT => ⟨nd, rep_tups (fun b xs rd => .inl (hT b xs rfl rd)) nd r'⟩, fun H4 s => ⟨rfl, stay_lst s a xs (x'.rd hq2), reps_tups (fun b xs rd => stay_tup s b xs (x'.rd rd)) n r2, ?_⟩⟩⟩
      · have hi2 : i < (List.replicate (se.map SE.er).length Ent.no).length := by rw [List.length_replicate]; exact hil
        rw [e', List.map_replicate]
        unfold gv en setEnv
        simp only [List.getElem?_map]
        rw [show SE.no.er = Ent.no from rfl, List.getElem?_set_self hi2]
        rfl
      · rw [← I'.len]
        have := congrArg List.length e'
        simpa [setEnv] using this
    · have hk2 : k = ys.length := by omega
      subst hk2
      refine .inl ⟨⟨xs, .inl hq2, by omega⟩, ?_⟩
      rw [List.drop_length, List.nil_append]
      exact q σ1 H2 (gs_no hl2)
  unfold gForY at e
  split at e
  · rename_i items h
    split at e
    · rename_i n
      cases e
      refine main ys _ h n.1 n.2 rfl rfl fun r => ?_
      obtain ⟨a, xs, rfl, _, hq, rr⟩ := rep_lst r
      exact ⟨a, xs, rfl, .inl hq, rr⟩
    · cases e
  · rename_i items h
    split at e
    · rename_i n
      cases e
      refine main ys _ h n.1 n.2 rfl rfl fun r => ?_
      obtain ⟨a, xs, rfl, hq, rr⟩ := rep_fls r
      exact ⟨a, xs, rfl, hq.imp (fun q => q.2) id, rr⟩
    · cases e
  · cases e
end
end Wd
set_option maxRecDepth 100000
set_option maxHeartbeats 1000000
/-! generator defs: promises, calls -/
namespace Wd
open PySem L2 PyProof.Rows Wg
section
variable {K : PySem.W.Frag} {B H0 H1 H H' : Hp} {O0 O O' : Addr → Prop} {σ σ' : L2.St} {se se' : List SE} {i j : Nat}
variable {F : Fam} {rp : Hp → V → D → Prop} {st : Stmt} {sts : List Stmt}
/-! plain statements, then `yield from x` -/
def okT : D → Bool
  | .ntp es => es.all flatD
  | _ => false
def gB (K : PySem.W.Frag) (H0 : Hp) (m : M) : GT D := fun nx ds σ H => ∃ O0 se env', RSe K H0 O0 se σ H ∧ m (se.map SE.er) = some (.nx env') ∧ ∀ σ' H', RS K H0 O0 env' σ' H' → nx ds σ' H'
def gBs (K : PySem.W.Frag) (H0 : Hp) (m : M) (i : Nat) : GT D := fun nx ds σ H => ∃ O0 se env' items ds', RSe K H0 O0 se σ H ∧ m (se.map SE.er) = some (.nx env') ∧ env'[i]? = some (.val (.lst items)) ∧ items.all okT = true ∧ ds = items.map weak ++ ds' ∧ ∀ σ' H', nx ds' σ' H'
theorem gb_plain {m : M} (h : ∀ s0 Hq, PM (F.cx s0 Hq) st m) : GS1 F rp H0 st (gB F.K H0 m) := GS1_imp (g_plain (t := TSm F.K m) h) fun nx ds σ H ⟨O0, se, env', I, e, q⟩ => ⟨H0, O0, se, _, I, e, fun σ' H' r => q σ' H' r⟩
theorem gb_cons {m m2 : M} (h1 : GS1 F rp H0 st (gB F.K H0 m)) (h2 : GSs F rp H0 sts (gBs F.K H0 m2 i)) : GSs F rp H0 (st :: sts) (gBs F.K H0 (mSeq m m2) i) := GSs_imp (g_cons h1 h2) fun nx ds σ H ⟨O0, se, env', items, ds', I, e, e1, ok, e2, q⟩ => by
  unfold mSeq at e
  split at e
  · cases e
  · cases e
  · rename_i env1 h
    exact ⟨O0, se, env1, I, h, fun σ' H' ⟨se', e', I'⟩ => ⟨O0, se', env', items, ds', I', by rw [e']; exact e, e1, ok, e2, q⟩⟩
theorem okT_items (hfz : ∀ b o, H0 b = some o → ∃ x u, o = .frz x u) (x : Ext H0 H) : ∀ {items : List D} {xs : List V}, items.all okT = true → reps K H O items xs → Items (rpD K) H0 H xs (items.map weak)
  | [], xs, _, r => by unfold reps at r; subst r; exact .nil
  | d :: ds, xs, ok, r => by
    unfold reps at r
    obtain ⟨v, ys, rfl, rv, rr⟩ := r
    rw [List.all_cons, Bool.and_eq_true] at ok
    refine .cons ?_ (okT_items hfz x ok.2 rr)
    have ok1 := ok.1
    cases d <;> first | cases ok1 | skip
    rename_i es
    obtain ⟨a, zs, rfl, q, rz⟩ := rep_ntp rv
    have fz := flat_eq ok1 rz
    intro T hT
    refine ⟨by unfold weak noL; exact flat_no ok1, mk_tup (xs := zs) ?_ (by rw [fz]; exact flat_mks ok1)⟩
    rcases q with q | q
    · refine .of (hT a zs ?_ (.of q))
      cases h : H0 a with
      | none => rfl
      | some o =>
        obtain ⟨y, u, rfl⟩ := hfz a o h
        have z := x a _ h
        rw [q] at z; cases z
    · exact q T
theorem gb_yf {e : Expr} {yp pos : Pos} (hfz : ∀ b o, H0 b = some o → ∃ x u, o = .frz x u) (he : ∀ s0 Hq, PX (F.cx s0 Hq) e (gv i)) (hh : F.A.handled = none) (hin : interactive F.env = false := by rfl) : GSs F (rpD F.K) H0 [.Expr (.YieldFrom e yp) pos] (gBs F.K H0 mNil i) :=
  GSs_imp (g_cons (g_yieldFrom (te := TX F.K (gv i)) he hh hin) g_nil) fun nx ds σ H ⟨O0, se, env', items, ds', I, e, e1, ok, e2, q⟩ => by
    cases e
    refine ⟨_, _, .lst items, I.re, ?_, fun v H1 x r => ?_⟩
    · unfold gv en
      simp only [List.getElem?_map, e1]
      rfl
    · obtain ⟨a, xs, rfl, _, hq, rr⟩ := rep_lst r
      refine ⟨a, xs, items.map weak, ds', rfl, ?_, .of hq, e2, okT_items hfz (I.ext.trans x) ok rr, fun H2 _ => q σ H2⟩
      cases h : H0 a with
      | none => rfl
      | some o =>
        obtain ⟨y, u, rfl⟩ := hfz a o h
        have z := (I.ext.trans x) a _ h
        rw [hq] at z; cases z
/-! ### promises -/
def runG (n N : Nat) (m : MG) (ds : List D) : Option (List D) := if ds.length = n ∧ ds.all flatD = true then match m (ds.map Ent.val ++ List.replicate (N - n) Ent.no) with
  | some (ys, _) => some ys
  | none => none
  else none
abbrev SpI (n : Nat) (g : List D → Option (List D)) (vs : List V) (ys : List D) : Prop := vs.length = n ∧ ∃ args, args.all flatD = true ∧ vs = args.map toV ∧ g args = some ys
abbrev GnI (P : Program) (w : World) (K : PySem.W.Frag) (mg : Str → Option Value) (base : Heap) (k : Nat) (f : Addr) (fd : FuncData) (ps : List Str) (g : List D → Option (List D)) : Prop := GnOk P w K mg base k f fd ps (rpD K) (fun vs _ ds => SpI ps.length g vs ds)
def runT (n N : Nat) (m : M) (i : Nat) (ds : List D) : Option (List D) := if ds.length = n then match m (ds.map Ent.val ++ List.replicate (N - n) Ent.no) with
  | some (.nx env) => match env[i]? with
    | some (.val (.lst items)) => if items.all okT = true then some (items.map weak) else none
    | _ => none
  | _ => none
  else none
abbrev SpT (K : PySem.W.Frag) (n : Nat) (g : List D → Option (List D)) : SpGn D := fun vs H ys => vs.length = n ∧ ∃ args O, noLs args = true ∧ reps K H O args vs ∧ g args = some ys
abbrev GnT (P : Program) (w : World) (K : PySem.W.Frag) (mg : Str → Option Value) (base : Heap) (k : Nat) (f : Addr) (fd : FuncData) (ps : List Str) (g : List D → Option (List D)) : Prop := GnOk P w K mg base k f fd ps (rpD K) (SpT K ps.length g)
section
variable {P : Program} {w : World} {mg : Str → Option Value} {base : Heap} {x qual : Str} {params : Arguments} {body : List Stmt} {scope : Scope} {kws : List (Str × V)} {f : Addr} {fd : FuncData} {N ps : List Str} {k : Nat} {g : List D → Option (List D)}
theorem er_start {ds : List D} {n m : Nat} : (ds.map SE.val ++ List.replicate (n - m) SE.no).map SE.er = ds.map Ent.val ++ List.replicate (n - m) Ent.no := by simp [SE.er]
theorem gnI_of (F : FunD K x qual params body scope [] kws f fd) (S : GScope N ps scope) {m : MG}
    (hbody : ∀ (cdv : Value) (A : Around) (outer : List Env) (n0 : Nat), Room k (A.deeper (envOfC qual scope n0 f cdv)) → GSs ⟨P, w, K, mg, base, N, qual, scope, f, cdv, A, outer, n0⟩ (rpD K) noH body (gM K m)) :
    GnI P w K mg base (k + 1) f fd ps (runG ps.length N.length m) := by
  obtain ⟨oc, od, dV, kV, doc, pm, an, cdv, ct, osl, rfl, lk, hcd, _, _⟩ := F.ex
  refine gn_ofI lk hcd S (fun vs ds h => h.1) fun A outer n0 H1 vs ds hr ⟨hl, args, fl, ev, e⟩ => ⟨_, hbody cdv A outer n0 hr, ?_⟩
  have hp : ps.length ≤ N.length := by
    have := congrArg List.length S.pre
    rw [List.length_take] at this
    omega
  have r : reps K H1 (fun _ => False) args vs := by rw [ev]; exact flat_mks fl
  have I := se_start (N := N) (fun _ z => z.elim) r (by omega)
  unfold runG at e
  split at e
  · rename_i hc
    split at e
    · rename_i ys env' h1
      cases e
      exact ⟨_, _, env', ⟨H1, _, _, I, rfl⟩, by rw [er_start, hl]; exact h1, [], by simp, fun _ _ _ => rfl⟩
    · cases e
  · cases e
theorem gnT_of (F : FunD K x qual params body scope [] kws f fd) (S : GScope N ps scope) {m : M} (i : Nat)
    (hbody : ∀ (cdv : Value) (A : Around) (outer : List Env) (n0 : Nat) (H0 : Hp), Room k (A.deeper (envOfC qual scope n0 f cdv)) → (∀ b o, H0 b = some o → ∃ x u, o = .frz x u) → GSs ⟨P, w, K, mg, base, N, qual, scope, f, cdv, A, outer, n0⟩ (rpD K) H0 body (gBs K H0 m i)) :
    GnT P w K mg base (k + 1) f fd ps (runT ps.length N.length m i) := by
  obtain ⟨oc, od, dV, kV, doc, pm, an, cdv, ct, osl, rfl, lk, hcd, _, _⟩ := F.ex
  refine gn_of lk hcd S (fun vs H ds h => h.1) (fun vs H H' ds q ⟨h1, args, O, n, r, e⟩ => ⟨h1, args, O, n, reps_tups q n r, e⟩) fun A outer n0 H0 vs ds hr hfz ⟨hl, args, O, n, r, e⟩ => ⟨_, hbody cdv A outer n0 H0 hr hfz, ?_⟩
  have hp : ps.length ≤ N.length := by
    have := congrArg List.length S.pre
    rw [List.length_take] at this
    omega
  have I := se_start (N := N) (O := fun _ => False) (fun _ z => z.elim) (reps_tups (fun _ _ z => z) n r) (by omega)
  unfold runT at e
  split at e
  · split at e
    · rename_i env' h1
      split at e
      · rename_i items h2
        split at e
        · rename_i ok
          cases e
          exact ⟨_, _, env', items, [], I, by rw [er_start, hl]; exact h1, h2, ok, by simp, fun _ _ => rfl⟩
        · cases e
      · cases e
    · cases e
  · cases e
end
/-! ### calls -/
section
variable {X : Cx} {k : Nat} {f : Addr} {fd : FuncData} {ps : List Str} {g : List D → Option (List D)} {x : Str} {p pos : Pos} {e : Expr} {es : List Expr} {fs : E → Option (List D)} {fa : E → Option D}
def flG (g : List D → Option (List D)) (fs : E → Option (List D)) : E → Option (List D) := fun env => match fs env with
  | some args => if args.all flatD = true then g args else none
  | none => none
def nlG (g : List D → Option (List D)) (fs : E → Option (List D)) : E → Option (List D) := fun env => match fs env with
  | some args => if noLs args = true then g args else none
  | none => none
theorem pgn_callI (F : GnI X.prog X.w X.K X.mg X.base k f fd ps g) (hn : ∀ ds d, g ds = some d → ds.length = ps.length) (hr : Room k X.A) (hg : Gl X x) (hm : X.mg x = some (.ref f)) (hk : PySem.W.keepIn X.K (.ref f) = true) (hb : Binds X.K fd ps []) (ha : PXs X (e :: es) fs) (hdb : (x == ("__debug__" : Str)) = false := by decide)
    (he : starEach (e :: es) X.env = (false, eval e X.env) :: starEach es X.env := by rfl) (hpl : (backTo pos (starEach es X.env)).any (·.1) = false := by rfl) : PGn X k (.Call (.Name x p) (e :: es) [] pos) (rpD X.K) (TGX X.K (flG g fs)) :=
  PGn_imp (pgn_call F hr hg hm hk hb ha hdb he hpl) fun σ H R ⟨O, env, ds, re, h, q⟩ => by
    unfold flG at h
    split at h
    · rename_i args h1
      split at h
      · rename_i fl
        refine ⟨O, env, args, re, h1, fun vs H1 x r => ⟨ds, ⟨by rw [reps_len r]; exact hn _ _ h, args, fl, flat_eq fl r, h⟩, q H1 x⟩⟩
      · cases h
    · cases h
theorem pgn_callT (F : GnT X.prog X.w X.K X.mg X.base k f fd ps g) (hn : ∀ ds d, g ds = some d → ds.length = ps.length) (hr : Room k X.A) (hg : Gl X x) (hm : X.mg x = some (.ref f)) (hk : PySem.W.keepIn X.K (.ref f) = true) (hb : Binds X.K fd ps []) (ha : PXs X (e :: es) fs) (hdb : (x == ("__debug__" : Str)) = false := by decide)
    (he : starEach (e :: es) X.env = (false, eval e X.env) :: starEach es X.env := by rfl) (hpl : (backTo pos (starEach es X.env)).any (·.1) = false := by rfl) : PGn X k (.Call (.Name x p) (e :: es) [] pos) (rpD X.K) (TGX X.K (nlG g fs)) :=
  PGn_imp (pgn_call F hr hg hm hk hb ha hdb he hpl) fun σ H R ⟨O, env, ds, re, h, q⟩ => by
    unfold nlG at h
    split at h
    · rename_i args h1
      split at h
      · rename_i fl
        refine ⟨O, env, args, re, h1, fun vs H1 x r => ⟨ds, ⟨by rw [reps_len r]; exact hn _ _ h, args, O, fl, r, h⟩, q H1 x⟩⟩
      · cases h
    · cases h
/-- f(e, key=True) -/
def kwG (g : List D → Option (List D)) (fa : E → Option D) : E → Option (List D) := fun env => match fa env with
  | some d => if flatD d = true then g [d, .bl true] else none
  | none => none
theorem pgn_callK {key : Str} {j : Nat} {cp kp : Pos} (F : GnI X.prog X.w X.K X.mg X.base k f fd ps g) (h2 : ps.length = 2) (hr : Room k X.A) (hg : Gl X x) (hm : X.mg x = some (.ref f)) (hk : PySem.W.keepIn X.K (.ref f) = true) (hb : KBn X.K fd ps 1 [key] (fun us ws => us ++ ws) (fun vs zs => vs ++ zs)) (ha : PX X e fa) (hdb : (x == ("__debug__" : Str)) = false := by decide)
    (hall : (backToKw pos (keywordEach [⟨some key, .Constant (.bool true) j cp, kp⟩] X.env)).all (·.1.isSome) = true := by rfl) (hks : (backToKw pos (keywordEach [⟨some key, .Constant (.bool true) j cp, kp⟩] X.env)).filterMap (·.1) = [key] := by rfl)
    (he : starEach [e] X.env = (false, eval e X.env) :: starEach [] X.env := by rfl) (hpl : ((backTo pos (starEach [e] X.env)).any (·.1) || (backToKw pos (keywordEach [⟨some key, .Constant (.bool true) j cp, kp⟩] X.env)).any (·.1.isNone)) = false := by rfl) :
    PGn X k (.Call (.Name x p) [e] [⟨some key, .Constant (.bool true) j cp, kp⟩] pos) (rpD X.K) (TGX X.K (kwG g fa)) :=
  PGn_imp (pgn_callN F hr hg hm hk hb (pxs_cons ha pxs_nil he) (pk_cons pe_bl pk_nil) hall hks hdb he hpl) fun σ H R ⟨O, env, ds, re, h, q⟩ => by
    unfold kwG at h
    split at h
    · rename_i d h1
      split at h
      · rename_i fl
        refine ⟨O, env, [d], re, by unfold cons2; rw [h1], fun vs H1 x r => ?_⟩
        obtain ⟨v, rfl, rv⟩ := reps1 r
        obtain ⟨rfl, _⟩ := flat_rep fl rv
        exact ⟨rfl, rfl, ds, ⟨by rw [h2]; rfl, [d, .bl true], by rw [List.all_cons, fl]; rfl, rfl, h⟩, q H1 x⟩
      · cases h
    · cases h
theorem paired_reps {H : Hp} {O : Addr → Prop} : ∀ {ys : List V} {ds : List D}, Paired (rpD K H) ys ds → reps K H O ds ys
  | _, _, .nil => reps_nil
  | _, _, .cons h t => reps_cons (rep_tups (fun _ _ z => z) h.1 h.2) (paired_reps t)
def lstG (f : E → Option (List D)) : E → Option D := fun env => match f env with
  | some ds => if ds.length ≤ LIM then some (.lst ds) else none
  | none => none
theorem px_listG {nm : Str} {f : E → Option (List D)} (h : PGn X k e (rpD X.K) (TGX X.K f)) (hr : Room (k + 3) X.A) (hg : Gl X nm) (hmg : X.mg nm = none) (hv : bootBuiltins nm = some (.type "list")) (hnm : nm ≠ "__name__" := by decide) (hdb : (nm == ("__debug__" : Str)) = false := by decide)
    (he : starEach [e] X.env = (false, eval e X.env) :: starEach [] X.env := by rfl) : PX X (.Call (.Name nm p) [e] [] pos) (lstG f) :=
  PE_imp (pe_listG (pgen_of byTups_rpD (fun H H' x d z r => rpD_mono z r) h) (fun pins σ H s e s' I hc => by
      obtain ⟨a, B, H', cls, d, _, _, _, _, _, _, _, z⟩ := hc
      exact z.elim) (fun cls d H z => z.elim) hr hg hmg hv hnm hdb he) fun σ H Q ⟨O, env, d, re, h, q⟩ => by
    unfold lstG at h
    split at h
    · rename_i ds h1
      split at h
      · rename_i hl
        cases h
        refine ⟨O, env, ds, re, h1, fun H1 x => ⟨lim_le hl, fun ys H' y pr p hp => ?_⟩⟩
        have xy : Ext H H' := x.trans fun b o z => y b o z
        exact q _ _ (xy.trans (.upd hp)) (new_lst hp (fun b o => (re.ext xy).dom b o) (paired_reps pr))
      · cases h
    · cases h
end
end
end Wd
set_option maxRecDepth 100000
set_option maxHeartbeats 1000000
/-! defs by names, calls of them; results that are ours; constants -/
namespace Wd
open PySem L2 PyProof.Rows Wg
theorem bt_len : bootBuiltins "len" = some (.builtin "len") := by decide +kernel
theorem bt_abs : bootBuiltins "abs" = some (.builtin "abs") := by decide +kernel
theorem bt_min : bootBuiltins "min" = some (.builtin "min") := by decide +kernel
theorem bt_max : bootBuiltins "max" = some (.builtin "max") := by decide +kernel
theorem bt_divmod : bootBuiltins "divmod" = some (.builtin "divmod") := by decide +kernel
theorem bt_sorted : bootBuiltins "sorted" = some (.builtin "sorted") := by decide +kernel
theorem bt_isinstance : bootBuiltins "isinstance" = some (.builtin "isinstance") := by decide +kernel
theorem bt_int : bootBuiltins "int" = some (.type "int") := by decide +kernel
theorem bt_bool : bootBuiltins "bool" = some (.type "bool") := by decide +kernel
theorem bt_str : bootBuiltins "str" = some (.type "str") := by decide +kernel
theorem bt_tuple : bootBuiltins "tuple" = some (.type "tuple") := by decide +kernel
theorem bt_list : bootBuiltins "list" = some (.type "list") := by decide +kernel
theorem bt_set : bootBuiltins "set" = some (.type "set") := by decide +kernel
section
variable {K : PySem.W.Frag} {H0 H1 H H' : Hp} {O0 O O' : Addr → Prop} {σ σ' : L2.St} {se se' : List SE} {i j : Nat}
variable {X : Cx} {pos : Pos} {st : Stmt} {rest : List Stmt} {f fa fb : E → Option D} {e : Expr} {es : List Expr} {a b : Expr}
/-- a test whose names are read as they stand now -/
def borT (t : E → Option Bool) : E → Option Bool := fun env => t ⟨env.fz, env.fz⟩
theorem pxt_bor {t : E → Option Bool} (h : PXt X a t) : PXt X a (borT t) := PT_imp h fun σ H Q ⟨O, env, b, r, e, q⟩ => by
  obtain ⟨Ob, hb, q'⟩ := r.low
  exact ⟨Ob, ⟨env.fz, env.fz⟩, b, ⟨fun b o => r.dom b (hb b o), q', ⟨Ob, fun _ z => z, q'⟩, ⟨r.len.2, r.len.2⟩⟩, e, q⟩
/-- a name of the top that stands for d -/
structure Cn (K : PySem.W.Frag) (mg : Str → Option Value) (x : Str) (d : D) : Prop where
  ex : ∃ v u, mg x = some u ∧ RelV v u ∧ ∀ H O, rep K H O d v
theorem px_cn {x : Str} {d : D} (h : Cn X.K X.mg x d) (hg : Gl X x) (hd : (x == ("__debug__" : Str)) = false := by decide) : PX X (.Name x pos) (fun _ => some d) :=
  let ⟨v, u, hm, r, hr⟩ := h.ex
  px_glob hg hm r hr hd
/-! ### defs by names -/
structure Df (P : Program) (w : World) (K : PySem.W.Frag) (mg : Str → Option Value) (base : Heap) (k : Nat) (x : Str) (ps : List Str) (g : List D → Option D) : Prop where
  ex : ∃ f fd, mg x = some (.ref f) ∧ FnF P w K mg base k f fd ps g ∧ PySem.W.keepIn K (.ref f) = true ∧ Binds K fd ps []
  len : ∀ ds d, g ds = some d → ds.length = ps.length
structure GfI (P : Program) (w : World) (K : PySem.W.Frag) (mg : Str → Option Value) (base : Heap) (k : Nat) (x : Str) (ps : List Str) (g : List D → Option (List D)) : Prop where
  ex : ∃ f fd, mg x = some (.ref f) ∧ GnI P w K mg base k f fd ps g ∧ PySem.W.keepIn K (.ref f) = true ∧ Binds K fd ps []
  len : ∀ ds d, g ds = some d → ds.length = ps.length
structure GfK (P : Program) (w : World) (K : PySem.W.Frag) (mg : Str → Option Value) (base : Heap) (k : Nat) (x key : Str) (ps : List Str) (g : List D → Option (List D)) : Prop where
  ex : ∃ f fd, mg x = some (.ref f) ∧ GnI P w K mg base k f fd ps g ∧ PySem.W.keepIn K (.ref f) = true ∧ KBn K fd ps 1 [key] (fun us ws => us ++ ws) (fun vs zs => vs ++ zs)
  two : ps.length = 2
structure GfT (P : Program) (w : World) (K : PySem.W.Frag) (mg : Str → Option Value) (base : Heap) (k : Nat) (x : Str) (ps : List Str) (g : List D → Option (List D)) : Prop where
  ex : ∃ f fd, mg x = some (.ref f) ∧ GnT P w K mg base k f fd ps g ∧ PySem.W.keepIn K (.ref f) = true ∧ Binds K fd ps []
  len : ∀ ds d, g ds = some d → ds.length = ps.length
theorem runG_len {n N : Nat} {m : MG} {ds : List D} {d : List D} (h : runG n N m ds = some d) : ds.length = n := by
  unfold runG at h
  split at h
  · rename_i z; exact z.1
  · cases h
theorem runT_len {n N i : Nat} {m : M} {ds : List D} {d : List D} (h : runT n N m i ds = some d) : ds.length = n := by
  unfold runT at h
  split at h
  · assumption
  · cases h
section
variable {k : Nat} {x : Str} {ps : List Str} {p : Pos}
theorem px_callD {g : List D → Option D} {fs : E → Option (List D)} (F : Df X.prog X.w X.K X.mg X.base k x ps g) (hr : Room k X.A) (hg : Gl X x) (ha : PXs X (e :: es) fs) (hdb : (x == ("__debug__" : Str)) = false := by decide)
    (he : starEach (e :: es) X.env = (false, eval e X.env) :: starEach es X.env := by rfl) (hpl : (backTo pos (starEach es X.env)).any (·.1) = false := by rfl) : PX X (.Call (.Name x p) (e :: es) [] pos) (mapT g fs) :=
  let ⟨_, _, hm, hF, hk, hb⟩ := F.ex
  px_call hF F.len hr hg hm hk hb ha hdb he hpl
theorem pgn_D {g : List D → Option (List D)} {fs : E → Option (List D)} (F : GfI X.prog X.w X.K X.mg X.base k x ps g) (hr : Room k X.A) (hg : Gl X x) (ha : PXs X (e :: es) fs) (hdb : (x == ("__debug__" : Str)) = false := by decide)
    (he : starEach (e :: es) X.env = (false, eval e X.env) :: starEach es X.env := by rfl) (hpl : (backTo pos (starEach es X.env)).any (·.1) = false := by rfl) : PGn X k (.Call (.Name x p) (e :: es) [] pos) (rpD X.K) (TGX X.K (flG g fs)) :=
  let ⟨_, _, hm, hF, hk, hb⟩ := F.ex
  pgn_callI hF F.len hr hg hm hk hb ha hdb he hpl
theorem pgn_DT {g : List D → Option (List D)} {fs : E → Option (List D)} (F : GfT X.prog X.w X.K X.mg X.base k x ps g) (hr : Room k X.A) (hg : Gl X x) (ha : PXs X (e :: es) fs) (hdb : (x == ("__debug__" : Str)) = false := by decide)
    (he : starEach (e :: es) X.env = (false, eval e X.env) :: starEach es X.env := by rfl) (hpl : (backTo pos (starEach es X.env)).any (·.1) = false := by rfl) : PGn X k (.Call (.Name x p) (e :: es) [] pos) (rpD X.K) (TGX X.K (nlG g fs)) :=
  let ⟨_, _, hm, hF, hk, hb⟩ := F.ex
  pgn_callT hF F.len hr hg hm hk hb ha hdb he hpl
theorem pgn_DK {g : List D → Option (List D)} {key : Str} {j : Nat} {cp kp : Pos} (F : GfK X.prog X.w X.K X.mg X.base k x key ps g) (hr : Room k X.A) (hg : Gl X x) (ha : PX X e fa) (hdb : (x == ("__debug__" : Str)) = false := by decide)
    (hall : (backToKw pos (keywordEach [⟨some key, .Constant (.bool true) j cp, kp⟩] X.env)).all (·.1.isSome) = true := by rfl) (hks : (backToKw pos (keywordEach [⟨some key, .Constant (.bool true) j cp, kp⟩] X.env)).filterMap (·.1) = [key] := by rfl)
    (he : starEach [e] X.env = (false, eval e X.env) :: starEach [] X.env := by rfl) (hpl : ((backTo pos (starEach [e] X.env)).any (·.1) || (backToKw pos (keywordEach [⟨some key, .Constant (.bool true) j cp, kp⟩] X.env)).any (·.1.isNone)) = false := by rfl) :
    PGn X k (.Call (.Name x p) [e] [⟨some key, .Constant (.bool true) j cp, kp⟩] pos) (rpD X.K) (TGX X.K (kwG g fa)) :=
  let ⟨_, _, hm, hF, hk, hb⟩ := F.ex
  pgn_callK hF F.two hr hg hm hk hb ha hdb hall hks he hpl
/-- a call's result that is a list of our own -/
def ownG (g : List D → Option D) (fs : E → Option (List D)) : E → Option (List D) := fun env => match fs env with
  | some args => if noLs args = true then (match g args with
    | some (.lst ds) => if noLs ds = true then some ds else none
    | _ => none) else none
  | none => none
theorem pf_callD {g : List D → Option D} {fs : E → Option (List D)} (F : Df X.prog X.w X.K X.mg X.base k x ps g) (hr : Room k X.A) (hg : Gl X x) (ha : PXs X (e :: es) fs) (hdb : (x == ("__debug__" : Str)) = false := by decide)
    (he : starEach (e :: es) X.env = (false, eval e X.env) :: starEach es X.env := by rfl) (hpl : (backTo pos (starEach es X.env)).any (·.1) = false := by rfl) : PF X (.Call (.Name x p) (e :: es) [] pos) (ownG g fs) := by
  obtain ⟨fA, fd, hm, hF, hk, hb⟩ := F.ex
  refine PE_imp (pe_call hF hr hg hm hk hb .nil pass0 ha hdb he hpl) fun σ H Q ⟨O, env, ds, re, h, q⟩ => ?_
  unfold ownG at h
  split at h
  · rename_i args h1
    split at h
    · rename_i n1
      split at h
      · rename_i ds' h2
        split at h
        · rename_i n2
          cases h
          refine ⟨O, env, args, re, h1, fun vs H1 x1 r1 => ?_⟩
          show SpF X.K ps.length g (vs ++ []) H1 Q E0
          rw [List.append_nil]
          refine ⟨by rw [reps_len r1]; exact F.len args _ h2, fun b => H1 b ≠ none, args, .lst ds, fun b o => o, reps_tups (fun _ _ z => z) n1 r1, h2, fun v H2 x2 rv => ?_⟩
          obtain ⟨p, xs, rfl, np, hp, rr⟩ := rep_lst rv
          have hn : H1 p = none := Classical.byContradiction np
          let H3 : Hp := fun b => if b = p then none else H2 b
          have e3 : upd H3 p (.lst xs) = H2 := by
            funext b
            by_cases hb : b = p
            · subst hb; rw [upd_same, hp]
            · rw [upd_ne hb]; exact if_neg hb
          have x3 : Ext H H3 := fun b o z => by
            have hb : b ≠ p := by rintro rfl; have := x1 b o z; rw [hn] at this; cases this
            show (if b = p then none else H2 b) = _
            rw [if_neg hb]
            exact x2 b o (x1 b o z)
          have := q H3 p xs x3 (if_pos rfl) (reps_tups (fun b ys rd => by
            have hb : b ≠ p := by
              rintro rfl
              rcases rd with rd | ⟨o, rd⟩ <;> rw [hp] at rd <;> cases rd
            rcases rd with rd | ⟨o, rd⟩
            · exact .inl (by show (if b = p then none else H2 b) = _; rw [if_neg hb]; exact rd)
            · exact .inr ⟨o, by show (if b = p then none else H2 b) = _; rw [if_neg hb]; exact rd⟩) n2 rr)
          rw [e3] at this
          exact this
        · cases h
      · cases h
    · cases h
  · cases h
end
end
end Wd
set_option maxRecDepth 100000
set_option maxHeartbeats 4000000
/-! what is known of the top -/
namespace Wl
open PySem L2 PyProof.Rows Wd Wg
abbrev FnP (K : PySem.W.Frag) (x : Str) (i : Nat) (kws : List (Str × V)) (f : Addr) (fd : FuncData) : Prop := FunD K x x (defArgs (top i)) (defBody (top i)) (defScope (top i)) [] kws f fd
abbrev cI (i : Int) : E → Option D := fun _ => some (.int i)
abbrev cB (b : Bool) : E → Option D := fun _ => some (.bl b)
abbrev cN : E → Option D := fun _ => some .non
abbrev cS (x : Str) : E → Option D := fun _ => some (.str x)
abbrev cD (d : D) : E → Option D := fun _ => some d
def k_MAX_NODES : D := .int 64
def k_MAX_SORTED : D := .int 5
def k_MAX_LISTED : D := .int 6
def k_MAX_SIMPLE : D := .int 4
def k_MAX_LOOPED : D := .int 3
def k_MAX_RENAMED : D := .int 9
def k_MAX_TWISTED : D := .int 6
def k_KINDS : D := .tup [.str "box", .str "strong", .str "direct", .str "levels"]
def k_MAX_RESULT : D := .int 3
structure Un (K : PySem.W.Frag) (mg : Str → Option Value) : Prop where
  len : mg "len" = none
  abs : mg "abs" = none
  min : mg "min" = none
  max : mg "max" = none
  divmod : mg "divmod" = none
  sorted : mg "sorted" = none
  isinstance : mg "isinstance" = none
  int : mg "int" = none
  bool : mg "bool" = none
  str : mg "str" = none
  tuple : mg "tuple" = none
  list : mg "list" = none
  set : mg "set" = none
  range : mg "range" = none
  enumerate : mg "enumerate" = none
  MAX_NODES : Cn K mg "MAX_NODES" k_MAX_NODES
  MAX_SORTED : Cn K mg "MAX_SORTED" k_MAX_SORTED
  MAX_LISTED : Cn K mg "MAX_LISTED" k_MAX_LISTED
  MAX_SIMPLE : Cn K mg "MAX_SIMPLE" k_MAX_SIMPLE
  MAX_LOOPED : Cn K mg "MAX_LOOPED" k_MAX_LOOPED
  MAX_RENAMED : Cn K mg "MAX_RENAMED" k_MAX_RENAMED
  MAX_TWISTED : Cn K mg "MAX_TWISTED" k_MAX_TWISTED
  KINDS : Cn K mg "KINDS" k_KINDS
  MAX_RESULT : Cn K mg "MAX_RESULT" k_MAX_RESULT
  d14 : ∃ f fd, mg "make_web" = some (.ref f) ∧ FnP K "make_web" 14 [] f fd
  d15 : ∃ f fd, mg "neighbour_rows" = some (.ref f) ∧ FnP K "neighbour_rows" 15 [] f fd
  d16 : ∃ f fd, mg "first_loop" = some (.ref f) ∧ FnP K "first_loop" 16 [] f fd
  d17 : ∃ f fd, mg "check_simple" = some (.ref f) ∧ FnP K "check_simple" 17 [] f fd
  d18 : ∃ f fd, mg "image" = some (.ref f) ∧ FnP K "image" 18 [] f fd
  d19 : ∃ f fd, mg "renamed" = some (.ref f) ∧ FnP K "renamed" 19 [] f fd
  d21 : ∃ f fd, mg "bit_of" = some (.ref f) ∧ FnP K "bit_of" 21 [] f fd
  d22 : ∃ f fd, mg "code_of" = some (.ref f) ∧ FnP K "code_of" 22 [] f fd
  d23 : ∃ f fd, mg "web_of_code" = some (.ref f) ∧ FnP K "web_of_code" 23 [] f fd
  d27 : ∃ f fd, mg "all_renamings" = some (.ref f) ∧ FnP K "all_renamings" 27 [] f fd
  d28 : ∃ f fd, mg "code_under" = some (.ref f) ∧ FnP K "code_under" 28 [] f fd
  d29 : ∃ f fd, mg "sort_row" = some (.ref f) ∧ FnP K "sort_row" 29 [] f fd
  d30 : ∃ f fd, mg "sort_of" = some (.ref f) ∧ FnP K "sort_of" 30 [] f fd
  d34 : ∃ f fd, mg "check_limit" = some (.ref f) ∧ FnP K "check_limit" 34 [] f fd
  d35 : ∃ f fd, mg "code_with" = some (.ref f) ∧ FnP K "code_with" 35 [] f fd
  d36 : ∃ f fd, mg "is_least" = some (.ref f) ∧ FnP K "is_least" 36 [] f fd
  d37 : ∃ f fd, mg "all_webs" = some (.ref f) ∧ FnP K "all_webs" 37 [("loops", .bl false)] f fd
  d39 : ∃ f fd, mg "reached" = some (.ref f) ∧ FnP K "reached" 39 [] f fd
  d40 : ∃ f fd, mg "sides" = some (.ref f) ∧ FnP K "sides" 40 [] f fd
  d42 : ∃ f fd, mg "can_cancel" = some (.ref f) ∧ FnP K "can_cancel" 42 [] f fd
  d45 : ∃ f fd, mg "may_follow" = some (.ref f) ∧ FnP K "may_follow" 45 [] f fd
  d46 : ∃ f fd, mg "completed" = some (.ref f) ∧ FnP K "completed" 46 [] f fd
  d47 : ∃ f fd, mg "find_renaming" = some (.ref f) ∧ FnP K "find_renaming" 47 [] f fd
  d48 : ∃ f fd, mg "inverse_row" = some (.ref f) ∧ FnP K "inverse_row" 48 [] f fd
  d51 : ∃ f fd, mg "twist_fault" = some (.ref f) ∧ FnP K "twist_fault" 51 [] f fd
  d52 : ∃ f fd, mg "twisted" = some (.ref f) ∧ FnP K "twisted" 52 [] f fd
  d53 : ∃ f fd, mg "may_extend" = some (.ref f) ∧ FnP K "may_extend" 53 [] f fd
  d54 : ∃ f fd, mg "twists" = some (.ref f) ∧ FnP K "twists" 54 [] f fd
  d55 : ∃ f fd, mg "is_new" = some (.ref f) ∧ FnP K "is_new" 55 [] f fd
  d56 : ∃ f fd, mg "twist_sorts" = some (.ref f) ∧ FnP K "twist_sorts" 56 [] f fd
  d58 : ∃ f fd, mg "answers" = some (.ref f) ∧ FnP K "answers" 58 [] f fd
  d61 : ∃ f fd, mg "joined" = some (.ref f) ∧ FnP K "joined" 61 [] f fd
  d62 : ∃ f fd, mg "product" = some (.ref f) ∧ FnP K "product" 62 [] f fd
  d65 : ∃ f fd, mg "direct_quotients" = some (.ref f) ∧ FnP K "direct_quotients" 65 [] f fd
  d67 : ∃ f fd, mg "_law_cell" = some (.ref f) ∧ FnP K "_law_cell" 67 [] f fd
  d68 : ∃ f fd, mg "_law_draws" = some (.ref f) ∧ FnP K "_law_draws" 68 [] f fd
  d69 : ∃ f fd, mg "_law_same" = some (.ref f) ∧ FnP K "_law_same" 69 [] f fd
  d70 : ∃ f fd, mg "_law_web" = some (.ref f) ∧ FnP K "_law_web" 70 [] f fd
  d71 : ∃ f fd, mg "_law_matrix" = some (.ref f) ∧ FnP K "_law_matrix" 71 [] f fd
  d72 : ∃ f fd, mg "_law_of_matrix" = some (.ref f) ∧ FnP K "_law_of_matrix" 72 [] f fd
  d73 : ∃ f fd, mg "_law_shuffle" = some (.ref f) ∧ FnP K "_law_shuffle" 73 [] f fd
  d74 : ∃ f fd, mg "_law_renamed" = some (.ref f) ∧ FnP K "_law_renamed" 74 [] f fd
  d75 : ∃ f fd, mg "_law_permutations" = some (.ref f) ∧ FnP K "_law_permutations" 75 [] f fd
  d76 : ∃ f fd, mg "_law_may_follow" = some (.ref f) ∧ FnP K "_law_may_follow" 76 [] f fd
  d77 : ∃ f fd, mg "_law_completes" = some (.ref f) ∧ FnP K "_law_completes" 77 [] f fd
  d78 : ∃ f fd, mg "_law_alike" = some (.ref f) ∧ FnP K "_law_alike" 78 [] f fd
  d79 : ∃ f fd, mg "_law_joined" = some (.ref f) ∧ FnP K "_law_joined" 79 [] f fd
  d80 : ∃ f fd, mg "_law_product" = some (.ref f) ∧ FnP K "_law_product" 80 [] f fd
  d81 : ∃ f fd, mg "_law_two_sided" = some (.ref f) ∧ FnP K "_law_two_sided" 81 [] f fd
  d82 : ∃ f fd, mg "_law_inverse" = some (.ref f) ∧ FnP K "_law_inverse" 82 [] f fd
  d83 : ∃ f fd, mg "_law_fault" = some (.ref f) ∧ FnP K "_law_fault" 83 [] f fd
  d84 : ∃ f fd, mg "_law_twisted" = some (.ref f) ∧ FnP K "_law_twisted" 84 [] f fd
  d85 : ∃ f fd, mg "_law_drawn_row" = some (.ref f) ∧ FnP K "_law_drawn_row" 85 [] f fd
  d86 : ∃ f fd, mg "_law_least" = some (.ref f) ∧ FnP K "_law_least" 86 [] f fd
  d87 : ∃ f fd, mg "_law_of_code" = some (.ref f) ∧ FnP K "_law_of_code" 87 [] f fd
  d88 : ∃ f fd, mg "_law_sorts_of" = some (.ref f) ∧ FnP K "_law_sorts_of" 88 [] f fd
  d89 : ∃ f fd, mg "_law_all_sorts" = some (.ref f) ∧ FnP K "_law_all_sorts" 89 [] f fd
  d90 : ∃ f fd, mg "_law_twisted_webs" = some (.ref f) ∧ FnP K "_law_twisted_webs" 90 [] f fd
  d91 : ∃ f fd, mg "_law_sides" = some (.ref f) ∧ FnP K "_law_sides" 91 [] f fd
  d92 : ∃ f fd, mg "_law_ties" = some (.ref f) ∧ FnP K "_law_ties" 92 [] f fd
  d93 : ∃ f fd, mg "_law_fits" = some (.ref f) ∧ FnP K "_law_fits" 93 [] f fd
  d94 : ∃ f fd, mg "_law_unbounded" = some (.ref f) ∧ FnP K "_law_unbounded" 94 [] f fd
  d95 : ∃ f fd, mg "_law_second" = some (.ref f) ∧ FnP K "_law_second" 95 [] f fd
  d96 : ∃ f fd, mg "_law_third" = some (.ref f) ∧ FnP K "_law_third" 96 [] f fd
  d97 : ∃ f fd, mg "_law_answers_told" = some (.ref f) ∧ FnP K "_law_answers_told" 97 [] f fd
  d98 : ∃ f fd, mg "law" = some (.ref f) ∧ FnP K "law" 98 [] f fd
theorem hu64 {k : Nat} {A : Around} (r : Room k A) : A.units + 64 < cLine := r.units
theorem hu65 {k : Nat} {A : Around} (r : Room k A) : A.units + 65 < cLine := by have := r.un; omega
theorem px_v {X : Cx} (i : Nat) {x : Str} {pos : Pos} (hN : X.N[i]? = some x := by rfl) (hv : Vis X.env.scope x := by first | exact Or.inl rfl | exact Or.inr (Or.inl rfl) | exact Or.inr (Or.inr rfl)) (hd : (x == ("__debug__" : Str)) = false := by decide) (hcd : (x == ("__classdict__" : Str)) = false := by decide) : PX X (.Name x pos) (gv i) := px_var hN hv hd hcd
theorem px_skeyD {X : Cx} {k : Nat} {g : List D → Option D} {x y y0 : Str} {p p2 pos : Pos} {kpos : Pos} {e : Expr} {fe : E → Option D} (F : Df X.prog X.w X.K X.mg X.base k y [y0] g) (hr : Room (k + 2) X.A) (hgf : Gl X y) (hg : Gl X x) (hm : X.mg x = none) (hv : bootBuiltins x = some (.builtin "sorted")) (he : PX X e fe)
    (hn : x ≠ "__name__" := by decide) (hdb : (x == ("__debug__" : Str)) = false := by decide) (hdf : (y == ("__debug__" : Str)) = false := by decide) (hs1 : starEach [e] X.env = (false, eval e X.env) :: starEach [] X.env := by rfl)
    (hs : backTo pos (starEach [e] X.env) = (false, eval e X.env) :: backTo pos (starEach [] X.env) := by rfl) (hpl : (backTo pos (starEach [e] X.env)).any (·.1) = false := by rfl)
    (hall : (backToKw pos (keywordEach [⟨some "key", .Name y p2, kpos⟩] X.env)).all (·.1.isSome) = true := by rfl) (hnone : (backToKw pos (keywordEach [⟨some "key", .Name y p2, kpos⟩] X.env)).any (·.1.isNone) = false := by rfl) (hks : (backToKw pos (keywordEach [⟨some "key", .Name y p2, kpos⟩] X.env)).filterMap (·.1) = [Str.ofString "key"] := by rfl) :
    PX X (.Call (.Name x p) [e] [⟨some "key", .Name y p2, kpos⟩] pos) (skeyV g fe) :=
  let ⟨_, _, hmf, hF, hk, hb⟩ := F.ex
  px_skey hF hb hr hgf hmf hg hm hv he hn hdb hdf hs1 hs hpl hall hnone hks
end Wl
set_option maxRecDepth 100000
set_option maxHeartbeats 4000000
/-! Wp1 -/
namespace Wl
open PySem L2 PyProof.Rows Wd Wg
theorem sc_bit_of : FnScope ["first", "second", "low", "high"] ["first", "second"] (defScope (top 21)) := ⟨rfl, rfl, rfl, by decide +kernel, rfl, by decide +kernel, by decide +kernel⟩
def m_bit_of : M := (mSeq (mSet 2 (mapT gMin (cons2 (gv 0) (cons2 (gv 1) (fun _ => some [])))))
    (mSeq (mSet 3 (mapT gMax (cons2 (gv 0) (cons2 (gv 1) (fun _ => some [])))))
    (mSeq (mRet (bin2 gAdd (bin2 gFdiv (bin2 gMul (gv 3) (bin2 gAdd (gv 3) (cI 1))) (cI 2)) (gv 2)))
    mNil)))
def g_bit_of : List D → Option D := runF 2 4 m_bit_of
theorem d_bit_of {P : Program} {w : World} {K : PySem.W.Frag} {mg : Str → Option Value} {base : Heap} (U : Un K mg) : Df P w K mg base 4 "bit_of" ["first", "second"] g_bit_of := by
  obtain ⟨f, fd, hm, F⟩ := U.d21
  refine ⟨⟨f, fd, hm, fnF_of (m := m_bit_of) F sc_bit_of fun cdv A outer s H E hr => ?_, F.kp, F.bindsN fun _ _ _ _ _ _ us hl => match us, hl with | [_, _], _ => rfl⟩, fun ds d h => runF_len h⟩
  exact (pm_cons (pm_set (i := 2) sc_bit_of.nd rfl (by first | exact .inl rfl | exact .inr rfl) (px_callB does_min (call_min2 rfl) rfl U.min bt_min (pxs_cons (px_v 0) (pxs_cons (px_v 1) pxs_nil))))
    (pm_cons (pm_set (i := 3) sc_bit_of.nd rfl (by first | exact .inl rfl | exact .inr rfl) (px_callB does_max (call_max2 rfl) rfl U.max bt_max (pxs_cons (px_v 0) (pxs_cons (px_v 1) pxs_nil))))
    (pm_cons (pm_ret (px_op op_addD does_add (px_op op_fdiv does_fdiv (px_op op_mulD does_mul (px_v 3) (px_op op_addD does_add (px_v 3) px_int)) px_int) (px_v 2)))
    pm_nil)))
theorem sc_code_of : FnScope ["web", "code", "first", "second"] ["web"] (defScope (top 22)) := ⟨rfl, rfl, rfl, by decide +kernel, rfl, by decide +kernel, by decide +kernel⟩
def m_code_of : M := (mSeq (mSet 1 (cI 0))
    (mSeq (mFor (seqV (bin2 gIx (gv 0) (cI 1))) (bTp (bCons (bNm 2) (bCons (bNm 3) bNil))) (mSeq (mSet 1 (bin2 gAdd (gv 1) (bin2 gShl (cI 1) (mapT g_bit_of (cons2 (gv 2) (cons2 (gv 3) (fun _ => some [])))))))
    mNil))
    (mSeq (mRet (gv 1))
    mNil)))
def g_code_of : List D → Option D := runF 1 4 m_code_of
theorem d_code_of {P : Program} {w : World} {K : PySem.W.Frag} {mg : Str → Option Value} {base : Heap} (U : Un K mg) : Df P w K mg base 6 "code_of" ["web"] g_code_of := by
  obtain ⟨f, fd, hm, F⟩ := U.d22
  have c_bit_of := d_bit_of (P := P) (w := w) (base := base) U
  refine ⟨⟨f, fd, hm, fnF_of (m := m_code_of) F sc_code_of fun cdv A outer s H E hr => ?_, F.kp, F.bindsN fun _ _ _ _ _ _ us hl => match us, hl with | [_], _ => rfl⟩, fun ds d h => runF_len h⟩
  exact (pm_cons (pm_set (i := 1) sc_code_of.nd rfl (by first | exact .inl rfl | exact .inr rfl) px_int)
    (pm_cons (pm_for PassesOwn.never rfl (pix_seq (px_ix ix_D does_ix (px_v 0) px_int (fun _ _ => rfl))) (pb_tup rfl 2 (len_cons (len_cons (fun _ _ _ h => len_nil h))) (pbs_cons (pb_name sc_code_of.nd rfl (by first | exact .inl rfl | exact .inr rfl)) (pbs_cons (pb_name sc_code_of.nd rfl (by first | exact .inl rfl | exact .inr rfl)) pbs_nil))) (pm_cons (pm_set (i := 1) sc_code_of.nd rfl (by first | exact .inl rfl | exact .inr rfl) (px_op op_addD does_add (px_v 1) (px_op op_shl does_shl px_int (px_callD c_bit_of (hr.mono (by decide)) rfl (pxs_cons (px_v 2) (pxs_cons (px_v 3) pxs_nil))))))
    pm_nil))
    (pm_cons (pm_ret (px_v 1))
    pm_nil)))
theorem sc_make_web : FnScope ["size", "pairs", "edges", "place", "first", "second"] ["size", "pairs"] (defScope (top 14)) := ⟨rfl, rfl, rfl, by decide +kernel, rfl, by decide +kernel, by decide +kernel⟩
def m_make_web : M := (mSeq (mIf (tst (bin2 gGt (gv 0) (cD k_MAX_NODES))) (mSeq mNever
    mNil) mNil)
    (mSeq (mIf (tst (bin2 gLt (gv 0) (cI 0))) (mSeq mNever
    mNil) mNil)
    (mSeq (mSetF 2 (shortF (fun _ => some [])))
    (mSeq (mFor (enuV (gv 1)) (bTp (bCons (bNm 3) (bCons (bTp (bCons (bNm 4) (bCons (bNm 5) bNil))) bNil))) (mSeq (mIf (notT (andT (tst (chainV gLe gLt (cI 0) (gv 4) (gv 0))) (tst (chainV gLe gLt (cI 0) (gv 5) (gv 0))))) (mSeq mNever
    mNil) mNil)
    (mSeq (mApp 2 (mapT gTup (cons2 (mapT gMin (cons2 (gv 4) (cons2 (gv 5) (fun _ => some [])))) (cons2 (mapT gMax (cons2 (gv 4) (cons2 (gv 5) (fun _ => some [])))) (fun _ => some [])))))
    mNil)))
    (mSeq (mRet (mapT gTup (cons2 (gv 0) (cons2 (mapT gTuple (cons2 (ssetV (gv 2)) (fun _ => some []))) (fun _ => some [])))))
    mNil)))))
def g_make_web : List D → Option D := runF 2 6 m_make_web
theorem d_make_web {P : Program} {w : World} {K : PySem.W.Frag} {mg : Str → Option Value} {base : Heap} (U : Un K mg) : Df P w K mg base 4 "make_web" ["size", "pairs"] g_make_web := by
  obtain ⟨f, fd, hm, F⟩ := U.d14
  refine ⟨⟨f, fd, hm, fnF_of (m := m_make_web) F sc_make_web fun cdv A outer s H E hr => ?_, F.kp, F.bindsN fun _ _ _ _ _ _ us hl => match us, hl with | [_, _], _ => rfl⟩, fun ds d h => runF_len h⟩
  exact (pm_cons (pm_if (pxt_cmp op_gt does_gt (px_v 0) (px_cn U.MAX_NODES rfl) (nomark _)) (pm_cons pm_never
    pm_nil) pm_nil)
    (pm_cons (pm_if (pxt_cmp op_lt does_lt (px_v 0) px_int (nomark _)) (pm_cons pm_never
    pm_nil) pm_nil)
    (pm_cons (pm_setF (i := 2) sc_make_web.nd rfl (by first | exact .inl rfl | exact .inr rfl) (pf_lst pxs_nil))
    (pm_cons (pm_for PassesOwn.never rfl (pix_enum rfl U.enumerate (px_v 1)) (pb_tup rfl 2 (len_cons (len_cons (fun _ _ _ h => len_nil h))) (pbs_cons (pb_name sc_make_web.nd rfl (by first | exact .inl rfl | exact .inr rfl)) (pbs_cons (pb_tup rfl 2 (len_cons (len_cons (fun _ _ _ h => len_nil h))) (pbs_cons (pb_name sc_make_web.nd rfl (by first | exact .inl rfl | exact .inr rfl)) (pbs_cons (pb_name sc_make_web.nd rfl (by first | exact .inl rfl | exact .inr rfl)) pbs_nil))) pbs_nil))) (pm_cons (pm_if (pxt_not (pxt_w (pxw_and (pxt_chain op_le does_le op_lt does_lt px_int (px_v 4) (px_v 0)) (pxw_and1 (pxt_chain op_le does_le op_lt does_lt px_int (px_v 5) (px_v 0)))))) (pm_cons pm_never
    pm_nil) pm_nil)
    (pm_cons (pm_app (i := 2) rfl (by first | exact .inl rfl | exact .inr (.inl rfl) | exact .inr (.inr rfl)) (px_tup (pxs_cons (px_callB does_min (call_min2 rfl) rfl U.min bt_min (pxs_cons (px_v 4) (pxs_cons (px_v 5) pxs_nil))) (pxs_cons (px_callB does_max (call_max2 rfl) rfl U.max bt_max (pxs_cons (px_v 4) (pxs_cons (px_v 5) pxs_nil))) pxs_nil))))
    pm_nil)))
    (pm_cons (pm_ret (px_tup (pxs_cons (px_v 0) (pxs_cons (px_callTy does_tuple call_tuple_of rfl U.tuple bt_tuple (pxs_cons (px_sset rfl (hu64 hr) rfl U.sorted bt_sorted rfl U.set bt_set (px_v 2)) pxs_nil)) pxs_nil))))
    pm_nil)))))
theorem sc_neighbour_rows : FnScope ["web", "rows", "first", "second", "_", "row"] ["web"] (defScope (top 15)) := ⟨rfl, rfl, rfl, by decide +kernel, rfl, by decide +kernel, by decide +kernel⟩
def m_neighbour_rows : M := (mSeq (mSet2 1 [4] (rng1 (cons2 (bin2 gIx (gv 0) (cI 0)) (fun _ => some []))) (eNm 4) (shortF (fun _ => some [])))
    (mSeq (mFor (seqV (bin2 gIx (gv 0) (cI 1))) (bTp (bCons (bNm 2) (bCons (bNm 3) bNil))) (mSeq (mApp2 1 (gv 2) (gv 3))
    (mSeq (mIf (tst (bin2 (gEqB true) (gv 2) (gv 3))) (mSeq (mApp2 1 (gv 3) (gv 2))
    mNil) mNil)
    mNil)))
    (mSeq (mRet (lstV (lcV [5] (seqV (gv 1)) (eNm 5) yesT (mapT gSortI (cons2 (gv 5) (fun _ => some []))))))
    mNil)))
def g_neighbour_rows : List D → Option D := runF 1 6 m_neighbour_rows
theorem d_neighbour_rows {P : Program} {w : World} {K : PySem.W.Frag} {mg : Str → Option Value} {base : Heap} (U : Un K mg) : Df P w K mg base 4 "neighbour_rows" ["web"] g_neighbour_rows := by
  obtain ⟨f, fd, hm, F⟩ := U.d15
  refine ⟨⟨f, fd, hm, fnF_of (m := m_neighbour_rows) F sc_neighbour_rows fun cdv A outer s H E hr => ?_, F.kp, F.bindsN fun _ _ _ _ _ _ us hl => match us, hl with | [_], _ => rfl⟩, fun ds d h => runF_len h⟩
  exact (pm_cons (pm_set2 (i := 1) (own := [("_", 4)]) rfl sc_neighbour_rows.nd rfl rfl rfl (pix_rng1 rfl U.range (pxs_cons (px_ix ix_D does_ix (px_v 0) px_int (fun _ _ => rfl)) pxs_nil)) (blkOk_by (by rfl)) (by decide) (fun _ _ _ _ _ => (pl_name sc_neighbour_rows.nd rfl (by first | exact .inl rfl | exact .inr rfl))) (fun _ _ _ _ _ => (pf_lst pxs_nil)))
    (pm_cons (pm_for PassesOwn.never rfl (pix_seq (px_ix ix_D does_ix (px_v 0) px_int (fun _ _ => rfl))) (pb_tup rfl 2 (len_cons (len_cons (fun _ _ _ h => len_nil h))) (pbs_cons (pb_name sc_neighbour_rows.nd rfl (by first | exact .inl rfl | exact .inr rfl)) (pbs_cons (pb_name sc_neighbour_rows.nd rfl (by first | exact .inl rfl | exact .inr rfl)) pbs_nil))) (pm_cons (pm_app2 (i := 1) rfl (by first | exact .inl rfl | exact .inr (.inl rfl) | exact .inr (.inr rfl)) (px_v 2) (fun _ _ => rfl) (px_v 3))
    (pm_cons (pm_if (pxt_cmp (op_neB (hu64 hr)) does_eqB (px_v 2) (px_v 3) (nomark _)) (pm_cons (pm_app2 (i := 1) rfl (by first | exact .inl rfl | exact .inr (.inl rfl) | exact .inr (.inr rfl)) (px_v 3) (fun _ _ => rfl) (px_v 2))
    pm_nil) pm_nil)
    pm_nil)))
    (pm_cons (pm_ret (px_lc (own := [("row", 5)]) rfl sc_neighbour_rows.nd (pix_seq (px_v 1)) (blkOk_by (by rfl)) (by decide) (fun _ _ _ _ _ => (pl_name sc_neighbour_rows.nd rfl (by first | exact .inl rfl | exact .inr rfl))) (fun _ _ _ _ _ => plt_nil) (fun _ _ _ _ _ => (px_callB does_sortI cr_sortedI rfl U.sorted bt_sorted (pxs_cons (px_v 5) pxs_nil)))))
    pm_nil)))
theorem sc_first_loop : FnScope ["web", "first", "second"] ["web"] (defScope (top 16)) := ⟨rfl, rfl, rfl, by decide +kernel, rfl, by decide +kernel, by decide +kernel⟩
def m_first_loop : M := (mSeq (mFor (seqV (bin2 gIx (gv 0) (cI 1))) (bTp (bCons (bNm 1) (bCons (bNm 2) bNil))) (mSeq (mIf (tst (bin2 (gEqB false) (gv 1) (gv 2))) (mSeq (mRet (gv 1))
    mNil) mNil)
    mNil))
    (mSeq (mRet cN)
    mNil))
def g_first_loop : List D → Option D := runF 1 3 m_first_loop
theorem d_first_loop {P : Program} {w : World} {K : PySem.W.Frag} {mg : Str → Option Value} {base : Heap} (U : Un K mg) : Df P w K mg base 4 "first_loop" ["web"] g_first_loop := by
  obtain ⟨f, fd, hm, F⟩ := U.d16
  refine ⟨⟨f, fd, hm, fnF_of (m := m_first_loop) F sc_first_loop fun cdv A outer s H E hr => ?_, F.kp, F.bindsN fun _ _ _ _ _ _ us hl => match us, hl with | [_], _ => rfl⟩, fun ds d h => runF_len h⟩
  exact (pm_cons (pm_for PassesOwn.never rfl (pix_seq (px_ix ix_D does_ix (px_v 0) px_int (fun _ _ => rfl))) (pb_tup rfl 2 (len_cons (len_cons (fun _ _ _ h => len_nil h))) (pbs_cons (pb_name sc_first_loop.nd rfl (by first | exact .inl rfl | exact .inr rfl)) (pbs_cons (pb_name sc_first_loop.nd rfl (by first | exact .inl rfl | exact .inr rfl)) pbs_nil))) (pm_cons (pm_if (pxt_cmp (op_eqB (hu64 hr)) does_eqB (px_v 1) (px_v 2) (nomark _)) (pm_cons (pm_ret (px_v 1))
    pm_nil) pm_nil)
    pm_nil))
    (pm_cons (pm_ret px_non)
    pm_nil))
theorem sc_check_simple : FnScope ["web", "node"] ["web"] (defScope (top 17)) := ⟨rfl, rfl, rfl, by decide +kernel, rfl, by decide +kernel, by decide +kernel⟩
def m_check_simple : M := (mSeq (mSet 1 (mapT g_first_loop (cons2 (gv 0) (fun _ => some []))))
    (mSeq (mIf (tst (nonV true (gv 1))) (mSeq mNever
    mNil) mNil)
    mNil))
def g_check_simple : List D → Option D := runF 1 2 m_check_simple
theorem d_check_simple {P : Program} {w : World} {K : PySem.W.Frag} {mg : Str → Option Value} {base : Heap} (U : Un K mg) : Df P w K mg base 6 "check_simple" ["web"] g_check_simple := by
  obtain ⟨f, fd, hm, F⟩ := U.d17
  have c_first_loop := d_first_loop (P := P) (w := w) (base := base) U
  refine ⟨⟨f, fd, hm, fnF_of (m := m_check_simple) F sc_check_simple fun cdv A outer s H E hr => ?_, F.kp, F.bindsN fun _ _ _ _ _ _ us hl => match us, hl with | [_], _ => rfl⟩, fun ds d h => runF_len h⟩
  exact (pm_cons (pm_set (i := 1) sc_check_simple.nd rfl (by first | exact .inl rfl | exact .inr rfl) (px_callD c_first_loop (hr.mono (by decide)) rfl (pxs_cons (px_v 0) pxs_nil)))
    (pm_cons (pm_if (pxt_notN (px_v 1)) (pm_cons pm_never
    pm_nil) pm_nil)
    pm_nil))
theorem sc_image : FnScope ["web", "row", "size", "place", "node", "first", "second"] ["web", "row", "size"] (defScope (top 18)) := ⟨rfl, rfl, rfl, by decide +kernel, rfl, by decide +kernel, by decide +kernel⟩
def m_image : M := (mSeq (mIf (tst (bin2 gGt (gv 2) (cD k_MAX_NODES))) (mSeq mNever
    mNil) mNil)
    (mSeq (mIf (tst (bin2 (gEqB true) (mapT gLen (cons2 (gv 1) (fun _ => some []))) (bin2 gIx (gv 0) (cI 0)))) (mSeq mNever
    mNil) mNil)
    (mSeq (mFor (enuV (gv 1)) (bTp (bCons (bNm 3) (bCons (bNm 4) bNil))) (mSeq (mIf (notT (tst (chainV gLe gLt (cI 0) (gv 4) (gv 2)))) (mSeq mNever
    mNil) mNil)
    mNil))
    (mSeq (mRet (mapT g_make_web (cons2 (gv 2) (cons2 (lstV (lcV [5, 6] (seqV (bin2 gIx (gv 0) (cI 1))) (eTp (eCons (eNm 5) (eCons (eNm 6) eNil))) yesT (mapT gTup (cons2 (bin2 gIx (gv 1) (gv 5)) (cons2 (bin2 gIx (gv 1) (gv 6)) (fun _ => some [])))))) (fun _ => some [])))))
    mNil))))
def g_image : List D → Option D := runF 3 7 m_image
theorem d_image {P : Program} {w : World} {K : PySem.W.Frag} {mg : Str → Option Value} {base : Heap} (U : Un K mg) : Df P w K mg base 6 "image" ["web", "row", "size"] g_image := by
  obtain ⟨f, fd, hm, F⟩ := U.d18
  have c_make_web := d_make_web (P := P) (w := w) (base := base) U
  refine ⟨⟨f, fd, hm, fnF_of (m := m_image) F sc_image fun cdv A outer s H E hr => ?_, F.kp, F.bindsN fun _ _ _ _ _ _ us hl => match us, hl with | [_, _, _], _ => rfl⟩, fun ds d h => runF_len h⟩
  exact (pm_cons (pm_if (pxt_cmp op_gt does_gt (px_v 2) (px_cn U.MAX_NODES rfl) (nomark _)) (pm_cons pm_never
    pm_nil) pm_nil)
    (pm_cons (pm_if (pxt_cmp (op_neB (hu64 hr)) does_eqB (px_callB does_len call_len_seq rfl U.len bt_len (pxs_cons (px_v 1) pxs_nil)) (px_ix ix_D does_ix (px_v 0) px_int (fun _ _ => rfl)) (nomark _)) (pm_cons pm_never
    pm_nil) pm_nil)
    (pm_cons (pm_for PassesOwn.never rfl (pix_enum rfl U.enumerate (px_v 1)) (pb_tup rfl 2 (len_cons (len_cons (fun _ _ _ h => len_nil h))) (pbs_cons (pb_name sc_image.nd rfl (by first | exact .inl rfl | exact .inr rfl)) (pbs_cons (pb_name sc_image.nd rfl (by first | exact .inl rfl | exact .inr rfl)) pbs_nil))) (pm_cons (pm_if (pxt_not (pxt_chain op_le does_le op_lt does_lt px_int (px_v 4) (px_v 2))) (pm_cons pm_never
    pm_nil) pm_nil)
    pm_nil))
    (pm_cons (pm_ret (px_callD c_make_web (hr.mono (by decide)) rfl (pxs_cons (px_v 2) (pxs_cons (px_lc (own := [("first", 5), ("second", 6)]) rfl sc_image.nd (pix_seq (px_ix ix_D does_ix (px_v 0) px_int (fun _ _ => rfl))) (blkOk_by (by rfl)) (by decide) (fun _ _ _ _ _ => (pl_tup rfl 2 (eln_cons (eln_cons (fun _ _ _ h => eln_nil h))) (pls_cons (pl_name sc_image.nd rfl (by first | exact .inl rfl | exact .inr rfl)) (pls_cons (pl_name sc_image.nd rfl (by first | exact .inl rfl | exact .inr rfl)) pls_nil)))) (fun _ _ _ _ _ => plt_nil) (fun _ _ _ _ _ => (px_tup (pxs_cons (px_ix ix_D does_ix (px_v 1) (px_v 5) (fun _ _ => rfl)) (pxs_cons (px_ix ix_D does_ix (px_v 1) (px_v 6) (fun _ _ => rfl)) pxs_nil))))) pxs_nil))))
    pm_nil))))
theorem sc_renamed : FnScope ["web", "row", "place", "node"] ["web", "row"] (defScope (top 19)) := ⟨rfl, rfl, rfl, by decide +kernel, rfl, by decide +kernel, by decide +kernel⟩
def m_renamed : M := (mSeq (mIf (tst (bin2 (gEqB true) (mapT gLen (cons2 (gv 1) (fun _ => some []))) (bin2 gIx (gv 0) (cI 0)))) (mSeq mNever
    mNil) mNil)
    (mSeq (mFor (enuV (gv 1)) (bTp (bCons (bNm 2) (bCons (bNm 3) bNil))) (mSeq (mIf (orT (notT (tst (chainV gLe gLt (cI 0) (gv 3) (bin2 gIx (gv 0) (cI 0))))) (tst (bin2 (gInB false) (gv 3) (cutX (gv 1) (fun _ => some none) (partV (gv 2)))))) (mSeq mNever
    mNil) mNil)
    mNil))
    (mSeq (mRet (mapT g_image (cons2 (gv 0) (cons2 (gv 1) (cons2 (bin2 gIx (gv 0) (cI 0)) (fun _ => some []))))))
    mNil)))
def g_renamed : List D → Option D := runF 2 4 m_renamed
theorem d_renamed {P : Program} {w : World} {K : PySem.W.Frag} {mg : Str → Option Value} {base : Heap} (U : Un K mg) : Df P w K mg base 8 "renamed" ["web", "row"] g_renamed := by
  obtain ⟨f, fd, hm, F⟩ := U.d19
  have c_image := d_image (P := P) (w := w) (base := base) U
  refine ⟨⟨f, fd, hm, fnF_of (m := m_renamed) F sc_renamed fun cdv A outer s H E hr => ?_, F.kp, F.bindsN fun _ _ _ _ _ _ us hl => match us, hl with | [_, _], _ => rfl⟩, fun ds d h => runF_len h⟩
  exact (pm_cons (pm_if (pxt_cmp (op_neB (hu64 hr)) does_eqB (px_callB does_len call_len_seq rfl U.len bt_len (pxs_cons (px_v 1) pxs_nil)) (px_ix ix_D does_ix (px_v 0) px_int (fun _ _ => rfl)) (nomark _)) (pm_cons pm_never
    pm_nil) pm_nil)
    (pm_cons (pm_for PassesOwn.never rfl (pix_enum rfl U.enumerate (px_v 1)) (pb_tup rfl 2 (len_cons (len_cons (fun _ _ _ h => len_nil h))) (pbs_cons (pb_name sc_renamed.nd rfl (by first | exact .inl rfl | exact .inr rfl)) (pbs_cons (pb_name sc_renamed.nd rfl (by first | exact .inl rfl | exact .inr rfl)) pbs_nil))) (pm_cons (pm_if (pxt_w (pxw_or (pxt_not (pxt_chain op_le does_le op_lt does_lt px_int (px_v 3) (px_ix ix_D does_ix (px_v 0) px_int (fun _ _ => rfl)))) (pxw_or1 (pxt_cmp (op_inB (hu65 hr)) does_inB (px_v 3) (px_slice (px_v 1) pxo_none (pxo_some (px_v 2))) (by rfl))))) (pm_cons pm_never
    pm_nil) pm_nil)
    pm_nil))
    (pm_cons (pm_ret (px_callD c_image (hr.mono (by decide)) rfl (pxs_cons (px_v 0) (pxs_cons (px_v 1) (pxs_cons (px_ix ix_D does_ix (px_v 0) px_int (fun _ _ => rfl)) pxs_nil)))))
    pm_nil)))
theorem sc_web_of_code : FnScope ["size", "code", "edges", "first", "second"] ["size", "code"] (defScope (top 23)) := ⟨rfl, rfl, rfl, by decide +kernel, rfl, by decide +kernel, by decide +kernel⟩
def m_web_of_code : M := (mSeq (mIf (tst (bin2 gGt (gv 0) (cD k_MAX_NODES))) (mSeq mNever
    mNil) mNil)
    (mSeq (mIf (orT (tst (bin2 gLt (gv 1) (cI 0))) (tst (bin2 gGe (gv 1) (bin2 gShl (cI 1) (bin2 gFdiv (bin2 gMul (gv 0) (bin2 gAdd (gv 0) (cI 1))) (cI 2)))))) (mSeq mNever
    mNil) mNil)
    (mSeq (mSetF 2 (shortF (fun _ => some [])))
    (mSeq (mFor (rng1 (cons2 (gv 0) (fun _ => some []))) (bNm 3) (mSeq (mFor (rng2 (cons2 (gv 3) (cons2 (gv 0) (fun _ => some [])))) (bNm 4) (mSeq (mIf (tst (bin2 (gEqB false) (bin2 gOdd (bin2 gShr (gv 1) (mapT g_bit_of (cons2 (gv 3) (cons2 (gv 4) (fun _ => some []))))) (cI 1)) (cI 1))) (mSeq (mApp 2 (mapT gTup (cons2 (gv 3) (cons2 (gv 4) (fun _ => some [])))))
    mNil) mNil)
    mNil))
    mNil))
    (mSeq (mRet (mapT gTup (cons2 (gv 0) (cons2 (mapT gTuple (cons2 (gv 2) (fun _ => some []))) (fun _ => some [])))))
    mNil)))))
def g_web_of_code : List D → Option D := runF 2 5 m_web_of_code
theorem d_web_of_code {P : Program} {w : World} {K : PySem.W.Frag} {mg : Str → Option Value} {base : Heap} (U : Un K mg) : Df P w K mg base 6 "web_of_code" ["size", "code"] g_web_of_code := by
  obtain ⟨f, fd, hm, F⟩ := U.d23
  have c_bit_of := d_bit_of (P := P) (w := w) (base := base) U
  refine ⟨⟨f, fd, hm, fnF_of (m := m_web_of_code) F sc_web_of_code fun cdv A outer s H E hr => ?_, F.kp, F.bindsN fun _ _ _ _ _ _ us hl => match us, hl with | [_, _], _ => rfl⟩, fun ds d h => runF_len h⟩
  exact (pm_cons (pm_if (pxt_cmp op_gt does_gt (px_v 0) (px_cn U.MAX_NODES rfl) (nomark _)) (pm_cons pm_never
    pm_nil) pm_nil)
    (pm_cons (pm_if (pxt_w (pxw_or (pxt_cmp op_lt does_lt (px_v 1) px_int (nomark _)) (pxw_or1 (pxt_cmp op_ge does_ge (px_v 1) (px_op op_shl does_shl px_int (px_op op_fdiv does_fdiv (px_op op_mulD does_mul (px_v 0) (px_op op_addD does_add (px_v 0) px_int)) px_int)) (nomark _))))) (pm_cons pm_never
    pm_nil) pm_nil)
    (pm_cons (pm_setF (i := 2) sc_web_of_code.nd rfl (by first | exact .inl rfl | exact .inr rfl) (pf_lst pxs_nil))
    (pm_cons (pm_for PassesOwn.never rfl (pix_rng1 rfl U.range (pxs_cons (px_v 0) pxs_nil)) (pb_name sc_web_of_code.nd rfl (by first | exact .inl rfl | exact .inr rfl)) (pm_cons (pm_for PassesOwn.never rfl (pix_rng2 rfl U.range (pxs_cons (px_v 3) (pxs_cons (px_v 0) pxs_nil))) (pb_name sc_web_of_code.nd rfl (by first | exact .inl rfl | exact .inr rfl)) (pm_cons (pm_if (pxt_cmp (op_eqB (hu64 hr)) does_eqB (px_op op_odd does_odd (px_op op_shr does_shr (px_v 1) (px_callD c_bit_of (hr.mono (by decide)) rfl (pxs_cons (px_v 3) (pxs_cons (px_v 4) pxs_nil)))) px_int) px_int (nomark _)) (pm_cons (pm_app (i := 2) rfl (by first | exact .inl rfl | exact .inr (.inl rfl) | exact .inr (.inr rfl)) (px_tup (pxs_cons (px_v 3) (pxs_cons (px_v 4) pxs_nil))))
    pm_nil) pm_nil)
    pm_nil))
    pm_nil))
    (pm_cons (pm_ret (px_tup (pxs_cons (px_v 0) (pxs_cons (px_callTy does_tuple call_tuple_of rfl U.tuple bt_tuple (pxs_cons (px_v 2) pxs_nil)) pxs_nil))))
    pm_nil)))))
end Wl
set_option maxRecDepth 100000
set_option maxHeartbeats 4000000
/-! Wp2 -/
namespace Wl
open PySem L2 PyProof.Rows Wd Wg
theorem sc_all_renamings : GScope ["size", "rows", "_", "row", "node"] ["size"] (defScope (top 27)) := ⟨rfl, rfl, rfl, by decide +kernel, rfl, by decide +kernel, by decide +kernel⟩
def m_all_renamings : MG := (gSq (gPl (mIf (tst (bin2 gGt (gv 0) (cD k_MAX_LISTED))) (mSeq mNever
    mNil) mNil))
    (gSq (gPl (mSet 1 (mapT gLst (cons2 (mapT gTup (fun _ => some [])) (fun _ => some [])))))
    (gSq (gPl (mFor (rng1 (cons2 (gv 0) (fun _ => some []))) (bNm 2) (mSeq (mSet 1 (lstV (lcV2 [3, 4] [4] (seqV (gv 1)) (eNm 3) yesT (rng1 (cons2 (gv 0) (fun _ => some []))) (eNm 4) (tst (bin2 (gInB true) (gv 4) (gv 3))) (bin2 gAdd (gv 3) (mapT gTup (cons2 (gv 4) (fun _ => some [])))))))
    mNil)))
    (gSq (gForY 3 (gv 1))
    gNl))))
def g_all_renamings : List D → Option (List D) := runG 1 5 m_all_renamings
theorem d_all_renamings {P : Program} {w : World} {K : PySem.W.Frag} {mg : Str → Option Value} {base : Heap} (U : Un K mg) : GfI P w K mg base 4 "all_renamings" ["size"] g_all_renamings := by
  obtain ⟨f, fd, hm, F⟩ := U.d27
  refine ⟨⟨f, fd, hm, gnI_of (m := m_all_renamings) F sc_all_renamings fun cdv A outer n0 hr => ?_, F.kp, F.bindsN fun _ _ _ _ _ _ us hl => match us, hl with | [_], _ => rfl⟩, fun ds d h => runG_len h⟩
  exact (gm_cons (gm_plain fun _ _ => (pm_if (pxt_cmp op_gt does_gt (px_v 0) (px_cn U.MAX_LISTED rfl) (nomark _)) (pm_cons pm_never
    pm_nil) pm_nil))
    (gm_cons (gm_plain fun _ _ => (pm_set (i := 1) sc_all_renamings.nd rfl (by first | exact .inl rfl | exact .inr rfl) (px_lst (pxs_cons (px_tup pxs_nil) pxs_nil))))
    (gm_cons (gm_plain fun _ _ => (pm_for PassesOwn.never rfl (pix_rng1 rfl U.range (pxs_cons (px_v 0) pxs_nil)) (pb_name sc_all_renamings.nd rfl (by first | exact .inl rfl | exact .inr rfl)) (pm_cons (pm_setLc2 (i := 1) (own := [("row", 3), ("node", 4)]) (vs1 := [4]) rfl sc_all_renamings.nd rfl rfl rfl (pix_seq (px_v 1)) (blkOk_by (by rfl)) (by decide) (by decide) (by decide) (fun _ _ _ _ _ => (pl_name sc_all_renamings.nd rfl (by first | exact .inl rfl | exact .inr rfl))) (fun _ _ _ _ _ => plt_nil) (fun _ _ _ _ _ => (pix_rng1 rfl U.range (pxs_cons (px_v 0) pxs_nil))) (fun _ _ _ _ _ => (pl_name sc_all_renamings.nd rfl (by first | exact .inl rfl | exact .inr rfl))) (fun _ _ _ _ _ => (plt_one (pxt_cmp (op_niB (hu65 hr)) does_inB (px_v 4) (px_v 3) (by rfl)))) (fun _ _ _ _ _ => (px_op op_addD does_add (px_v 3) (px_tup (pxs_cons (px_v 4) pxs_nil)))))
    pm_nil)))
    (gm_cons (gm_forY (i := 3) (fun _ _ => (px_v 1)) sc_all_renamings.nd rfl (fun _ _ => (by first | exact .inl rfl | exact .inr rfl)) (fun _ _ => (by first | exact .inl rfl | exact .inr (.inl rfl) | exact .inr (.inr rfl))) rfl)
    gm_nil))))
theorem sc_code_under : FnScope ["web", "row", "code", "first", "second"] ["web", "row"] (defScope (top 28)) := ⟨rfl, rfl, rfl, by decide +kernel, rfl, by decide +kernel, by decide +kernel⟩
def m_code_under : M := (mSeq (mSet 2 (cI 0))
    (mSeq (mFor (seqV (bin2 gIx (gv 0) (cI 1))) (bTp (bCons (bNm 3) (bCons (bNm 4) bNil))) (mSeq (mSet 2 (bin2 gAdd (gv 2) (bin2 gShl (cI 1) (mapT g_bit_of (cons2 (bin2 gIx (gv 1) (gv 3)) (cons2 (bin2 gIx (gv 1) (gv 4)) (fun _ => some [])))))))
    mNil))
    (mSeq (mRet (gv 2))
    mNil)))
def g_code_under : List D → Option D := runF 2 5 m_code_under
theorem d_code_under {P : Program} {w : World} {K : PySem.W.Frag} {mg : Str → Option Value} {base : Heap} (U : Un K mg) : Df P w K mg base 6 "code_under" ["web", "row"] g_code_under := by
  obtain ⟨f, fd, hm, F⟩ := U.d28
  have c_bit_of := d_bit_of (P := P) (w := w) (base := base) U
  refine ⟨⟨f, fd, hm, fnF_of (m := m_code_under) F sc_code_under fun cdv A outer s H E hr => ?_, F.kp, F.bindsN fun _ _ _ _ _ _ us hl => match us, hl with | [_, _], _ => rfl⟩, fun ds d h => runF_len h⟩
  exact (pm_cons (pm_set (i := 2) sc_code_under.nd rfl (by first | exact .inl rfl | exact .inr rfl) px_int)
    (pm_cons (pm_for PassesOwn.never rfl (pix_seq (px_ix ix_D does_ix (px_v 0) px_int (fun _ _ => rfl))) (pb_tup rfl 2 (len_cons (len_cons (fun _ _ _ h => len_nil h))) (pbs_cons (pb_name sc_code_under.nd rfl (by first | exact .inl rfl | exact .inr rfl)) (pbs_cons (pb_name sc_code_under.nd rfl (by first | exact .inl rfl | exact .inr rfl)) pbs_nil))) (pm_cons (pm_set (i := 2) sc_code_under.nd rfl (by first | exact .inl rfl | exact .inr rfl) (px_op op_addD does_add (px_v 2) (px_op op_shl does_shl px_int (px_callD c_bit_of (hr.mono (by decide)) rfl (pxs_cons (px_ix ix_D does_ix (px_v 1) (px_v 3) (fun _ _ => rfl)) (pxs_cons (px_ix ix_D does_ix (px_v 1) (px_v 4) (fun _ _ => rfl)) pxs_nil))))))
    pm_nil))
    (pm_cons (pm_ret (px_v 2))
    pm_nil)))
theorem sc_sort_row : FnScope ["web", "best", "least", "row", "code"] ["web"] (defScope (top 29)) := ⟨rfl, rfl, rfl, by decide +kernel, rfl, by decide +kernel, by decide +kernel⟩
def m_sort_row : M := (mSeq (mIf (tst (bin2 gGt (bin2 gIx (gv 0) (cI 0)) (cD k_MAX_SORTED))) (mSeq mNever
    mNil) mNil)
    (mSeq (mSet 1 cN)
    (mSeq (mSet 2 (cI 0))
    (mSeq (mFor (flG g_all_renamings (cons2 (bin2 gIx (gv 0) (cI 0)) (fun _ => some []))) (bNm 3) (mSeq (mSet 4 (mapT g_code_under (cons2 (gv 0) (cons2 (gv 3) (fun _ => some [])))))
    (mSeq (mIf (orT (tst (nonV false (gv 1))) (tst (bin2 gLt (gv 4) (gv 2)))) (mSeq (mSet 1 (gv 3))
    (mSeq (mSet 2 (gv 4))
    mNil)) mNil)
    mNil)))
    (mSeq (mRet (gv 1))
    mNil)))))
def g_sort_row : List D → Option D := runF 1 5 m_sort_row
theorem d_sort_row {P : Program} {w : World} {K : PySem.W.Frag} {mg : Str → Option Value} {base : Heap} (U : Un K mg) : Df P w K mg base 10 "sort_row" ["web"] g_sort_row := by
  obtain ⟨f, fd, hm, F⟩ := U.d29
  have c_all_renamings := d_all_renamings (P := P) (w := w) (base := base) U
  have c_code_under := d_code_under (P := P) (w := w) (base := base) U
  refine ⟨⟨f, fd, hm, fnF_of (m := m_sort_row) F sc_sort_row fun cdv A outer s H E hr => ?_, F.kp, F.bindsN fun _ _ _ _ _ _ us hl => match us, hl with | [_], _ => rfl⟩, fun ds d h => runF_len h⟩
  exact (pm_cons (pm_if (pxt_cmp op_gt does_gt (px_ix ix_D does_ix (px_v 0) px_int (fun _ _ => rfl)) (px_cn U.MAX_SORTED rfl) (nomark _)) (pm_cons pm_never
    pm_nil) pm_nil)
    (pm_cons (pm_set (i := 1) sc_sort_row.nd rfl (by first | exact .inl rfl | exact .inr rfl) px_non)
    (pm_cons (pm_set (i := 2) sc_sort_row.nd rfl (by first | exact .inl rfl | exact .inr rfl) px_int)
    (pm_cons (pm_forG (fun _ _ h => h) (hr.mono (by decide)) (pgn_D c_all_renamings (hr.mono (by decide)) rfl (pxs_cons (px_ix ix_D does_ix (px_v 0) px_int (fun _ _ => rfl)) pxs_nil)) (pb_name sc_sort_row.nd rfl (by first | exact .inl rfl | exact .inr rfl)) (pm_cons (pm_set (i := 4) sc_sort_row.nd rfl (by first | exact .inl rfl | exact .inr rfl) (px_callD c_code_under (hr.mono (by decide)) rfl (pxs_cons (px_v 0) (pxs_cons (px_v 3) pxs_nil))))
    (pm_cons (pm_if (pxt_w (pxw_or (pxt_isN (px_v 1)) (pxw_or1 (pxt_cmp op_lt does_lt (px_v 4) (px_v 2) (nomark _))))) (pm_cons (pm_set (i := 1) sc_sort_row.nd rfl (by first | exact .inl rfl | exact .inr rfl) (px_v 3))
    (pm_cons (pm_set (i := 2) sc_sort_row.nd rfl (by first | exact .inl rfl | exact .inr rfl) (px_v 4))
    pm_nil)) pm_nil)
    pm_nil)))
    (pm_cons (pm_ret (px_v 1))
    pm_nil)))))
theorem sc_sort_of : FnScope ["web"] ["web"] (defScope (top 30)) := ⟨rfl, rfl, rfl, by decide +kernel, rfl, by decide +kernel, by decide +kernel⟩
def m_sort_of : M := (mSeq (mRet (mapT g_renamed (cons2 (gv 0) (cons2 (mapT g_sort_row (cons2 (gv 0) (fun _ => some []))) (fun _ => some [])))))
    mNil)
def g_sort_of : List D → Option D := runF 1 1 m_sort_of
theorem d_sort_of {P : Program} {w : World} {K : PySem.W.Frag} {mg : Str → Option Value} {base : Heap} (U : Un K mg) : Df P w K mg base 12 "sort_of" ["web"] g_sort_of := by
  obtain ⟨f, fd, hm, F⟩ := U.d30
  have c_renamed := d_renamed (P := P) (w := w) (base := base) U
  have c_sort_row := d_sort_row (P := P) (w := w) (base := base) U
  refine ⟨⟨f, fd, hm, fnF_of (m := m_sort_of) F sc_sort_of fun cdv A outer s H E hr => ?_, F.kp, F.bindsN fun _ _ _ _ _ _ us hl => match us, hl with | [_], _ => rfl⟩, fun ds d h => runF_len h⟩
  exact (pm_cons (pm_ret (px_callD c_renamed (hr.mono (by decide)) rfl (pxs_cons (px_v 0) (pxs_cons (px_callD c_sort_row (hr.mono (by decide)) rfl (pxs_cons (px_v 0) pxs_nil)) pxs_nil))))
    pm_nil)
theorem sc_check_limit : FnScope ["size", "loops", "limit"] ["size", "loops"] (defScope (top 34)) := ⟨rfl, rfl, rfl, by decide +kernel, rfl, by decide +kernel, by decide +kernel⟩
def m_check_limit : M := (mSeq (mSet 2 (ifV (truT (gv 1)) (cD k_MAX_LOOPED) (cD k_MAX_SIMPLE)))
    (mSeq (mIf (tst (bin2 gGt (gv 0) (gv 2))) (mSeq mNever
    mNil) mNil)
    mNil))
def g_check_limit : List D → Option D := runF 2 3 m_check_limit
theorem d_check_limit {P : Program} {w : World} {K : PySem.W.Frag} {mg : Str → Option Value} {base : Heap} (U : Un K mg) : Df P w K mg base 4 "check_limit" ["size", "loops"] g_check_limit := by
  obtain ⟨f, fd, hm, F⟩ := U.d34
  refine ⟨⟨f, fd, hm, fnF_of (m := m_check_limit) F sc_check_limit fun cdv A outer s H E hr => ?_, F.kp, F.bindsN fun _ _ _ _ _ _ us hl => match us, hl with | [_, _], _ => rfl⟩, fun ds d h => runF_len h⟩
  exact (pm_cons (pm_set (i := 2) sc_check_limit.nd rfl (by first | exact .inl rfl | exact .inr rfl) (px_if (pxt_val (px_v 1) (fun _ => rfl)) (px_cn U.MAX_LOOPED rfl) (px_cn U.MAX_SIMPLE rfl)))
    (pm_cons (pm_if (pxt_cmp op_gt does_gt (px_v 0) (px_v 2) (nomark _)) (pm_cons pm_never
    pm_nil) pm_nil)
    pm_nil))
theorem sc_code_with : FnScope ["number", "bits", "code", "place", "bit"] ["number", "bits"] (defScope (top 35)) := ⟨rfl, rfl, rfl, by decide +kernel, rfl, by decide +kernel, by decide +kernel⟩
def m_code_with : M := (mSeq (mSet 2 (cI 0))
    (mSeq (mFor (enuV (gv 1)) (bTp (bCons (bNm 3) (bCons (bNm 4) bNil))) (mSeq (mIf (tst (bin2 (gEqB false) (bin2 gOdd (bin2 gShr (gv 0) (gv 3)) (cI 1)) (cI 1))) (mSeq (mSet 2 (bin2 gAdd (gv 2) (bin2 gShl (cI 1) (gv 4))))
    mNil) mNil)
    mNil))
    (mSeq (mRet (gv 2))
    mNil)))
def g_code_with : List D → Option D := runF 2 5 m_code_with
theorem d_code_with {P : Program} {w : World} {K : PySem.W.Frag} {mg : Str → Option Value} {base : Heap} (U : Un K mg) : Df P w K mg base 4 "code_with" ["number", "bits"] g_code_with := by
  obtain ⟨f, fd, hm, F⟩ := U.d35
  refine ⟨⟨f, fd, hm, fnF_of (m := m_code_with) F sc_code_with fun cdv A outer s H E hr => ?_, F.kp, F.bindsN fun _ _ _ _ _ _ us hl => match us, hl with | [_, _], _ => rfl⟩, fun ds d h => runF_len h⟩
  exact (pm_cons (pm_set (i := 2) sc_code_with.nd rfl (by first | exact .inl rfl | exact .inr rfl) px_int)
    (pm_cons (pm_for PassesOwn.never rfl (pix_enum rfl U.enumerate (px_v 1)) (pb_tup rfl 2 (len_cons (len_cons (fun _ _ _ h => len_nil h))) (pbs_cons (pb_name sc_code_with.nd rfl (by first | exact .inl rfl | exact .inr rfl)) (pbs_cons (pb_name sc_code_with.nd rfl (by first | exact .inl rfl | exact .inr rfl)) pbs_nil))) (pm_cons (pm_if (pxt_cmp (op_eqB (hu64 hr)) does_eqB (px_op op_odd does_odd (px_op op_shr does_shr (px_v 0) (px_v 3)) px_int) px_int (nomark _)) (pm_cons (pm_set (i := 2) sc_code_with.nd rfl (by first | exact .inl rfl | exact .inr rfl) (px_op op_addD does_add (px_v 2) (px_op op_shl does_shl px_int (px_v 4))))
    pm_nil) pm_nil)
    pm_nil))
    (pm_cons (pm_ret (px_v 2))
    pm_nil)))
theorem sc_is_least : FnScope ["web", "rows", "code", "row"] ["web", "rows"] (defScope (top 36)) := ⟨rfl, rfl, rfl, by decide +kernel, rfl, by decide +kernel, by decide +kernel⟩
def m_is_least : M := (mSeq (mSet 2 (mapT g_code_of (cons2 (gv 0) (fun _ => some []))))
    (mSeq (mFor (seqV (gv 1)) (bNm 3) (mSeq (mIf (tst (bin2 gLt (mapT g_code_under (cons2 (gv 0) (cons2 (gv 3) (fun _ => some [])))) (gv 2))) (mSeq (mRet (cB false))
    mNil) mNil)
    mNil))
    (mSeq (mRet (cB true))
    mNil)))
def g_is_least : List D → Option D := runF 2 4 m_is_least
theorem d_is_least {P : Program} {w : World} {K : PySem.W.Frag} {mg : Str → Option Value} {base : Heap} (U : Un K mg) : Df P w K mg base 11 "is_least" ["web", "rows"] g_is_least := by
  obtain ⟨f, fd, hm, F⟩ := U.d36
  have c_code_of := d_code_of (P := P) (w := w) (base := base) U
  have c_code_under := d_code_under (P := P) (w := w) (base := base) U
  refine ⟨⟨f, fd, hm, fnF_of (m := m_is_least) F sc_is_least fun cdv A outer s H E hr => ?_, F.kp, F.bindsN fun _ _ _ _ _ _ us hl => match us, hl with | [_, _], _ => rfl⟩, fun ds d h => runF_len h⟩
  exact (pm_cons (pm_set (i := 2) sc_is_least.nd rfl (by first | exact .inl rfl | exact .inr rfl) (px_callD c_code_of (hr.mono (by decide)) rfl (pxs_cons (px_v 0) pxs_nil)))
    (pm_cons (pm_for PassesOwn.never rfl (pix_seq (px_v 1)) (pb_name sc_is_least.nd rfl (by first | exact .inl rfl | exact .inr rfl)) (pm_cons (pm_if (pxt_cmp op_lt does_lt (px_callD c_code_under (hr.mono (by decide)) rfl (pxs_cons (px_v 0) (pxs_cons (px_v 3) pxs_nil))) (px_v 2) (nomark _)) (pm_cons (pm_ret px_bl)
    pm_nil) pm_nil)
    pm_nil))
    (pm_cons (pm_ret px_bl)
    pm_nil)))
end Wl
set_option maxRecDepth 100000
set_option maxHeartbeats 4000000
/-! Wp3 -/
namespace Wl
open PySem L2 PyProof.Rows Wd Wg
theorem sc_reached : FnScope ["rows", "start", "seen", "queue", "at", "node"] ["rows", "start"] (defScope (top 39)) := ⟨rfl, rfl, rfl, by decide +kernel, rfl, by decide +kernel, by decide +kernel⟩
def m_reached : M := (mSeq (mSetF 2 (mulF (mapT gLst (cons2 (cB false) (fun _ => some []))) (mapT gLen (cons2 (gv 0) (fun _ => some [])))))
    (mSeq (mPut 2 (gv 1) (cB true))
    (mSeq (mSetF 3 (shortF (cons2 (gv 1) (fun _ => some []))))
    (mSeq (mSet 4 (cI 0))
    (mSeq (mWhile (tst (bin2 gLt (gv 4) (bor (mapT gLen (cons2 (gv 3) (fun _ => some [])))))) (mSeq (mFor (seqV (bin2 gIx (gv 0) (bor (bin2 gIx (gv 3) (gv 4))))) (bNm 5) (mSeq (mIf (notT (truT (bor (bin2 gIx (gv 2) (gv 5))))) (mSeq (mPut 2 (gv 5) (cB true))
    (mSeq (mApp 3 (gv 5))
    mNil)) mNil)
    mNil))
    (mSeq (mInc 4 (cI 1))
    mNil)) 12)
    (mSeq (mRet (gv 3))
    mNil))))))
def g_reached : List D → Option D := runF 2 6 m_reached
theorem d_reached {P : Program} {w : World} {K : PySem.W.Frag} {mg : Str → Option Value} {base : Heap} (U : Un K mg) : Df P w K mg base 4 "reached" ["rows", "start"] g_reached := by
  obtain ⟨f, fd, hm, F⟩ := U.d39
  refine ⟨⟨f, fd, hm, fnF_of (m := m_reached) F sc_reached fun cdv A outer s H E hr => ?_, F.kp, F.bindsN fun _ _ _ _ _ _ us hl => match us, hl with | [_, _], _ => rfl⟩, fun ds d h => runF_len h⟩
  exact (pm_cons (pm_setF (i := 2) sc_reached.nd rfl (by first | exact .inl rfl | exact .inr rfl) (pf_mul (px_lst (pxs_cons px_bl pxs_nil)) (px_callB does_len call_len_seq rfl U.len bt_len (pxs_cons (px_v 0) pxs_nil))))
    (pm_cons (pm_put (i := 2) rfl (by first | exact .inl rfl | exact .inr (.inl rfl) | exact .inr (.inr rfl)) px_bl (px_v 1))
    (pm_cons (pm_setF (i := 3) sc_reached.nd rfl (by first | exact .inl rfl | exact .inr rfl) (pf_lst (pxs_cons (px_v 1) pxs_nil)))
    (pm_cons (pm_set (i := 4) sc_reached.nd rfl (by first | exact .inl rfl | exact .inr rfl) px_int)
    (pm_cons (pm_while 12 PassesOwn.never (pxt_cmp op_lt does_lt (px_v 4) (px_bor (px_callB does_len call_len_seq rfl U.len bt_len (pxs_cons (px_v 3) pxs_nil))) (nomark _)) (pm_cons (pm_for PassesOwn.never rfl (pix_seq (px_ix ix_D does_ix (px_v 0) (px_bor (px_ix ix_D does_ix (px_v 3) (px_v 4) (fun _ _ => rfl))) (fun _ _ => rfl))) (pb_name sc_reached.nd rfl (by first | exact .inl rfl | exact .inr rfl)) (pm_cons (pm_if (pxt_not (pxt_val (px_bor (px_ix ix_D does_ix (px_v 2) (px_v 5) (fun _ _ => rfl))) (fun _ => rfl))) (pm_cons (pm_put (i := 2) rfl (by first | exact .inl rfl | exact .inr (.inl rfl) | exact .inr (.inr rfl)) px_bl (px_v 5))
    (pm_cons (pm_app (i := 3) rfl (by first | exact .inl rfl | exact .inr (.inl rfl) | exact .inr (.inr rfl)) (px_v 5))
    pm_nil)) pm_nil)
    pm_nil))
    (pm_cons (pm_inc (i := 4) sc_reached.nd rfl (by first | exact .inl rfl | exact .inr rfl) px_int)
    pm_nil)))
    (pm_cons (pm_ret (px_v 3))
    pm_nil))))))
theorem sc_sides : FnScope ["web", "rows", "side", "start", "node", "other"] ["web"] (defScope (top 40)) := ⟨rfl, rfl, rfl, by decide +kernel, rfl, by decide +kernel, by decide +kernel⟩
def m_sides : M := (mSeq (mSet 1 (mapT g_neighbour_rows (cons2 (gv 0) (fun _ => some []))))
    (mSeq (mSetF 2 (mulF (mapT gLst (cons2 cN (fun _ => some []))) (bin2 gIx (gv 0) (cI 0))))
    (mSeq (mFor (rng1 (cons2 (bin2 gIx (gv 0) (cI 0)) (fun _ => some []))) (bNm 3) (mSeq (mIf (tst (nonV false (bor (bin2 gIx (gv 2) (gv 3))))) (mSeq (mPut 2 (gv 3) (cI 0))
    (mSeq (mFor (seqV (mapT g_reached (cons2 (gv 1) (cons2 (gv 3) (fun _ => some []))))) (bNm 4) (mSeq (mFor (seqV (bin2 gIx (gv 1) (gv 4))) (bNm 5) (mSeq (mIf (tst (nonV false (bor (bin2 gIx (gv 2) (gv 5))))) (mSeq (mPut 2 (gv 5) (bin2 gSub (cI 1) (bor (bin2 gIx (gv 2) (gv 4)))))
    mNil) (mSeq (mIf (tst (bin2 (gEqB false) (bor (bin2 gIx (gv 2) (gv 5))) (bor (bin2 gIx (gv 2) (gv 4))))) (mSeq (mRet cN)
    mNil) mNil)
    mNil))
    mNil))
    mNil))
    mNil)) mNil)
    mNil))
    (mSeq (mRet (gv 2))
    mNil))))
def g_sides : List D → Option D := runF 1 6 m_sides
theorem d_sides {P : Program} {w : World} {K : PySem.W.Frag} {mg : Str → Option Value} {base : Heap} (U : Un K mg) : Df P w K mg base 6 "sides" ["web"] g_sides := by
  obtain ⟨f, fd, hm, F⟩ := U.d40
  have c_neighbour_rows := d_neighbour_rows (P := P) (w := w) (base := base) U
  have c_reached := d_reached (P := P) (w := w) (base := base) U
  refine ⟨⟨f, fd, hm, fnF_of (m := m_sides) F sc_sides fun cdv A outer s H E hr => ?_, F.kp, F.bindsN fun _ _ _ _ _ _ us hl => match us, hl with | [_], _ => rfl⟩, fun ds d h => runF_len h⟩
  exact (pm_cons (pm_set (i := 1) sc_sides.nd rfl (by first | exact .inl rfl | exact .inr rfl) (px_callD c_neighbour_rows (hr.mono (by decide)) rfl (pxs_cons (px_v 0) pxs_nil)))
    (pm_cons (pm_setF (i := 2) sc_sides.nd rfl (by first | exact .inl rfl | exact .inr rfl) (pf_mul (px_lst (pxs_cons px_non pxs_nil)) (px_ix ix_D does_ix (px_v 0) px_int (fun _ _ => rfl))))
    (pm_cons (pm_for PassesOwn.never rfl (pix_rng1 rfl U.range (pxs_cons (px_ix ix_D does_ix (px_v 0) px_int (fun _ _ => rfl)) pxs_nil)) (pb_name sc_sides.nd rfl (by first | exact .inl rfl | exact .inr rfl)) (pm_cons (pm_if (pxt_isN (px_bor (px_ix ix_D does_ix (px_v 2) (px_v 3) (fun _ _ => rfl)))) (pm_cons (pm_put (i := 2) rfl (by first | exact .inl rfl | exact .inr (.inl rfl) | exact .inr (.inr rfl)) px_int (px_v 3))
    (pm_cons (pm_for PassesOwn.never rfl (pix_seq (px_callD c_reached (hr.mono (by decide)) rfl (pxs_cons (px_v 1) (pxs_cons (px_v 3) pxs_nil)))) (pb_name sc_sides.nd rfl (by first | exact .inl rfl | exact .inr rfl)) (pm_cons (pm_for PassesOwn.never rfl (pix_seq (px_ix ix_D does_ix (px_v 1) (px_v 4) (fun _ _ => rfl))) (pb_name sc_sides.nd rfl (by first | exact .inl rfl | exact .inr rfl)) (pm_cons (pm_if (pxt_isN (px_bor (px_ix ix_D does_ix (px_v 2) (px_v 5) (fun _ _ => rfl)))) (pm_cons (pm_put (i := 2) rfl (by first | exact .inl rfl | exact .inr (.inl rfl) | exact .inr (.inr rfl)) (px_op op_sub does_sub px_int (px_bor (px_ix ix_D does_ix (px_v 2) (px_v 4) (fun _ _ => rfl)))) (px_v 5))
    pm_nil) (pm_cons (pm_if (pxt_cmp (op_eqB (hu64 hr)) does_eqB (px_bor (px_ix ix_D does_ix (px_v 2) (px_v 5) (fun _ _ => rfl))) (px_bor (px_ix ix_D does_ix (px_v 2) (px_v 4) (fun _ _ => rfl))) (nomark _)) (pm_cons (pm_ret px_non)
    pm_nil) pm_nil)
    pm_nil))
    pm_nil))
    pm_nil))
    pm_nil)) pm_nil)
    pm_nil))
    (pm_cons (pm_ret (px_v 2))
    pm_nil))))
theorem sc_can_cancel : FnScope ["web"] ["web"] (defScope (top 42)) := ⟨rfl, rfl, rfl, by decide +kernel, rfl, by decide +kernel, by decide +kernel⟩
def m_can_cancel : M := (mSeq (mRet (nonV false (mapT g_sides (cons2 (gv 0) (fun _ => some [])))))
    mNil)
def g_can_cancel : List D → Option D := runF 1 1 m_can_cancel
theorem d_can_cancel {P : Program} {w : World} {K : PySem.W.Frag} {mg : Str → Option Value} {base : Heap} (U : Un K mg) : Df P w K mg base 8 "can_cancel" ["web"] g_can_cancel := by
  obtain ⟨f, fd, hm, F⟩ := U.d42
  have c_sides := d_sides (P := P) (w := w) (base := base) U
  refine ⟨⟨f, fd, hm, fnF_of (m := m_can_cancel) F sc_can_cancel fun cdv A outer s H E hr => ?_, F.kp, F.bindsN fun _ _ _ _ _ _ us hl => match us, hl with | [_], _ => rfl⟩, fun ds d h => runF_len h⟩
  exact (pm_cons (pm_ret (px_isN (px_callD c_sides (hr.mono (by decide)) rfl (pxs_cons (px_v 0) pxs_nil))))
    pm_nil)
theorem sc_may_follow : FnScope ["first", "second", "row", "place", "node", "earlier", "number"] ["first", "second", "row", "place"] (defScope (top 45)) := ⟨rfl, rfl, rfl, by decide +kernel, rfl, by decide +kernel, by decide +kernel⟩
def m_may_follow : M := (mSeq (mSet 4 (mapT gLen (cons2 (gv 2) (fun _ => some []))))
    (mSeq (mIf (orT (tst (bin2 (gInB false) (gv 3) (gv 2))) (tst (bin2 (gEqB true) (mapT gLen (cons2 (bin2 gIx (gv 0) (gv 4)) (fun _ => some []))) (mapT gLen (cons2 (bin2 gIx (gv 1) (gv 3)) (fun _ => some [])))))) (mSeq (mRet (cB false))
    mNil) mNil)
    (mSeq (mIf (tst (bin2 (gEqB true) (bin2 (gInB false) (gv 4) (bin2 gIx (gv 0) (gv 4))) (bin2 (gInB false) (gv 3) (bin2 gIx (gv 1) (gv 3))))) (mSeq (mRet (cB false))
    mNil) mNil)
    (mSeq (mFor (enuV (gv 2)) (bTp (bCons (bNm 5) (bCons (bNm 6) bNil))) (mSeq (mIf (tst (bin2 (gEqB true) (bin2 (gInB false) (gv 5) (bin2 gIx (gv 0) (gv 4))) (bin2 (gInB false) (gv 6) (bin2 gIx (gv 1) (gv 3))))) (mSeq (mRet (cB false))
    mNil) mNil)
    mNil))
    (mSeq (mRet (cB true))
    mNil)))))
def g_may_follow : List D → Option D := runF 4 7 m_may_follow
theorem d_may_follow {P : Program} {w : World} {K : PySem.W.Frag} {mg : Str → Option Value} {base : Heap} (U : Un K mg) : Df P w K mg base 4 "may_follow" ["first", "second", "row", "place"] g_may_follow := by
  obtain ⟨f, fd, hm, F⟩ := U.d45
  refine ⟨⟨f, fd, hm, fnF_of (m := m_may_follow) F sc_may_follow fun cdv A outer s H E hr => ?_, F.kp, F.bindsN fun _ _ _ _ _ _ us hl => match us, hl with | [_, _, _, _], _ => rfl⟩, fun ds d h => runF_len h⟩
  exact (pm_cons (pm_set (i := 4) sc_may_follow.nd rfl (by first | exact .inl rfl | exact .inr rfl) (px_callB does_len call_len_seq rfl U.len bt_len (pxs_cons (px_v 2) pxs_nil)))
    (pm_cons (pm_if (pxt_w (pxw_or (pxt_cmp (op_inB (hu65 hr)) does_inB (px_v 3) (px_v 2) (by rfl)) (pxw_or1 (pxt_cmp (op_neB (hu64 hr)) does_eqB (px_callB does_len call_len_seq rfl U.len bt_len (pxs_cons (px_ix ix_D does_ix (px_v 0) (px_v 4) (fun _ _ => rfl)) pxs_nil)) (px_callB does_len call_len_seq rfl U.len bt_len (pxs_cons (px_ix ix_D does_ix (px_v 1) (px_v 3) (fun _ _ => rfl)) pxs_nil)) (nomark _))))) (pm_cons (pm_ret px_bl)
    pm_nil) pm_nil)
    (pm_cons (pm_if (pxt_cmp (op_neB (hu64 hr)) does_eqB (px_cmp (op_inB (hu65 hr)) does_inB (px_v 4) (px_ix ix_D does_ix (px_v 0) (px_v 4) (fun _ _ => rfl)) (by rfl)) (px_cmp (op_inB (hu65 hr)) does_inB (px_v 3) (px_ix ix_D does_ix (px_v 1) (px_v 3) (fun _ _ => rfl)) (by rfl)) (nomark _)) (pm_cons (pm_ret px_bl)
    pm_nil) pm_nil)
    (pm_cons (pm_for PassesOwn.never rfl (pix_enum rfl U.enumerate (px_v 2)) (pb_tup rfl 2 (len_cons (len_cons (fun _ _ _ h => len_nil h))) (pbs_cons (pb_name sc_may_follow.nd rfl (by first | exact .inl rfl | exact .inr rfl)) (pbs_cons (pb_name sc_may_follow.nd rfl (by first | exact .inl rfl | exact .inr rfl)) pbs_nil))) (pm_cons (pm_if (pxt_cmp (op_neB (hu64 hr)) does_eqB (px_cmp (op_inB (hu65 hr)) does_inB (px_v 5) (px_ix ix_D does_ix (px_v 0) (px_v 4) (fun _ _ => rfl)) (by rfl)) (px_cmp (op_inB (hu65 hr)) does_inB (px_v 6) (px_ix ix_D does_ix (px_v 1) (px_v 3) (fun _ _ => rfl)) (by rfl)) (nomark _)) (pm_cons (pm_ret px_bl)
    pm_nil) pm_nil)
    pm_nil))
    (pm_cons (pm_ret px_bl)
    pm_nil)))))
theorem sc_completed : FnScope ["first", "second", "row", "place", "found"] ["first", "second", "row"] (defScope (top 46)) := ⟨rfl, rfl, rfl, by decide +kernel, rfl, by decide +kernel, by decide +kernel⟩
def m_completed (g : List D → Option D) : M := (mSeq (mIf (tst (bin2 (gEqB false) (mapT gLen (cons2 (gv 2) (fun _ => some []))) (mapT gLen (cons2 (gv 0) (fun _ => some []))))) (mSeq (mRet (mapT gTuple (cons2 (gv 2) (fun _ => some []))))
    mNil) mNil)
    (mSeq (mFor (rng1 (cons2 (mapT gLen (cons2 (gv 1) (fun _ => some []))) (fun _ => some []))) (bNm 3) (mSeq (mIf (truT (mapT g_may_follow (cons2 (gv 0) (cons2 (gv 1) (cons2 (gv 2) (cons2 (gv 3) (fun _ => some []))))))) (mSeq (mSet 4 (mapT g (cons2 (gv 0) (cons2 (gv 1) (cons2 (bin2 gAdd (gv 2) (mapT gLst (cons2 (gv 3) (fun _ => some [])))) (fun _ => some []))))))
    (mSeq (mIf (tst (nonV true (gv 4))) (mSeq (mRet (gv 4))
    mNil) mNil)
    mNil)) mNil)
    mNil))
    (mSeq (mRet cN)
    mNil)))
def g_completed : Nat → List D → Option D
  | 0 => fun _ => none
  | j + 1 => runF 3 5 (m_completed (g_completed j))
theorem d_completed {P : Program} {w : World} {K : PySem.W.Frag} {mg : Str → Option Value} {base : Heap} (U : Un K mg) : ∀ j : Nat, Df P w K mg base (6 + j) "completed" ["first", "second", "row"] (g_completed j)
  | 0 => by
    obtain ⟨f, fd, hm, F⟩ := U.d46
    exact ⟨⟨f, fd, hm, fnF_none f fd ["first", "second", "row"] _, F.kp, F.bindsN fun _ _ _ _ _ _ us hl => match us, hl with | [_, _, _], _ => rfl⟩, fun ds d h => by cases h⟩
  | j + 1 => by
    have c_completed := d_completed (P := P) (w := w) (base := base) U j
    obtain ⟨f, fd, hm, F⟩ := U.d46
    have c_may_follow := d_may_follow (P := P) (w := w) (base := base) U
    refine ⟨⟨f, fd, hm, fnF_of (m := m_completed (g_completed j)) F sc_completed fun cdv A outer s H E hr => ?_, F.kp, F.bindsN fun _ _ _ _ _ _ us hl => match us, hl with | [_, _, _], _ => rfl⟩, fun ds d h => runF_len h⟩
    exact (pm_cons (pm_if (pxt_cmp (op_eqB (hu64 hr)) does_eqB (px_callB does_len call_len_seq rfl U.len bt_len (pxs_cons (px_v 2) pxs_nil)) (px_callB does_len call_len_seq rfl U.len bt_len (pxs_cons (px_v 0) pxs_nil)) (nomark _)) (pm_cons (pm_ret (px_callTy does_tuple call_tuple_of rfl U.tuple bt_tuple (pxs_cons (px_v 2) pxs_nil)))
    pm_nil) pm_nil)
    (pm_cons (pm_for PassesOwn.never rfl (pix_rng1 rfl U.range (pxs_cons (px_callB does_len call_len_seq rfl U.len bt_len (pxs_cons (px_v 1) pxs_nil)) pxs_nil)) (pb_name sc_completed.nd rfl (by first | exact .inl rfl | exact .inr rfl)) (pm_cons (pm_if (pxt_val (px_callD c_may_follow (hr.mono (Nat.le_trans (by decide) (Nat.le_add_right 6 j))) rfl (pxs_cons (px_v 0) (pxs_cons (px_v 1) (pxs_cons (px_v 2) (pxs_cons (px_v 3) pxs_nil))))) (fun _ => rfl)) (pm_cons (pm_set (i := 4) sc_completed.nd rfl (by first | exact .inl rfl | exact .inr rfl) (px_callD c_completed hr rfl (pxs_cons (px_v 0) (pxs_cons (px_v 1) (pxs_cons (px_op op_addD does_add (px_v 2) (px_lst (pxs_cons (px_v 3) pxs_nil))) pxs_nil)))))
    (pm_cons (pm_if (pxt_notN (px_v 4)) (pm_cons (pm_ret (px_v 4))
    pm_nil) pm_nil)
    pm_nil)) pm_nil)
    pm_nil))
    (pm_cons (pm_ret px_non)
    pm_nil)))
theorem sc_find_renaming : FnScope ["a", "b"] ["a", "b"] (defScope (top 47)) := ⟨rfl, rfl, rfl, by decide +kernel, rfl, by decide +kernel, by decide +kernel⟩
def m_find_renaming : M := (mSeq (mIf (tst (bin2 (gEqB true) (bin2 gIx (gv 0) (cI 0)) (bin2 gIx (gv 1) (cI 0)))) (mSeq (mRet cN)
    mNil) mNil)
    (mSeq (mIf (tst (bin2 gGt (bin2 gIx (gv 0) (cI 0)) (cD k_MAX_RENAMED))) (mSeq mNever
    mNil) mNil)
    (mSeq (mIf (tst (bin2 (gEqB true) (mapT gLen (cons2 (bin2 gIx (gv 0) (cI 1)) (fun _ => some []))) (mapT gLen (cons2 (bin2 gIx (gv 1) (cI 1)) (fun _ => some []))))) (mSeq (mRet cN)
    mNil) mNil)
    (mSeq (mRet (mapT (g_completed 11) (cons2 (mapT g_neighbour_rows (cons2 (gv 0) (fun _ => some []))) (cons2 (mapT g_neighbour_rows (cons2 (gv 1) (fun _ => some []))) (cons2 (mapT gLst (fun _ => some [])) (fun _ => some []))))))
    mNil))))
def g_find_renaming : List D → Option D := runF 2 2 m_find_renaming
theorem d_find_renaming {P : Program} {w : World} {K : PySem.W.Frag} {mg : Str → Option Value} {base : Heap} (U : Un K mg) : Df P w K mg base 19 "find_renaming" ["a", "b"] g_find_renaming := by
  obtain ⟨f, fd, hm, F⟩ := U.d47
  have c_completed := d_completed (P := P) (w := w) (base := base) U 11
  have c_neighbour_rows := d_neighbour_rows (P := P) (w := w) (base := base) U
  refine ⟨⟨f, fd, hm, fnF_of (m := m_find_renaming) F sc_find_renaming fun cdv A outer s H E hr => ?_, F.kp, F.bindsN fun _ _ _ _ _ _ us hl => match us, hl with | [_, _], _ => rfl⟩, fun ds d h => runF_len h⟩
  exact (pm_cons (pm_if (pxt_cmp (op_neB (hu64 hr)) does_eqB (px_ix ix_D does_ix (px_v 0) px_int (fun _ _ => rfl)) (px_ix ix_D does_ix (px_v 1) px_int (fun _ _ => rfl)) (nomark _)) (pm_cons (pm_ret px_non)
    pm_nil) pm_nil)
    (pm_cons (pm_if (pxt_cmp op_gt does_gt (px_ix ix_D does_ix (px_v 0) px_int (fun _ _ => rfl)) (px_cn U.MAX_RENAMED rfl) (nomark _)) (pm_cons pm_never
    pm_nil) pm_nil)
    (pm_cons (pm_if (pxt_cmp (op_neB (hu64 hr)) does_eqB (px_callB does_len call_len_seq rfl U.len bt_len (pxs_cons (px_ix ix_D does_ix (px_v 0) px_int (fun _ _ => rfl)) pxs_nil)) (px_callB does_len call_len_seq rfl U.len bt_len (pxs_cons (px_ix ix_D does_ix (px_v 1) px_int (fun _ _ => rfl)) pxs_nil)) (nomark _)) (pm_cons (pm_ret px_non)
    pm_nil) pm_nil)
    (pm_cons (pm_ret (px_callD c_completed (hr.mono (by decide)) rfl (pxs_cons (px_callD c_neighbour_rows (hr.mono (by decide)) rfl (pxs_cons (px_v 0) pxs_nil)) (pxs_cons (px_callD c_neighbour_rows (hr.mono (by decide)) rfl (pxs_cons (px_v 1) pxs_nil)) (pxs_cons (px_lst pxs_nil) pxs_nil)))))
    pm_nil))))
theorem sc_inverse_row : FnScope ["row", "back", "node", "number"] ["row"] (defScope (top 48)) := ⟨rfl, rfl, rfl, by decide +kernel, rfl, by decide +kernel, by decide +kernel⟩
def m_inverse_row : M := (mSeq (mSetF 1 (mulF (mapT gLst (cons2 (cI 0) (fun _ => some []))) (mapT gLen (cons2 (gv 0) (fun _ => some [])))))
    (mSeq (mFor (enuV (gv 0)) (bTp (bCons (bNm 2) (bCons (bNm 3) bNil))) (mSeq (mPut 1 (gv 3) (gv 2))
    mNil))
    (mSeq (mRet (mapT gTuple (cons2 (gv 1) (fun _ => some []))))
    mNil)))
def g_inverse_row : List D → Option D := runF 1 4 m_inverse_row
theorem d_inverse_row {P : Program} {w : World} {K : PySem.W.Frag} {mg : Str → Option Value} {base : Heap} (U : Un K mg) : Df P w K mg base 4 "inverse_row" ["row"] g_inverse_row := by
  obtain ⟨f, fd, hm, F⟩ := U.d48
  refine ⟨⟨f, fd, hm, fnF_of (m := m_inverse_row) F sc_inverse_row fun cdv A outer s H E hr => ?_, F.kp, F.bindsN fun _ _ _ _ _ _ us hl => match us, hl with | [_], _ => rfl⟩, fun ds d h => runF_len h⟩
  exact (pm_cons (pm_setF (i := 1) sc_inverse_row.nd rfl (by first | exact .inl rfl | exact .inr rfl) (pf_mul (px_lst (pxs_cons px_int pxs_nil)) (px_callB does_len call_len_seq rfl U.len bt_len (pxs_cons (px_v 0) pxs_nil))))
    (pm_cons (pm_for PassesOwn.never rfl (pix_enum rfl U.enumerate (px_v 0)) (pb_tup rfl 2 (len_cons (len_cons (fun _ _ _ h => len_nil h))) (pbs_cons (pb_name sc_inverse_row.nd rfl (by first | exact .inl rfl | exact .inr rfl)) (pbs_cons (pb_name sc_inverse_row.nd rfl (by first | exact .inl rfl | exact .inr rfl)) pbs_nil))) (pm_cons (pm_put (i := 1) rfl (by first | exact .inl rfl | exact .inr (.inl rfl) | exact .inr (.inr rfl)) (px_v 2) (px_v 3))
    pm_nil))
    (pm_cons (pm_ret (px_callTy does_tuple call_tuple_of rfl U.tuple bt_tuple (pxs_cons (px_v 1) pxs_nil)))
    pm_nil)))
theorem sc_twist_fault : FnScope ["web", "row", "rows", "back", "first", "second"] ["web", "row"] (defScope (top 51)) := ⟨rfl, rfl, rfl, by decide +kernel, rfl, by decide +kernel, by decide +kernel⟩
def m_twist_fault : M := (mSeq (mDrop (mapT g_renamed (cons2 (gv 0) (cons2 (gv 1) (fun _ => some [])))))
    (mSeq (mSet 2 (mapT g_neighbour_rows (cons2 (gv 0) (fun _ => some []))))
    (mSeq (mSet 3 (mapT g_inverse_row (cons2 (gv 1) (fun _ => some []))))
    (mSeq (mFor (rng1 (cons2 (bin2 gIx (gv 0) (cI 0)) (fun _ => some []))) (bNm 4) (mSeq (mFor (rng1 (cons2 (bin2 gIx (gv 0) (cI 0)) (fun _ => some []))) (bNm 5) (mSeq (mIf (tst (bin2 (gEqB true) (bin2 (gInB false) (gv 5) (bin2 gIx (gv 2) (gv 4))) (bin2 (gInB false) (bin2 gIx (gv 1) (gv 5)) (bin2 gIx (gv 2) (bin2 gIx (gv 3) (gv 4)))))) (mSeq (mRet (mapT gTup (cons2 (gv 4) (cons2 (gv 5) (fun _ => some [])))))
    mNil) mNil)
    mNil))
    mNil))
    (mSeq (mRet cN)
    mNil)))))
def g_twist_fault : List D → Option D := runF 2 6 m_twist_fault
theorem d_twist_fault {P : Program} {w : World} {K : PySem.W.Frag} {mg : Str → Option Value} {base : Heap} (U : Un K mg) : Df P w K mg base 10 "twist_fault" ["web", "row"] g_twist_fault := by
  obtain ⟨f, fd, hm, F⟩ := U.d51
  have c_renamed := d_renamed (P := P) (w := w) (base := base) U
  have c_neighbour_rows := d_neighbour_rows (P := P) (w := w) (base := base) U
  have c_inverse_row := d_inverse_row (P := P) (w := w) (base := base) U
  refine ⟨⟨f, fd, hm, fnF_of (m := m_twist_fault) F sc_twist_fault fun cdv A outer s H E hr => ?_, F.kp, F.bindsN fun _ _ _ _ _ _ us hl => match us, hl with | [_, _], _ => rfl⟩, fun ds d h => runF_len h⟩
  exact (pm_cons (pm_drop (px_callD c_renamed (hr.mono (by decide)) rfl (pxs_cons (px_v 0) (pxs_cons (px_v 1) pxs_nil))))
    (pm_cons (pm_set (i := 2) sc_twist_fault.nd rfl (by first | exact .inl rfl | exact .inr rfl) (px_callD c_neighbour_rows (hr.mono (by decide)) rfl (pxs_cons (px_v 0) pxs_nil)))
    (pm_cons (pm_set (i := 3) sc_twist_fault.nd rfl (by first | exact .inl rfl | exact .inr rfl) (px_callD c_inverse_row (hr.mono (by decide)) rfl (pxs_cons (px_v 1) pxs_nil)))
    (pm_cons (pm_for PassesOwn.never rfl (pix_rng1 rfl U.range (pxs_cons (px_ix ix_D does_ix (px_v 0) px_int (fun _ _ => rfl)) pxs_nil)) (pb_name sc_twist_fault.nd rfl (by first | exact .inl rfl | exact .inr rfl)) (pm_cons (pm_for PassesOwn.never rfl (pix_rng1 rfl U.range (pxs_cons (px_ix ix_D does_ix (px_v 0) px_int (fun _ _ => rfl)) pxs_nil)) (pb_name sc_twist_fault.nd rfl (by first | exact .inl rfl | exact .inr rfl)) (pm_cons (pm_if (pxt_cmp (op_neB (hu64 hr)) does_eqB (px_cmp (op_inB (hu65 hr)) does_inB (px_v 5) (px_ix ix_D does_ix (px_v 2) (px_v 4) (fun _ _ => rfl)) (by rfl)) (px_cmp (op_inB (hu65 hr)) does_inB (px_ix ix_D does_ix (px_v 1) (px_v 5) (fun _ _ => rfl)) (px_ix ix_D does_ix (px_v 2) (px_ix ix_D does_ix (px_v 3) (px_v 4) (fun _ _ => rfl)) (fun _ _ => rfl)) (by rfl)) (nomark _)) (pm_cons (pm_ret (px_tup (pxs_cons (px_v 4) (pxs_cons (px_v 5) pxs_nil))))
    pm_nil) pm_nil)
    pm_nil))
    pm_nil))
    (pm_cons (pm_ret px_non)
    pm_nil)))))
theorem sc_twisted : FnScope ["web", "row", "pair", "pairs", "first", "second"] ["web", "row"] (defScope (top 52)) := ⟨rfl, rfl, rfl, by decide +kernel, rfl, by decide +kernel, by decide +kernel⟩
def m_twisted : M := (mSeq (mSet 2 (mapT g_twist_fault (cons2 (gv 0) (cons2 (gv 1) (fun _ => some [])))))
    (mSeq (mIf (tst (nonV true (gv 2))) (mSeq mNever
    mNil) mNil)
    (mSeq (mSetF 3 (shortF (fun _ => some [])))
    (mSeq (mFor (seqV (bin2 gIx (gv 0) (cI 1))) (bTp (bCons (bNm 4) (bCons (bNm 5) bNil))) (mSeq (mApp 3 (mapT gTup (cons2 (gv 4) (cons2 (bin2 gIx (gv 1) (gv 5)) (fun _ => some [])))))
    (mSeq (mApp 3 (mapT gTup (cons2 (gv 5) (cons2 (bin2 gIx (gv 1) (gv 4)) (fun _ => some [])))))
    mNil)))
    (mSeq (mRet (mapT g_make_web (cons2 (bin2 gIx (gv 0) (cI 0)) (cons2 (gv 3) (fun _ => some [])))))
    mNil)))))
def g_twisted : List D → Option D := runF 2 6 m_twisted
theorem d_twisted {P : Program} {w : World} {K : PySem.W.Frag} {mg : Str → Option Value} {base : Heap} (U : Un K mg) : Df P w K mg base 12 "twisted" ["web", "row"] g_twisted := by
  obtain ⟨f, fd, hm, F⟩ := U.d52
  have c_twist_fault := d_twist_fault (P := P) (w := w) (base := base) U
  have c_make_web := d_make_web (P := P) (w := w) (base := base) U
  refine ⟨⟨f, fd, hm, fnF_of (m := m_twisted) F sc_twisted fun cdv A outer s H E hr => ?_, F.kp, F.bindsN fun _ _ _ _ _ _ us hl => match us, hl with | [_, _], _ => rfl⟩, fun ds d h => runF_len h⟩
  exact (pm_cons (pm_set (i := 2) sc_twisted.nd rfl (by first | exact .inl rfl | exact .inr rfl) (px_callD c_twist_fault (hr.mono (by decide)) rfl (pxs_cons (px_v 0) (pxs_cons (px_v 1) pxs_nil))))
    (pm_cons (pm_if (pxt_notN (px_v 2)) (pm_cons pm_never
    pm_nil) pm_nil)
    (pm_cons (pm_setF (i := 3) sc_twisted.nd rfl (by first | exact .inl rfl | exact .inr rfl) (pf_lst pxs_nil))
    (pm_cons (pm_for PassesOwn.never rfl (pix_seq (px_ix ix_D does_ix (px_v 0) px_int (fun _ _ => rfl))) (pb_tup rfl 2 (len_cons (len_cons (fun _ _ _ h => len_nil h))) (pbs_cons (pb_name sc_twisted.nd rfl (by first | exact .inl rfl | exact .inr rfl)) (pbs_cons (pb_name sc_twisted.nd rfl (by first | exact .inl rfl | exact .inr rfl)) pbs_nil))) (pm_cons (pm_app (i := 3) rfl (by first | exact .inl rfl | exact .inr (.inl rfl) | exact .inr (.inr rfl)) (px_tup (pxs_cons (px_v 4) (pxs_cons (px_ix ix_D does_ix (px_v 1) (px_v 5) (fun _ _ => rfl)) pxs_nil))))
    (pm_cons (pm_app (i := 3) rfl (by first | exact .inl rfl | exact .inr (.inl rfl) | exact .inr (.inr rfl)) (px_tup (pxs_cons (px_v 5) (pxs_cons (px_ix ix_D does_ix (px_v 1) (px_v 4) (fun _ _ => rfl)) pxs_nil))))
    pm_nil)))
    (pm_cons (pm_ret (px_callD c_make_web (hr.mono (by decide)) rfl (pxs_cons (px_ix ix_D does_ix (px_v 0) px_int (fun _ _ => rfl)) (pxs_cons (px_v 3) pxs_nil))))
    pm_nil)))))
theorem sc_may_extend : FnScope ["rows", "begun", "number", "node", "earlier", "taken"] ["rows", "begun", "number"] (defScope (top 53)) := ⟨rfl, rfl, rfl, by decide +kernel, rfl, by decide +kernel, by decide +kernel⟩
def m_may_extend : M := (mSeq (mIf (tst (bin2 (gInB false) (gv 2) (gv 1))) (mSeq (mRet (cB false))
    mNil) mNil)
    (mSeq (mSet 3 (mapT gLen (cons2 (gv 1) (fun _ => some []))))
    (mSeq (mFor (enuV (gv 1)) (bTp (bCons (bNm 4) (bCons (bNm 5) bNil))) (mSeq (mIf (tst (bin2 (gEqB true) (bin2 (gInB false) (gv 3) (bin2 gIx (gv 0) (gv 5))) (bin2 (gInB false) (gv 2) (bin2 gIx (gv 0) (gv 4))))) (mSeq (mRet (cB false))
    mNil) mNil)
    mNil))
    (mSeq (mRet (cB true))
    mNil))))
def g_may_extend : List D → Option D := runF 3 6 m_may_extend
theorem d_may_extend {P : Program} {w : World} {K : PySem.W.Frag} {mg : Str → Option Value} {base : Heap} (U : Un K mg) : Df P w K mg base 4 "may_extend" ["rows", "begun", "number"] g_may_extend := by
  obtain ⟨f, fd, hm, F⟩ := U.d53
  refine ⟨⟨f, fd, hm, fnF_of (m := m_may_extend) F sc_may_extend fun cdv A outer s H E hr => ?_, F.kp, F.bindsN fun _ _ _ _ _ _ us hl => match us, hl with | [_, _, _], _ => rfl⟩, fun ds d h => runF_len h⟩
  exact (pm_cons (pm_if (pxt_cmp (op_inB (hu65 hr)) does_inB (px_v 2) (px_v 1) (by rfl)) (pm_cons (pm_ret px_bl)
    pm_nil) pm_nil)
    (pm_cons (pm_set (i := 3) sc_may_extend.nd rfl (by first | exact .inl rfl | exact .inr rfl) (px_callB does_len call_len_seq rfl U.len bt_len (pxs_cons (px_v 1) pxs_nil)))
    (pm_cons (pm_for PassesOwn.never rfl (pix_enum rfl U.enumerate (px_v 1)) (pb_tup rfl 2 (len_cons (len_cons (fun _ _ _ h => len_nil h))) (pbs_cons (pb_name sc_may_extend.nd rfl (by first | exact .inl rfl | exact .inr rfl)) (pbs_cons (pb_name sc_may_extend.nd rfl (by first | exact .inl rfl | exact .inr rfl)) pbs_nil))) (pm_cons (pm_if (pxt_cmp (op_neB (hu64 hr)) does_eqB (px_cmp (op_inB (hu65 hr)) does_inB (px_v 3) (px_ix ix_D does_ix (px_v 0) (px_v 5) (fun _ _ => rfl)) (by rfl)) (px_cmp (op_inB (hu65 hr)) does_inB (px_v 2) (px_ix ix_D does_ix (px_v 0) (px_v 4) (fun _ _ => rfl)) (by rfl)) (nomark _)) (pm_cons (pm_ret px_bl)
    pm_nil) pm_nil)
    pm_nil))
    (pm_cons (pm_ret px_bl)
    pm_nil))))
theorem sc_is_new : FnScope ["web", "found", "other"] ["web", "found"] (defScope (top 55)) := ⟨rfl, rfl, rfl, by decide +kernel, rfl, by decide +kernel, by decide +kernel⟩
def m_is_new : M := (mSeq (mFor (seqV (gv 1)) (bNm 2) (mSeq (mIf (tst (nonV true (mapT g_find_renaming (cons2 (gv 2) (cons2 (gv 0) (fun _ => some [])))))) (mSeq (mRet (cB false))
    mNil) mNil)
    mNil))
    (mSeq (mRet (cB true))
    mNil))
def g_is_new : List D → Option D := runF 2 3 m_is_new
theorem d_is_new {P : Program} {w : World} {K : PySem.W.Frag} {mg : Str → Option Value} {base : Heap} (U : Un K mg) : Df P w K mg base 21 "is_new" ["web", "found"] g_is_new := by
  obtain ⟨f, fd, hm, F⟩ := U.d55
  have c_find_renaming := d_find_renaming (P := P) (w := w) (base := base) U
  refine ⟨⟨f, fd, hm, fnF_of (m := m_is_new) F sc_is_new fun cdv A outer s H E hr => ?_, F.kp, F.bindsN fun _ _ _ _ _ _ us hl => match us, hl with | [_, _], _ => rfl⟩, fun ds d h => runF_len h⟩
  exact (pm_cons (pm_for PassesOwn.never rfl (pix_seq (px_v 1)) (pb_name sc_is_new.nd rfl (by first | exact .inl rfl | exact .inr rfl)) (pm_cons (pm_if (pxt_notN (px_callD c_find_renaming (hr.mono (by decide)) rfl (pxs_cons (px_v 2) (pxs_cons (px_v 0) pxs_nil)))) (pm_cons (pm_ret px_bl)
    pm_nil) pm_nil)
    pm_nil))
    (pm_cons (pm_ret px_bl)
    pm_nil))
theorem sc_joined : FnScope ["kind", "near", "far", "same_first", "same_second"] ["kind", "near", "far", "same_first", "same_second"] (defScope (top 61)) := ⟨rfl, rfl, rfl, by decide +kernel, rfl, by decide +kernel, by decide +kernel⟩
def m_joined : M := (mSeq (mIf (tst (bin2 (gEqB false) (gv 0) (cS "direct"))) (mSeq (mRet (andV (gv 1) (gv 2)))
    mNil) mNil)
    (mSeq (mIf (tst (bin2 (gEqB false) (gv 0) (cS "levels"))) (mSeq (mRet (orV (gv 1) (andV (gv 3) (gv 2))))
    mNil) mNil)
    (mSeq (mIf (orT (andT (truT (gv 1)) (truT (gv 4))) (andT (truT (gv 3)) (truT (gv 2)))) (mSeq (mRet (cB true))
    mNil) mNil)
    (mSeq (mRet (andV (bin2 (gEqB false) (gv 0) (cS "strong")) (andV (gv 1) (gv 2))))
    mNil))))
def g_joined : List D → Option D := runF 5 5 m_joined
theorem d_joined {P : Program} {w : World} {K : PySem.W.Frag} {mg : Str → Option Value} {base : Heap} (U : Un K mg) : Df P w K mg base 4 "joined" ["kind", "near", "far", "same_first", "same_second"] g_joined := by
  obtain ⟨f, fd, hm, F⟩ := U.d61
  refine ⟨⟨f, fd, hm, fnF_of (m := m_joined) F sc_joined fun cdv A outer s H E hr => ?_, F.kp, F.bindsN fun _ _ _ _ _ _ us hl => match us, hl with | [_, _, _, _, _], _ => rfl⟩, fun ds d h => runF_len h⟩
  exact (pm_cons (pm_if (pxt_cmp (op_eqB (hu64 hr)) does_eqB (px_v 0) px_str (nomark _)) (pm_cons (pm_ret (px_and (px_v 1) (px_one (px_v 2))))
    pm_nil) pm_nil)
    (pm_cons (pm_if (pxt_cmp (op_eqB (hu64 hr)) does_eqB (px_v 0) px_str (nomark _)) (pm_cons (pm_ret (px_or (px_v 1) (px_one (px_and (px_v 3) (px_one (px_v 2))))))
    pm_nil) pm_nil)
    (pm_cons (pm_if (pxt_w (pxw_or (pxt_w (pxw_and (pxt_val (px_v 1) (fun _ => rfl)) (pxw_and1 (pxt_val (px_v 4) (fun _ => rfl))))) (pxw_or1 (pxt_w (pxw_and (pxt_val (px_v 3) (fun _ => rfl)) (pxw_and1 (pxt_val (px_v 2) (fun _ => rfl)))))))) (pm_cons (pm_ret px_bl)
    pm_nil) pm_nil)
    (pm_cons (pm_ret (px_and (px_cmp (op_eqB (hu64 hr)) does_eqB (px_v 0) px_str (nomark _)) (px_and (px_v 1) (px_one (px_v 2)))))
    pm_nil))))
theorem sc_product : FnScope ["kind", "a", "b", "size", "first", "second", "edges", "low", "high", "u", "x", "v", "y"] ["kind", "a", "b"] (defScope (top 62)) := ⟨rfl, rfl, rfl, by decide +kernel, rfl, by decide +kernel, by decide +kernel⟩
def m_product : M := (mSeq (mIf (tst (bin2 (gInB true) (gv 0) (cD k_KINDS))) (mSeq mNever
    mNil) mNil)
    (mSeq (mIf (tst (bin2 (gEqB true) (gv 0) (cS "direct"))) (mSeq (mDrop (mapT g_check_simple (cons2 (gv 1) (fun _ => some []))))
    (mSeq (mDrop (mapT g_check_simple (cons2 (gv 2) (fun _ => some []))))
    mNil)) mNil)
    (mSeq (mSet 3 (bin2 gMul (bin2 gIx (gv 1) (cI 0)) (bin2 gIx (gv 2) (cI 0))))
    (mSeq (mIf (tst (bin2 gGt (gv 3) (cD k_MAX_NODES))) (mSeq mNever
    mNil) mNil)
    (mSeq (mSet 4 (mapT g_neighbour_rows (cons2 (gv 1) (fun _ => some []))))
    (mSeq (mSet 5 (mapT g_neighbour_rows (cons2 (gv 2) (fun _ => some []))))
    (mSeq (mSetF 6 (shortF (fun _ => some [])))
    (mSeq (mFor (rng1 (cons2 (gv 3) (fun _ => some []))) (bNm 7) (mSeq (mBind (bTp (bCons (bNm 9) (bCons (bNm 10) bNil))) (mapT gDivmod (cons2 (gv 7) (cons2 (bin2 gIx (gv 2) (cI 0)) (fun _ => some [])))))
    (mSeq (mFor (rng2 (cons2 (gv 7) (cons2 (gv 3) (fun _ => some [])))) (bNm 8) (mSeq (mBind (bTp (bCons (bNm 11) (bCons (bNm 12) bNil))) (mapT gDivmod (cons2 (gv 8) (cons2 (bin2 gIx (gv 2) (cI 0)) (fun _ => some [])))))
    (mSeq (mIf (truT (mapT g_joined (cons2 (gv 0) (cons2 (bin2 (gInB false) (gv 11) (bin2 gIx (gv 4) (gv 9))) (cons2 (bin2 (gInB false) (gv 12) (bin2 gIx (gv 5) (gv 10))) (cons2 (bin2 (gEqB false) (gv 9) (gv 11)) (cons2 (bin2 (gEqB false) (gv 10) (gv 12)) (fun _ => some [])))))))) (mSeq (mApp 6 (mapT gTup (cons2 (gv 7) (cons2 (gv 8) (fun _ => some [])))))
    mNil) mNil)
    mNil)))
    mNil)))
    (mSeq (mRet (mapT gTup (cons2 (gv 3) (cons2 (mapT gTuple (cons2 (gv 6) (fun _ => some []))) (fun _ => some [])))))
    mNil)))))))))
def g_product : List D → Option D := runF 3 13 m_product
theorem d_product {P : Program} {w : World} {K : PySem.W.Frag} {mg : Str → Option Value} {base : Heap} (U : Un K mg) : Df P w K mg base 8 "product" ["kind", "a", "b"] g_product := by
  obtain ⟨f, fd, hm, F⟩ := U.d62
  have c_neighbour_rows := d_neighbour_rows (P := P) (w := w) (base := base) U
  have c_check_simple := d_check_simple (P := P) (w := w) (base := base) U
  have c_joined := d_joined (P := P) (w := w) (base := base) U
  refine ⟨⟨f, fd, hm, fnF_of (m := m_product) F sc_product fun cdv A outer s H E hr => ?_, F.kp, F.bindsN fun _ _ _ _ _ _ us hl => match us, hl with | [_, _, _], _ => rfl⟩, fun ds d h => runF_len h⟩
  exact (pm_cons (pm_if (pxt_cmp (op_niB (hu65 hr)) does_inB (px_v 0) (px_cn U.KINDS rfl) (by rfl)) (pm_cons pm_never
    pm_nil) pm_nil)
    (pm_cons (pm_if (pxt_cmp (op_neB (hu64 hr)) does_eqB (px_v 0) px_str (nomark _)) (pm_cons (pm_drop (px_callD c_check_simple (hr.mono (by decide)) rfl (pxs_cons (px_v 1) pxs_nil)))
    (pm_cons (pm_drop (px_callD c_check_simple (hr.mono (by decide)) rfl (pxs_cons (px_v 2) pxs_nil)))
    pm_nil)) pm_nil)
    (pm_cons (pm_set (i := 3) sc_product.nd rfl (by first | exact .inl rfl | exact .inr rfl) (px_op op_mulD does_mul (px_ix ix_D does_ix (px_v 1) px_int (fun _ _ => rfl)) (px_ix ix_D does_ix (px_v 2) px_int (fun _ _ => rfl))))
    (pm_cons (pm_if (pxt_cmp op_gt does_gt (px_v 3) (px_cn U.MAX_NODES rfl) (nomark _)) (pm_cons pm_never
    pm_nil) pm_nil)
    (pm_cons (pm_set (i := 4) sc_product.nd rfl (by first | exact .inl rfl | exact .inr rfl) (px_callD c_neighbour_rows (hr.mono (by decide)) rfl (pxs_cons (px_v 1) pxs_nil)))
    (pm_cons (pm_set (i := 5) sc_product.nd rfl (by first | exact .inl rfl | exact .inr rfl) (px_callD c_neighbour_rows (hr.mono (by decide)) rfl (pxs_cons (px_v 2) pxs_nil)))
    (pm_cons (pm_setF (i := 6) sc_product.nd rfl (by first | exact .inl rfl | exact .inr rfl) (pf_lst pxs_nil))
    (pm_cons (pm_for PassesOwn.never rfl (pix_rng1 rfl U.range (pxs_cons (px_v 3) pxs_nil)) (pb_name sc_product.nd rfl (by first | exact .inl rfl | exact .inr rfl)) (pm_cons (pm_bind (px_callB does_divmod call_divmod rfl U.divmod bt_divmod (pxs_cons (px_v 7) (pxs_cons (px_ix ix_D does_ix (px_v 2) px_int (fun _ _ => rfl)) pxs_nil))) (pb_tup rfl 2 (len_cons (len_cons (fun _ _ _ h => len_nil h))) (pbs_cons (pb_name sc_product.nd rfl (by first | exact .inl rfl | exact .inr rfl)) (pbs_cons (pb_name sc_product.nd rfl (by first | exact .inl rfl | exact .inr rfl)) pbs_nil))))
    (pm_cons (pm_for PassesOwn.never rfl (pix_rng2 rfl U.range (pxs_cons (px_v 7) (pxs_cons (px_v 3) pxs_nil))) (pb_name sc_product.nd rfl (by first | exact .inl rfl | exact .inr rfl)) (pm_cons (pm_bind (px_callB does_divmod call_divmod rfl U.divmod bt_divmod (pxs_cons (px_v 8) (pxs_cons (px_ix ix_D does_ix (px_v 2) px_int (fun _ _ => rfl)) pxs_nil))) (pb_tup rfl 2 (len_cons (len_cons (fun _ _ _ h => len_nil h))) (pbs_cons (pb_name sc_product.nd rfl (by first | exact .inl rfl | exact .inr rfl)) (pbs_cons (pb_name sc_product.nd rfl (by first | exact .inl rfl | exact .inr rfl)) pbs_nil))))
    (pm_cons (pm_if (pxt_val (px_callD c_joined (hr.mono (by decide)) rfl (pxs_cons (px_v 0) (pxs_cons (px_cmp (op_inB (hu65 hr)) does_inB (px_v 11) (px_ix ix_D does_ix (px_v 4) (px_v 9) (fun _ _ => rfl)) (by rfl)) (pxs_cons (px_cmp (op_inB (hu65 hr)) does_inB (px_v 12) (px_ix ix_D does_ix (px_v 5) (px_v 10) (fun _ _ => rfl)) (by rfl)) (pxs_cons (px_cmp (op_eqB (hu64 hr)) does_eqB (px_v 9) (px_v 11) (nomark _)) (pxs_cons (px_cmp (op_eqB (hu64 hr)) does_eqB (px_v 10) (px_v 12) (nomark _)) pxs_nil)))))) (fun _ => rfl)) (pm_cons (pm_app (i := 6) rfl (by first | exact .inl rfl | exact .inr (.inl rfl) | exact .inr (.inr rfl)) (px_tup (pxs_cons (px_v 7) (pxs_cons (px_v 8) pxs_nil))))
    pm_nil) pm_nil)
    pm_nil)))
    pm_nil)))
    (pm_cons (pm_ret (px_tup (pxs_cons (px_v 3) (pxs_cons (px_callTy does_tuple call_tuple_of rfl U.tuple bt_tuple (pxs_cons (px_v 6) pxs_nil)) pxs_nil))))
    pm_nil)))))))))
end Wl
set_option maxRecDepth 100000
set_option maxHeartbeats 4000000
/-! Wp7 -/
namespace Wl
open PySem L2 PyProof.Rows Wd Wg
theorem kbn_all {K : PySem.W.Frag} {f : Addr} {fd : FuncData} (F : FnP K "all_webs" 37 [("loops", .bl false)] f fd) : KBn K fd ["size", "loops"] 1 ["loops"] (fun us ws => us ++ ws) (fun vs zs => vs ++ zs) := by
  obtain ⟨mv, h⟩ := FunD.kbinds0 (ps := ["size", "loops"]) F 1 ["loops"] [] (fun us _ ws => us ++ ws) (by simp) (by simp) (fun r1 _ r3 => r1.append r3) (fun D doc pm an cdv ct us mv ws h1 h2 h3 => match us, h1, ws, h3 with | [_], _, [_], _ => rfl)
  exact h
theorem sc_all_webs : GScope ["size", "loops", "rows", "bits", "number", "web", "second", "first"] ["size", "loops"] (defScope (top 37)) := ⟨rfl, rfl, rfl, by decide +kernel, rfl, by decide +kernel, by decide +kernel⟩
def m_all_webs : MG := (gSq (gPl (mDrop (mapT g_check_limit (cons2 (gv 0) (cons2 (gv 1) (fun _ => some []))))))
    (gSq (gPl (mSet 2 (lstG (flG g_all_renamings (cons2 (gv 0) (fun _ => some []))))))
    (gSq (gPl (mSet 3 (lstV (lcV2 [6, 7] [7] (rng1 (cons2 (gv 0) (fun _ => some []))) (eNm 6) yesT (rng1 (cons2 (bin2 gAdd (gv 6) (cI 1)) (fun _ => some []))) (eNm 7) (orT (truT (gv 1)) (tst (bin2 gLt (gv 7) (gv 6)))) (mapT g_bit_of (cons2 (gv 7) (cons2 (gv 6) (fun _ => some []))))))))
    (gSq (gForR (cons2 (bin2 gShl (cI 1) (mapT gLen (cons2 (gv 3) (fun _ => some [])))) (fun _ => some [])) (bNm 4) (gSq (gPl (mSet 5 (mapT g_web_of_code (cons2 (gv 0) (cons2 (mapT g_code_with (cons2 (gv 4) (cons2 (gv 3) (fun _ => some [])))) (fun _ => some []))))))
    (gSq (gIfM (truT (mapT g_is_least (cons2 (gv 5) (cons2 (gv 2) (fun _ => some []))))) (gSq (gYl (gv 5))
    gNl))
    gNl)))
    gNl))))
def g_all_webs : List D → Option (List D) := runG 2 8 m_all_webs
theorem d_all_webs {P : Program} {w : World} {K : PySem.W.Frag} {mg : Str → Option Value} {base : Heap} (U : Un K mg) : GfK P w K mg base 13 "all_webs" "loops" ["size", "loops"] g_all_webs := by
  obtain ⟨f, fd, hm, F⟩ := U.d37
  have c_check_limit := d_check_limit (P := P) (w := w) (base := base) U
  have c_all_renamings := d_all_renamings (P := P) (w := w) (base := base) U
  have c_bit_of := d_bit_of (P := P) (w := w) (base := base) U
  have c_web_of_code := d_web_of_code (P := P) (w := w) (base := base) U
  have c_is_least := d_is_least (P := P) (w := w) (base := base) U
  have c_code_with := d_code_with (P := P) (w := w) (base := base) U
  refine ⟨⟨f, fd, hm, gnI_of (m := m_all_webs) F sc_all_webs fun cdv A outer n0 hr => ?_, F.kp, kbn_all F⟩, rfl⟩
  exact (gm_cons (gm_plain fun _ _ => (pm_drop (px_callD c_check_limit (hr.mono (by decide)) rfl (pxs_cons (px_v 0) (pxs_cons (px_v 1) pxs_nil)))))
    (gm_cons (gm_plain fun _ _ => (pm_set (i := 2) sc_all_webs.nd rfl (by first | exact .inl rfl | exact .inr rfl) (px_listG (pgn_D c_all_renamings (hr.mono (by decide)) rfl (pxs_cons (px_v 0) pxs_nil)) (hr.mono (by decide)) rfl U.list bt_list)))
    (gm_cons (gm_plain fun _ _ => (pm_setLc2 (i := 3) (own := [("second", 6), ("first", 7)]) (vs1 := [7]) rfl sc_all_webs.nd rfl rfl rfl (pix_rng1 rfl U.range (pxs_cons (px_v 0) pxs_nil)) (blkOk_by (by rfl)) (by decide) (by decide) (by decide) (fun _ _ _ _ _ => (pl_name sc_all_webs.nd rfl (by first | exact .inl rfl | exact .inr rfl))) (fun _ _ _ _ _ => plt_nil) (fun _ _ _ _ _ => (pix_rng1 rfl U.range (pxs_cons (px_op op_addD does_add (px_v 6) px_int) pxs_nil))) (fun _ _ _ _ _ => (pl_name sc_all_webs.nd rfl (by first | exact .inl rfl | exact .inr rfl))) (fun _ _ _ _ _ => (plt_one (pxt_w (pxw_or (pxt_val (px_v 1) (fun _ => rfl)) (pxw_or1 (pxt_cmp op_lt does_lt (px_v 7) (px_v 6) (nomark _))))))) (fun _ _ _ _ _ => (px_callD c_bit_of (hr.mono (by decide)) rfl (pxs_cons (px_v 7) (pxs_cons (px_v 6) pxs_nil))))))
    (gm_cons (gm_forR (fun _ _ => rfl) U.range (fun _ _ => (pxs_cons (px_op op_shl does_shl px_int (px_callB does_len call_len_seq rfl U.len bt_len (pxs_cons (px_v 3) pxs_nil))) pxs_nil)) (fun _ _ => (pb_name sc_all_webs.nd rfl (by first | exact .inl rfl | exact .inr rfl))) (gm_cons (gm_plain fun _ _ => (pm_set (i := 5) sc_all_webs.nd rfl (by first | exact .inl rfl | exact .inr rfl) (px_callD c_web_of_code (hr.mono (by decide)) rfl (pxs_cons (px_v 0) (pxs_cons (px_callD c_code_with (hr.mono (by decide)) rfl (pxs_cons (px_v 4) (pxs_cons (px_v 3) pxs_nil))) pxs_nil)))))
    (gm_cons (gm_if (fun _ _ => (pxt_val (px_callD c_is_least (hr.mono (by decide)) rfl (pxs_cons (px_v 5) (pxs_cons (px_v 2) pxs_nil))) (fun _ => rfl))) (gm_cons (gm_yield (fun _ _ => (px_v 5)) rfl)
    gm_nil))
    gm_nil)))
    gm_nil))))
theorem sc_twists : GScope ["web", "rows", "begun", "_", "row", "number"] ["web"] (defScope (top 54)) := ⟨rfl, rfl, rfl, by decide +kernel, rfl, by decide +kernel, by decide +kernel⟩
def m_twists : M := (mSeq (mIf (tst (bin2 gGt (bin2 gIx (gv 0) (cI 0)) (cD k_MAX_TWISTED))) (mSeq mNever
    mNil) mNil)
    (mSeq (mSet 1 (mapT g_neighbour_rows (cons2 (gv 0) (fun _ => some []))))
    (mSeq (mSet 2 (mapT gLst (cons2 (mapT gTupN (fun _ => some [])) (fun _ => some []))))
    (mSeq (mFor (rng1 (cons2 (bin2 gIx (gv 0) (cI 0)) (fun _ => some []))) (bNm 3) (mSeq (mSet 2 (lstV (lcV2 [4, 5] [5] (seqV (gv 2)) (eNm 4) yesT (rng1 (cons2 (bin2 gIx (gv 0) (cI 0)) (fun _ => some []))) (eNm 5) (truT (mapT g_may_extend (cons2 (gv 1) (cons2 (wkV (gv 4)) (cons2 (gv 5) (fun _ => some [])))))) (bin2 gAddN (gv 4) (mapT gTupN (cons2 (gv 5) (fun _ => some [])))))))
    mNil))
    mNil))))
def g_twists : List D → Option (List D) := runT 1 6 m_twists 2
theorem d_twists {P : Program} {w : World} {K : PySem.W.Frag} {mg : Str → Option Value} {base : Heap} (U : Un K mg) : GfT P w K mg base 6 "twists" ["web"] g_twists := by
  obtain ⟨f, fd, hm, F⟩ := U.d54
  have c_neighbour_rows := d_neighbour_rows (P := P) (w := w) (base := base) U
  have c_may_extend := d_may_extend (P := P) (w := w) (base := base) U
  refine ⟨⟨f, fd, hm, gnT_of (m := m_twists) F sc_twists 2 fun cdv A outer n0 H0 hr hfz => ?_, F.kp, F.bindsN fun _ _ _ _ _ _ us hl => match us, hl with | [_], _ => rfl⟩, fun ds d h => runT_len h⟩
  exact (gb_cons (gb_plain fun _ _ => (pm_if (pxt_cmp op_gt does_gt (px_ix ix_D does_ix (px_v 0) px_int (fun _ _ => rfl)) (px_cn U.MAX_TWISTED rfl) (nomark _)) (pm_cons pm_never
    pm_nil) pm_nil))
    (gb_cons (gb_plain fun _ _ => (pm_set (i := 1) sc_twists.nd rfl (by first | exact .inl rfl | exact .inr rfl) (px_callD c_neighbour_rows (hr.mono (by decide)) rfl (pxs_cons (px_v 0) pxs_nil))))
    (gb_cons (gb_plain fun _ _ => (pm_set (i := 2) sc_twists.nd rfl (by first | exact .inl rfl | exact .inr rfl) (px_lst (pxs_cons (px_tupN pxs_nil) pxs_nil))))
    (gb_cons (gb_plain fun _ _ => (pm_for PassesOwn.never rfl (pix_rng1 rfl U.range (pxs_cons (px_ix ix_D does_ix (px_v 0) px_int (fun _ _ => rfl)) pxs_nil)) (pb_name sc_twists.nd rfl (by first | exact .inl rfl | exact .inr rfl)) (pm_cons (pm_setLc2 (i := 2) (own := [("row", 4), ("number", 5)]) (vs1 := [5]) rfl sc_twists.nd rfl rfl rfl (pix_seq (px_v 2)) (blkOk_by (by rfl)) (by decide) (by decide) (by decide) (fun _ _ _ _ _ => (pl_name sc_twists.nd rfl (by first | exact .inl rfl | exact .inr rfl))) (fun _ _ _ _ _ => plt_nil) (fun _ _ _ _ _ => (pix_rng1 rfl U.range (pxs_cons (px_ix ix_D does_ix (px_v 0) px_int (fun _ _ => rfl)) pxs_nil))) (fun _ _ _ _ _ => (pl_name sc_twists.nd rfl (by first | exact .inl rfl | exact .inr rfl))) (fun _ _ _ _ _ => (plt_one (pxt_val (px_callD c_may_extend (hr.mono (by decide)) rfl (pxs_cons (px_v 1) (pxs_cons (px_wk (px_v 4)) (pxs_cons (px_v 5) pxs_nil)))) (fun _ => rfl)))) (fun _ _ _ _ _ => (px_op op_addD does_addN (px_v 4) (px_tupN (pxs_cons (px_v 5) pxs_nil)))))
    pm_nil)))
    (gb_yf hfz (fun _ _ => px_v 2) hr.hd)))))
theorem sc_twist_sorts : FnScope ["web", "found", "row", "other"] ["web"] (defScope (top 56)) := ⟨rfl, rfl, rfl, by decide +kernel, rfl, by decide +kernel, by decide +kernel⟩
def m_twist_sorts : M := (mSeq (mIf (tst (bin2 gGt (bin2 gIx (gv 0) (cI 0)) (cD k_MAX_SORTED))) (mSeq mNever
    mNil) mNil)
    (mSeq (mSetF 1 (shortF (fun _ => some [])))
    (mSeq (mFor (nlG g_twists (cons2 (gv 0) (fun _ => some []))) (bNm 2) (mSeq (mSet 3 (mapT g_twisted (cons2 (gv 0) (cons2 (gv 2) (fun _ => some [])))))
    (mSeq (mIf (truT (bor (mapT g_is_new (cons2 (gv 3) (cons2 (gv 1) (fun _ => some [])))))) (mSeq (mApp 1 (gv 3))
    mNil) mNil)
    mNil)))
    (mSeq (mRet (skeyV g_code_of (lstV (lcV [3] (seqV (gv 1)) (eNm 3) yesT (mapT g_sort_of (cons2 (gv 3) (fun _ => some [])))))))
    mNil))))
def g_twist_sorts : List D → Option D := runF 1 4 m_twist_sorts
theorem d_twist_sorts {P : Program} {w : World} {K : PySem.W.Frag} {mg : Str → Option Value} {base : Heap} (U : Un K mg) : Df P w K mg base 23 "twist_sorts" ["web"] g_twist_sorts := by
  obtain ⟨f, fd, hm, F⟩ := U.d56
  have c_twists := d_twists (P := P) (w := w) (base := base) U
  have c_twisted := d_twisted (P := P) (w := w) (base := base) U
  have c_is_new := d_is_new (P := P) (w := w) (base := base) U
  have c_code_of := d_code_of (P := P) (w := w) (base := base) U
  have c_sort_of := d_sort_of (P := P) (w := w) (base := base) U
  refine ⟨⟨f, fd, hm, fnF_of (m := m_twist_sorts) F sc_twist_sorts fun cdv A outer s H E hr => ?_, F.kp, F.bindsN fun _ _ _ _ _ _ us hl => match us, hl with | [_], _ => rfl⟩, fun ds d h => runF_len h⟩
  exact (pm_cons (pm_if (pxt_cmp op_gt does_gt (px_ix ix_D does_ix (px_v 0) px_int (fun _ _ => rfl)) (px_cn U.MAX_SORTED rfl) (nomark _)) (pm_cons pm_never
    pm_nil) pm_nil)
    (pm_cons (pm_setF (i := 1) sc_twist_sorts.nd rfl (by first | exact .inl rfl | exact .inr rfl) (pf_lst pxs_nil))
    (pm_cons (pm_forG (fun _ _ h => h) (hr.mono (by decide)) (pgn_DT c_twists (hr.mono (by decide)) rfl (pxs_cons (px_v 0) pxs_nil)) (pb_name sc_twist_sorts.nd rfl (by first | exact .inl rfl | exact .inr rfl)) (pm_cons (pm_set (i := 3) sc_twist_sorts.nd rfl (by first | exact .inl rfl | exact .inr rfl) (px_callD c_twisted (hr.mono (by decide)) rfl (pxs_cons (px_v 0) (pxs_cons (px_v 2) pxs_nil))))
    (pm_cons (pm_if (pxt_val (px_bor (px_callD c_is_new (hr.mono (by decide)) rfl (pxs_cons (px_v 3) (pxs_cons (px_v 1) pxs_nil)))) (fun _ => rfl)) (pm_cons (pm_app (i := 1) rfl (by first | exact .inl rfl | exact .inr (.inl rfl) | exact .inr (.inr rfl)) (px_v 3))
    pm_nil) pm_nil)
    pm_nil)))
    (pm_cons (pm_ret (px_skeyD c_code_of (hr.mono (by decide)) rfl rfl U.sorted bt_sorted (px_lc (own := [("other", 3)]) rfl sc_twist_sorts.nd (pix_seq (px_v 1)) (blkOk_by (by rfl)) (by decide) (fun _ _ _ _ _ => (pl_name sc_twist_sorts.nd rfl (by first | exact .inl rfl | exact .inr rfl))) (fun _ _ _ _ _ => plt_nil) (fun _ _ _ _ _ => (px_callD c_sort_of (hr.mono (by decide)) rfl (pxs_cons (px_v 3) pxs_nil))))))
    pm_nil))))
theorem sc_answers : FnScope ["a", "c"] ["a", "c"] (defScope (top 58)) := ⟨rfl, rfl, rfl, by decide +kernel, rfl, by decide +kernel, by decide +kernel⟩
def m_answers : M := (mSeq (mIf (tst (bin2 (gEqB false) (bin2 gIx (gv 1) (cI 0)) (cI 0))) (mSeq mNever
    mNil) mNil)
    (mSeq (mIf (notT (truT (bin2 gIx (gv 1) (cI 1)))) (mSeq (mRet (lstG (kwG g_all_webs (bin2 gIx (gv 0) (cI 0)))))
    mNil) mNil)
    (mSeq (mIf (tst (bin2 gGt (bin2 gIx (gv 0) (cI 0)) (cD k_MAX_SORTED))) (mSeq mNever
    mNil) mNil)
    (mSeq (mIf (truT (mapT g_can_cancel (cons2 (gv 1) (fun _ => some [])))) (mSeq (mRet (mapT gLst (cons2 (mapT g_sort_of (cons2 (gv 0) (fun _ => some []))) (fun _ => some []))))
    mNil) mNil)
    (mSeq (mRet (mapT g_twist_sorts (cons2 (gv 0) (fun _ => some []))))
    mNil)))))
def g_answers : List D → Option D := runF 2 2 m_answers
theorem d_answers {P : Program} {w : World} {K : PySem.W.Frag} {mg : Str → Option Value} {base : Heap} (U : Un K mg) : Df P w K mg base 25 "answers" ["a", "c"] g_answers := by
  obtain ⟨f, fd, hm, F⟩ := U.d58
  have c_can_cancel := d_can_cancel (P := P) (w := w) (base := base) U
  have c_twist_sorts := d_twist_sorts (P := P) (w := w) (base := base) U
  have c_all_webs := d_all_webs (P := P) (w := w) (base := base) U
  have c_sort_of := d_sort_of (P := P) (w := w) (base := base) U
  refine ⟨⟨f, fd, hm, fnF_of (m := m_answers) F sc_answers fun cdv A outer s H E hr => ?_, F.kp, F.bindsN fun _ _ _ _ _ _ us hl => match us, hl with | [_, _], _ => rfl⟩, fun ds d h => runF_len h⟩
  exact (pm_cons (pm_if (pxt_cmp (op_eqB (hu64 hr)) does_eqB (px_ix ix_D does_ix (px_v 1) px_int (fun _ _ => rfl)) px_int (nomark _)) (pm_cons pm_never
    pm_nil) pm_nil)
    (pm_cons (pm_if (pxt_not (pxt_val (px_ix ix_D does_ix (px_v 1) px_int (fun _ _ => rfl)) (fun _ => rfl))) (pm_cons (pm_ret (px_listG (pgn_DK c_all_webs (hr.mono (by decide)) rfl (px_ix ix_D does_ix (px_v 0) px_int (fun _ _ => rfl))) (hr.mono (by decide)) rfl U.list bt_list))
    pm_nil) pm_nil)
    (pm_cons (pm_if (pxt_cmp op_gt does_gt (px_ix ix_D does_ix (px_v 0) px_int (fun _ _ => rfl)) (px_cn U.MAX_SORTED rfl) (nomark _)) (pm_cons pm_never
    pm_nil) pm_nil)
    (pm_cons (pm_if (pxt_val (px_callD c_can_cancel (hr.mono (by decide)) rfl (pxs_cons (px_v 1) pxs_nil)) (fun _ => rfl)) (pm_cons (pm_ret (px_lst (pxs_cons (px_callD c_sort_of (hr.mono (by decide)) rfl (pxs_cons (px_v 0) pxs_nil)) pxs_nil)))
    pm_nil) pm_nil)
    (pm_cons (pm_ret (px_callD c_twist_sorts (hr.mono (by decide)) rfl (pxs_cons (px_v 0) pxs_nil)))
    pm_nil)))))
theorem sc_direct_quotients : FnScope ["web", "factor", "found", "quotient", "size", "left"] ["web", "factor"] (defScope (top 65)) := ⟨rfl, rfl, rfl, by decide +kernel, rfl, by decide +kernel, by decide +kernel⟩
def m_direct_quotients : M := (mSeq (mIf (tst (bin2 (gEqB false) (bin2 gIx (gv 1) (cI 0)) (cI 0))) (mSeq (mIf (tst (bin2 (gEqB false) (bin2 gIx (gv 0) (cI 0)) (cI 0))) (mSeq mNever
    mNil) mNil)
    (mSeq (mRet (mapT gLst (fun _ => some [])))
    mNil)) mNil)
    (mSeq (mIf (tst (bin2 gGt (bin2 gIx (gv 0) (cI 0)) (cD k_MAX_RENAMED))) (mSeq mNever
    mNil) mNil)
    (mSeq (mBind (bTp (bCons (bNm 4) (bCons (bNm 5) bNil))) (mapT gDivmod (cons2 (bin2 gIx (gv 0) (cI 0)) (cons2 (bin2 gIx (gv 1) (cI 0)) (fun _ => some [])))))
    (mSeq (mIf (tst (bin2 (gEqB true) (gv 5) (cI 0))) (mSeq (mRet (mapT gLst (fun _ => some [])))
    mNil) mNil)
    (mSeq (mIf (tst (bin2 gGt (gv 4) (cD k_MAX_RESULT))) (mSeq mNever
    mNil) mNil)
    (mSeq (mSetF 2 (shortF (fun _ => some [])))
    (mSeq (mFor (kwG g_all_webs (gv 4)) (bNm 3) (mSeq (mIf (tst (nonV true (mapT g_find_renaming (cons2 (mapT g_product (cons2 (cS "direct") (cons2 (gv 3) (cons2 (gv 1) (fun _ => some []))))) (cons2 (gv 0) (fun _ => some [])))))) (mSeq (mApp 2 (gv 3))
    mNil) mNil)
    mNil))
    (mSeq (mRet (gv 2))
    mNil))))))))
def g_direct_quotients : List D → Option D := runF 2 6 m_direct_quotients
theorem d_direct_quotients {P : Program} {w : World} {K : PySem.W.Frag} {mg : Str → Option Value} {base : Heap} (U : Un K mg) : Df P w K mg base 21 "direct_quotients" ["web", "factor"] g_direct_quotients := by
  obtain ⟨f, fd, hm, F⟩ := U.d65
  have c_all_webs := d_all_webs (P := P) (w := w) (base := base) U
  have c_find_renaming := d_find_renaming (P := P) (w := w) (base := base) U
  have c_product := d_product (P := P) (w := w) (base := base) U
  refine ⟨⟨f, fd, hm, fnF_of (m := m_direct_quotients) F sc_direct_quotients fun cdv A outer s H E hr => ?_, F.kp, F.bindsN fun _ _ _ _ _ _ us hl => match us, hl with | [_, _], _ => rfl⟩, fun ds d h => runF_len h⟩
  exact (pm_cons (pm_if (pxt_cmp (op_eqB (hu64 hr)) does_eqB (px_ix ix_D does_ix (px_v 1) px_int (fun _ _ => rfl)) px_int (nomark _)) (pm_cons (pm_if (pxt_cmp (op_eqB (hu64 hr)) does_eqB (px_ix ix_D does_ix (px_v 0) px_int (fun _ _ => rfl)) px_int (nomark _)) (pm_cons pm_never
    pm_nil) pm_nil)
    (pm_cons (pm_ret (px_lst pxs_nil))
    pm_nil)) pm_nil)
    (pm_cons (pm_if (pxt_cmp op_gt does_gt (px_ix ix_D does_ix (px_v 0) px_int (fun _ _ => rfl)) (px_cn U.MAX_RENAMED rfl) (nomark _)) (pm_cons pm_never
    pm_nil) pm_nil)
    (pm_cons (pm_bind (px_callB does_divmod call_divmod rfl U.divmod bt_divmod (pxs_cons (px_ix ix_D does_ix (px_v 0) px_int (fun _ _ => rfl)) (pxs_cons (px_ix ix_D does_ix (px_v 1) px_int (fun _ _ => rfl)) pxs_nil))) (pb_tup rfl 2 (len_cons (len_cons (fun _ _ _ h => len_nil h))) (pbs_cons (pb_name sc_direct_quotients.nd rfl (by first | exact .inl rfl | exact .inr rfl)) (pbs_cons (pb_name sc_direct_quotients.nd rfl (by first | exact .inl rfl | exact .inr rfl)) pbs_nil))))
    (pm_cons (pm_if (pxt_cmp (op_neB (hu64 hr)) does_eqB (px_v 5) px_int (nomark _)) (pm_cons (pm_ret (px_lst pxs_nil))
    pm_nil) pm_nil)
    (pm_cons (pm_if (pxt_cmp op_gt does_gt (px_v 4) (px_cn U.MAX_RESULT rfl) (nomark _)) (pm_cons pm_never
    pm_nil) pm_nil)
    (pm_cons (pm_setF (i := 2) sc_direct_quotients.nd rfl (by first | exact .inl rfl | exact .inr rfl) (pf_lst pxs_nil))
    (pm_cons (pm_forG (fun _ _ h => h) (hr.mono (by decide)) (pgn_DK c_all_webs (hr.mono (by decide)) rfl (px_v 4)) (pb_name sc_direct_quotients.nd rfl (by first | exact .inl rfl | exact .inr rfl)) (pm_cons (pm_if (pxt_notN (px_callD c_find_renaming (hr.mono (by decide)) rfl (pxs_cons (px_callD c_product (hr.mono (by decide)) rfl (pxs_cons px_str (pxs_cons (px_v 3) (pxs_cons (px_v 1) pxs_nil)))) (pxs_cons (px_v 0) pxs_nil)))) (pm_cons (pm_app (i := 2) rfl (by first | exact .inl rfl | exact .inr (.inl rfl) | exact .inr (.inr rfl)) (px_v 3))
    pm_nil) pm_nil)
    pm_nil))
    (pm_cons (pm_ret (px_v 2))
    pm_nil))))))))
end Wl
set_option maxRecDepth 100000
set_option maxHeartbeats 4000000
/-! Wp4 -/
namespace Wl
open PySem L2 PyProof.Rows Wd Wg
theorem sc_L_cell : FnScope ["_law_script", "_law_place"] ["_law_script", "_law_place"] (defScope (top 67)) := ⟨rfl, rfl, rfl, by decide +kernel, rfl, by decide +kernel, by decide +kernel⟩
def m_L_cell : M := (mSeq (mIf (tst (bin2 gLt (gv 1) (mapT gLen (cons2 (gv 0) (fun _ => some []))))) (mSeq (mRet (mapT gAbs (cons2 (mapT gInt (cons2 (bin2 gIx (gv 0) (gv 1)) (fun _ => some []))) (fun _ => some []))))
    mNil) mNil)
    (mSeq (mRet (cI 0))
    mNil))
def g_L_cell : List D → Option D := runF 2 2 m_L_cell
theorem d_L_cell {P : Program} {w : World} {K : PySem.W.Frag} {mg : Str → Option Value} {base : Heap} (U : Un K mg) : Df P w K mg base 4 "_law_cell" ["_law_script", "_law_place"] g_L_cell := by
  obtain ⟨f, fd, hm, F⟩ := U.d67
  refine ⟨⟨f, fd, hm, fnF_of (m := m_L_cell) F sc_L_cell fun cdv A outer s H E hr => ?_, F.kp, F.bindsN fun _ _ _ _ _ _ us hl => match us, hl with | [_, _], _ => rfl⟩, fun ds d h => runF_len h⟩
  exact (pm_cons (pm_if (pxt_cmp op_lt does_lt (px_v 1) (px_callB does_len call_len_seq rfl U.len bt_len (pxs_cons (px_v 0) pxs_nil)) (nomark _)) (pm_cons (pm_ret (px_callB does_abs call_abs rfl U.abs bt_abs (pxs_cons (px_callTy does_int call_int1 rfl U.int bt_int (pxs_cons (px_ix ix_D does_ix (px_v 0) (px_v 1) (fun _ _ => rfl)) pxs_nil)) pxs_nil)))
    pm_nil) pm_nil)
    (pm_cons (pm_ret px_int)
    pm_nil))
theorem sc_L_draws : FnScope ["_law_script", "_law_place", "_law_count", "_law_base", "_law_cell_here", "_law_row", "_law_k", "_law_mixed"] ["_law_script", "_law_place", "_law_count", "_law_base"] (defScope (top 68)) := ⟨rfl, rfl, rfl, by decide +kernel, rfl, by decide +kernel, by decide +kernel⟩
def m_L_draws : M := (mSeq (mSet 4 (mapT g_L_cell (cons2 (gv 0) (cons2 (gv 1) (fun _ => some [])))))
    (mSeq (mSetF 5 (shortF (fun _ => some [])))
    (mSeq (mIf (tst (bin2 gGe (gv 4) (bin2 gPow (cI 10) (cI 18)))) (mSeq (mSet 4 (bin2 gSub (gv 4) (bin2 gPow (cI 10) (cI 18))))
    (mSeq (mFor (rng1 (cons2 (gv 2) (fun _ => some []))) (bNm 6) (mSeq (mApp 5 (bin2 gMod (mapT gInt (cons2 (gv 4) (fun _ => some []))) (gv 3)))
    (mSeq (mSet 4 (bin2 gFdiv (gv 4) (gv 3)))
    mNil)))
    (mSeq (mRet (gv 5))
    mNil))) mNil)
    (mSeq (mFor (rng1 (cons2 (gv 2) (fun _ => some []))) (bNm 6) (mSeq (mSet 7 (bin2 gMod (mapT gInt (cons2 (bin2 gAdd (bin2 gAdd (bin2 gMul (gv 4) (cI 48271)) (bin2 gMul (bin2 gAdd (gv 6) (cI 1)) (cI 69621))) (cI 17)) (fun _ => some []))) (cI 2147483647)))
    (mSeq (mSet 7 (bin2 gMod (mapT gInt (cons2 (bin2 gAdd (bin2 gAdd (bin2 gMul (gv 7) (gv 7)) (bin2 gMul (gv 4) (bin2 gAdd (gv 6) (cI 3)))) (cI 12345)) (fun _ => some []))) (cI 1000003)))
    (mSeq (mApp 5 (bin2 gMod (mapT gInt (cons2 (bin2 gFdiv (gv 7) (cI 7)) (fun _ => some []))) (gv 3)))
    mNil))))
    (mSeq (mRet (gv 5))
    mNil)))))
def g_L_draws : List D → Option D := runF 4 8 m_L_draws
theorem d_L_draws {P : Program} {w : World} {K : PySem.W.Frag} {mg : Str → Option Value} {base : Heap} (U : Un K mg) : Df P w K mg base 6 "_law_draws" ["_law_script", "_law_place", "_law_count", "_law_base"] g_L_draws := by
  obtain ⟨f, fd, hm, F⟩ := U.d68
  have c_L_cell := d_L_cell (P := P) (w := w) (base := base) U
  refine ⟨⟨f, fd, hm, fnF_of (m := m_L_draws) F sc_L_draws fun cdv A outer s H E hr => ?_, F.kp, F.bindsN fun _ _ _ _ _ _ us hl => match us, hl with | [_, _, _, _], _ => rfl⟩, fun ds d h => runF_len h⟩
  exact (pm_cons (pm_set (i := 4) sc_L_draws.nd rfl (by first | exact .inl rfl | exact .inr rfl) (px_callD c_L_cell (hr.mono (by decide)) rfl (pxs_cons (px_v 0) (pxs_cons (px_v 1) pxs_nil))))
    (pm_cons (pm_setF (i := 5) sc_L_draws.nd rfl (by first | exact .inl rfl | exact .inr rfl) (pf_lst pxs_nil))
    (pm_cons (pm_if (pxt_cmp op_ge does_ge (px_v 4) (px_op op_pow does_pow px_int px_int) (nomark _)) (pm_cons (pm_set (i := 4) sc_L_draws.nd rfl (by first | exact .inl rfl | exact .inr rfl) (px_op op_sub does_sub (px_v 4) (px_op op_pow does_pow px_int px_int)))
    (pm_cons (pm_for PassesOwn.never rfl (pix_rng1 rfl U.range (pxs_cons (px_v 2) pxs_nil)) (pb_name sc_L_draws.nd rfl (by first | exact .inl rfl | exact .inr rfl)) (pm_cons (pm_app (i := 5) rfl (by first | exact .inl rfl | exact .inr (.inl rfl) | exact .inr (.inr rfl)) (px_op op_mod does_mod (px_callTy does_int call_int1 rfl U.int bt_int (pxs_cons (px_v 4) pxs_nil)) (px_v 3)))
    (pm_cons (pm_set (i := 4) sc_L_draws.nd rfl (by first | exact .inl rfl | exact .inr rfl) (px_op op_fdiv does_fdiv (px_v 4) (px_v 3)))
    pm_nil)))
    (pm_cons (pm_ret (px_v 5))
    pm_nil))) pm_nil)
    (pm_cons (pm_for PassesOwn.never rfl (pix_rng1 rfl U.range (pxs_cons (px_v 2) pxs_nil)) (pb_name sc_L_draws.nd rfl (by first | exact .inl rfl | exact .inr rfl)) (pm_cons (pm_set (i := 7) sc_L_draws.nd rfl (by first | exact .inl rfl | exact .inr rfl) (px_op op_mod does_mod (px_callTy does_int call_int1 rfl U.int bt_int (pxs_cons (px_op op_addD does_add (px_op op_addD does_add (px_op op_mulD does_mul (px_v 4) px_int) (px_op op_mulD does_mul (px_op op_addD does_add (px_v 6) px_int) px_int)) px_int) pxs_nil)) px_int))
    (pm_cons (pm_set (i := 7) sc_L_draws.nd rfl (by first | exact .inl rfl | exact .inr rfl) (px_op op_mod does_mod (px_callTy does_int call_int1 rfl U.int bt_int (pxs_cons (px_op op_addD does_add (px_op op_addD does_add (px_op op_mulD does_mul (px_v 7) (px_v 7)) (px_op op_mulD does_mul (px_v 4) (px_op op_addD does_add (px_v 6) px_int))) px_int) pxs_nil)) px_int))
    (pm_cons (pm_app (i := 5) rfl (by first | exact .inl rfl | exact .inr (.inl rfl) | exact .inr (.inr rfl)) (px_op op_mod does_mod (px_callTy does_int call_int1 rfl U.int bt_int (pxs_cons (px_op op_fdiv does_fdiv (px_v 7) px_int) pxs_nil)) (px_v 3)))
    pm_nil))))
    (pm_cons (pm_ret (px_v 5))
    pm_nil)))))
theorem sc_L_same : FnScope ["_law_first", "_law_second_here", "_law_k"] ["_law_first", "_law_second_here"] (defScope (top 69)) := ⟨rfl, rfl, rfl, by decide +kernel, rfl, by decide +kernel, by decide +kernel⟩
def m_L_same (g : List D → Option D) : M := (mSeq (mIf (orT (truT (isiV .b (gv 0))) (truT (isiV .b (gv 1)))) (mSeq (mRet (andV (isiV .b (gv 0)) (andV (isiV .b (gv 1)) (bin2 (gEqB false) (gv 0) (gv 1)))))
    mNil) mNil)
    (mSeq (mIf (orT (tst (nonV false (gv 0))) (tst (nonV false (gv 1)))) (mSeq (mRet (andV (nonV false (gv 0)) (nonV false (gv 1))))
    mNil) mNil)
    (mSeq (mIf (truT (isiV .i (gv 0))) (mSeq (mRet (andV (isiV .i (gv 1)) (bin2 (gEqB false) (gv 0) (gv 1))))
    mNil) mNil)
    (mSeq (mIf (truT (isiV .s (gv 0))) (mSeq (mRet (andV (isiV .s (gv 1)) (bin2 (gEqB false) (gv 0) (gv 1))))
    mNil) mNil)
    (mSeq (mIf (orT (tst (bin2 (gEqB true) (isiV .t (gv 0)) (isiV .t (gv 1)))) (tst (bin2 (gEqB true) (isiV .l (gv 0)) (isiV .l (gv 1))))) (mSeq (mRet (cB false))
    mNil) mNil)
    (mSeq (mIf (andT (notT (truT (isiV .l (gv 0)))) (notT (truT (isiV .t (gv 0))))) (mSeq (mRet (cB false))
    mNil) mNil)
    (mSeq (mIf (tst (bin2 (gEqB true) (mapT gLen (cons2 (gv 0) (fun _ => some []))) (mapT gLen (cons2 (gv 1) (fun _ => some []))))) (mSeq (mRet (cB false))
    mNil) mNil)
    (mSeq (mFor (rng1 (cons2 (mapT gLen (cons2 (gv 0) (fun _ => some []))) (fun _ => some []))) (bNm 2) (mSeq (mIf (notT (truT (mapT g (cons2 (bin2 gIx (gv 0) (gv 2)) (cons2 (bin2 gIx (gv 1) (gv 2)) (fun _ => some [])))))) (mSeq (mRet (cB false))
    mNil) mNil)
    mNil))
    (mSeq (mRet (cB true))
    mNil)))))))))
def g_L_same : Nat → List D → Option D
  | 0 => fun _ => none
  | j + 1 => runF 2 3 (m_L_same (g_L_same j))
theorem d_L_same {P : Program} {w : World} {K : PySem.W.Frag} {mg : Str → Option Value} {base : Heap} (U : Un K mg) : ∀ j : Nat, Df P w K mg base (4 + j) "_law_same" ["_law_first", "_law_second_here"] (g_L_same j)
  | 0 => by
    obtain ⟨f, fd, hm, F⟩ := U.d69
    exact ⟨⟨f, fd, hm, fnF_none f fd ["_law_first", "_law_second_here"] _, F.kp, F.bindsN fun _ _ _ _ _ _ us hl => match us, hl with | [_, _], _ => rfl⟩, fun ds d h => by cases h⟩
  | j + 1 => by
    have c_L_same := d_L_same (P := P) (w := w) (base := base) U j
    obtain ⟨f, fd, hm, F⟩ := U.d69
    refine ⟨⟨f, fd, hm, fnF_of (m := m_L_same (g_L_same j)) F sc_L_same fun cdv A outer s H E hr => ?_, F.kp, F.bindsN fun _ _ _ _ _ _ us hl => match us, hl with | [_, _], _ => rfl⟩, fun ds d h => runF_len h⟩
    exact (pm_cons (pm_if (pxt_w (pxw_or (pxt_val (px_isi .b rfl U.isinstance bt_isinstance rfl U.bool bt_bool (px_v 0)) (fun _ => rfl)) (pxw_or1 (pxt_val (px_isi .b rfl U.isinstance bt_isinstance rfl U.bool bt_bool (px_v 1)) (fun _ => rfl))))) (pm_cons (pm_ret (px_and (px_isi .b rfl U.isinstance bt_isinstance rfl U.bool bt_bool (px_v 0)) (px_and (px_isi .b rfl U.isinstance bt_isinstance rfl U.bool bt_bool (px_v 1)) (px_one (px_cmp (op_eqB (hu64 hr)) does_eqB (px_v 0) (px_v 1) (nomark _))))))
    pm_nil) pm_nil)
    (pm_cons (pm_if (pxt_w (pxw_or (pxt_isN (px_v 0)) (pxw_or1 (pxt_isN (px_v 1))))) (pm_cons (pm_ret (px_and (px_isN (px_v 0)) (px_one (px_isN (px_v 1)))))
    pm_nil) pm_nil)
    (pm_cons (pm_if (pxt_val (px_isi .i rfl U.isinstance bt_isinstance rfl U.int bt_int (px_v 0)) (fun _ => rfl)) (pm_cons (pm_ret (px_and (px_isi .i rfl U.isinstance bt_isinstance rfl U.int bt_int (px_v 1)) (px_one (px_cmp (op_eqB (hu64 hr)) does_eqB (px_v 0) (px_v 1) (nomark _)))))
    pm_nil) pm_nil)
    (pm_cons (pm_if (pxt_val (px_isi .s rfl U.isinstance bt_isinstance rfl U.str bt_str (px_v 0)) (fun _ => rfl)) (pm_cons (pm_ret (px_and (px_isi .s rfl U.isinstance bt_isinstance rfl U.str bt_str (px_v 1)) (px_one (px_cmp (op_eqB (hu64 hr)) does_eqB (px_v 0) (px_v 1) (nomark _)))))
    pm_nil) pm_nil)
    (pm_cons (pm_if (pxt_w (pxw_or (pxt_cmp (op_neB (hu64 hr)) does_eqB (px_isi .t rfl U.isinstance bt_isinstance rfl U.tuple bt_tuple (px_v 0)) (px_isi .t rfl U.isinstance bt_isinstance rfl U.tuple bt_tuple (px_v 1)) (nomark _)) (pxw_or1 (pxt_cmp (op_neB (hu64 hr)) does_eqB (px_isi .l rfl U.isinstance bt_isinstance rfl U.list bt_list (px_v 0)) (px_isi .l rfl U.isinstance bt_isinstance rfl U.list bt_list (px_v 1)) (nomark _))))) (pm_cons (pm_ret px_bl)
    pm_nil) pm_nil)
    (pm_cons (pm_if (pxt_w (pxw_and (pxt_not (pxt_val (px_isi .l rfl U.isinstance bt_isinstance rfl U.list bt_list (px_v 0)) (fun _ => rfl))) (pxw_and1 (pxt_not (pxt_val (px_isi .t rfl U.isinstance bt_isinstance rfl U.tuple bt_tuple (px_v 0)) (fun _ => rfl)))))) (pm_cons (pm_ret px_bl)
    pm_nil) pm_nil)
    (pm_cons (pm_if (pxt_cmp (op_neB (hu64 hr)) does_eqB (px_callB does_len call_len_seq rfl U.len bt_len (pxs_cons (px_v 0) pxs_nil)) (px_callB does_len call_len_seq rfl U.len bt_len (pxs_cons (px_v 1) pxs_nil)) (nomark _)) (pm_cons (pm_ret px_bl)
    pm_nil) pm_nil)
    (pm_cons (pm_for PassesOwn.never rfl (pix_rng1 rfl U.range (pxs_cons (px_callB does_len call_len_seq rfl U.len bt_len (pxs_cons (px_v 0) pxs_nil)) pxs_nil)) (pb_name sc_L_same.nd rfl (by first | exact .inl rfl | exact .inr rfl)) (pm_cons (pm_if (pxt_not (pxt_val (px_callD c_L_same hr rfl (pxs_cons (px_ix ix_D does_ix (px_v 0) (px_v 2) (fun _ _ => rfl)) (pxs_cons (px_ix ix_D does_ix (px_v 1) (px_v 2) (fun _ _ => rfl)) pxs_nil))) (fun _ => rfl))) (pm_cons (pm_ret px_bl)
    pm_nil) pm_nil)
    pm_nil))
    (pm_cons (pm_ret px_bl)
    pm_nil)))))))))
theorem sc_L_web : FnScope ["_law_size", "_law_bits", "_law_loops", "_law_edges", "_law_place", "_law_v", "_law_u"] ["_law_size", "_law_bits", "_law_loops"] (defScope (top 70)) := ⟨rfl, rfl, rfl, by decide +kernel, rfl, by decide +kernel, by decide +kernel⟩
def m_L_web : M := (mSeq (mSetF 3 (shortF (fun _ => some [])))
    (mSeq (mSet 4 (cI 0))
    (mSeq (mFor (rng1 (cons2 (gv 0) (fun _ => some []))) (bNm 5) (mSeq (mFor (rng1 (cons2 (bin2 gAdd (gv 5) (cI 1)) (fun _ => some []))) (bNm 6) (mSeq (mIf (orT (tst (bin2 gLt (gv 6) (gv 5))) (truT (gv 2))) (mSeq (mIf (andT (tst (bin2 gLt (gv 4) (mapT gLen (cons2 (gv 1) (fun _ => some []))))) (tst (bin2 (gEqB false) (bin2 gIx (gv 1) (gv 4)) (cI 1)))) (mSeq (mApp 3 (mapT gTup (cons2 (gv 6) (cons2 (gv 5) (fun _ => some [])))))
    mNil) mNil)
    (mSeq (mSet 4 (bin2 gAdd (gv 4) (cI 1)))
    mNil)) mNil)
    mNil))
    mNil))
    (mSeq (mRet (mapT gTup (cons2 (gv 0) (cons2 (mapT gTuple (cons2 (mapT gSortP (cons2 (gv 3) (fun _ => some []))) (fun _ => some []))) (fun _ => some [])))))
    mNil))))
def g_L_web : List D → Option D := runF 3 7 m_L_web
theorem d_L_web {P : Program} {w : World} {K : PySem.W.Frag} {mg : Str → Option Value} {base : Heap} (U : Un K mg) : Df P w K mg base 4 "_law_web" ["_law_size", "_law_bits", "_law_loops"] g_L_web := by
  obtain ⟨f, fd, hm, F⟩ := U.d70
  refine ⟨⟨f, fd, hm, fnF_of (m := m_L_web) F sc_L_web fun cdv A outer s H E hr => ?_, F.kp, F.bindsN fun _ _ _ _ _ _ us hl => match us, hl with | [_, _, _], _ => rfl⟩, fun ds d h => runF_len h⟩
  exact (pm_cons (pm_setF (i := 3) sc_L_web.nd rfl (by first | exact .inl rfl | exact .inr rfl) (pf_lst pxs_nil))
    (pm_cons (pm_set (i := 4) sc_L_web.nd rfl (by first | exact .inl rfl | exact .inr rfl) px_int)
    (pm_cons (pm_for PassesOwn.never rfl (pix_rng1 rfl U.range (pxs_cons (px_v 0) pxs_nil)) (pb_name sc_L_web.nd rfl (by first | exact .inl rfl | exact .inr rfl)) (pm_cons (pm_for PassesOwn.never rfl (pix_rng1 rfl U.range (pxs_cons (px_op op_addD does_add (px_v 5) px_int) pxs_nil)) (pb_name sc_L_web.nd rfl (by first | exact .inl rfl | exact .inr rfl)) (pm_cons (pm_if (pxt_w (pxw_or (pxt_cmp op_lt does_lt (px_v 6) (px_v 5) (nomark _)) (pxw_or1 (pxt_val (px_v 2) (fun _ => rfl))))) (pm_cons (pm_if (pxt_w (pxw_and (pxt_cmp op_lt does_lt (px_v 4) (px_callB does_len call_len_seq rfl U.len bt_len (pxs_cons (px_v 1) pxs_nil)) (nomark _)) (pxw_and1 (pxt_cmp (op_eqB (hu64 hr)) does_eqB (px_ix ix_D does_ix (px_v 1) (px_v 4) (fun _ _ => rfl)) px_int (nomark _))))) (pm_cons (pm_app (i := 3) rfl (by first | exact .inl rfl | exact .inr (.inl rfl) | exact .inr (.inr rfl)) (px_tup (pxs_cons (px_v 6) (pxs_cons (px_v 5) pxs_nil))))
    pm_nil) pm_nil)
    (pm_cons (pm_set (i := 4) sc_L_web.nd rfl (by first | exact .inl rfl | exact .inr rfl) (px_op op_addD does_add (px_v 4) px_int))
    pm_nil)) pm_nil)
    pm_nil))
    pm_nil))
    (pm_cons (pm_ret (px_tup (pxs_cons (px_v 0) (pxs_cons (px_callTy does_tuple call_tuple_of rfl U.tuple bt_tuple (pxs_cons (px_callB does_sortP (cr_sortT (by decide)) rfl U.sorted bt_sorted (pxs_cons (px_v 3) pxs_nil)) pxs_nil)) pxs_nil))))
    pm_nil))))
theorem sc_L_matrix : FnScope ["_law_web_here", "_law_rows", "_law_edge", "_law_k"] ["_law_web_here"] (defScope (top 71)) := ⟨rfl, rfl, rfl, by decide +kernel, rfl, by decide +kernel, by decide +kernel⟩
def m_L_matrix : M := (mSeq (mSet2 1 [3] (rng1 (cons2 (bin2 gIx (gv 0) (cI 0)) (fun _ => some []))) (eNm 3) (mulF (mapT gLst (cons2 (cB false) (fun _ => some []))) (bin2 gIx (gv 0) (cI 0))))
    (mSeq (mFor (seqV (bin2 gIx (gv 0) (cI 1))) (bNm 2) (mSeq (mPut2 1 (bin2 gIx (gv 2) (cI 0)) (bin2 gIx (gv 2) (cI 1)) (cB true))
    (mSeq (mPut2 1 (bin2 gIx (gv 2) (cI 1)) (bin2 gIx (gv 2) (cI 0)) (cB true))
    mNil)))
    (mSeq (mRet (gv 1))
    mNil)))
def g_L_matrix : List D → Option D := runF 1 4 m_L_matrix
theorem d_L_matrix {P : Program} {w : World} {K : PySem.W.Frag} {mg : Str → Option Value} {base : Heap} (U : Un K mg) : Df P w K mg base 4 "_law_matrix" ["_law_web_here"] g_L_matrix := by
  obtain ⟨f, fd, hm, F⟩ := U.d71
  refine ⟨⟨f, fd, hm, fnF_of (m := m_L_matrix) F sc_L_matrix fun cdv A outer s H E hr => ?_, F.kp, F.bindsN fun _ _ _ _ _ _ us hl => match us, hl with | [_], _ => rfl⟩, fun ds d h => runF_len h⟩
  exact (pm_cons (pm_set2 (i := 1) (own := [("_law_k", 3)]) rfl sc_L_matrix.nd rfl rfl rfl (pix_rng1 rfl U.range (pxs_cons (px_ix ix_D does_ix (px_v 0) px_int (fun _ _ => rfl)) pxs_nil)) (blkOk_by (by rfl)) (by decide) (fun _ _ _ _ _ => (pl_name sc_L_matrix.nd rfl (by first | exact .inl rfl | exact .inr rfl))) (fun _ _ _ _ _ => (pf_mul (px_lst (pxs_cons px_bl pxs_nil)) (px_ix ix_D does_ix (px_v 0) px_int (fun _ _ => rfl)))))
    (pm_cons (pm_for PassesOwn.never rfl (pix_seq (px_ix ix_D does_ix (px_v 0) px_int (fun _ _ => rfl))) (pb_name sc_L_matrix.nd rfl (by first | exact .inl rfl | exact .inr rfl)) (pm_cons (pm_put2 (i := 1) rfl (by first | exact .inl rfl | exact .inr (.inl rfl) | exact .inr (.inr rfl)) px_bl (px_ix ix_D does_ix (px_v 2) px_int (fun _ _ => rfl)) (fun _ _ => rfl) (px_ix ix_D does_ix (px_v 2) px_int (fun _ _ => rfl)))
    (pm_cons (pm_put2 (i := 1) rfl (by first | exact .inl rfl | exact .inr (.inl rfl) | exact .inr (.inr rfl)) px_bl (px_ix ix_D does_ix (px_v 2) px_int (fun _ _ => rfl)) (fun _ _ => rfl) (px_ix ix_D does_ix (px_v 2) px_int (fun _ _ => rfl)))
    pm_nil)))
    (pm_cons (pm_ret (px_v 1))
    pm_nil)))
theorem sc_L_of_matrix : FnScope ["_law_rows", "_law_edges", "_law_u", "_law_v"] ["_law_rows"] (defScope (top 72)) := ⟨rfl, rfl, rfl, by decide +kernel, rfl, by decide +kernel, by decide +kernel⟩
def m_L_of_matrix : M := (mSeq (mSetF 1 (shortF (fun _ => some [])))
    (mSeq (mFor (rng1 (cons2 (mapT gLen (cons2 (gv 0) (fun _ => some []))) (fun _ => some []))) (bNm 2) (mSeq (mFor (rng2 (cons2 (gv 2) (cons2 (mapT gLen (cons2 (gv 0) (fun _ => some []))) (fun _ => some [])))) (bNm 3) (mSeq (mIf (truT (bin2 gIx (bin2 gIx (gv 0) (gv 2)) (gv 3))) (mSeq (mApp 1 (mapT gTup (cons2 (gv 2) (cons2 (gv 3) (fun _ => some [])))))
    mNil) mNil)
    mNil))
    mNil))
    (mSeq (mRet (mapT gTup (cons2 (mapT gLen (cons2 (gv 0) (fun _ => some []))) (cons2 (mapT gTuple (cons2 (gv 1) (fun _ => some []))) (fun _ => some [])))))
    mNil)))
def g_L_of_matrix : List D → Option D := runF 1 4 m_L_of_matrix
theorem d_L_of_matrix {P : Program} {w : World} {K : PySem.W.Frag} {mg : Str → Option Value} {base : Heap} (U : Un K mg) : Df P w K mg base 4 "_law_of_matrix" ["_law_rows"] g_L_of_matrix := by
  obtain ⟨f, fd, hm, F⟩ := U.d72
  refine ⟨⟨f, fd, hm, fnF_of (m := m_L_of_matrix) F sc_L_of_matrix fun cdv A outer s H E hr => ?_, F.kp, F.bindsN fun _ _ _ _ _ _ us hl => match us, hl with | [_], _ => rfl⟩, fun ds d h => runF_len h⟩
  exact (pm_cons (pm_setF (i := 1) sc_L_of_matrix.nd rfl (by first | exact .inl rfl | exact .inr rfl) (pf_lst pxs_nil))
    (pm_cons (pm_for PassesOwn.never rfl (pix_rng1 rfl U.range (pxs_cons (px_callB does_len call_len_seq rfl U.len bt_len (pxs_cons (px_v 0) pxs_nil)) pxs_nil)) (pb_name sc_L_of_matrix.nd rfl (by first | exact .inl rfl | exact .inr rfl)) (pm_cons (pm_for PassesOwn.never rfl (pix_rng2 rfl U.range (pxs_cons (px_v 2) (pxs_cons (px_callB does_len call_len_seq rfl U.len bt_len (pxs_cons (px_v 0) pxs_nil)) pxs_nil))) (pb_name sc_L_of_matrix.nd rfl (by first | exact .inl rfl | exact .inr rfl)) (pm_cons (pm_if (pxt_val (px_ix ix_D does_ix (px_ix ix_D does_ix (px_v 0) (px_v 2) (fun _ _ => rfl)) (px_v 3) (fun _ _ => rfl)) (fun _ => rfl)) (pm_cons (pm_app (i := 1) rfl (by first | exact .inl rfl | exact .inr (.inl rfl) | exact .inr (.inr rfl)) (px_tup (pxs_cons (px_v 2) (pxs_cons (px_v 3) pxs_nil))))
    pm_nil) pm_nil)
    pm_nil))
    pm_nil))
    (pm_cons (pm_ret (px_tup (pxs_cons (px_callB does_len call_len_seq rfl U.len bt_len (pxs_cons (px_v 0) pxs_nil)) (pxs_cons (px_callTy does_tuple call_tuple_of rfl U.tuple bt_tuple (pxs_cons (px_v 1) pxs_nil)) pxs_nil))))
    pm_nil)))
theorem sc_L_shuffle : FnScope ["_law_draws_here", "_law_left", "_law_row", "_law_draw", "_law_place", "_law_k"] ["_law_draws_here"] (defScope (top 73)) := ⟨rfl, rfl, rfl, by decide +kernel, rfl, by decide +kernel, by decide +kernel⟩
def m_L_shuffle : M := (mSeq (mSet 1 (lstV (lcV [5] (rng1 (cons2 (mapT gLen (cons2 (gv 0) (fun _ => some []))) (fun _ => some []))) (eNm 5) yesT (gv 5))))
    (mSeq (mSetF 2 (shortF (fun _ => some [])))
    (mSeq (mFor (seqV (gv 0)) (bNm 3) (mSeq (mSet 4 (bin2 gMod (mapT gInt (cons2 (gv 3) (fun _ => some []))) (mapT gLen (cons2 (gv 1) (fun _ => some [])))))
    (mSeq (mApp 2 (bin2 gIx (gv 1) (gv 4)))
    (mSeq (mSet 1 (bin2 gAdd (cutX (gv 1) (fun _ => some none) (partV (gv 4))) (cutX (gv 1) (partV (bin2 gAdd (gv 4) (cI 1))) (fun _ => some none))))
    mNil))))
    (mSeq (mRet (gv 2))
    mNil))))
def g_L_shuffle : List D → Option D := runF 1 6 m_L_shuffle
theorem d_L_shuffle {P : Program} {w : World} {K : PySem.W.Frag} {mg : Str → Option Value} {base : Heap} (U : Un K mg) : Df P w K mg base 4 "_law_shuffle" ["_law_draws_here"] g_L_shuffle := by
  obtain ⟨f, fd, hm, F⟩ := U.d73
  refine ⟨⟨f, fd, hm, fnF_of (m := m_L_shuffle) F sc_L_shuffle fun cdv A outer s H E hr => ?_, F.kp, F.bindsN fun _ _ _ _ _ _ us hl => match us, hl with | [_], _ => rfl⟩, fun ds d h => runF_len h⟩
  exact (pm_cons (pm_setLc (i := 1) (own := [("_law_k", 5)]) rfl sc_L_shuffle.nd rfl rfl rfl (pix_rng1 rfl U.range (pxs_cons (px_callB does_len call_len_seq rfl U.len bt_len (pxs_cons (px_v 0) pxs_nil)) pxs_nil)) (blkOk_by (by rfl)) (by decide) (fun _ _ _ _ _ => (pl_name sc_L_shuffle.nd rfl (by first | exact .inl rfl | exact .inr rfl))) (fun _ _ _ _ _ => plt_nil) (fun _ _ _ _ _ => (px_v 5)))
    (pm_cons (pm_setF (i := 2) sc_L_shuffle.nd rfl (by first | exact .inl rfl | exact .inr rfl) (pf_lst pxs_nil))
    (pm_cons (pm_for PassesOwn.never rfl (pix_seq (px_v 0)) (pb_name sc_L_shuffle.nd rfl (by first | exact .inl rfl | exact .inr rfl)) (pm_cons (pm_set (i := 4) sc_L_shuffle.nd rfl (by first | exact .inl rfl | exact .inr rfl) (px_op op_mod does_mod (px_callTy does_int call_int1 rfl U.int bt_int (pxs_cons (px_v 3) pxs_nil)) (px_callB does_len call_len_seq rfl U.len bt_len (pxs_cons (px_v 1) pxs_nil))))
    (pm_cons (pm_app (i := 2) rfl (by first | exact .inl rfl | exact .inr (.inl rfl) | exact .inr (.inr rfl)) (px_ix ix_D does_ix (px_v 1) (px_v 4) (fun _ _ => rfl)))
    (pm_cons (pm_set (i := 1) sc_L_shuffle.nd rfl (by first | exact .inl rfl | exact .inr rfl) (px_op op_addD does_add (px_slice (px_v 1) pxo_none (pxo_some (px_v 4))) (px_slice (px_v 1) (pxo_some (px_op op_addD does_add (px_v 4) px_int)) pxo_none)))
    pm_nil))))
    (pm_cons (pm_ret (px_v 2))
    pm_nil))))
theorem sc_L_renamed : FnScope ["_law_web_here", "_law_row", "_law_edges", "_law_edge", "_law_u", "_law_v"] ["_law_web_here", "_law_row"] (defScope (top 74)) := ⟨rfl, rfl, rfl, by decide +kernel, rfl, by decide +kernel, by decide +kernel⟩
def m_L_renamed : M := (mSeq (mSetF 2 (shortF (fun _ => some [])))
    (mSeq (mFor (seqV (bin2 gIx (gv 0) (cI 1))) (bNm 3) (mSeq (mSet 4 (bin2 gIx (gv 1) (bin2 gIx (gv 3) (cI 0))))
    (mSeq (mSet 5 (bin2 gIx (gv 1) (bin2 gIx (gv 3) (cI 1))))
    (mSeq (mApp 2 (mapT gTup (cons2 (mapT gMin (cons2 (gv 4) (cons2 (gv 5) (fun _ => some [])))) (cons2 (mapT gMax (cons2 (gv 4) (cons2 (gv 5) (fun _ => some [])))) (fun _ => some [])))))
    mNil))))
    (mSeq (mRet (mapT gTup (cons2 (bin2 gIx (gv 0) (cI 0)) (cons2 (mapT gTuple (cons2 (mapT gSortP (cons2 (gv 2) (fun _ => some []))) (fun _ => some []))) (fun _ => some [])))))
    mNil)))
def g_L_renamed : List D → Option D := runF 2 6 m_L_renamed
theorem d_L_renamed {P : Program} {w : World} {K : PySem.W.Frag} {mg : Str → Option Value} {base : Heap} (U : Un K mg) : Df P w K mg base 4 "_law_renamed" ["_law_web_here", "_law_row"] g_L_renamed := by
  obtain ⟨f, fd, hm, F⟩ := U.d74
  refine ⟨⟨f, fd, hm, fnF_of (m := m_L_renamed) F sc_L_renamed fun cdv A outer s H E hr => ?_, F.kp, F.bindsN fun _ _ _ _ _ _ us hl => match us, hl with | [_, _], _ => rfl⟩, fun ds d h => runF_len h⟩
  exact (pm_cons (pm_setF (i := 2) sc_L_renamed.nd rfl (by first | exact .inl rfl | exact .inr rfl) (pf_lst pxs_nil))
    (pm_cons (pm_for PassesOwn.never rfl (pix_seq (px_ix ix_D does_ix (px_v 0) px_int (fun _ _ => rfl))) (pb_name sc_L_renamed.nd rfl (by first | exact .inl rfl | exact .inr rfl)) (pm_cons (pm_set (i := 4) sc_L_renamed.nd rfl (by first | exact .inl rfl | exact .inr rfl) (px_ix ix_D does_ix (px_v 1) (px_ix ix_D does_ix (px_v 3) px_int (fun _ _ => rfl)) (fun _ _ => rfl)))
    (pm_cons (pm_set (i := 5) sc_L_renamed.nd rfl (by first | exact .inl rfl | exact .inr rfl) (px_ix ix_D does_ix (px_v 1) (px_ix ix_D does_ix (px_v 3) px_int (fun _ _ => rfl)) (fun _ _ => rfl)))
    (pm_cons (pm_app (i := 2) rfl (by first | exact .inl rfl | exact .inr (.inl rfl) | exact .inr (.inr rfl)) (px_tup (pxs_cons (px_callB does_min (call_min2 rfl) rfl U.min bt_min (pxs_cons (px_v 4) (pxs_cons (px_v 5) pxs_nil))) (pxs_cons (px_callB does_max (call_max2 rfl) rfl U.max bt_max (pxs_cons (px_v 4) (pxs_cons (px_v 5) pxs_nil))) pxs_nil))))
    pm_nil))))
    (pm_cons (pm_ret (px_tup (pxs_cons (px_ix ix_D does_ix (px_v 0) px_int (fun _ _ => rfl)) (pxs_cons (px_callTy does_tuple call_tuple_of rfl U.tuple bt_tuple (pxs_cons (px_callB does_sortP (cr_sortT (by decide)) rfl U.sorted bt_sorted (pxs_cons (px_v 2) pxs_nil)) pxs_nil)) pxs_nil))))
    pm_nil)))
theorem sc_L_permutations : FnScope ["_law_size", "_law_rows", "_law_k", "_law_longer", "_law_row", "_law_number"] ["_law_size"] (defScope (top 75)) := ⟨rfl, rfl, rfl, by decide +kernel, rfl, by decide +kernel, by decide +kernel⟩
def m_L_permutations : M := (mSeq (mSet 1 (mapT gLst (cons2 (mapT gLst (fun _ => some [])) (fun _ => some []))))
    (mSeq (mFor (rng1 (cons2 (gv 0) (fun _ => some []))) (bNm 2) (mSeq (mSetF 3 (shortF (fun _ => some [])))
    (mSeq (mFor (seqV (mapT gList (cons2 (gv 1) (fun _ => some [])))) (bNm 4) (mSeq (mFor (rng1 (cons2 (gv 0) (fun _ => some []))) (bNm 5) (mSeq (mIf (tst (bin2 (gInB true) (gv 5) (gv 4))) (mSeq (mApp 3 (bin2 gAdd (gv 4) (mapT gLst (cons2 (gv 5) (fun _ => some [])))))
    mNil) mNil)
    mNil))
    mNil))
    (mSeq (mPre (fixE 3) (mSet 1 (gv 3)))
    mNil))))
    (mSeq (mRet (gv 1))
    mNil)))
def g_L_permutations : List D → Option D := runF 1 6 m_L_permutations
theorem d_L_permutations {P : Program} {w : World} {K : PySem.W.Frag} {mg : Str → Option Value} {base : Heap} (U : Un K mg) : Df P w K mg base 4 "_law_permutations" ["_law_size"] g_L_permutations := by
  obtain ⟨f, fd, hm, F⟩ := U.d75
  refine ⟨⟨f, fd, hm, fnF_of (m := m_L_permutations) F sc_L_permutations fun cdv A outer s H E hr => ?_, F.kp, F.bindsN fun _ _ _ _ _ _ us hl => match us, hl with | [_], _ => rfl⟩, fun ds d h => runF_len h⟩
  exact (pm_cons (pm_set (i := 1) sc_L_permutations.nd rfl (by first | exact .inl rfl | exact .inr rfl) (px_lst (pxs_cons (px_lst pxs_nil) pxs_nil)))
    (pm_cons (pm_for PassesOwn.never rfl (pix_rng1 rfl U.range (pxs_cons (px_v 0) pxs_nil)) (pb_name sc_L_permutations.nd rfl (by first | exact .inl rfl | exact .inr rfl)) (pm_cons (pm_setF (i := 3) sc_L_permutations.nd rfl (by first | exact .inl rfl | exact .inr rfl) (pf_lst pxs_nil))
    (pm_cons (pm_for PassesOwn.never rfl (pix_seq (px_callTy does_list call_list_of rfl U.list bt_list (pxs_cons (px_v 1) pxs_nil))) (pb_name sc_L_permutations.nd rfl (by first | exact .inl rfl | exact .inr rfl)) (pm_cons (pm_for PassesOwn.never rfl (pix_rng1 rfl U.range (pxs_cons (px_v 0) pxs_nil)) (pb_name sc_L_permutations.nd rfl (by first | exact .inl rfl | exact .inr rfl)) (pm_cons (pm_if (pxt_cmp (op_niB (hu65 hr)) does_inB (px_v 5) (px_v 4) (by rfl)) (pm_cons (pm_app (i := 3) rfl (by first | exact .inl rfl | exact .inr (.inl rfl) | exact .inr (.inr rfl)) (px_op op_addD does_add (px_v 4) (px_lst (pxs_cons (px_v 5) pxs_nil))))
    pm_nil) pm_nil)
    pm_nil))
    pm_nil))
    (pm_cons (pm_fix (i := 3) (pm_set (i := 1) sc_L_permutations.nd rfl (by first | exact .inl rfl | exact .inr rfl) (px_v 3)))
    pm_nil))))
    (pm_cons (pm_ret (px_v 1))
    pm_nil)))
theorem sc_L_may_follow : FnScope ["_law_first", "_law_second_here", "_law_row", "_law_place", "_law_node", "_law_k"] ["_law_first", "_law_second_here", "_law_row", "_law_place"] (defScope (top 76)) := ⟨rfl, rfl, rfl, by decide +kernel, rfl, by decide +kernel, by decide +kernel⟩
def m_L_may_follow : M := (mSeq (mSet 4 (mapT gLen (cons2 (gv 2) (fun _ => some []))))
    (mSeq (mIf (orT (tst (bin2 (gInB false) (gv 3) (gv 2))) (tst (bin2 (gEqB true) (cntV (bin2 gIx (gv 0) (gv 4)) (cB true)) (cntV (bin2 gIx (gv 1) (gv 3)) (cB true))))) (mSeq (mRet (cB false))
    mNil) mNil)
    (mSeq (mIf (tst (bin2 (gEqB true) (bin2 gIx (bin2 gIx (gv 0) (gv 4)) (gv 4)) (bin2 gIx (bin2 gIx (gv 1) (gv 3)) (gv 3)))) (mSeq (mRet (cB false))
    mNil) mNil)
    (mSeq (mFor (rng1 (cons2 (gv 4) (fun _ => some []))) (bNm 5) (mSeq (mIf (tst (bin2 (gEqB true) (bin2 gIx (bin2 gIx (gv 0) (gv 5)) (gv 4)) (bin2 gIx (bin2 gIx (gv 1) (bin2 gIx (gv 2) (gv 5))) (gv 3)))) (mSeq (mRet (cB false))
    mNil) mNil)
    mNil))
    (mSeq (mRet (cB true))
    mNil)))))
def g_L_may_follow : List D → Option D := runF 4 6 m_L_may_follow
theorem d_L_may_follow {P : Program} {w : World} {K : PySem.W.Frag} {mg : Str → Option Value} {base : Heap} (U : Un K mg) : Df P w K mg base 4 "_law_may_follow" ["_law_first", "_law_second_here", "_law_row", "_law_place"] g_L_may_follow := by
  obtain ⟨f, fd, hm, F⟩ := U.d76
  refine ⟨⟨f, fd, hm, fnF_of (m := m_L_may_follow) F sc_L_may_follow fun cdv A outer s H E hr => ?_, F.kp, F.bindsN fun _ _ _ _ _ _ us hl => match us, hl with | [_, _, _, _], _ => rfl⟩, fun ds d h => runF_len h⟩
  exact (pm_cons (pm_set (i := 4) sc_L_may_follow.nd rfl (by first | exact .inl rfl | exact .inr rfl) (px_callB does_len call_len_seq rfl U.len bt_len (pxs_cons (px_v 2) pxs_nil)))
    (pm_cons (pm_if (pxt_w (pxw_or (pxt_cmp (op_inB (hu65 hr)) does_inB (px_v 3) (px_v 2) (by rfl)) (pxw_or1 (pxt_cmp (op_neB (hu64 hr)) does_eqB (px_count (px_ix ix_D does_ix (px_v 0) (px_v 4) (fun _ _ => rfl)) px_bl) (px_count (px_ix ix_D does_ix (px_v 1) (px_v 3) (fun _ _ => rfl)) px_bl) (nomark _))))) (pm_cons (pm_ret px_bl)
    pm_nil) pm_nil)
    (pm_cons (pm_if (pxt_cmp (op_neB (hu64 hr)) does_eqB (px_ix ix_D does_ix (px_ix ix_D does_ix (px_v 0) (px_v 4) (fun _ _ => rfl)) (px_v 4) (fun _ _ => rfl)) (px_ix ix_D does_ix (px_ix ix_D does_ix (px_v 1) (px_v 3) (fun _ _ => rfl)) (px_v 3) (fun _ _ => rfl)) (nomark _)) (pm_cons (pm_ret px_bl)
    pm_nil) pm_nil)
    (pm_cons (pm_for PassesOwn.never rfl (pix_rng1 rfl U.range (pxs_cons (px_v 4) pxs_nil)) (pb_name sc_L_may_follow.nd rfl (by first | exact .inl rfl | exact .inr rfl)) (pm_cons (pm_if (pxt_cmp (op_neB (hu64 hr)) does_eqB (px_ix ix_D does_ix (px_ix ix_D does_ix (px_v 0) (px_v 5) (fun _ _ => rfl)) (px_v 4) (fun _ _ => rfl)) (px_ix ix_D does_ix (px_ix ix_D does_ix (px_v 1) (px_ix ix_D does_ix (px_v 2) (px_v 5) (fun _ _ => rfl)) (fun _ _ => rfl)) (px_v 3) (fun _ _ => rfl)) (nomark _)) (pm_cons (pm_ret px_bl)
    pm_nil) pm_nil)
    pm_nil))
    (pm_cons (pm_ret px_bl)
    pm_nil)))))
end Wl
set_option maxRecDepth 100000
set_option maxHeartbeats 4000000
/-! Wp5 -/
namespace Wl
open PySem L2 PyProof.Rows Wd Wg
theorem sc_L_completes : FnScope ["_law_first", "_law_second_here", "_law_row", "_law_place"] ["_law_first", "_law_second_here", "_law_row"] (defScope (top 77)) := ⟨rfl, rfl, rfl, by decide +kernel, rfl, by decide +kernel, by decide +kernel⟩
def m_L_completes (g : List D → Option D) : M := (mSeq (mIf (tst (bin2 (gEqB false) (mapT gLen (cons2 (gv 2) (fun _ => some []))) (mapT gLen (cons2 (gv 0) (fun _ => some []))))) (mSeq (mRet (cB true))
    mNil) mNil)
    (mSeq (mFor (rng1 (cons2 (mapT gLen (cons2 (gv 1) (fun _ => some []))) (fun _ => some []))) (bNm 3) (mSeq (mIf (andT (truT (mapT g_L_may_follow (cons2 (gv 0) (cons2 (gv 1) (cons2 (gv 2) (cons2 (gv 3) (fun _ => some []))))))) (truT (mapT g (cons2 (gv 0) (cons2 (gv 1) (cons2 (bin2 gAdd (gv 2) (mapT gLst (cons2 (gv 3) (fun _ => some [])))) (fun _ => some []))))))) (mSeq (mRet (cB true))
    mNil) mNil)
    mNil))
    (mSeq (mRet (cB false))
    mNil)))
def g_L_completes : Nat → List D → Option D
  | 0 => fun _ => none
  | j + 1 => runF 3 4 (m_L_completes (g_L_completes j))
theorem d_L_completes {P : Program} {w : World} {K : PySem.W.Frag} {mg : Str → Option Value} {base : Heap} (U : Un K mg) : ∀ j : Nat, Df P w K mg base (6 + j) "_law_completes" ["_law_first", "_law_second_here", "_law_row"] (g_L_completes j)
  | 0 => by
    obtain ⟨f, fd, hm, F⟩ := U.d77
    exact ⟨⟨f, fd, hm, fnF_none f fd ["_law_first", "_law_second_here", "_law_row"] _, F.kp, F.bindsN fun _ _ _ _ _ _ us hl => match us, hl with | [_, _, _], _ => rfl⟩, fun ds d h => by cases h⟩
  | j + 1 => by
    have c_L_completes := d_L_completes (P := P) (w := w) (base := base) U j
    obtain ⟨f, fd, hm, F⟩ := U.d77
    have c_L_may_follow := d_L_may_follow (P := P) (w := w) (base := base) U
    refine ⟨⟨f, fd, hm, fnF_of (m := m_L_completes (g_L_completes j)) F sc_L_completes fun cdv A outer s H E hr => ?_, F.kp, F.bindsN fun _ _ _ _ _ _ us hl => match us, hl with | [_, _, _], _ => rfl⟩, fun ds d h => runF_len h⟩
    exact (pm_cons (pm_if (pxt_cmp (op_eqB (hu64 hr)) does_eqB (px_callB does_len call_len_seq rfl U.len bt_len (pxs_cons (px_v 2) pxs_nil)) (px_callB does_len call_len_seq rfl U.len bt_len (pxs_cons (px_v 0) pxs_nil)) (nomark _)) (pm_cons (pm_ret px_bl)
    pm_nil) pm_nil)
    (pm_cons (pm_for PassesOwn.never rfl (pix_rng1 rfl U.range (pxs_cons (px_callB does_len call_len_seq rfl U.len bt_len (pxs_cons (px_v 1) pxs_nil)) pxs_nil)) (pb_name sc_L_completes.nd rfl (by first | exact .inl rfl | exact .inr rfl)) (pm_cons (pm_if (pxt_w (pxw_and (pxt_val (px_callD c_L_may_follow (hr.mono (Nat.le_trans (by decide) (Nat.le_add_right 6 j))) rfl (pxs_cons (px_v 0) (pxs_cons (px_v 1) (pxs_cons (px_v 2) (pxs_cons (px_v 3) pxs_nil))))) (fun _ => rfl)) (pxw_and1 (pxt_val (px_callD c_L_completes hr rfl (pxs_cons (px_v 0) (pxs_cons (px_v 1) (pxs_cons (px_op op_addD does_add (px_v 2) (px_lst (pxs_cons (px_v 3) pxs_nil))) pxs_nil)))) (fun _ => rfl))))) (pm_cons (pm_ret px_bl)
    pm_nil) pm_nil)
    pm_nil))
    (pm_cons (pm_ret px_bl)
    pm_nil)))
theorem sc_L_alike : FnScope ["_law_a", "_law_b"] ["_law_a", "_law_b"] (defScope (top 78)) := ⟨rfl, rfl, rfl, by decide +kernel, rfl, by decide +kernel, by decide +kernel⟩
def m_L_alike : M := (mSeq (mIf (orT (tst (bin2 (gEqB true) (bin2 gIx (gv 0) (cI 0)) (bin2 gIx (gv 1) (cI 0)))) (tst (bin2 (gEqB true) (mapT gLen (cons2 (bin2 gIx (gv 0) (cI 1)) (fun _ => some []))) (mapT gLen (cons2 (bin2 gIx (gv 1) (cI 1)) (fun _ => some [])))))) (mSeq (mRet (cB false))
    mNil) mNil)
    (mSeq (mRet (mapT (g_L_completes 11) (cons2 (mapT g_L_matrix (cons2 (gv 0) (fun _ => some []))) (cons2 (mapT g_L_matrix (cons2 (gv 1) (fun _ => some []))) (cons2 (mapT gLst (fun _ => some [])) (fun _ => some []))))))
    mNil))
def g_L_alike : List D → Option D := runF 2 2 m_L_alike
theorem d_L_alike {P : Program} {w : World} {K : PySem.W.Frag} {mg : Str → Option Value} {base : Heap} (U : Un K mg) : Df P w K mg base 19 "_law_alike" ["_law_a", "_law_b"] g_L_alike := by
  obtain ⟨f, fd, hm, F⟩ := U.d78
  have c_L_completes := d_L_completes (P := P) (w := w) (base := base) U 11
  have c_L_matrix := d_L_matrix (P := P) (w := w) (base := base) U
  refine ⟨⟨f, fd, hm, fnF_of (m := m_L_alike) F sc_L_alike fun cdv A outer s H E hr => ?_, F.kp, F.bindsN fun _ _ _ _ _ _ us hl => match us, hl with | [_, _], _ => rfl⟩, fun ds d h => runF_len h⟩
  exact (pm_cons (pm_if (pxt_w (pxw_or (pxt_cmp (op_neB (hu64 hr)) does_eqB (px_ix ix_D does_ix (px_v 0) px_int (fun _ _ => rfl)) (px_ix ix_D does_ix (px_v 1) px_int (fun _ _ => rfl)) (nomark _)) (pxw_or1 (pxt_cmp (op_neB (hu64 hr)) does_eqB (px_callB does_len call_len_seq rfl U.len bt_len (pxs_cons (px_ix ix_D does_ix (px_v 0) px_int (fun _ _ => rfl)) pxs_nil)) (px_callB does_len call_len_seq rfl U.len bt_len (pxs_cons (px_ix ix_D does_ix (px_v 1) px_int (fun _ _ => rfl)) pxs_nil)) (nomark _))))) (pm_cons (pm_ret px_bl)
    pm_nil) pm_nil)
    (pm_cons (pm_ret (px_callD c_L_completes (hr.mono (by decide)) rfl (pxs_cons (px_callD c_L_matrix (hr.mono (by decide)) rfl (pxs_cons (px_v 0) pxs_nil)) (pxs_cons (px_callD c_L_matrix (hr.mono (by decide)) rfl (pxs_cons (px_v 1) pxs_nil)) (pxs_cons (px_lst pxs_nil) pxs_nil)))))
    pm_nil))
theorem sc_L_joined : FnScope ["_law_kind", "_law_near", "_law_far", "_law_same_first", "_law_same_second"] ["_law_kind", "_law_near", "_law_far", "_law_same_first", "_law_same_second"] (defScope (top 79)) := ⟨rfl, rfl, rfl, by decide +kernel, rfl, by decide +kernel, by decide +kernel⟩
def m_L_joined : M := (mSeq (mIf (tst (bin2 (gEqB false) (gv 0) (cS "direct"))) (mSeq (mRet (andV (gv 1) (gv 2)))
    mNil) mNil)
    (mSeq (mIf (tst (bin2 (gEqB false) (gv 0) (cS "levels"))) (mSeq (mRet (orV (gv 1) (andV (gv 3) (gv 2))))
    mNil) mNil)
    (mSeq (mIf (orT (andT (truT (gv 1)) (truT (gv 4))) (andT (truT (gv 3)) (truT (gv 2)))) (mSeq (mRet (cB true))
    mNil) mNil)
    (mSeq (mRet (andV (bin2 (gEqB false) (gv 0) (cS "strong")) (andV (gv 1) (gv 2))))
    mNil))))
def g_L_joined : List D → Option D := runF 5 5 m_L_joined
theorem d_L_joined {P : Program} {w : World} {K : PySem.W.Frag} {mg : Str → Option Value} {base : Heap} (U : Un K mg) : Df P w K mg base 4 "_law_joined" ["_law_kind", "_law_near", "_law_far", "_law_same_first", "_law_same_second"] g_L_joined := by
  obtain ⟨f, fd, hm, F⟩ := U.d79
  refine ⟨⟨f, fd, hm, fnF_of (m := m_L_joined) F sc_L_joined fun cdv A outer s H E hr => ?_, F.kp, F.bindsN fun _ _ _ _ _ _ us hl => match us, hl with | [_, _, _, _, _], _ => rfl⟩, fun ds d h => runF_len h⟩
  exact (pm_cons (pm_if (pxt_cmp (op_eqB (hu64 hr)) does_eqB (px_v 0) px_str (nomark _)) (pm_cons (pm_ret (px_and (px_v 1) (px_one (px_v 2))))
    pm_nil) pm_nil)
    (pm_cons (pm_if (pxt_cmp (op_eqB (hu64 hr)) does_eqB (px_v 0) px_str (nomark _)) (pm_cons (pm_ret (px_or (px_v 1) (px_one (px_and (px_v 3) (px_one (px_v 2))))))
    pm_nil) pm_nil)
    (pm_cons (pm_if (pxt_w (pxw_or (pxt_w (pxw_and (pxt_val (px_v 1) (fun _ => rfl)) (pxw_and1 (pxt_val (px_v 4) (fun _ => rfl))))) (pxw_or1 (pxt_w (pxw_and (pxt_val (px_v 3) (fun _ => rfl)) (pxw_and1 (pxt_val (px_v 2) (fun _ => rfl)))))))) (pm_cons (pm_ret px_bl)
    pm_nil) pm_nil)
    (pm_cons (pm_ret (px_and (px_cmp (op_eqB (hu64 hr)) does_eqB (px_v 0) px_str (nomark _)) (px_and (px_v 1) (px_one (px_v 2)))))
    pm_nil))))
theorem sc_L_product : FnScope ["_law_kind", "_law_a", "_law_b", "_law_first", "_law_second_here", "_law_edges", "_law_low", "_law_high", "_law_u", "_law_x", "_law_v", "_law_y"] ["_law_kind", "_law_a", "_law_b"] (defScope (top 80)) := ⟨rfl, rfl, rfl, by decide +kernel, rfl, by decide +kernel, by decide +kernel⟩
def m_L_product : M := (mSeq (mSet 3 (mapT g_L_matrix (cons2 (gv 1) (fun _ => some []))))
    (mSeq (mSet 4 (mapT g_L_matrix (cons2 (gv 2) (fun _ => some []))))
    (mSeq (mSetF 5 (shortF (fun _ => some [])))
    (mSeq (mFor (rng1 (cons2 (bin2 gMul (bin2 gIx (gv 1) (cI 0)) (bin2 gIx (gv 2) (cI 0))) (fun _ => some []))) (bNm 6) (mSeq (mFor (rng2 (cons2 (gv 6) (cons2 (bin2 gMul (bin2 gIx (gv 1) (cI 0)) (bin2 gIx (gv 2) (cI 0))) (fun _ => some [])))) (bNm 7) (mSeq (mSet 8 (bin2 gFdiv (gv 6) (bin2 gIx (gv 2) (cI 0))))
    (mSeq (mSet 9 (bin2 gSub (gv 6) (bin2 gMul (gv 8) (bin2 gIx (gv 2) (cI 0)))))
    (mSeq (mSet 10 (bin2 gFdiv (gv 7) (bin2 gIx (gv 2) (cI 0))))
    (mSeq (mSet 11 (bin2 gSub (gv 7) (bin2 gMul (gv 10) (bin2 gIx (gv 2) (cI 0)))))
    (mSeq (mIf (truT (mapT g_L_joined (cons2 (gv 0) (cons2 (bin2 gIx (bin2 gIx (gv 3) (gv 8)) (gv 10)) (cons2 (bin2 gIx (bin2 gIx (gv 4) (gv 9)) (gv 11)) (cons2 (bin2 (gEqB false) (gv 8) (gv 10)) (cons2 (bin2 (gEqB false) (gv 9) (gv 11)) (fun _ => some [])))))))) (mSeq (mApp 5 (mapT gTup (cons2 (gv 6) (cons2 (gv 7) (fun _ => some [])))))
    mNil) mNil)
    mNil))))))
    mNil))
    (mSeq (mRet (mapT gTup (cons2 (bin2 gMul (bin2 gIx (gv 1) (cI 0)) (bin2 gIx (gv 2) (cI 0))) (cons2 (mapT gTuple (cons2 (gv 5) (fun _ => some []))) (fun _ => some [])))))
    mNil)))))
def g_L_product : List D → Option D := runF 3 12 m_L_product
theorem d_L_product {P : Program} {w : World} {K : PySem.W.Frag} {mg : Str → Option Value} {base : Heap} (U : Un K mg) : Df P w K mg base 6 "_law_product" ["_law_kind", "_law_a", "_law_b"] g_L_product := by
  obtain ⟨f, fd, hm, F⟩ := U.d80
  have c_L_matrix := d_L_matrix (P := P) (w := w) (base := base) U
  have c_L_joined := d_L_joined (P := P) (w := w) (base := base) U
  refine ⟨⟨f, fd, hm, fnF_of (m := m_L_product) F sc_L_product fun cdv A outer s H E hr => ?_, F.kp, F.bindsN fun _ _ _ _ _ _ us hl => match us, hl with | [_, _, _], _ => rfl⟩, fun ds d h => runF_len h⟩
  exact (pm_cons (pm_set (i := 3) sc_L_product.nd rfl (by first | exact .inl rfl | exact .inr rfl) (px_callD c_L_matrix (hr.mono (by decide)) rfl (pxs_cons (px_v 1) pxs_nil)))
    (pm_cons (pm_set (i := 4) sc_L_product.nd rfl (by first | exact .inl rfl | exact .inr rfl) (px_callD c_L_matrix (hr.mono (by decide)) rfl (pxs_cons (px_v 2) pxs_nil)))
    (pm_cons (pm_setF (i := 5) sc_L_product.nd rfl (by first | exact .inl rfl | exact .inr rfl) (pf_lst pxs_nil))
    (pm_cons (pm_for PassesOwn.never rfl (pix_rng1 rfl U.range (pxs_cons (px_op op_mulD does_mul (px_ix ix_D does_ix (px_v 1) px_int (fun _ _ => rfl)) (px_ix ix_D does_ix (px_v 2) px_int (fun _ _ => rfl))) pxs_nil)) (pb_name sc_L_product.nd rfl (by first | exact .inl rfl | exact .inr rfl)) (pm_cons (pm_for PassesOwn.never rfl (pix_rng2 rfl U.range (pxs_cons (px_v 6) (pxs_cons (px_op op_mulD does_mul (px_ix ix_D does_ix (px_v 1) px_int (fun _ _ => rfl)) (px_ix ix_D does_ix (px_v 2) px_int (fun _ _ => rfl))) pxs_nil))) (pb_name sc_L_product.nd rfl (by first | exact .inl rfl | exact .inr rfl)) (pm_cons (pm_set (i := 8) sc_L_product.nd rfl (by first | exact .inl rfl | exact .inr rfl) (px_op op_fdiv does_fdiv (px_v 6) (px_ix ix_D does_ix (px_v 2) px_int (fun _ _ => rfl))))
    (pm_cons (pm_set (i := 9) sc_L_product.nd rfl (by first | exact .inl rfl | exact .inr rfl) (px_op op_sub does_sub (px_v 6) (px_op op_mulD does_mul (px_v 8) (px_ix ix_D does_ix (px_v 2) px_int (fun _ _ => rfl)))))
    (pm_cons (pm_set (i := 10) sc_L_product.nd rfl (by first | exact .inl rfl | exact .inr rfl) (px_op op_fdiv does_fdiv (px_v 7) (px_ix ix_D does_ix (px_v 2) px_int (fun _ _ => rfl))))
    (pm_cons (pm_set (i := 11) sc_L_product.nd rfl (by first | exact .inl rfl | exact .inr rfl) (px_op op_sub does_sub (px_v 7) (px_op op_mulD does_mul (px_v 10) (px_ix ix_D does_ix (px_v 2) px_int (fun _ _ => rfl)))))
    (pm_cons (pm_if (pxt_val (px_callD c_L_joined (hr.mono (by decide)) rfl (pxs_cons (px_v 0) (pxs_cons (px_ix ix_D does_ix (px_ix ix_D does_ix (px_v 3) (px_v 8) (fun _ _ => rfl)) (px_v 10) (fun _ _ => rfl)) (pxs_cons (px_ix ix_D does_ix (px_ix ix_D does_ix (px_v 4) (px_v 9) (fun _ _ => rfl)) (px_v 11) (fun _ _ => rfl)) (pxs_cons (px_cmp (op_eqB (hu64 hr)) does_eqB (px_v 8) (px_v 10) (nomark _)) (pxs_cons (px_cmp (op_eqB (hu64 hr)) does_eqB (px_v 9) (px_v 11) (nomark _)) pxs_nil)))))) (fun _ => rfl)) (pm_cons (pm_app (i := 5) rfl (by first | exact .inl rfl | exact .inr (.inl rfl) | exact .inr (.inr rfl)) (px_tup (pxs_cons (px_v 6) (pxs_cons (px_v 7) pxs_nil))))
    pm_nil) pm_nil)
    pm_nil))))))
    pm_nil))
    (pm_cons (pm_ret (px_tup (pxs_cons (px_op op_mulD does_mul (px_ix ix_D does_ix (px_v 1) px_int (fun _ _ => rfl)) (px_ix ix_D does_ix (px_v 2) px_int (fun _ _ => rfl))) (pxs_cons (px_callTy does_tuple call_tuple_of rfl U.tuple bt_tuple (pxs_cons (px_v 5) pxs_nil)) pxs_nil))))
    pm_nil)))))
theorem sc_L_two_sided : FnScope ["_law_size", "_law_halves", "_law_bits", "_law_edges", "_law_place", "_law_v", "_law_u"] ["_law_size", "_law_halves", "_law_bits"] (defScope (top 81)) := ⟨rfl, rfl, rfl, by decide +kernel, rfl, by decide +kernel, by decide +kernel⟩
def m_L_two_sided : M := (mSeq (mSetF 3 (shortF (fun _ => some [])))
    (mSeq (mSet 4 (cI 0))
    (mSeq (mFor (rng1 (cons2 (gv 0) (fun _ => some []))) (bNm 5) (mSeq (mFor (rng1 (cons2 (gv 5) (fun _ => some []))) (bNm 6) (mSeq (mIf (tst (bin2 (gEqB true) (bin2 gIx (gv 1) (gv 6)) (bin2 gIx (gv 1) (gv 5)))) (mSeq (mIf (andT (tst (bin2 gLt (gv 4) (mapT gLen (cons2 (gv 2) (fun _ => some []))))) (tst (bin2 (gEqB false) (bin2 gIx (gv 2) (gv 4)) (cI 1)))) (mSeq (mApp 3 (mapT gTup (cons2 (gv 6) (cons2 (gv 5) (fun _ => some [])))))
    mNil) mNil)
    (mSeq (mSet 4 (bin2 gAdd (gv 4) (cI 1)))
    mNil)) mNil)
    mNil))
    mNil))
    (mSeq (mRet (mapT gTup (cons2 (gv 0) (cons2 (mapT gTuple (cons2 (mapT gSortP (cons2 (gv 3) (fun _ => some []))) (fun _ => some []))) (fun _ => some [])))))
    mNil))))
def g_L_two_sided : List D → Option D := runF 3 7 m_L_two_sided
theorem d_L_two_sided {P : Program} {w : World} {K : PySem.W.Frag} {mg : Str → Option Value} {base : Heap} (U : Un K mg) : Df P w K mg base 4 "_law_two_sided" ["_law_size", "_law_halves", "_law_bits"] g_L_two_sided := by
  obtain ⟨f, fd, hm, F⟩ := U.d81
  refine ⟨⟨f, fd, hm, fnF_of (m := m_L_two_sided) F sc_L_two_sided fun cdv A outer s H E hr => ?_, F.kp, F.bindsN fun _ _ _ _ _ _ us hl => match us, hl with | [_, _, _], _ => rfl⟩, fun ds d h => runF_len h⟩
  exact (pm_cons (pm_setF (i := 3) sc_L_two_sided.nd rfl (by first | exact .inl rfl | exact .inr rfl) (pf_lst pxs_nil))
    (pm_cons (pm_set (i := 4) sc_L_two_sided.nd rfl (by first | exact .inl rfl | exact .inr rfl) px_int)
    (pm_cons (pm_for PassesOwn.never rfl (pix_rng1 rfl U.range (pxs_cons (px_v 0) pxs_nil)) (pb_name sc_L_two_sided.nd rfl (by first | exact .inl rfl | exact .inr rfl)) (pm_cons (pm_for PassesOwn.never rfl (pix_rng1 rfl U.range (pxs_cons (px_v 5) pxs_nil)) (pb_name sc_L_two_sided.nd rfl (by first | exact .inl rfl | exact .inr rfl)) (pm_cons (pm_if (pxt_cmp (op_neB (hu64 hr)) does_eqB (px_ix ix_D does_ix (px_v 1) (px_v 6) (fun _ _ => rfl)) (px_ix ix_D does_ix (px_v 1) (px_v 5) (fun _ _ => rfl)) (nomark _)) (pm_cons (pm_if (pxt_w (pxw_and (pxt_cmp op_lt does_lt (px_v 4) (px_callB does_len call_len_seq rfl U.len bt_len (pxs_cons (px_v 2) pxs_nil)) (nomark _)) (pxw_and1 (pxt_cmp (op_eqB (hu64 hr)) does_eqB (px_ix ix_D does_ix (px_v 2) (px_v 4) (fun _ _ => rfl)) px_int (nomark _))))) (pm_cons (pm_app (i := 3) rfl (by first | exact .inl rfl | exact .inr (.inl rfl) | exact .inr (.inr rfl)) (px_tup (pxs_cons (px_v 6) (pxs_cons (px_v 5) pxs_nil))))
    pm_nil) pm_nil)
    (pm_cons (pm_set (i := 4) sc_L_two_sided.nd rfl (by first | exact .inl rfl | exact .inr rfl) (px_op op_addD does_add (px_v 4) px_int))
    pm_nil)) pm_nil)
    pm_nil))
    pm_nil))
    (pm_cons (pm_ret (px_tup (pxs_cons (px_v 0) (pxs_cons (px_callTy does_tuple call_tuple_of rfl U.tuple bt_tuple (pxs_cons (px_callB does_sortP (cr_sortT (by decide)) rfl U.sorted bt_sorted (pxs_cons (px_v 3) pxs_nil)) pxs_nil)) pxs_nil))))
    pm_nil))))
theorem sc_L_inverse : FnScope ["_law_row", "_law_back", "_law_node"] ["_law_row"] (defScope (top 82)) := ⟨rfl, rfl, rfl, by decide +kernel, rfl, by decide +kernel, by decide +kernel⟩
def m_L_inverse : M := (mSeq (mSetF 1 (mulF (mapT gLst (cons2 (cI 0) (fun _ => some []))) (mapT gLen (cons2 (gv 0) (fun _ => some [])))))
    (mSeq (mFor (rng1 (cons2 (mapT gLen (cons2 (gv 0) (fun _ => some []))) (fun _ => some []))) (bNm 2) (mSeq (mPut 1 (bin2 gIx (gv 0) (gv 2)) (gv 2))
    mNil))
    (mSeq (mRet (gv 1))
    mNil)))
def g_L_inverse : List D → Option D := runF 1 3 m_L_inverse
theorem d_L_inverse {P : Program} {w : World} {K : PySem.W.Frag} {mg : Str → Option Value} {base : Heap} (U : Un K mg) : Df P w K mg base 4 "_law_inverse" ["_law_row"] g_L_inverse := by
  obtain ⟨f, fd, hm, F⟩ := U.d82
  refine ⟨⟨f, fd, hm, fnF_of (m := m_L_inverse) F sc_L_inverse fun cdv A outer s H E hr => ?_, F.kp, F.bindsN fun _ _ _ _ _ _ us hl => match us, hl with | [_], _ => rfl⟩, fun ds d h => runF_len h⟩
  exact (pm_cons (pm_setF (i := 1) sc_L_inverse.nd rfl (by first | exact .inl rfl | exact .inr rfl) (pf_mul (px_lst (pxs_cons px_int pxs_nil)) (px_callB does_len call_len_seq rfl U.len bt_len (pxs_cons (px_v 0) pxs_nil))))
    (pm_cons (pm_for PassesOwn.never rfl (pix_rng1 rfl U.range (pxs_cons (px_callB does_len call_len_seq rfl U.len bt_len (pxs_cons (px_v 0) pxs_nil)) pxs_nil)) (pb_name sc_L_inverse.nd rfl (by first | exact .inl rfl | exact .inr rfl)) (pm_cons (pm_put (i := 1) rfl (by first | exact .inl rfl | exact .inr (.inl rfl) | exact .inr (.inr rfl)) (px_v 2) (px_ix ix_D does_ix (px_v 0) (px_v 2) (fun _ _ => rfl)))
    pm_nil))
    (pm_cons (pm_ret (px_v 1))
    pm_nil)))
theorem sc_L_fault : FnScope ["_law_rows", "_law_row", "_law_back", "_law_x", "_law_y"] ["_law_rows", "_law_row"] (defScope (top 83)) := ⟨rfl, rfl, rfl, by decide +kernel, rfl, by decide +kernel, by decide +kernel⟩
def m_L_fault : M := (mSeq (mSet 2 (mapT g_L_inverse (cons2 (gv 1) (fun _ => some []))))
    (mSeq (mFor (rng1 (cons2 (mapT gLen (cons2 (gv 0) (fun _ => some []))) (fun _ => some []))) (bNm 3) (mSeq (mFor (rng1 (cons2 (mapT gLen (cons2 (gv 0) (fun _ => some []))) (fun _ => some []))) (bNm 4) (mSeq (mIf (tst (bin2 (gEqB true) (bin2 gIx (bin2 gIx (gv 0) (gv 3)) (gv 4)) (bin2 gIx (bin2 gIx (gv 0) (bin2 gIx (gv 2) (gv 3))) (bin2 gIx (gv 1) (gv 4))))) (mSeq (mRet (mapT gTup (cons2 (gv 3) (cons2 (gv 4) (fun _ => some [])))))
    mNil) mNil)
    mNil))
    mNil))
    (mSeq (mRet cN)
    mNil)))
def g_L_fault : List D → Option D := runF 2 5 m_L_fault
theorem d_L_fault {P : Program} {w : World} {K : PySem.W.Frag} {mg : Str → Option Value} {base : Heap} (U : Un K mg) : Df P w K mg base 6 "_law_fault" ["_law_rows", "_law_row"] g_L_fault := by
  obtain ⟨f, fd, hm, F⟩ := U.d83
  have c_L_inverse := d_L_inverse (P := P) (w := w) (base := base) U
  refine ⟨⟨f, fd, hm, fnF_of (m := m_L_fault) F sc_L_fault fun cdv A outer s H E hr => ?_, F.kp, F.bindsN fun _ _ _ _ _ _ us hl => match us, hl with | [_, _], _ => rfl⟩, fun ds d h => runF_len h⟩
  exact (pm_cons (pm_set (i := 2) sc_L_fault.nd rfl (by first | exact .inl rfl | exact .inr rfl) (px_callD c_L_inverse (hr.mono (by decide)) rfl (pxs_cons (px_v 1) pxs_nil)))
    (pm_cons (pm_for PassesOwn.never rfl (pix_rng1 rfl U.range (pxs_cons (px_callB does_len call_len_seq rfl U.len bt_len (pxs_cons (px_v 0) pxs_nil)) pxs_nil)) (pb_name sc_L_fault.nd rfl (by first | exact .inl rfl | exact .inr rfl)) (pm_cons (pm_for PassesOwn.never rfl (pix_rng1 rfl U.range (pxs_cons (px_callB does_len call_len_seq rfl U.len bt_len (pxs_cons (px_v 0) pxs_nil)) pxs_nil)) (pb_name sc_L_fault.nd rfl (by first | exact .inl rfl | exact .inr rfl)) (pm_cons (pm_if (pxt_cmp (op_neB (hu64 hr)) does_eqB (px_ix ix_D does_ix (px_ix ix_D does_ix (px_v 0) (px_v 3) (fun _ _ => rfl)) (px_v 4) (fun _ _ => rfl)) (px_ix ix_D does_ix (px_ix ix_D does_ix (px_v 0) (px_ix ix_D does_ix (px_v 2) (px_v 3) (fun _ _ => rfl)) (fun _ _ => rfl)) (px_ix ix_D does_ix (px_v 1) (px_v 4) (fun _ _ => rfl)) (fun _ _ => rfl)) (nomark _)) (pm_cons (pm_ret (px_tup (pxs_cons (px_v 3) (pxs_cons (px_v 4) pxs_nil))))
    pm_nil) pm_nil)
    pm_nil))
    pm_nil))
    (pm_cons (pm_ret px_non)
    pm_nil)))
theorem sc_L_twisted : FnScope ["_law_rows", "_law_row", "_law_made", "_law_x", "_law_y", "_law_k"] ["_law_rows", "_law_row"] (defScope (top 84)) := ⟨rfl, rfl, rfl, by decide +kernel, rfl, by decide +kernel, by decide +kernel⟩
def m_L_twisted : M := (mSeq (mSet2 2 [5] (rng1 (cons2 (mapT gLen (cons2 (gv 0) (fun _ => some []))) (fun _ => some []))) (eNm 5) (mulF (mapT gLst (cons2 (cB false) (fun _ => some []))) (mapT gLen (cons2 (gv 0) (fun _ => some [])))))
    (mSeq (mFor (rng1 (cons2 (mapT gLen (cons2 (gv 0) (fun _ => some []))) (fun _ => some []))) (bNm 3) (mSeq (mFor (rng1 (cons2 (mapT gLen (cons2 (gv 0) (fun _ => some []))) (fun _ => some []))) (bNm 4) (mSeq (mIf (truT (bin2 gIx (bin2 gIx (gv 0) (gv 3)) (gv 4))) (mSeq (mPut2 2 (gv 3) (bin2 gIx (gv 1) (gv 4)) (cB true))
    (mSeq (mPut2 2 (bin2 gIx (gv 1) (gv 4)) (gv 3) (cB true))
    mNil)) mNil)
    mNil))
    mNil))
    (mSeq (mRet (mapT g_L_of_matrix (cons2 (gv 2) (fun _ => some []))))
    mNil)))
def g_L_twisted : List D → Option D := runF 2 6 m_L_twisted
theorem d_L_twisted {P : Program} {w : World} {K : PySem.W.Frag} {mg : Str → Option Value} {base : Heap} (U : Un K mg) : Df P w K mg base 6 "_law_twisted" ["_law_rows", "_law_row"] g_L_twisted := by
  obtain ⟨f, fd, hm, F⟩ := U.d84
  have c_L_of_matrix := d_L_of_matrix (P := P) (w := w) (base := base) U
  refine ⟨⟨f, fd, hm, fnF_of (m := m_L_twisted) F sc_L_twisted fun cdv A outer s H E hr => ?_, F.kp, F.bindsN fun _ _ _ _ _ _ us hl => match us, hl with | [_, _], _ => rfl⟩, fun ds d h => runF_len h⟩
  exact (pm_cons (pm_set2 (i := 2) (own := [("_law_k", 5)]) rfl sc_L_twisted.nd rfl rfl rfl (pix_rng1 rfl U.range (pxs_cons (px_callB does_len call_len_seq rfl U.len bt_len (pxs_cons (px_v 0) pxs_nil)) pxs_nil)) (blkOk_by (by rfl)) (by decide) (fun _ _ _ _ _ => (pl_name sc_L_twisted.nd rfl (by first | exact .inl rfl | exact .inr rfl))) (fun _ _ _ _ _ => (pf_mul (px_lst (pxs_cons px_bl pxs_nil)) (px_callB does_len call_len_seq rfl U.len bt_len (pxs_cons (px_v 0) pxs_nil)))))
    (pm_cons (pm_for PassesOwn.never rfl (pix_rng1 rfl U.range (pxs_cons (px_callB does_len call_len_seq rfl U.len bt_len (pxs_cons (px_v 0) pxs_nil)) pxs_nil)) (pb_name sc_L_twisted.nd rfl (by first | exact .inl rfl | exact .inr rfl)) (pm_cons (pm_for PassesOwn.never rfl (pix_rng1 rfl U.range (pxs_cons (px_callB does_len call_len_seq rfl U.len bt_len (pxs_cons (px_v 0) pxs_nil)) pxs_nil)) (pb_name sc_L_twisted.nd rfl (by first | exact .inl rfl | exact .inr rfl)) (pm_cons (pm_if (pxt_val (px_ix ix_D does_ix (px_ix ix_D does_ix (px_v 0) (px_v 3) (fun _ _ => rfl)) (px_v 4) (fun _ _ => rfl)) (fun _ => rfl)) (pm_cons (pm_put2 (i := 2) rfl (by first | exact .inl rfl | exact .inr (.inl rfl) | exact .inr (.inr rfl)) px_bl (px_v 3) (fun _ _ => rfl) (px_ix ix_D does_ix (px_v 1) (px_v 4) (fun _ _ => rfl)))
    (pm_cons (pm_put2 (i := 2) rfl (by first | exact .inl rfl | exact .inr (.inl rfl) | exact .inr (.inr rfl)) px_bl (px_ix ix_D does_ix (px_v 1) (px_v 4) (fun _ _ => rfl)) (fun _ _ => rfl) (px_v 3))
    pm_nil)) pm_nil)
    pm_nil))
    pm_nil))
    (pm_cons (pm_ret (px_callD c_L_of_matrix (hr.mono (by decide)) rfl (pxs_cons (px_v 2) pxs_nil)))
    pm_nil)))
theorem sc_L_drawn_row : FnScope ["_law_script", "_law_place", "_law_size", "_law_skip"] ["_law_script", "_law_place", "_law_size", "_law_skip"] (defScope (top 85)) := ⟨rfl, rfl, rfl, by decide +kernel, rfl, by decide +kernel, by decide +kernel⟩
def m_L_drawn_row : M := (mSeq (mRet (mapT g_L_shuffle (cons2 (cutX (mapT g_L_draws (cons2 (gv 0) (cons2 (gv 1) (cons2 (bin2 gAdd (gv 2) (gv 3)) (cons2 (cI 2520) (fun _ => some [])))))) (partV (gv 3)) (fun _ => some none)) (fun _ => some []))))
    mNil)
def g_L_drawn_row : List D → Option D := runF 4 4 m_L_drawn_row
theorem d_L_drawn_row {P : Program} {w : World} {K : PySem.W.Frag} {mg : Str → Option Value} {base : Heap} (U : Un K mg) : Df P w K mg base 8 "_law_drawn_row" ["_law_script", "_law_place", "_law_size", "_law_skip"] g_L_drawn_row := by
  obtain ⟨f, fd, hm, F⟩ := U.d85
  have c_L_shuffle := d_L_shuffle (P := P) (w := w) (base := base) U
  have c_L_draws := d_L_draws (P := P) (w := w) (base := base) U
  refine ⟨⟨f, fd, hm, fnF_of (m := m_L_drawn_row) F sc_L_drawn_row fun cdv A outer s H E hr => ?_, F.kp, F.bindsN fun _ _ _ _ _ _ us hl => match us, hl with | [_, _, _, _], _ => rfl⟩, fun ds d h => runF_len h⟩
  exact (pm_cons (pm_ret (px_callD c_L_shuffle (hr.mono (by decide)) rfl (pxs_cons (px_slice (px_callD c_L_draws (hr.mono (by decide)) rfl (pxs_cons (px_v 0) (pxs_cons (px_v 1) (pxs_cons (px_op op_addD does_add (px_v 2) (px_v 3)) (pxs_cons px_int pxs_nil))))) (pxo_some (px_v 3)) pxo_none) pxs_nil)))
    pm_nil)
theorem sc_L_least : FnScope ["_law_web_here", "_law_rows", "_law_least_here", "_law_row", "_law_code", "_law_edge", "_law_low", "_law_high"] ["_law_web_here", "_law_rows"] (defScope (top 86)) := ⟨rfl, rfl, rfl, by decide +kernel, rfl, by decide +kernel, by decide +kernel⟩
def m_L_least : M := (mSeq (mSet 2 cN)
    (mSeq (mFor (seqV (gv 1)) (bNm 3) (mSeq (mSet 4 (cI 0))
    (mSeq (mFor (seqV (bin2 gIx (gv 0) (cI 1))) (bNm 5) (mSeq (mSet 6 (mapT gMin (cons2 (bin2 gIx (gv 3) (bin2 gIx (gv 5) (cI 0))) (cons2 (bin2 gIx (gv 3) (bin2 gIx (gv 5) (cI 1))) (fun _ => some [])))))
    (mSeq (mSet 7 (mapT gMax (cons2 (bin2 gIx (gv 3) (bin2 gIx (gv 5) (cI 0))) (cons2 (bin2 gIx (gv 3) (bin2 gIx (gv 5) (cI 1))) (fun _ => some [])))))
    (mSeq (mSet 4 (bin2 gAdd (gv 4) (bin2 gShl (cI 1) (bin2 gAdd (bin2 gFdiv (bin2 gMul (gv 7) (bin2 gAdd (gv 7) (cI 1))) (cI 2)) (gv 6)))))
    mNil))))
    (mSeq (mIf (orT (tst (nonV false (gv 2))) (tst (bin2 gLt (gv 4) (gv 2)))) (mSeq (mSet 2 (gv 4))
    mNil) mNil)
    mNil))))
    (mSeq (mRet (gv 2))
    mNil)))
def g_L_least : List D → Option D := runF 2 8 m_L_least
theorem d_L_least {P : Program} {w : World} {K : PySem.W.Frag} {mg : Str → Option Value} {base : Heap} (U : Un K mg) : Df P w K mg base 4 "_law_least" ["_law_web_here", "_law_rows"] g_L_least := by
  obtain ⟨f, fd, hm, F⟩ := U.d86
  refine ⟨⟨f, fd, hm, fnF_of (m := m_L_least) F sc_L_least fun cdv A outer s H E hr => ?_, F.kp, F.bindsN fun _ _ _ _ _ _ us hl => match us, hl with | [_, _], _ => rfl⟩, fun ds d h => runF_len h⟩
  exact (pm_cons (pm_set (i := 2) sc_L_least.nd rfl (by first | exact .inl rfl | exact .inr rfl) px_non)
    (pm_cons (pm_for PassesOwn.never rfl (pix_seq (px_v 1)) (pb_name sc_L_least.nd rfl (by first | exact .inl rfl | exact .inr rfl)) (pm_cons (pm_set (i := 4) sc_L_least.nd rfl (by first | exact .inl rfl | exact .inr rfl) px_int)
    (pm_cons (pm_for PassesOwn.never rfl (pix_seq (px_ix ix_D does_ix (px_v 0) px_int (fun _ _ => rfl))) (pb_name sc_L_least.nd rfl (by first | exact .inl rfl | exact .inr rfl)) (pm_cons (pm_set (i := 6) sc_L_least.nd rfl (by first | exact .inl rfl | exact .inr rfl) (px_callB does_min (call_min2 rfl) rfl U.min bt_min (pxs_cons (px_ix ix_D does_ix (px_v 3) (px_ix ix_D does_ix (px_v 5) px_int (fun _ _ => rfl)) (fun _ _ => rfl)) (pxs_cons (px_ix ix_D does_ix (px_v 3) (px_ix ix_D does_ix (px_v 5) px_int (fun _ _ => rfl)) (fun _ _ => rfl)) pxs_nil))))
    (pm_cons (pm_set (i := 7) sc_L_least.nd rfl (by first | exact .inl rfl | exact .inr rfl) (px_callB does_max (call_max2 rfl) rfl U.max bt_max (pxs_cons (px_ix ix_D does_ix (px_v 3) (px_ix ix_D does_ix (px_v 5) px_int (fun _ _ => rfl)) (fun _ _ => rfl)) (pxs_cons (px_ix ix_D does_ix (px_v 3) (px_ix ix_D does_ix (px_v 5) px_int (fun _ _ => rfl)) (fun _ _ => rfl)) pxs_nil))))
    (pm_cons (pm_set (i := 4) sc_L_least.nd rfl (by first | exact .inl rfl | exact .inr rfl) (px_op op_addD does_add (px_v 4) (px_op op_shl does_shl px_int (px_op op_addD does_add (px_op op_fdiv does_fdiv (px_op op_mulD does_mul (px_v 7) (px_op op_addD does_add (px_v 7) px_int)) px_int) (px_v 6)))))
    pm_nil))))
    (pm_cons (pm_if (pxt_w (pxw_or (pxt_isN (px_v 2)) (pxw_or1 (pxt_cmp op_lt does_lt (px_v 4) (px_v 2) (nomark _))))) (pm_cons (pm_set (i := 2) sc_L_least.nd rfl (by first | exact .inl rfl | exact .inr rfl) (px_v 4))
    pm_nil) pm_nil)
    pm_nil))))
    (pm_cons (pm_ret (px_v 2))
    pm_nil)))
theorem sc_L_of_code : FnScope ["_law_size", "_law_code", "_law_edges", "_law_u", "_law_v"] ["_law_size", "_law_code"] (defScope (top 87)) := ⟨rfl, rfl, rfl, by decide +kernel, rfl, by decide +kernel, by decide +kernel⟩
def m_L_of_code : M := (mSeq (mSetF 2 (shortF (fun _ => some [])))
    (mSeq (mFor (rng1 (cons2 (gv 0) (fun _ => some []))) (bNm 3) (mSeq (mFor (rng2 (cons2 (gv 3) (cons2 (gv 0) (fun _ => some [])))) (bNm 4) (mSeq (mIf (tst (bin2 (gEqB false) (bin2 gOdd (bin2 gShr (gv 1) (bin2 gAdd (bin2 gFdiv (bin2 gMul (gv 4) (bin2 gAdd (gv 4) (cI 1))) (cI 2)) (gv 3))) (cI 1)) (cI 1))) (mSeq (mApp 2 (mapT gTup (cons2 (gv 3) (cons2 (gv 4) (fun _ => some [])))))
    mNil) mNil)
    mNil))
    mNil))
    (mSeq (mRet (mapT gTup (cons2 (gv 0) (cons2 (mapT gTuple (cons2 (gv 2) (fun _ => some []))) (fun _ => some [])))))
    mNil)))
def g_L_of_code : List D → Option D := runF 2 5 m_L_of_code
theorem d_L_of_code {P : Program} {w : World} {K : PySem.W.Frag} {mg : Str → Option Value} {base : Heap} (U : Un K mg) : Df P w K mg base 4 "_law_of_code" ["_law_size", "_law_code"] g_L_of_code := by
  obtain ⟨f, fd, hm, F⟩ := U.d87
  refine ⟨⟨f, fd, hm, fnF_of (m := m_L_of_code) F sc_L_of_code fun cdv A outer s H E hr => ?_, F.kp, F.bindsN fun _ _ _ _ _ _ us hl => match us, hl with | [_, _], _ => rfl⟩, fun ds d h => runF_len h⟩
  exact (pm_cons (pm_setF (i := 2) sc_L_of_code.nd rfl (by first | exact .inl rfl | exact .inr rfl) (pf_lst pxs_nil))
    (pm_cons (pm_for PassesOwn.never rfl (pix_rng1 rfl U.range (pxs_cons (px_v 0) pxs_nil)) (pb_name sc_L_of_code.nd rfl (by first | exact .inl rfl | exact .inr rfl)) (pm_cons (pm_for PassesOwn.never rfl (pix_rng2 rfl U.range (pxs_cons (px_v 3) (pxs_cons (px_v 0) pxs_nil))) (pb_name sc_L_of_code.nd rfl (by first | exact .inl rfl | exact .inr rfl)) (pm_cons (pm_if (pxt_cmp (op_eqB (hu64 hr)) does_eqB (px_op op_odd does_odd (px_op op_shr does_shr (px_v 1) (px_op op_addD does_add (px_op op_fdiv does_fdiv (px_op op_mulD does_mul (px_v 4) (px_op op_addD does_add (px_v 4) px_int)) px_int) (px_v 3))) px_int) px_int (nomark _)) (pm_cons (pm_app (i := 2) rfl (by first | exact .inl rfl | exact .inr (.inl rfl) | exact .inr (.inr rfl)) (px_tup (pxs_cons (px_v 3) (pxs_cons (px_v 4) pxs_nil))))
    pm_nil) pm_nil)
    pm_nil))
    pm_nil))
    (pm_cons (pm_ret (px_tup (pxs_cons (px_v 0) (pxs_cons (px_callTy does_tuple call_tuple_of rfl U.tuple bt_tuple (pxs_cons (px_v 2) pxs_nil)) pxs_nil))))
    pm_nil)))
end Wl
set_option maxRecDepth 100000
set_option maxHeartbeats 4000000
/-! Wp6 -/
namespace Wl
open PySem L2 PyProof.Rows Wd Wg
theorem sc_L_sorts_of : FnScope ["_law_size", "_law_made", "_law_rows", "_law_codes", "_law_web_here", "_law_code"] ["_law_size", "_law_made", "_law_rows"] (defScope (top 88)) := ⟨rfl, rfl, rfl, by decide +kernel, rfl, by decide +kernel, by decide +kernel⟩
def m_L_sorts_of : M := (mSeq (mSetF 3 (shortF (fun _ => some [])))
    (mSeq (mFor (seqV (gv 1)) (bNm 4) (mSeq (mSet 5 (mapT g_L_least (cons2 (gv 4) (cons2 (gv 2) (fun _ => some [])))))
    (mSeq (mIf (borT (tst (bin2 (gInB true) (gv 5) (gv 3)))) (mSeq (mApp 3 (gv 5))
    mNil) mNil)
    mNil)))
    (mSeq (mRet (lstV (lcV [5] (seqV (mapT gSortI (cons2 (gv 3) (fun _ => some [])))) (eNm 5) yesT (mapT g_L_of_code (cons2 (gv 0) (cons2 (gv 5) (fun _ => some [])))))))
    mNil)))
def g_L_sorts_of : List D → Option D := runF 3 6 m_L_sorts_of
theorem d_L_sorts_of {P : Program} {w : World} {K : PySem.W.Frag} {mg : Str → Option Value} {base : Heap} (U : Un K mg) : Df P w K mg base 6 "_law_sorts_of" ["_law_size", "_law_made", "_law_rows"] g_L_sorts_of := by
  obtain ⟨f, fd, hm, F⟩ := U.d88
  have c_L_least := d_L_least (P := P) (w := w) (base := base) U
  have c_L_of_code := d_L_of_code (P := P) (w := w) (base := base) U
  refine ⟨⟨f, fd, hm, fnF_of (m := m_L_sorts_of) F sc_L_sorts_of fun cdv A outer s H E hr => ?_, F.kp, F.bindsN fun _ _ _ _ _ _ us hl => match us, hl with | [_, _, _], _ => rfl⟩, fun ds d h => runF_len h⟩
  exact (pm_cons (pm_setF (i := 3) sc_L_sorts_of.nd rfl (by first | exact .inl rfl | exact .inr rfl) (pf_lst pxs_nil))
    (pm_cons (pm_for PassesOwn.never rfl (pix_seq (px_v 1)) (pb_name sc_L_sorts_of.nd rfl (by first | exact .inl rfl | exact .inr rfl)) (pm_cons (pm_set (i := 5) sc_L_sorts_of.nd rfl (by first | exact .inl rfl | exact .inr rfl) (px_callD c_L_least (hr.mono (by decide)) rfl (pxs_cons (px_v 4) (pxs_cons (px_v 2) pxs_nil))))
    (pm_cons (pm_if (pxt_bor (pxt_cmp (op_niB (hu65 hr)) does_inB (px_v 5) (px_v 3) (by rfl))) (pm_cons (pm_app (i := 3) rfl (by first | exact .inl rfl | exact .inr (.inl rfl) | exact .inr (.inr rfl)) (px_v 5))
    pm_nil) pm_nil)
    pm_nil)))
    (pm_cons (pm_ret (px_lc (own := [("_law_code", 5)]) rfl sc_L_sorts_of.nd (pix_seq (px_callB does_sortI cr_sortedI rfl U.sorted bt_sorted (pxs_cons (px_v 3) pxs_nil))) (blkOk_by (by rfl)) (by decide) (fun _ _ _ _ _ => (pl_name sc_L_sorts_of.nd rfl (by first | exact .inl rfl | exact .inr rfl))) (fun _ _ _ _ _ => plt_nil) (fun _ _ _ _ _ => (px_callD c_L_of_code (hr.mono (by decide)) rfl (pxs_cons (px_v 0) (pxs_cons (px_v 5) pxs_nil))))))
    pm_nil)))
theorem sc_L_all_sorts : FnScope ["_law_size", "_law_rows", "_law_webs", "_law_code"] ["_law_size", "_law_rows"] (defScope (top 89)) := ⟨rfl, rfl, rfl, by decide +kernel, rfl, by decide +kernel, by decide +kernel⟩
def m_L_all_sorts : M := (mSeq (mSet 2 (lstV (lcV [3] (rng1 (cons2 (bin2 gShl (cI 1) (bin2 gFdiv (bin2 gMul (gv 0) (bin2 gAdd (gv 0) (cI 1))) (cI 2))) (fun _ => some []))) (eNm 3) yesT (mapT g_L_of_code (cons2 (gv 0) (cons2 (gv 3) (fun _ => some [])))))))
    (mSeq (mRet (mapT g_L_sorts_of (cons2 (gv 0) (cons2 (gv 2) (cons2 (gv 1) (fun _ => some []))))))
    mNil))
def g_L_all_sorts : List D → Option D := runF 2 4 m_L_all_sorts
theorem d_L_all_sorts {P : Program} {w : World} {K : PySem.W.Frag} {mg : Str → Option Value} {base : Heap} (U : Un K mg) : Df P w K mg base 8 "_law_all_sorts" ["_law_size", "_law_rows"] g_L_all_sorts := by
  obtain ⟨f, fd, hm, F⟩ := U.d89
  have c_L_sorts_of := d_L_sorts_of (P := P) (w := w) (base := base) U
  have c_L_of_code := d_L_of_code (P := P) (w := w) (base := base) U
  refine ⟨⟨f, fd, hm, fnF_of (m := m_L_all_sorts) F sc_L_all_sorts fun cdv A outer s H E hr => ?_, F.kp, F.bindsN fun _ _ _ _ _ _ us hl => match us, hl with | [_, _], _ => rfl⟩, fun ds d h => runF_len h⟩
  exact (pm_cons (pm_setLc (i := 2) (own := [("_law_code", 3)]) rfl sc_L_all_sorts.nd rfl rfl rfl (pix_rng1 rfl U.range (pxs_cons (px_op op_shl does_shl px_int (px_op op_fdiv does_fdiv (px_op op_mulD does_mul (px_v 0) (px_op op_addD does_add (px_v 0) px_int)) px_int)) pxs_nil)) (blkOk_by (by rfl)) (by decide) (fun _ _ _ _ _ => (pl_name sc_L_all_sorts.nd rfl (by first | exact .inl rfl | exact .inr rfl))) (fun _ _ _ _ _ => plt_nil) (fun _ _ _ _ _ => (px_callD c_L_of_code (hr.mono (by decide)) rfl (pxs_cons (px_v 0) (pxs_cons (px_v 3) pxs_nil)))))
    (pm_cons (pm_ret (px_callD c_L_sorts_of (hr.mono (by decide)) rfl (pxs_cons (px_v 0) (pxs_cons (px_v 2) (pxs_cons (px_v 1) pxs_nil)))))
    pm_nil))
theorem sc_L_twisted_webs : FnScope ["_law_web_here", "_law_rows", "_law_near", "_law_made", "_law_row", "_law_other"] ["_law_web_here", "_law_rows"] (defScope (top 90)) := ⟨rfl, rfl, rfl, by decide +kernel, rfl, by decide +kernel, by decide +kernel⟩
def m_L_twisted_webs : M := (mSeq (mSet 2 (mapT g_L_matrix (cons2 (gv 0) (fun _ => some []))))
    (mSeq (mSetF 3 (shortF (fun _ => some [])))
    (mSeq (mFor (seqV (gv 1)) (bNm 4) (mSeq (mIf (tst (nonV false (mapT g_L_fault (cons2 (gv 2) (cons2 (gv 4) (fun _ => some [])))))) (mSeq (mSet 5 (mapT g_L_twisted (cons2 (gv 2) (cons2 (gv 4) (fun _ => some [])))))
    (mSeq (mIf (borT (tst (bin2 (gInB true) (gv 5) (gv 3)))) (mSeq (mApp 3 (gv 5))
    mNil) mNil)
    mNil)) mNil)
    mNil))
    (mSeq (mRet (gv 3))
    mNil))))
def g_L_twisted_webs : List D → Option D := runF 2 6 m_L_twisted_webs
theorem d_L_twisted_webs {P : Program} {w : World} {K : PySem.W.Frag} {mg : Str → Option Value} {base : Heap} (U : Un K mg) : Df P w K mg base 8 "_law_twisted_webs" ["_law_web_here", "_law_rows"] g_L_twisted_webs := by
  obtain ⟨f, fd, hm, F⟩ := U.d90
  have c_L_matrix := d_L_matrix (P := P) (w := w) (base := base) U
  have c_L_fault := d_L_fault (P := P) (w := w) (base := base) U
  have c_L_twisted := d_L_twisted (P := P) (w := w) (base := base) U
  refine ⟨⟨f, fd, hm, fnF_of (m := m_L_twisted_webs) F sc_L_twisted_webs fun cdv A outer s H E hr => ?_, F.kp, F.bindsN fun _ _ _ _ _ _ us hl => match us, hl with | [_, _], _ => rfl⟩, fun ds d h => runF_len h⟩
  exact (pm_cons (pm_set (i := 2) sc_L_twisted_webs.nd rfl (by first | exact .inl rfl | exact .inr rfl) (px_callD c_L_matrix (hr.mono (by decide)) rfl (pxs_cons (px_v 0) pxs_nil)))
    (pm_cons (pm_setF (i := 3) sc_L_twisted_webs.nd rfl (by first | exact .inl rfl | exact .inr rfl) (pf_lst pxs_nil))
    (pm_cons (pm_for PassesOwn.never rfl (pix_seq (px_v 1)) (pb_name sc_L_twisted_webs.nd rfl (by first | exact .inl rfl | exact .inr rfl)) (pm_cons (pm_if (pxt_isN (px_callD c_L_fault (hr.mono (by decide)) rfl (pxs_cons (px_v 2) (pxs_cons (px_v 4) pxs_nil)))) (pm_cons (pm_set (i := 5) sc_L_twisted_webs.nd rfl (by first | exact .inl rfl | exact .inr rfl) (px_callD c_L_twisted (hr.mono (by decide)) rfl (pxs_cons (px_v 2) (pxs_cons (px_v 4) pxs_nil))))
    (pm_cons (pm_if (pxt_bor (pxt_cmp (op_niB (hu65 hr)) does_inB (px_v 5) (px_v 3) (by rfl))) (pm_cons (pm_app (i := 3) rfl (by first | exact .inl rfl | exact .inr (.inl rfl) | exact .inr (.inr rfl)) (px_v 5))
    pm_nil) pm_nil)
    pm_nil)) pm_nil)
    pm_nil))
    (pm_cons (pm_ret (px_v 3))
    pm_nil))))
theorem sc_L_sides : FnScope ["_law_rows", "_law_side", "_law_origin", "_law_queue", "_law_turn", "_law_other"] ["_law_rows"] (defScope (top 91)) := ⟨rfl, rfl, rfl, by decide +kernel, rfl, by decide +kernel, by decide +kernel⟩
def m_L_sides : M := (mSeq (mSetF 1 (mulF (mapT gLst (cons2 cN (fun _ => some []))) (mapT gLen (cons2 (gv 0) (fun _ => some [])))))
    (mSeq (mFor (rng1 (cons2 (mapT gLen (cons2 (gv 0) (fun _ => some []))) (fun _ => some []))) (bNm 2) (mSeq (mIf (tst (nonV false (bor (bin2 gIx (gv 1) (gv 2))))) (mSeq (mPut 1 (gv 2) (cI 0))
    (mSeq (mSetF 3 (shortF (cons2 (gv 2) (fun _ => some []))))
    (mSeq (mFor (rng1 (cons2 (mapT gLen (cons2 (gv 0) (fun _ => some []))) (fun _ => some []))) (bNm 4) (mSeq (mIf (tst (bin2 gLt (gv 4) (bor (mapT gLen (cons2 (gv 3) (fun _ => some [])))))) (mSeq (mFor (rng1 (cons2 (mapT gLen (cons2 (gv 0) (fun _ => some []))) (fun _ => some []))) (bNm 5) (mSeq (mIf (truT (bin2 gIx (bin2 gIx (gv 0) (bor (bin2 gIx (gv 3) (gv 4)))) (gv 5))) (mSeq (mIf (tst (nonV false (bor (bin2 gIx (gv 1) (gv 5))))) (mSeq (mPut 1 (gv 5) (bin2 gSub (cI 1) (bor (bin2 gIx (gv 1) (bor (bin2 gIx (gv 3) (gv 4)))))))
    (mSeq (mApp 3 (gv 5))
    mNil)) (mSeq (mIf (tst (bin2 (gEqB false) (bor (bin2 gIx (gv 1) (gv 5))) (bor (bin2 gIx (gv 1) (bor (bin2 gIx (gv 3) (gv 4))))))) (mSeq (mRet cN)
    mNil) mNil)
    mNil))
    mNil) mNil)
    mNil))
    mNil) mNil)
    mNil))
    mNil))) mNil)
    mNil))
    (mSeq (mRet (gv 1))
    mNil)))
def g_L_sides : List D → Option D := runF 1 6 m_L_sides
theorem d_L_sides {P : Program} {w : World} {K : PySem.W.Frag} {mg : Str → Option Value} {base : Heap} (U : Un K mg) : Df P w K mg base 4 "_law_sides" ["_law_rows"] g_L_sides := by
  obtain ⟨f, fd, hm, F⟩ := U.d91
  refine ⟨⟨f, fd, hm, fnF_of (m := m_L_sides) F sc_L_sides fun cdv A outer s H E hr => ?_, F.kp, F.bindsN fun _ _ _ _ _ _ us hl => match us, hl with | [_], _ => rfl⟩, fun ds d h => runF_len h⟩
  exact (pm_cons (pm_setF (i := 1) sc_L_sides.nd rfl (by first | exact .inl rfl | exact .inr rfl) (pf_mul (px_lst (pxs_cons px_non pxs_nil)) (px_callB does_len call_len_seq rfl U.len bt_len (pxs_cons (px_v 0) pxs_nil))))
    (pm_cons (pm_for PassesOwn.never rfl (pix_rng1 rfl U.range (pxs_cons (px_callB does_len call_len_seq rfl U.len bt_len (pxs_cons (px_v 0) pxs_nil)) pxs_nil)) (pb_name sc_L_sides.nd rfl (by first | exact .inl rfl | exact .inr rfl)) (pm_cons (pm_if (pxt_isN (px_bor (px_ix ix_D does_ix (px_v 1) (px_v 2) (fun _ _ => rfl)))) (pm_cons (pm_put (i := 1) rfl (by first | exact .inl rfl | exact .inr (.inl rfl) | exact .inr (.inr rfl)) px_int (px_v 2))
    (pm_cons (pm_setF (i := 3) sc_L_sides.nd rfl (by first | exact .inl rfl | exact .inr rfl) (pf_lst (pxs_cons (px_v 2) pxs_nil)))
    (pm_cons (pm_for PassesOwn.never rfl (pix_rng1 rfl U.range (pxs_cons (px_callB does_len call_len_seq rfl U.len bt_len (pxs_cons (px_v 0) pxs_nil)) pxs_nil)) (pb_name sc_L_sides.nd rfl (by first | exact .inl rfl | exact .inr rfl)) (pm_cons (pm_if (pxt_cmp op_lt does_lt (px_v 4) (px_bor (px_callB does_len call_len_seq rfl U.len bt_len (pxs_cons (px_v 3) pxs_nil))) (nomark _)) (pm_cons (pm_for PassesOwn.never rfl (pix_rng1 rfl U.range (pxs_cons (px_callB does_len call_len_seq rfl U.len bt_len (pxs_cons (px_v 0) pxs_nil)) pxs_nil)) (pb_name sc_L_sides.nd rfl (by first | exact .inl rfl | exact .inr rfl)) (pm_cons (pm_if (pxt_val (px_ix ix_D does_ix (px_ix ix_D does_ix (px_v 0) (px_bor (px_ix ix_D does_ix (px_v 3) (px_v 4) (fun _ _ => rfl))) (fun _ _ => rfl)) (px_v 5) (fun _ _ => rfl)) (fun _ => rfl)) (pm_cons (pm_if (pxt_isN (px_bor (px_ix ix_D does_ix (px_v 1) (px_v 5) (fun _ _ => rfl)))) (pm_cons (pm_put (i := 1) rfl (by first | exact .inl rfl | exact .inr (.inl rfl) | exact .inr (.inr rfl)) (px_op op_sub does_sub px_int (px_bor (px_ix ix_D does_ix (px_v 1) (px_bor (px_ix ix_D does_ix (px_v 3) (px_v 4) (fun _ _ => rfl))) (fun _ _ => rfl)))) (px_v 5))
    (pm_cons (pm_app (i := 3) rfl (by first | exact .inl rfl | exact .inr (.inl rfl) | exact .inr (.inr rfl)) (px_v 5))
    pm_nil)) (pm_cons (pm_if (pxt_cmp (op_eqB (hu64 hr)) does_eqB (px_bor (px_ix ix_D does_ix (px_v 1) (px_v 5) (fun _ _ => rfl))) (px_bor (px_ix ix_D does_ix (px_v 1) (px_bor (px_ix ix_D does_ix (px_v 3) (px_v 4) (fun _ _ => rfl))) (fun _ _ => rfl))) (nomark _)) (pm_cons (pm_ret px_non)
    pm_nil) pm_nil)
    pm_nil))
    pm_nil) pm_nil)
    pm_nil))
    pm_nil) pm_nil)
    pm_nil))
    pm_nil))) pm_nil)
    pm_nil))
    (pm_cons (pm_ret (px_v 1))
    pm_nil)))
theorem sc_L_ties : FnScope ["_law_web_here", "_law_edge"] ["_law_web_here"] (defScope (top 92)) := ⟨rfl, rfl, rfl, by decide +kernel, rfl, by decide +kernel, by decide +kernel⟩
def m_L_ties : M := (mSeq (mRet (bin2 gSub (bin2 gMul (cI 2) (mapT gLen (cons2 (bin2 gIx (gv 0) (cI 1)) (fun _ => some [])))) (mapT gLen (cons2 (lstV (lcV [1] (seqV (bin2 gIx (gv 0) (cI 1))) (eNm 1) (tst (bin2 (gEqB false) (bin2 gIx (gv 1) (cI 0)) (bin2 gIx (gv 1) (cI 1)))) (gv 1))) (fun _ => some [])))))
    mNil)
def g_L_ties : List D → Option D := runF 1 2 m_L_ties
theorem d_L_ties {P : Program} {w : World} {K : PySem.W.Frag} {mg : Str → Option Value} {base : Heap} (U : Un K mg) : Df P w K mg base 4 "_law_ties" ["_law_web_here"] g_L_ties := by
  obtain ⟨f, fd, hm, F⟩ := U.d92
  refine ⟨⟨f, fd, hm, fnF_of (m := m_L_ties) F sc_L_ties fun cdv A outer s H E hr => ?_, F.kp, F.bindsN fun _ _ _ _ _ _ us hl => match us, hl with | [_], _ => rfl⟩, fun ds d h => runF_len h⟩
  exact (pm_cons (pm_ret (px_op op_sub does_sub (px_op op_mulD does_mul px_int (px_callB does_len call_len_seq rfl U.len bt_len (pxs_cons (px_ix ix_D does_ix (px_v 0) px_int (fun _ _ => rfl)) pxs_nil))) (px_callB does_len call_len_seq rfl U.len bt_len (pxs_cons (px_lc (own := [("_law_edge", 1)]) rfl sc_L_ties.nd (pix_seq (px_ix ix_D does_ix (px_v 0) px_int (fun _ _ => rfl))) (blkOk_by (by rfl)) (by decide) (fun _ _ _ _ _ => (pl_name sc_L_ties.nd rfl (by first | exact .inl rfl | exact .inr rfl))) (fun _ _ _ _ _ => (plt_one (pxt_cmp (op_eqB (hu64 hr)) does_eqB (px_ix ix_D does_ix (px_v 1) px_int (fun _ _ => rfl)) (px_ix ix_D does_ix (px_v 1) px_int (fun _ _ => rfl)) (nomark _)))) (fun _ _ _ _ _ => (px_v 1))) pxs_nil))))
    pm_nil)
theorem sc_L_fits : FnScope ["_law_b", "_law_c", "_law_whole"] ["_law_b", "_law_c", "_law_whole"] (defScope (top 93)) := ⟨rfl, rfl, rfl, by decide +kernel, rfl, by decide +kernel, by decide +kernel⟩
def m_L_fits : M := (mSeq (mIf (orT (tst (bin2 (gEqB true) (bin2 gMul (bin2 gIx (gv 0) (cI 0)) (bin2 gIx (gv 1) (cI 0))) (bin2 gIx (gv 2) (cI 0)))) (tst (bin2 (gEqB true) (bin2 gMul (mapT g_L_ties (cons2 (gv 0) (fun _ => some []))) (mapT g_L_ties (cons2 (gv 1) (fun _ => some [])))) (mapT g_L_ties (cons2 (gv 2) (fun _ => some [])))))) (mSeq (mRet (cB false))
    mNil) mNil)
    (mSeq (mRet (mapT g_L_alike (cons2 (mapT g_L_product (cons2 (cS "direct") (cons2 (gv 0) (cons2 (gv 1) (fun _ => some []))))) (cons2 (gv 2) (fun _ => some [])))))
    mNil))
def g_L_fits : List D → Option D := runF 3 3 m_L_fits
theorem d_L_fits {P : Program} {w : World} {K : PySem.W.Frag} {mg : Str → Option Value} {base : Heap} (U : Un K mg) : Df P w K mg base 21 "_law_fits" ["_law_b", "_law_c", "_law_whole"] g_L_fits := by
  obtain ⟨f, fd, hm, F⟩ := U.d93
  have c_L_alike := d_L_alike (P := P) (w := w) (base := base) U
  have c_L_product := d_L_product (P := P) (w := w) (base := base) U
  have c_L_ties := d_L_ties (P := P) (w := w) (base := base) U
  refine ⟨⟨f, fd, hm, fnF_of (m := m_L_fits) F sc_L_fits fun cdv A outer s H E hr => ?_, F.kp, F.bindsN fun _ _ _ _ _ _ us hl => match us, hl with | [_, _, _], _ => rfl⟩, fun ds d h => runF_len h⟩
  exact (pm_cons (pm_if (pxt_w (pxw_or (pxt_cmp (op_neB (hu64 hr)) does_eqB (px_op op_mulD does_mul (px_ix ix_D does_ix (px_v 0) px_int (fun _ _ => rfl)) (px_ix ix_D does_ix (px_v 1) px_int (fun _ _ => rfl))) (px_ix ix_D does_ix (px_v 2) px_int (fun _ _ => rfl)) (nomark _)) (pxw_or1 (pxt_cmp (op_neB (hu64 hr)) does_eqB (px_op op_mulD does_mul (px_callD c_L_ties (hr.mono (by decide)) rfl (pxs_cons (px_v 0) pxs_nil)) (px_callD c_L_ties (hr.mono (by decide)) rfl (pxs_cons (px_v 1) pxs_nil))) (px_callD c_L_ties (hr.mono (by decide)) rfl (pxs_cons (px_v 2) pxs_nil)) (nomark _))))) (pm_cons (pm_ret px_bl)
    pm_nil) pm_nil)
    (pm_cons (pm_ret (px_callD c_L_alike (hr.mono (by decide)) rfl (pxs_cons (px_callD c_L_product (hr.mono (by decide)) rfl (pxs_cons px_str (pxs_cons (px_v 0) (pxs_cons (px_v 1) pxs_nil)))) (pxs_cons (px_v 2) pxs_nil))))
    pm_nil))
theorem sc_L_second : FnScope ["_law_script", "_law_cell_here", "_law_size", "_law_way"] ["_law_script"] (defScope (top 95)) := ⟨rfl, rfl, rfl, by decide +kernel, rfl, by decide +kernel, by decide +kernel⟩
def m_L_second : M := (mSeq (mSet 1 (mapT g_L_cell (cons2 (gv 0) (cons2 (cI 2) (fun _ => some [])))))
    (mSeq (mSet 2 (bin2 gIx (mapT gLst (cons2 (cI 3) (cons2 (cI 2) (cons2 (cI 3) (cons2 (cI 2) (cons2 (cI 1) (cons2 (cI 3) (cons2 (cI 2) (cons2 (cI 0) (fun _ => some [])))))))))) (bin2 gMod (mapT gInt (cons2 (gv 1) (fun _ => some []))) (cI 8))))
    (mSeq (mSet 3 (bin2 gMod (mapT gInt (cons2 (bin2 gFdiv (gv 1) (cI 8)) (fun _ => some []))) (cI 4)))
    (mSeq (mIf (tst (bin2 (gEqB false) (gv 3) (cI 0))) (mSeq (mRet (mapT g_L_two_sided (cons2 (gv 2) (cons2 (mapT g_L_draws (cons2 (gv 0) (cons2 (cI 3) (cons2 (gv 2) (cons2 (cI 2) (fun _ => some [])))))) (cons2 (mapT g_L_draws (cons2 (gv 0) (cons2 (cI 4) (cons2 (cI 3) (cons2 (cI 2) (fun _ => some [])))))) (fun _ => some []))))))
    mNil) mNil)
    (mSeq (mIf (andT (tst (bin2 (gEqB false) (gv 3) (cI 1))) (tst (bin2 (gEqB false) (bin2 gMod (mapT gInt (cons2 (bin2 gFdiv (gv 1) (cI 32)) (fun _ => some []))) (cI 2)) (cI 0)))) (mSeq (mRet (mapT gTup (cons2 (gv 2) (cons2 (mapT gTup (fun _ => some [])) (fun _ => some [])))))
    mNil) mNil)
    (mSeq (mRet (mapT g_L_web (cons2 (gv 2) (cons2 (mapT g_L_draws (cons2 (gv 0) (cons2 (cI 4) (cons2 (cI 6) (cons2 (cI 2) (fun _ => some [])))))) (cons2 (bin2 (gEqB false) (bin2 gMod (mapT gInt (cons2 (bin2 gFdiv (gv 1) (cI 64)) (fun _ => some []))) (cI 2)) (cI 0)) (fun _ => some []))))))
    mNil))))))
def g_L_second : List D → Option D := runF 1 4 m_L_second
theorem d_L_second {P : Program} {w : World} {K : PySem.W.Frag} {mg : Str → Option Value} {base : Heap} (U : Un K mg) : Df P w K mg base 8 "_law_second" ["_law_script"] g_L_second := by
  obtain ⟨f, fd, hm, F⟩ := U.d95
  have c_L_cell := d_L_cell (P := P) (w := w) (base := base) U
  have c_L_web := d_L_web (P := P) (w := w) (base := base) U
  have c_L_two_sided := d_L_two_sided (P := P) (w := w) (base := base) U
  have c_L_draws := d_L_draws (P := P) (w := w) (base := base) U
  refine ⟨⟨f, fd, hm, fnF_of (m := m_L_second) F sc_L_second fun cdv A outer s H E hr => ?_, F.kp, F.bindsN fun _ _ _ _ _ _ us hl => match us, hl with | [_], _ => rfl⟩, fun ds d h => runF_len h⟩
  exact (pm_cons (pm_set (i := 1) sc_L_second.nd rfl (by first | exact .inl rfl | exact .inr rfl) (px_callD c_L_cell (hr.mono (by decide)) rfl (pxs_cons (px_v 0) (pxs_cons px_int pxs_nil))))
    (pm_cons (pm_set (i := 2) sc_L_second.nd rfl (by first | exact .inl rfl | exact .inr rfl) (px_ix ix_D does_ix (px_lst (pxs_cons px_int (pxs_cons px_int (pxs_cons px_int (pxs_cons px_int (pxs_cons px_int (pxs_cons px_int (pxs_cons px_int (pxs_cons px_int pxs_nil))))))))) (px_op op_mod does_mod (px_callTy does_int call_int1 rfl U.int bt_int (pxs_cons (px_v 1) pxs_nil)) px_int) (fun _ _ => rfl)))
    (pm_cons (pm_set (i := 3) sc_L_second.nd rfl (by first | exact .inl rfl | exact .inr rfl) (px_op op_mod does_mod (px_callTy does_int call_int1 rfl U.int bt_int (pxs_cons (px_op op_fdiv does_fdiv (px_v 1) px_int) pxs_nil)) px_int))
    (pm_cons (pm_if (pxt_cmp (op_eqB (hu64 hr)) does_eqB (px_v 3) px_int (nomark _)) (pm_cons (pm_ret (px_callD c_L_two_sided (hr.mono (by decide)) rfl (pxs_cons (px_v 2) (pxs_cons (px_callD c_L_draws (hr.mono (by decide)) rfl (pxs_cons (px_v 0) (pxs_cons px_int (pxs_cons (px_v 2) (pxs_cons px_int pxs_nil))))) (pxs_cons (px_callD c_L_draws (hr.mono (by decide)) rfl (pxs_cons (px_v 0) (pxs_cons px_int (pxs_cons px_int (pxs_cons px_int pxs_nil))))) pxs_nil)))))
    pm_nil) pm_nil)
    (pm_cons (pm_if (pxt_w (pxw_and (pxt_cmp (op_eqB (hu64 hr)) does_eqB (px_v 3) px_int (nomark _)) (pxw_and1 (pxt_cmp (op_eqB (hu64 hr)) does_eqB (px_op op_mod does_mod (px_callTy does_int call_int1 rfl U.int bt_int (pxs_cons (px_op op_fdiv does_fdiv (px_v 1) px_int) pxs_nil)) px_int) px_int (nomark _))))) (pm_cons (pm_ret (px_tup (pxs_cons (px_v 2) (pxs_cons (px_tup pxs_nil) pxs_nil))))
    pm_nil) pm_nil)
    (pm_cons (pm_ret (px_callD c_L_web (hr.mono (by decide)) rfl (pxs_cons (px_v 2) (pxs_cons (px_callD c_L_draws (hr.mono (by decide)) rfl (pxs_cons (px_v 0) (pxs_cons px_int (pxs_cons px_int (pxs_cons px_int pxs_nil))))) (pxs_cons (px_cmp (op_eqB (hu64 hr)) does_eqB (px_op op_mod does_mod (px_callTy does_int call_int1 rfl U.int bt_int (pxs_cons (px_op op_fdiv does_fdiv (px_v 1) px_int) pxs_nil)) px_int) px_int (nomark _)) pxs_nil)))))
    pm_nil))))))
theorem sc_L_third : FnScope ["_law_script", "_law_a", "_law_rows", "_law_cell_here", "_law_size", "_law_way", "_law_made"] ["_law_script", "_law_a", "_law_rows"] (defScope (top 96)) := ⟨rfl, rfl, rfl, by decide +kernel, rfl, by decide +kernel, by decide +kernel⟩
def m_L_third : M := (mSeq (mSet 3 (mapT g_L_cell (cons2 (gv 0) (cons2 (cI 5) (fun _ => some [])))))
    (mSeq (mSet 4 (bin2 gIx (gv 1) (cI 0)))
    (mSeq (mSet 5 (bin2 gMod (mapT gInt (cons2 (gv 3) (fun _ => some []))) (cI 4)))
    (mSeq (mIf (tst (bin2 (gEqB false) (gv 5) (cI 0))) (mSeq (mSet 6 (mapT g_L_twisted_webs (cons2 (gv 1) (cons2 (gv 2) (fun _ => some [])))))
    (mSeq (mRet (mapT g_L_renamed (cons2 (bin2 gIx (gv 6) (bin2 gMod (mapT gInt (cons2 (bin2 gFdiv (gv 3) (cI 4)) (fun _ => some []))) (mapT gLen (cons2 (gv 6) (fun _ => some []))))) (cons2 (mapT g_L_drawn_row (cons2 (gv 0) (cons2 (cI 6) (cons2 (gv 4) (cons2 (cI 1) (fun _ => some [])))))) (fun _ => some [])))))
    mNil)) mNil)
    (mSeq (mIf (tst (bin2 (gEqB false) (gv 5) (cI 1))) (mSeq (mRet (mapT g_L_renamed (cons2 (gv 1) (cons2 (mapT g_L_drawn_row (cons2 (gv 0) (cons2 (cI 6) (cons2 (gv 4) (cons2 (cI 1) (fun _ => some [])))))) (fun _ => some [])))))
    mNil) mNil)
    (mSeq (mIf (tst (bin2 (gEqB false) (gv 5) (cI 2))) (mSeq (mRet (mapT g_L_web (cons2 (gv 4) (cons2 (mapT g_L_draws (cons2 (gv 0) (cons2 (cI 6) (cons2 (cI 6) (cons2 (cI 2) (fun _ => some [])))))) (cons2 (bin2 (gEqB false) (bin2 gMod (mapT gInt (cons2 (bin2 gFdiv (gv 3) (cI 4)) (fun _ => some []))) (cI 2)) (cI 0)) (fun _ => some []))))))
    mNil) mNil)
    (mSeq (mRet (mapT g_L_web (cons2 (bin2 gMod (mapT gInt (cons2 (bin2 gFdiv (gv 3) (cI 8)) (fun _ => some []))) (cI 4)) (cons2 (mapT g_L_draws (cons2 (gv 0) (cons2 (cI 6) (cons2 (cI 6) (cons2 (cI 2) (fun _ => some [])))))) (cons2 (bin2 (gEqB false) (bin2 gMod (mapT gInt (cons2 (bin2 gFdiv (gv 3) (cI 4)) (fun _ => some []))) (cI 2)) (cI 0)) (fun _ => some []))))))
    mNil)))))))
def g_L_third : List D → Option D := runF 3 7 m_L_third
theorem d_L_third {P : Program} {w : World} {K : PySem.W.Frag} {mg : Str → Option Value} {base : Heap} (U : Un K mg) : Df P w K mg base 10 "_law_third" ["_law_script", "_law_a", "_law_rows"] g_L_third := by
  obtain ⟨f, fd, hm, F⟩ := U.d96
  have c_L_cell := d_L_cell (P := P) (w := w) (base := base) U
  have c_L_web := d_L_web (P := P) (w := w) (base := base) U
  have c_L_twisted_webs := d_L_twisted_webs (P := P) (w := w) (base := base) U
  have c_L_renamed := d_L_renamed (P := P) (w := w) (base := base) U
  have c_L_draws := d_L_draws (P := P) (w := w) (base := base) U
  have c_L_drawn_row := d_L_drawn_row (P := P) (w := w) (base := base) U
  refine ⟨⟨f, fd, hm, fnF_of (m := m_L_third) F sc_L_third fun cdv A outer s H E hr => ?_, F.kp, F.bindsN fun _ _ _ _ _ _ us hl => match us, hl with | [_, _, _], _ => rfl⟩, fun ds d h => runF_len h⟩
  exact (pm_cons (pm_set (i := 3) sc_L_third.nd rfl (by first | exact .inl rfl | exact .inr rfl) (px_callD c_L_cell (hr.mono (by decide)) rfl (pxs_cons (px_v 0) (pxs_cons px_int pxs_nil))))
    (pm_cons (pm_set (i := 4) sc_L_third.nd rfl (by first | exact .inl rfl | exact .inr rfl) (px_ix ix_D does_ix (px_v 1) px_int (fun _ _ => rfl)))
    (pm_cons (pm_set (i := 5) sc_L_third.nd rfl (by first | exact .inl rfl | exact .inr rfl) (px_op op_mod does_mod (px_callTy does_int call_int1 rfl U.int bt_int (pxs_cons (px_v 3) pxs_nil)) px_int))
    (pm_cons (pm_if (pxt_cmp (op_eqB (hu64 hr)) does_eqB (px_v 5) px_int (nomark _)) (pm_cons (pm_set (i := 6) sc_L_third.nd rfl (by first | exact .inl rfl | exact .inr rfl) (px_callD c_L_twisted_webs (hr.mono (by decide)) rfl (pxs_cons (px_v 1) (pxs_cons (px_v 2) pxs_nil))))
    (pm_cons (pm_ret (px_callD c_L_renamed (hr.mono (by decide)) rfl (pxs_cons (px_ix ix_D does_ix (px_v 6) (px_op op_mod does_mod (px_callTy does_int call_int1 rfl U.int bt_int (pxs_cons (px_op op_fdiv does_fdiv (px_v 3) px_int) pxs_nil)) (px_callB does_len call_len_seq rfl U.len bt_len (pxs_cons (px_v 6) pxs_nil))) (fun _ _ => rfl)) (pxs_cons (px_callD c_L_drawn_row (hr.mono (by decide)) rfl (pxs_cons (px_v 0) (pxs_cons px_int (pxs_cons (px_v 4) (pxs_cons px_int pxs_nil))))) pxs_nil))))
    pm_nil)) pm_nil)
    (pm_cons (pm_if (pxt_cmp (op_eqB (hu64 hr)) does_eqB (px_v 5) px_int (nomark _)) (pm_cons (pm_ret (px_callD c_L_renamed (hr.mono (by decide)) rfl (pxs_cons (px_v 1) (pxs_cons (px_callD c_L_drawn_row (hr.mono (by decide)) rfl (pxs_cons (px_v 0) (pxs_cons px_int (pxs_cons (px_v 4) (pxs_cons px_int pxs_nil))))) pxs_nil))))
    pm_nil) pm_nil)
    (pm_cons (pm_if (pxt_cmp (op_eqB (hu64 hr)) does_eqB (px_v 5) px_int (nomark _)) (pm_cons (pm_ret (px_callD c_L_web (hr.mono (by decide)) rfl (pxs_cons (px_v 4) (pxs_cons (px_callD c_L_draws (hr.mono (by decide)) rfl (pxs_cons (px_v 0) (pxs_cons px_int (pxs_cons px_int (pxs_cons px_int pxs_nil))))) (pxs_cons (px_cmp (op_eqB (hu64 hr)) does_eqB (px_op op_mod does_mod (px_callTy does_int call_int1 rfl U.int bt_int (pxs_cons (px_op op_fdiv does_fdiv (px_v 3) px_int) pxs_nil)) px_int) px_int (nomark _)) pxs_nil)))))
    pm_nil) pm_nil)
    (pm_cons (pm_ret (px_callD c_L_web (hr.mono (by decide)) rfl (pxs_cons (px_op op_mod does_mod (px_callTy does_int call_int1 rfl U.int bt_int (pxs_cons (px_op op_fdiv does_fdiv (px_v 3) px_int) pxs_nil)) px_int) (pxs_cons (px_callD c_L_draws (hr.mono (by decide)) rfl (pxs_cons (px_v 0) (pxs_cons px_int (pxs_cons px_int (pxs_cons px_int pxs_nil))))) (pxs_cons (px_cmp (op_eqB (hu64 hr)) does_eqB (px_op op_mod does_mod (px_callTy does_int call_int1 rfl U.int bt_int (pxs_cons (px_op op_fdiv does_fdiv (px_v 3) px_int) pxs_nil)) px_int) px_int (nomark _)) pxs_nil)))))
    pm_nil)))))))
end Wl
set_option maxRecDepth 100000
set_option maxHeartbeats 4000000
/-! Wp8 -/
namespace Wl
open PySem L2 PyProof.Rows Wd Wg
/-- the empty web -/
def isE : D → Bool
  | .tup [.int i, .tup []] => i == 0
  | _ => false
def g_L_unbounded : List D → Option D
  | [.int which, a, c] => if (isE c && ((which == 0) || (which == 1 && isE a))) = true then some (.bl true) else none
  | _ => none
theorem sc_L_answers_told : FnScope ["_law_script", "_law_a", "_law_c", "_law_due", "_law_count", "_law_web_here", "_law_turn", "_law_first", "_law_second_here"] ["_law_script", "_law_a", "_law_c", "_law_due", "_law_count"] (defScope (top 97)) := ⟨rfl, rfl, rfl, by decide +kernel, rfl, by decide +kernel, by decide +kernel⟩
def m_L_answers_told : M := (mSeq (mSet 5 (mapT g_L_product (cons2 (cS "direct") (cons2 (gv 1) (cons2 (gv 2) (fun _ => some []))))))
    (mSeq (mSet 5 (mapT g_L_renamed (cons2 (gv 5) (cons2 (mapT g_L_drawn_row (cons2 (gv 0) (cons2 (cI 7) (cons2 (bin2 gIx (gv 5) (cI 0)) (cons2 (cI 2) (fun _ => some [])))))) (fun _ => some [])))))
    (mSeq (mFor (rng1 (cons2 (gv 4) (fun _ => some []))) (bNm 6) (mSeq (mSetF 7 (ownG g_answers (cons2 (gv 1) (cons2 (gv 2) (fun _ => some [])))))
    (mSeq (mSetF 8 (ownG g_direct_quotients (cons2 (gv 5) (cons2 (gv 2) (fun _ => some [])))))
    (mSeq (mIf (orT (notT (truT (bor (mapT (g_L_same 7) (cons2 (gv 3) (cons2 (gv 7) (fun _ => some []))))))) (notT (truT (bor (mapT (g_L_same 7) (cons2 (gv 3) (cons2 (gv 8) (fun _ => some [])))))))) (mSeq (mRet (cB false))
    mNil) mNil)
    (mSeq (mPut 7 (cI 0) (mapT gTup (cons2 (cI 8) (cons2 (mapT gTup (fun _ => some [])) (fun _ => some [])))))
    (mSeq (mApp 8 (mapT gTup (cons2 (cI 9) (cons2 (mapT gTup (fun _ => some [])) (fun _ => some [])))))
    mNil))))))
    (mSeq (mRet (cB true))
    mNil))))
def g_L_answers_told : List D → Option D := runF 5 9 m_L_answers_told
theorem d_L_answers_told {P : Program} {w : World} {K : PySem.W.Frag} {mg : Str → Option Value} {base : Heap} (U : Un K mg) : Df P w K mg base 27 "_law_answers_told" ["_law_script", "_law_a", "_law_c", "_law_due", "_law_count"] g_L_answers_told := by
  obtain ⟨f, fd, hm, F⟩ := U.d97
  have c_L_product := d_L_product (P := P) (w := w) (base := base) U
  have c_L_renamed := d_L_renamed (P := P) (w := w) (base := base) U
  have c_L_drawn_row := d_L_drawn_row (P := P) (w := w) (base := base) U
  have c_answers := d_answers (P := P) (w := w) (base := base) U
  have c_direct_quotients := d_direct_quotients (P := P) (w := w) (base := base) U
  have c_L_same := d_L_same (P := P) (w := w) (base := base) U 7
  refine ⟨⟨f, fd, hm, fnF_of (m := m_L_answers_told) F sc_L_answers_told fun cdv A outer s H E hr => ?_, F.kp, F.bindsN fun _ _ _ _ _ _ us hl => match us, hl with | [_, _, _, _, _], _ => rfl⟩, fun ds d h => runF_len h⟩
  exact (pm_cons (pm_set (i := 5) sc_L_answers_told.nd rfl (by first | exact .inl rfl | exact .inr rfl) (px_callD c_L_product (hr.mono (by decide)) rfl (pxs_cons px_str (pxs_cons (px_v 1) (pxs_cons (px_v 2) pxs_nil)))))
    (pm_cons (pm_set (i := 5) sc_L_answers_told.nd rfl (by first | exact .inl rfl | exact .inr rfl) (px_callD c_L_renamed (hr.mono (by decide)) rfl (pxs_cons (px_v 5) (pxs_cons (px_callD c_L_drawn_row (hr.mono (by decide)) rfl (pxs_cons (px_v 0) (pxs_cons px_int (pxs_cons (px_ix ix_D does_ix (px_v 5) px_int (fun _ _ => rfl)) (pxs_cons px_int pxs_nil))))) pxs_nil))))
    (pm_cons (pm_for PassesOwn.never rfl (pix_rng1 rfl U.range (pxs_cons (px_v 4) pxs_nil)) (pb_name sc_L_answers_told.nd rfl (by first | exact .inl rfl | exact .inr rfl)) (pm_cons (pm_setF (i := 7) sc_L_answers_told.nd rfl (by first | exact .inl rfl | exact .inr rfl) (pf_callD c_answers (hr.mono (by decide)) rfl (pxs_cons (px_v 1) (pxs_cons (px_v 2) pxs_nil))))
    (pm_cons (pm_setF (i := 8) sc_L_answers_told.nd rfl (by first | exact .inl rfl | exact .inr rfl) (pf_callD c_direct_quotients (hr.mono (by decide)) rfl (pxs_cons (px_v 5) (pxs_cons (px_v 2) pxs_nil))))
    (pm_cons (pm_if (pxt_w (pxw_or (pxt_not (pxt_val (px_bor (px_callD c_L_same (hr.mono (by decide)) rfl (pxs_cons (px_v 3) (pxs_cons (px_v 7) pxs_nil)))) (fun _ => rfl))) (pxw_or1 (pxt_not (pxt_val (px_bor (px_callD c_L_same (hr.mono (by decide)) rfl (pxs_cons (px_v 3) (pxs_cons (px_v 8) pxs_nil)))) (fun _ => rfl)))))) (pm_cons (pm_ret px_bl)
    pm_nil) pm_nil)
    (pm_cons (pm_put (i := 7) rfl (by first | exact .inl rfl | exact .inr (.inl rfl) | exact .inr (.inr rfl)) (px_tup (pxs_cons px_int (pxs_cons (px_tup pxs_nil) pxs_nil))) px_int)
    (pm_cons (pm_app (i := 8) rfl (by first | exact .inl rfl | exact .inr (.inl rfl) | exact .inr (.inr rfl)) (px_tup (pxs_cons px_int (pxs_cons (px_tup pxs_nil) pxs_nil))))
    pm_nil))))))
    (pm_cons (pm_ret px_bl)
    pm_nil))))
theorem sc_law : FnScope ["_law_script", "_law_cell_here", "_law_size", "_law_a", "_law_c", "_law_rows", "_law_b", "_law_odd", "_law_whole", "_law_due", "_law_other", "_law_sort"] ["_law_script"] (defScope (top 98)) := ⟨rfl, rfl, rfl, by decide +kernel, rfl, by decide +kernel, by decide +kernel⟩
def m_law : M := (mSeq (mSet 1 (mapT g_L_cell (cons2 (gv 0) (cons2 (cI 0) (fun _ => some [])))))
    (mSeq (mSet 2 (bin2 gIx (mapT gLst (cons2 (cI 3) (cons2 (cI 2) (cons2 (cI 3) (cons2 (cI 2) (cons2 (cI 3) (cons2 (cI 1) (cons2 (cI 2) (cons2 (cI 0) (fun _ => some [])))))))))) (bin2 gMod (mapT gInt (cons2 (gv 1) (fun _ => some []))) (cI 8))))
    (mSeq (mSet 3 (mapT g_L_web (cons2 (gv 2) (cons2 (mapT g_L_draws (cons2 (gv 0) (cons2 (cI 1) (cons2 (cI 6) (cons2 (cI 2) (fun _ => some [])))))) (cons2 (bin2 (gEqB true) (bin2 gMod (mapT gInt (cons2 (bin2 gFdiv (gv 1) (cI 8)) (fun _ => some []))) (cI 3)) (cI 1)) (fun _ => some []))))))
    (mSeq (mSet 4 (mapT g_L_second (cons2 (gv 0) (fun _ => some []))))
    (mSeq (mSet 5 (mapT g_L_permutations (cons2 (gv 2) (fun _ => some []))))
    (mSeq (mSet 6 (mapT g_L_third (cons2 (gv 0) (cons2 (gv 3) (cons2 (gv 5) (fun _ => some []))))))
    (mSeq (mSet 7 (nonV false (mapT g_L_sides (cons2 (mapT g_L_matrix (cons2 (gv 4) (fun _ => some []))) (fun _ => some [])))))
    (mSeq (mIf (notT (truT (mapT (g_L_same 7) (cons2 (gv 7) (cons2 (mapT g_can_cancel (cons2 (gv 4) (fun _ => some []))) (fun _ => some [])))))) (mSeq (mRet (cB false))
    mNil) mNil)
    (mSeq (mIf (tst (bin2 (gEqB false) (bin2 gIx (gv 4) (cI 0)) (cI 0))) (mSeq (mRet (andV (mapT g_L_unbounded (cons2 (cI 0) (cons2 (gv 3) (cons2 (gv 4) (fun _ => some []))))) (andV (mapT g_L_unbounded (cons2 (cI 0) (cons2 (gv 6) (cons2 (gv 4) (fun _ => some []))))) (mapT g_L_unbounded (cons2 (cI 1) (cons2 (mapT gTup (cons2 (cI 0) (cons2 (mapT gTup (fun _ => some [])) (fun _ => some [])))) (cons2 (gv 4) (fun _ => some []))))))))
    mNil) mNil)
    (mSeq (mSet 8 (mapT g_L_product (cons2 (cS "direct") (cons2 (gv 3) (cons2 (gv 4) (fun _ => some []))))))
    (mSeq (mSet 9 (lstV (lcV [10] (seqV (mapT g_L_all_sorts (cons2 (gv 2) (cons2 (gv 5) (fun _ => some []))))) (eNm 10) (truT (mapT g_L_fits (cons2 (gv 10) (cons2 (gv 4) (cons2 (gv 8) (fun _ => some [])))))) (gv 10))))
    (mSeq (mIf (andT (truT (gv 7)) (tst (bin2 (gEqB true) (gv 9) (mapT g_L_sorts_of (cons2 (gv 2) (cons2 (mapT gLst (cons2 (gv 3) (fun _ => some []))) (cons2 (gv 5) (fun _ => some [])))))))) (mSeq (mRet (cB false))
    mNil) mNil)
    (mSeq (mIf (notT (truT (mapT g_L_answers_told (cons2 (gv 0) (cons2 (gv 3) (cons2 (gv 4) (cons2 (gv 9) (cons2 (cI 2) (fun _ => some []))))))))) (mSeq (mRet (cB false))
    mNil) mNil)
    (mSeq (mSet 10 (bin2 gIx (gv 9) (bin2 gMod (mapT gInt (cons2 (mapT g_L_cell (cons2 (gv 0) (cons2 (cI 8) (fun _ => some [])))) (fun _ => some []))) (mapT gLen (cons2 (gv 9) (fun _ => some []))))))
    (mSeq (mIf (notT (truT (mapT g_L_answers_told (cons2 (gv 0) (cons2 (gv 10) (cons2 (gv 4) (cons2 (gv 9) (cons2 (cI 1) (fun _ => some []))))))))) (mSeq (mRet (cB false))
    mNil) mNil)
    (mSeq (mSet 11 (mapT g_sort_of (cons2 (gv 6) (fun _ => some []))))
    (mSeq (mIf (notT (truT (mapT (g_L_same 7) (cons2 (bin2 gIx (mapT g_L_sorts_of (cons2 (bin2 gIx (gv 6) (cI 0)) (cons2 (mapT gLst (cons2 (gv 6) (fun _ => some []))) (cons2 (mapT g_L_permutations (cons2 (bin2 gIx (gv 6) (cI 0)) (fun _ => some []))) (fun _ => some []))))) (cI 0)) (cons2 (gv 11) (fun _ => some [])))))) (mSeq (mRet (cB false))
    mNil) mNil)
    (mSeq (mRet (bin2 (gEqB false) (mapT g_L_fits (cons2 (gv 6) (cons2 (gv 4) (cons2 (gv 8) (fun _ => some []))))) (bin2 (gInB false) (gv 11) (mapT g_answers (cons2 (gv 3) (cons2 (gv 4) (fun _ => some [])))))))
    mNil))))))))))))))))))
def g_law : List D → Option D := runF 1 12 m_law
theorem fnF_law {P : Program} {w : World} {K : PySem.W.Frag} {mg : Str → Option Value} {base : Heap} {f : Addr} {fd : FuncData} (F : FnP K "law" 98 [] f fd) (U : Un K mg) (c_L_unbounded : Df P w K mg base 27 "_law_unbounded" ["_law_which", "_law_web_here", "_law_c"] g_L_unbounded) : FnF P w K mg base 29 f fd ["_law_script"] g_law := by
  have c_L_cell := d_L_cell (P := P) (w := w) (base := base) U
  have c_L_web := d_L_web (P := P) (w := w) (base := base) U
  have c_L_second := d_L_second (P := P) (w := w) (base := base) U
  have c_L_permutations := d_L_permutations (P := P) (w := w) (base := base) U
  have c_L_third := d_L_third (P := P) (w := w) (base := base) U
  have c_L_product := d_L_product (P := P) (w := w) (base := base) U
  have c_sort_of := d_sort_of (P := P) (w := w) (base := base) U
  have c_L_draws := d_L_draws (P := P) (w := w) (base := base) U
  have c_L_sides := d_L_sides (P := P) (w := w) (base := base) U
  have c_L_same := d_L_same (P := P) (w := w) (base := base) U 7
  have c_L_answers_told := d_L_answers_told (P := P) (w := w) (base := base) U
  have c_L_fits := d_L_fits (P := P) (w := w) (base := base) U
  have c_L_matrix := d_L_matrix (P := P) (w := w) (base := base) U
  have c_can_cancel := d_can_cancel (P := P) (w := w) (base := base) U
  have c_L_all_sorts := d_L_all_sorts (P := P) (w := w) (base := base) U
  have c_L_sorts_of := d_L_sorts_of (P := P) (w := w) (base := base) U
  have c_answers := d_answers (P := P) (w := w) (base := base) U
  refine fnF_of (m := m_law) F sc_law fun cdv A outer s H E hr => ?_
  exact (pm_cons (pm_set (i := 1) sc_law.nd rfl (by first | exact .inl rfl | exact .inr rfl) (px_callD c_L_cell (hr.mono (by decide)) rfl (pxs_cons (px_v 0) (pxs_cons px_int pxs_nil))))
    (pm_cons (pm_set (i := 2) sc_law.nd rfl (by first | exact .inl rfl | exact .inr rfl) (px_ix ix_D does_ix (px_lst (pxs_cons px_int (pxs_cons px_int (pxs_cons px_int (pxs_cons px_int (pxs_cons px_int (pxs_cons px_int (pxs_cons px_int (pxs_cons px_int pxs_nil))))))))) (px_op op_mod does_mod (px_callTy does_int call_int1 rfl U.int bt_int (pxs_cons (px_v 1) pxs_nil)) px_int) (fun _ _ => rfl)))
    (pm_cons (pm_set (i := 3) sc_law.nd rfl (by first | exact .inl rfl | exact .inr rfl) (px_callD c_L_web (hr.mono (by decide)) rfl (pxs_cons (px_v 2) (pxs_cons (px_callD c_L_draws (hr.mono (by decide)) rfl (pxs_cons (px_v 0) (pxs_cons px_int (pxs_cons px_int (pxs_cons px_int pxs_nil))))) (pxs_cons (px_cmp (op_neB (hu64 hr)) does_eqB (px_op op_mod does_mod (px_callTy does_int call_int1 rfl U.int bt_int (pxs_cons (px_op op_fdiv does_fdiv (px_v 1) px_int) pxs_nil)) px_int) px_int (nomark _)) pxs_nil)))))
    (pm_cons (pm_set (i := 4) sc_law.nd rfl (by first | exact .inl rfl | exact .inr rfl) (px_callD c_L_second (hr.mono (by decide)) rfl (pxs_cons (px_v 0) pxs_nil)))
    (pm_cons (pm_set (i := 5) sc_law.nd rfl (by first | exact .inl rfl | exact .inr rfl) (px_callD c_L_permutations (hr.mono (by decide)) rfl (pxs_cons (px_v 2) pxs_nil)))
    (pm_cons (pm_set (i := 6) sc_law.nd rfl (by first | exact .inl rfl | exact .inr rfl) (px_callD c_L_third (hr.mono (by decide)) rfl (pxs_cons (px_v 0) (pxs_cons (px_v 3) (pxs_cons (px_v 5) pxs_nil)))))
    (pm_cons (pm_set (i := 7) sc_law.nd rfl (by first | exact .inl rfl | exact .inr rfl) (px_isN (px_callD c_L_sides (hr.mono (by decide)) rfl (pxs_cons (px_callD c_L_matrix (hr.mono (by decide)) rfl (pxs_cons (px_v 4) pxs_nil)) pxs_nil))))
    (pm_cons (pm_if (pxt_not (pxt_val (px_callD c_L_same (hr.mono (by decide)) rfl (pxs_cons (px_v 7) (pxs_cons (px_callD c_can_cancel (hr.mono (by decide)) rfl (pxs_cons (px_v 4) pxs_nil)) pxs_nil))) (fun _ => rfl))) (pm_cons (pm_ret px_bl)
    pm_nil) pm_nil)
    (pm_cons (pm_if (pxt_cmp (op_eqB (hu64 hr)) does_eqB (px_ix ix_D does_ix (px_v 4) px_int (fun _ _ => rfl)) px_int (nomark _)) (pm_cons (pm_ret (px_and (px_callD c_L_unbounded (hr.mono (by decide)) rfl (pxs_cons px_int (pxs_cons (px_v 3) (pxs_cons (px_v 4) pxs_nil)))) (px_and (px_callD c_L_unbounded (hr.mono (by decide)) rfl (pxs_cons px_int (pxs_cons (px_v 6) (pxs_cons (px_v 4) pxs_nil)))) (px_one (px_callD c_L_unbounded (hr.mono (by decide)) rfl (pxs_cons px_int (pxs_cons (px_tup (pxs_cons px_int (pxs_cons (px_tup pxs_nil) pxs_nil))) (pxs_cons (px_v 4) pxs_nil))))))))
    pm_nil) pm_nil)
    (pm_cons (pm_set (i := 8) sc_law.nd rfl (by first | exact .inl rfl | exact .inr rfl) (px_callD c_L_product (hr.mono (by decide)) rfl (pxs_cons px_str (pxs_cons (px_v 3) (pxs_cons (px_v 4) pxs_nil)))))
    (pm_cons (pm_setLc (i := 9) (own := [("_law_other", 10)]) rfl sc_law.nd rfl rfl rfl (pix_seq (px_callD c_L_all_sorts (hr.mono (by decide)) rfl (pxs_cons (px_v 2) (pxs_cons (px_v 5) pxs_nil)))) (blkOk_by (by rfl)) (by decide) (fun _ _ _ _ _ => (pl_name sc_law.nd rfl (by first | exact .inl rfl | exact .inr rfl))) (fun _ _ _ _ _ => (plt_one (pxt_val (px_callD c_L_fits (hr.mono (by decide)) rfl (pxs_cons (px_v 10) (pxs_cons (px_v 4) (pxs_cons (px_v 8) pxs_nil)))) (fun _ => rfl)))) (fun _ _ _ _ _ => (px_v 10)))
    (pm_cons (pm_if (pxt_w (pxw_and (pxt_val (px_v 7) (fun _ => rfl)) (pxw_and1 (pxt_cmp (op_neB (hu64 hr)) does_eqB (px_v 9) (px_callD c_L_sorts_of (hr.mono (by decide)) rfl (pxs_cons (px_v 2) (pxs_cons (px_lst (pxs_cons (px_v 3) pxs_nil)) (pxs_cons (px_v 5) pxs_nil)))) (nomark _))))) (pm_cons (pm_ret px_bl)
    pm_nil) pm_nil)
    (pm_cons (pm_if (pxt_not (pxt_val (px_callD c_L_answers_told (hr.mono (by decide)) rfl (pxs_cons (px_v 0) (pxs_cons (px_v 3) (pxs_cons (px_v 4) (pxs_cons (px_v 9) (pxs_cons px_int pxs_nil)))))) (fun _ => rfl))) (pm_cons (pm_ret px_bl)
    pm_nil) pm_nil)
    (pm_cons (pm_set (i := 10) sc_law.nd rfl (by first | exact .inl rfl | exact .inr rfl) (px_ix ix_D does_ix (px_v 9) (px_op op_mod does_mod (px_callTy does_int call_int1 rfl U.int bt_int (pxs_cons (px_callD c_L_cell (hr.mono (by decide)) rfl (pxs_cons (px_v 0) (pxs_cons px_int pxs_nil))) pxs_nil)) (px_callB does_len call_len_seq rfl U.len bt_len (pxs_cons (px_v 9) pxs_nil))) (fun _ _ => rfl)))
    (pm_cons (pm_if (pxt_not (pxt_val (px_callD c_L_answers_told (hr.mono (by decide)) rfl (pxs_cons (px_v 0) (pxs_cons (px_v 10) (pxs_cons (px_v 4) (pxs_cons (px_v 9) (pxs_cons px_int pxs_nil)))))) (fun _ => rfl))) (pm_cons (pm_ret px_bl)
    pm_nil) pm_nil)
    (pm_cons (pm_set (i := 11) sc_law.nd rfl (by first | exact .inl rfl | exact .inr rfl) (px_callD c_sort_of (hr.mono (by decide)) rfl (pxs_cons (px_v 6) pxs_nil)))
    (pm_cons (pm_if (pxt_not (pxt_val (px_callD c_L_same (hr.mono (by decide)) rfl (pxs_cons (px_ix ix_D does_ix (px_callD c_L_sorts_of (hr.mono (by decide)) rfl (pxs_cons (px_ix ix_D does_ix (px_v 6) px_int (fun _ _ => rfl)) (pxs_cons (px_lst (pxs_cons (px_v 6) pxs_nil)) (pxs_cons (px_callD c_L_permutations (hr.mono (by decide)) rfl (pxs_cons (px_ix ix_D does_ix (px_v 6) px_int (fun _ _ => rfl)) pxs_nil)) pxs_nil)))) px_int (fun _ _ => rfl)) (pxs_cons (px_v 11) pxs_nil))) (fun _ => rfl))) (pm_cons (pm_ret px_bl)
    pm_nil) pm_nil)
    (pm_cons (pm_ret (px_cmp (op_eqB (hu64 hr)) does_eqB (px_callD c_L_fits (hr.mono (by decide)) rfl (pxs_cons (px_v 6) (pxs_cons (px_v 4) (pxs_cons (px_v 8) pxs_nil)))) (px_cmp (op_inB (hu65 hr)) does_inB (px_v 11) (px_callD c_answers (hr.mono (by decide)) rfl (pxs_cons (px_v 3) (pxs_cons (px_v 4) pxs_nil))) (by rfl)) (nomark _)))
    pm_nil))))))))))))))))))
end Wl
set_option maxRecDepth 100000
set_option maxHeartbeats 4000000
/-! NoBound: raised, caught -/
namespace Wl
open PySem L2 PyProof.Rows Wd Wg
abbrev veB : List Value := [.type "ValueError", .type "Exception", .type "BaseException", .type "object"]
/-- NoBound at C, WebError at CW, TooLarge at CT, UnfitWeb at CU, NoResult at CR -/
structure Ux (K : PySem.W.Frag) (mg : Str → Option Value) (C CW CT CU CR : Addr) : Prop where
  gC : mg "NoBound" = some (.ref C)
  gW : mg "WebError" = some (.ref CW)
  gT : mg "TooLarge" = some (.ref CT)
  gU : mg "UnfitWeb" = some (.ref CU)
  gR : mg "NoResult" = some (.ref CR)
  exc : PySem.W.excIn K C veB "ValueError.__new__" = true
  kC : PySem.W.keepIn K (.ref C) = true
  sub : PySem.W.subIn K (.ref C) (.type "BaseException") = some true
  ty : PySem.W.typeIn K (.ref C) = some (.type "type")
  exm : PySem.W.exmOne K (.ref C) (.ref CW) = some true
  isT : PySem.W.kitOne K (.ref C) (.ref CT) = some false
  isU : PySem.W.kitOne K (.ref C) (.ref CU) = some false
  isC : PySem.W.kitOne K (.ref C) (.ref C) = some true
  isR : PySem.W.kitOne K (.ref C) (.ref CR) = some true
  ec : ExcC K C
section
variable {X : Cx} {C : Addr} {bmB : List Value} {B newId initId : String}
theorem pmk_own0 {x : Str} {p pos : Pos} (F : ExcBaseFacts B newId initId bmB) (q : PySem.W.excIn X.K C bmB newId = true) (gC : X.mg x = some (.ref C)) (kC : PySem.W.keepIn X.K (.ref C) = true) (r : Raises X (.ref C)) (hg : Gl X x)
    (hdb : (x == ("__debug__" : Str)) = false := by decide) : PMk X (.Call (.Name x p) [] [] pos) (fun _ H Q => Q (.ref C) none H) := by
  intro pins s σ H Q I h
  refine wpAny_Call_Name_kw (ld_glob I hg gC ?_ hdb)
  refine PySem.W.callWith_K0 I.kIn kC ?_
  show wpAny _ _ (call (.ref C) []) _ _ _
  obtain ⟨bm, N, nm, qn, bs, hdct, sn, sub, ab, col, dd, k0, k1, k2, k3, k5, mN, hC, hN, hni, T⟩ := exc_obj I.kIn q
  refine wpAny_call_exc_subT F T hC hN hni (fun h' e hm => ?_) (Nat.zero_le _)
  exact mk_of I hm r h (I.hok.gone hm.new)
end
/-- both arguments are read; NoBound leaves -/
def spNB (K : PySem.W.Frag) (C : Addr) (c : D → D → Bool) : Sp := fun vs H Q E => vs.length = 2 ∧ ∃ O a b, (∀ b, O b → H b ≠ none) ∧ reps K H O [a, b] vs ∧ c a b = true ∧ ∀ H', Ext H H' → E (.ref C) none H'
def okA (_a c : D) : Bool := isE c
def okQ (a c : D) : Bool := isE c && isE a
theorem isE_eq {c : D} (h : isE c = true) : c = .tup [.int 0, .tup []] := by
  unfold isE at h
  split at h
  · rw [eq_of_beq h]
  · cases h
section
variable {P : Program} {w : World} {K : PySem.W.Frag} {mg : Str → Option Value} {base : Heap} {C CW CT CU CR : Addr}
theorem fun_okX {x qual : Str} {params : Arguments} {body : List Stmt} {scope : Scope} {f : Addr} {fd : FuncData} {N ps : List Str} {k : Nat} {sp : Sp} (F : FunD K x qual params body scope [] [] f fd) (S : FnScope N ps scope) (len : ∀ vs H Q E, sp vs H Q E → vs.length = ps.length)
    (hbody : ∀ (cdv : Value) (A : Around) (outer : List Env) (s : Shared) (H : Hp) (vs : List V) (Q : VK) (E : XK), Room k (A.deeper (envOfC qual scope s.heap.objs.size f cdv)) → sp vs H Q E →
      ∃ t, PSs (cxOf (L2.CX P w) P w K mg base N qual scope f cdv A outer s H E) body t ∧ t { nx := fun _ H' => Q .non H', rt := Q } (start N vs) H) : FnOk P w K mg base (L2.CX P w) (k + 1) f fd ps sp := by
  obtain ⟨oc, od, dV, kV, doc, pm, an, cdv, ct, osl, rfl, lk, hcd, _, _⟩ := F.ex
  exact fn_of lk hcd S len fun A outer s H vs Q E hr hsp => hbody cdv A outer s H vs Q E hr hsp
theorem re_start {H : Hp} {O : Addr → Prop} {ds : List D} {vs : List V} {N : List Str} (hO : ∀ b, O b → H b ≠ none) (r : reps K H O ds vs) (hl : vs.length ≤ N.length) :
    ∃ O', RE K O' (en (ds.map Ent.val ++ List.replicate (N.length - vs.length) Ent.no)) (start N vs) H := by
  have I := se_start (K := K) (N := N) hO r hl
  have e : (ds.map SE.val ++ List.replicate (N.length - vs.length) SE.no).map SE.er = ds.map Ent.val ++ List.replicate (N.length - vs.length) Ent.no := by simp [SE.er]
  exact ⟨_, e ▸ I.re⟩
structure Xf (P : Program) (w : World) (K : PySem.W.Frag) (mg : Str → Option Value) (base : Heap) (k : Nat) (x : Str) (ps : List Str) (C : Addr) (c : D → D → Bool) : Prop where
  ex : ∃ f fd, mg x = some (.ref f) ∧ FnOk P w K mg base (L2.CX P w) k f fd ps (spNB K C c) ∧ PySem.W.keepIn K (.ref f) = true ∧ Binds K fd ps []
theorem x_answers (U : Un K mg) (T : Ux K mg C CW CT CU CR) : Xf P w K mg base 4 "answers" ["a", "c"] C okA := by
  obtain ⟨f, fd, hm, F⟩ := U.d58
  refine ⟨f, fd, hm, fun_okX F sc_answers (fun vs H Q E h => h.1) fun cdv A outer s H vs Q E hr ⟨hl, O, a, b, hO, r, ok, q⟩ => ⟨_, pss_cons (ps_if (pxt_cmp (op_eqB (hu64 hr)) does_eqB (px_ix ix_D does_ix (px_v 1) px_int (fun _ _ => rfl)) px_int (nomark _))
    (pss_one (ps_raise rfl (takes_of rfl rfl rfl rfl) (pmk_own0 PySem.F.excBase_ValueError T.exc T.gC T.kC (raises_own T.sub T.ty) rfl))) pss_nil) pss_never, ?_⟩, F.kp, F.bindsN fun _ _ _ _ _ _ us hl => match us, hl with | [_, _], _ => rfl⟩
  cases isE_eq ok
  obtain ⟨O', re⟩ := re_start (N := ["a", "c"]) hO r (by rw [hl]; decide)
  exact ⟨O', _, true, re, by rw [hl]; rfl, fun H' x => q H' x⟩
theorem x_quot (U : Un K mg) (T : Ux K mg C CW CT CU CR) : Xf P w K mg base 4 "direct_quotients" ["web", "factor"] C okQ := by
  obtain ⟨f, fd, hm, F⟩ := U.d65
  refine ⟨f, fd, hm, fun_okX F sc_direct_quotients (fun vs H Q E h => h.1) fun cdv A outer s H vs Q E hr ⟨hl, O, a, b, hO, r, ok, q⟩ => ⟨_, pss_cons (ps_if (pxt_cmp (op_eqB (hu64 hr)) does_eqB (px_ix ix_D does_ix (px_v 1) px_int (fun _ _ => rfl)) px_int (nomark _))
    (pss_cons (ps_if (pxt_cmp (op_eqB (hu64 hr)) does_eqB (px_ix ix_D does_ix (px_v 0) px_int (fun _ _ => rfl)) px_int (nomark _))
      (pss_one (ps_raise rfl (takes_of rfl rfl rfl rfl) (pmk_own0 PySem.F.excBase_ValueError T.exc T.gC T.kC (raises_own T.sub T.ty) rfl))) pss_nil) pss_never) pss_nil) pss_never, ?_⟩, F.kp, F.bindsN fun _ _ _ _ _ _ us hl => match us, hl with | [_, _], _ => rfl⟩
  have ok := (Bool.and_eq_true _ _).mp ok
  cases isE_eq ok.1
  cases isE_eq ok.2
  obtain ⟨O', re⟩ := re_start (N := ["web", "factor", "size", "left", "found", "quotient"]) hO r (by rw [hl]; decide)
  exact ⟨O', _, true, re, by rw [hl]; rfl, fun H' x => ⟨O', _, true, re.ext x, by rw [hl]; rfl, fun H'' x' => q H'' (x.trans x')⟩⟩
end
end Wl
set_option maxRecDepth 100000
set_option maxHeartbeats 4000000
/-! the law's try -/
namespace Wl
open PySem L2 PyProof.Rows Wd Wg
section
variable {P : Program} {w : World} {K : PySem.W.Frag} {mg : Str → Option Value} {base : Heap} {C CW CT CU CR : Addr}
theorem sc_L_unbounded : FnScope ["_law_which", "_law_web_here", "_law_c", "e"] ["_law_which", "_law_web_here", "_law_c"] (defScope (top 94)) := ⟨rfl, rfl, rfl, by decide +kernel, rfl, by decide +kernel, by decide +kernel⟩
/-- isinstance(e, x), x the class at D -/
theorem pe_isx {X : Cx} {a C D : Addr} {oe : Obj} {pn : List (Addr × Obj)} {x y : Str} {p p2 p3 pos : Pos} (ec : ExcC X.K C) (hz : Zc (.ref C) none oe) (hf : ∃ vs, oe.data = .fields vs) (hN : X.N[3]? = some y) (hv : Vis X.env.scope y) (hi : X.mg "isinstance" = none) (hg : Gl X "isinstance") (hgx : Gl X x) (hm : X.mg x = some (.ref D))
    (hd : (y == ("__debug__" : Str)) = false := by decide) (hcd : (y == ("__classdict__" : Str)) = false := by decide) (hdx : (x == ("__debug__" : Str)) = false := by decide)
    (he : starEach [.Name y p2, .Name x p3] X.env = (false, eval (.Name y p2) X.env) :: starEach [.Name x p3] X.env := by rfl) (he2 : starEach [.Name x p3] X.env = (false, eval (.Name x p3) X.env) :: starEach [] X.env := by rfl) (hpl : (backTo pos (starEach [.Name x p3] X.env)).any (·.1) = false := by rfl) :
    PE (X.suite a ((a, oe) :: pn)) (.Call (.Name "isinstance" p) [.Name y p2, .Name x p3] [] pos) (tCB (rIsE X.K C a) (tCons (tVar 3) (tCons (tC (.ref D)) tNil))) :=
  pe_callB (X := X.suite a ((a, oe) :: pn)) (call_isE ec hz hf) hg hi bt_isinstance (pa_cons (X := X.suite a ((a, oe) :: pn)) (pe_var (X := X.suite a ((a, oe) :: pn)) hN hv hd hcd) (pa_cons (X := X.suite a ((a, oe) :: pn)) (pe_glob (X := X.suite a ((a, oe) :: pn)) (v := .ref D) hgx hm rfl hdx) pa_nil he2) he) (by decide) (by decide) he hpl
theorem d_L_unbounded (U : Un K mg) (T : Ux K mg C CW CT CU CR) : Df P w K mg base 27 "_law_unbounded" ["_law_which", "_law_web_here", "_law_c"] g_L_unbounded := by
  obtain ⟨f, fd, hm, F⟩ := U.d94
  obtain ⟨fA, fdA, mA, FA, kA, bA⟩ := (x_answers (P := P) (w := w) (base := base) U T).ex
  obtain ⟨fQ, fdQ, mQ, FQ, kQ, bQ⟩ := (x_quot (P := P) (w := w) (base := base) U T).ex
  have ty : ∀ D : Addr, ∀ u : Value, RelV (.ref D) u → u = .ref D := fun D u h => h
  refine ⟨⟨f, fd, hm, F.ok sc_L_unbounded (fun vs H Q E h => h.1) fun cdv A outer s H vs Q E hr h => ⟨_, pss_cons (ps_try_as (i := 3) (c := .ref CW) (tb := fun W => tIfS (TXt K (tst (bin2 (gEqB false) (gv 0) (cI 0)))) (tDrop (tCallS (spNB K C okA) (WE W) (TXs K (cons2 (gv 1) (cons2 (gv 2) (fun _ => some [])))))) (tDrop (tCallS (spNB K C okQ) (WE W) (TXs K (cons2 (gv 1) (cons2 (gv 2) (fun _ => some [])))))))
      (ts := fun a cls d D σ H => (cls = .ref C ∧ d = none) ∧ tSeq (tIfS (tOr (tB (tCB (rIsE K C a) (tCons (tVar 3) (tCons (tC (.ref CT)) tNil)))) (tB (tCB (rIsE K C a) (tCons (tVar 3) (tCons (tC (.ref CU)) tNil))))) tNever tNext) (tRet (tAndV (tCB (rIsE K C a) (tCons (tVar 3) (tCons (tC (.ref C)) tNil))) (tCB (rIsE K C a) (tCons (tVar 3) (tCons (tC (.ref CR)) tNil))))) D σ H)
      (Wout := fun _ _ _ _ => False) rfl rfl sc_L_unbounded.nd rfl rfl ⟨rfl, by decide, .inl T.gW⟩ takes0 (fun W pn xe tk _ => ?body) (fun a oe cls d pn hz hf => ?suite)) pss_never, ?_⟩, F.kp, F.bindsN fun _ _ _ _ _ _ us hl => match us, hl with | [_, _, _], _ => rfl⟩, fun ds d h => ?_⟩
  case body =>
    exact pss_one (ps_if (pxt_cmp (op_eqB (hu64 hr)) does_eqB (px_v 0) px_int (nomark _))
      (pss_one (ps_expr (pe_callS FA (hr.mono (by decide)) rfl mA kA bA (fun σ => passAt tk σ) (pxs_cons (px_v 1) (pxs_cons (px_v 2) pxs_nil)))))
      (pss_one (ps_expr (pe_callS FQ (hr.mono (by decide)) rfl mQ kQ bQ (fun σ => passAt tk σ) (pxs_cons (px_v 1) (pxs_cons (px_v 2) pxs_nil))))))
  case suite =>
    refine ⟨fun pins s1 σ1 H1 D1 I ⟨⟨e1, e2⟩, q⟩ => ?_⟩
    subst e1 e2
    exact (pss_cons (ps_if (pw_or (pt_val (pe_isx (x := "TooLarge") (X := cxOf CX0 P w K mg base ["_law_which", "_law_web_here", "_law_c", "e"] "_law_unbounded" (defScope (top 94)) f cdv A outer s H E) T.ec hz hf rfl (.inl rfl) U.isinstance rfl rfl T.gT)) (pw_or1 (pt_val (pe_isx (x := "UnfitWeb") (X := cxOf CX0 P w K mg base ["_law_which", "_law_web_here", "_law_c", "e"] "_law_unbounded" (defScope (top 94)) f cdv A outer s H E) T.ec hz hf rfl (.inl rfl) U.isinstance rfl rfl T.gU)))).pt pss_never pss_nil)
      (pss_one (ps_ret (pe_and (pe_isx (x := "NoBound") (X := cxOf CX0 P w K mg base ["_law_which", "_law_web_here", "_law_c", "e"] "_law_unbounded" (defScope (top 94)) f cdv A outer s H E) T.ec hz hf rfl (.inl rfl) U.isinstance rfl rfl T.gC) (pe_one (pe_isx (x := "NoResult") (X := cxOf CX0 P w K mg base ["_law_which", "_law_web_here", "_law_c", "e"] "_law_unbounded" (defScope (top 94)) f cdv A outer s H E) T.ec hz hf rfl (.inl rfl) U.isinstance rfl rfl T.gR)))))).run pins s1 σ1 H1 D1 I q
  · obtain ⟨hl, O, ds, d, hO, r, e, q⟩ := h
    have hl2 := hl
    unfold g_L_unbounded at e
    split at e
    · rename_i which a c
      split at e
      · rename_i ok
        cases e
        rw [Bool.and_eq_true, Bool.or_eq_true, Bool.and_eq_true] at ok
        obtain ⟨ec, ok⟩ := ok
        cases isE_eq ec
        obtain ⟨O', re⟩ := re_start (N := ["_law_which", "_law_web_here", "_law_c", "e"]) hO r (by rw [hl]; decide)
        have el : (["_law_which", "_law_web_here", "_law_c", "e"] : List Str).length - vs.length = 1 := by rw [hl]; rfl
        rw [el] at re
        have hyes : ∀ H1, Ext H H1 → wAs K (.ref CW) 3 (fun a cls d D σ H => (cls = .ref C ∧ d = none) ∧ tSeq (tIfS (tOr (tB (tCB (rIsE K C a) (tCons (tVar 3) (tCons (tC (.ref CT)) tNil)))) (tB (tCB (rIsE K C a) (tCons (tVar 3) (tCons (tC (.ref CU)) tNil))))) tNever tNext) (tRet (tAndV (tCB (rIsE K C a) (tCons (tVar 3) (tCons (tC (.ref C)) tNil))) (tCB (rIsE K C a) (tCons (tVar 3) (tCons (tC (.ref CR)) tNil))))) D σ H) (fun _ _ _ _ => False) { nx := fun _ _ => False, rt := Q } (.ref C) none (L2.start ["_law_which", "_law_web_here", "_law_c", "e"] vs) H1 := fun H1 x1 => by
          refine ⟨true, T.exm, fun _ a ha => ⟨⟨rfl, rfl⟩, ?_⟩, fun z => nomatch z⟩
          have h3 : ((L2.start ["_law_which", "_law_web_here", "_law_c", "e"] vs).set 3 (some (.ref a)))[3]? = some (some (.ref a)) := by
            rw [List.getElem?_set_self]
            unfold L2.start
            rw [List.length_append, List.length_map, List.length_replicate, el, hl]
            decide
          refine ⟨_, h3, .ref CT, .ref CT, false, rfl, ty CT, T.isT, _, rfl, ?_⟩
          refine ⟨_, h3, .ref CU, .ref CU, false, rfl, ty CU, T.isU, _, rfl, ?_⟩
          refine ⟨_, h3, .ref C, .ref C, true, rfl, ty C, T.isC, _, rfl, ?_⟩
          refine ⟨_, h3, .ref CR, .ref CR, true, rfl, ty CR, T.isR, ?_⟩
          exact q (.bl true) H1 x1 mk_bl
        have r2 := r
        unfold reps at r2
        obtain ⟨x0, vs2, rfl, r0, r2⟩ := r2
        by_cases hw : (which == 0) = true
        · refine ⟨O', _, true, re, ?_, fun H1 x1 => ⟨O', _, [a, .tup [.int 0, .tup []]], re.ext x1, rfl, fun us H2 x2 rr => ⟨by rw [reps_len rr]; rfl, O', _, _, ((re.ext x1).ext x2).dom, rr, rfl, fun H3 x3 => hyes H3 (x1.trans (x2.trans x3))⟩⟩⟩
          rw [eq_of_beq hw]; rfl
        · obtain ⟨h1, ea⟩ := ok.resolve_left hw
          cases isE_eq ea
          refine ⟨O', _, false, re, ?_, fun H1 x1 => ⟨O', _, [.tup [.int 0, .tup []], .tup [.int 0, .tup []]], re.ext x1, rfl, fun us H2 x2 rr => ⟨by rw [reps_len rr]; rfl, O', _, _, ((re.ext x1).ext x2).dom, rr, rfl, fun H3 x3 => hyes H3 (x1.trans (x2.trans x3))⟩⟩⟩
          rw [eq_of_beq h1]; rfl
      · cases e
    · cases e
  · unfold g_L_unbounded at h
    split at h
    · rfl
    · cases h
end
end Wl
set_option maxHeartbeats 1000000
/-! graphs on 0..n-1: sums, renamings, homs -/
namespace Wm
abbrev Gr := Nat → Nat → Bool
def sm : Nat → (Nat → Nat) → Nat
  | 0, _ => 0
  | n + 1, f => sm n f + f n
theorem sm_succ (n : Nat) (f : Nat → Nat) : sm (n + 1) f = sm n f + f n := rfl
theorem sm_congr {n : Nat} {f g : Nat → Nat} (h : ∀ i, i < n → f i = g i) : sm n f = sm n g := by
  induction n with
  | zero => rfl
  | succ n ih => unfold sm; rw [ih fun i hi => h i (by omega), h n (by omega)]
theorem sm_add (n m : Nat) (f : Nat → Nat) : sm (n + m) f = sm n f + sm m (fun x => f (n + x)) := by
  induction m with
  | zero => rfl
  | succ m ih => rw [show n + (m + 1) = (n + m) + 1 from rfl, sm_succ, sm_succ, ih, Nat.add_assoc]
theorem sm_plus (n : Nat) (f g : Nat → Nat) : sm n (fun i => f i + g i) = sm n f + sm n g := by
  induction n with
  | zero => rfl
  | succ n ih => simp only [sm_succ, ih]; omega
theorem sm_mulr (n : Nat) (f : Nat → Nat) (c : Nat) : sm n (fun i => f i * c) = sm n f * c := by
  induction n with
  | zero => simp [sm]
  | succ n ih => simp only [sm_succ, ih, Nat.add_mul]
theorem sm_mull (n : Nat) (f : Nat → Nat) (c : Nat) : sm n (fun i => c * f i) = c * sm n f := by
  induction n with
  | zero => simp [sm]
  | succ n ih => simp only [sm_succ, ih, Nat.mul_add]
theorem sm_zero (n : Nat) : sm n (fun _ => 0) = 0 := by
  induction n with
  | zero => rfl
  | succ n ih => simp only [sm_succ, ih]
theorem sm_swap (n m : Nat) (g : Nat → Nat → Nat) : sm n (fun u => sm m (fun v => g u v)) = sm m (fun v => sm n (fun u => g u v)) := by
  induction n with
  | zero => simp only [sm]; rw [sm_zero]
  | succ n ih =>
    simp only [sm]
    rw [ih, sm_plus]
theorem sm_prod (n m : Nat) (g : Nat → Nat → Nat) : sm (n * m) (fun i => g (i / m) (i % m)) = sm n (fun u => sm m (fun x => g u x)) := by
  induction n with
  | zero => simp [sm]
  | succ n ih =>
    rw [Nat.succ_mul, sm_add, ih, sm_succ]
    congr 1
    refine sm_congr fun x hx => ?_
    rw [Nat.mul_comm n m, Nat.mul_add_div (by omega), Nat.mul_add_mod, Nat.div_eq_of_lt hx, Nat.mod_eq_of_lt hx, Nat.add_zero]
theorem sm_delta (n : Nat) (f : Nat → Nat) (u : Nat) (hu : u < n) : sm n (fun v => if v = u then f v else 0) = f u := by
  induction n with
  | zero => omega
  | succ n ih =>
    simp only [sm_succ]
    by_cases h : u = n
    · subst h
      rw [if_pos rfl, sm_congr (g := fun _ => 0) fun i hi => if_neg (by omega), sm_zero, Nat.zero_add]
    · rw [ih (by omega), if_neg (by omega), Nat.add_zero]
theorem sm_list (n : Nat) (f : Nat → Nat) : sm n f = ((List.range n).map f).sum := by
  induction n with
  | zero => rfl
  | succ n ih => rw [sm_succ, ih, List.range_succ, List.map_append, List.sum_append]; simp
theorem perm_sum {l m : List Nat} (h : l.Perm m) : l.sum = m.sum := by
  induction h with
  | nil => rfl
  | cons x _ ih => simp only [List.sum_cons, ih]
  | swap x y l => simp only [List.sum_cons]; omega
  | trans _ _ h1 h2 => rw [h1, h2]
/-! permutations as lists -/
structure Pm (n : Nat) (p : List Nat) : Prop where
  len : p.length = n
  nd : p.Nodup
  lt : ∀ x ∈ p, x < n
abbrev at_ (p : List Nat) (i : Nat) : Nat := p.getD i 0
theorem at_get {p : List Nat} {i : Nat} (h : i < p.length) : at_ p i = p[i] := by simp [at_, List.getD, List.getElem?_eq_getElem h]
theorem at_mem {p : List Nat} {i : Nat} (h : i < p.length) : at_ p i ∈ p := by rw [at_get h]; exact List.getElem_mem h
theorem map_at (p : List Nat) : (List.range p.length).map (at_ p) = p := by
  refine List.ext_getElem (by simp) fun i h1 h2 => ?_
  rw [List.getElem_map, List.getElem_range, at_get h2]
theorem nd_perm : ∀ {n : Nat} {p : List Nat}, p.length = n → p.Nodup → (∀ x ∈ p, x < n) → p.Perm (List.range n)
  | 0, p, hl, _, _ => by rw [List.eq_nil_of_length_eq_zero hl]; exact List.Perm.refl _
  | n + 1, p, hl, nd, lt => by
    by_cases hm : n ∈ p
    · have h1 : (p.erase n).length = n := by rw [List.length_erase_of_mem hm]; omega
      have h2 := nd.erase n
      have h3 : ∀ x ∈ p.erase n, x < n := fun x hx => by
        have hx' := (List.Nodup.mem_erase_iff nd).mp hx
        have := lt x hx'.2
        have := hx'.1
        omega
      have ih := nd_perm h1 h2 h3
      rw [List.range_succ]
      exact (List.perm_cons_erase hm).trans ((List.Perm.cons n ih).trans (List.perm_append_comm (l₁ := [n])))
    · exfalso
      have lt' : ∀ x ∈ p, x < n := fun x hx => by
        have := lt x hx
        have : x ≠ n := fun e => hm (e ▸ hx)
        omega
      cases p with
      | nil => simp at hl
      | cons a r =>
        have nd' := List.nodup_cons.mp nd
        have ih := nd_perm (n := n) (p := r) (by simpa using hl) nd'.2 fun x hx => lt' x (List.mem_cons_of_mem _ hx)
        exact nd'.1 (ih.mem_iff.mpr (List.mem_range.mpr (lt' a List.mem_cons_self)))
theorem Pm.perm {n : Nat} {p : List Nat} (h : Pm n p) : p.Perm (List.range n) := nd_perm h.len h.nd h.lt
theorem Pm.at_lt {n : Nat} {p : List Nat} (h : Pm n p) {i : Nat} (hi : i < n) : at_ p i < n := h.lt _ (at_mem (by rw [h.len]; exact hi))
theorem sm_perm {n : Nat} {p : List Nat} (h : Pm n p) (f : Nat → Nat) : sm n (fun i => f (at_ p i)) = sm n f := by
  have e : (List.range n).map (fun i => f (at_ p i)) = p.map f := by
    have q := map_at p
    rw [h.len] at q
    have q2 : (List.range n).map (fun i => f (at_ p i)) = ((List.range n).map (at_ p)).map f := by rw [List.map_map]; rfl
    rw [q2, q]
  rw [sm_list, sm_list, e]
  exact perm_sum (h.perm.map f)
/-! renamings -/
def IsoBy (n : Nat) (A B : Gr) (p : List Nat) : Prop := Pm n p ∧ ∀ i j, i < n → j < n → A i j = B (at_ p i) (at_ p j)
def Iso (n : Nat) (A B : Gr) : Prop := ∃ p, IsoBy n A B p
theorem pm_range (n : Nat) : Pm n (List.range n) := ⟨by simp, List.nodup_range, fun x hx => List.mem_range.mp hx⟩
theorem at_range {n i : Nat} (h : i < n) : at_ (List.range n) i = i := by rw [at_get (by simpa using h)]; simp
theorem iso_of_eq {n : Nat} {A B : Gr} (h : ∀ i j, i < n → j < n → A i j = B i j) : Iso n A B := ⟨_, pm_range n, fun i j hi hj => by rw [at_range hi, at_range hj]; exact h i j hi hj⟩
theorem at_map {p : List Nat} {f : Nat → Nat} {i : Nat} (h : i < p.length) : at_ (p.map f) i = f (at_ p i) := by rw [at_get (by simpa using h), List.getElem_map, at_get h]
theorem nodup_map_inj {f : Nat → Nat} : ∀ {l : List Nat}, l.Nodup → (∀ x ∈ l, ∀ y ∈ l, f x = f y → x = y) → (l.map f).Nodup
  | [], _, _ => by simp
  | a :: r, nd, hi => by
    have nd' := List.nodup_cons.mp nd
    rw [List.map_cons, List.nodup_cons]
    refine ⟨fun hm => ?_, nodup_map_inj nd'.2 fun x hx y hy => hi x (List.mem_cons_of_mem _ hx) y (List.mem_cons_of_mem _ hy)⟩
    obtain ⟨b, hb, e⟩ := List.mem_map.mp hm
    have := hi a List.mem_cons_self b (List.mem_cons_of_mem _ hb) e.symm
    exact nd'.1 (this ▸ hb)
theorem nd_inj {p : List Nat} (nd : p.Nodup) {i j : Nat} (hi : i < p.length) (hj : j < p.length) (e : at_ p i = at_ p j) : i = j := by
  rw [at_get hi, at_get hj] at e
  rcases Nat.lt_trichotomy i j with h | h | h
  · exact absurd e (List.pairwise_iff_getElem.mp nd i j hi hj h)
  · exact h
  · exact absurd e.symm (List.pairwise_iff_getElem.mp nd j i hj hi h)
theorem Pm.comp {n : Nat} {p q : List Nat} (hp : Pm n p) (hq : Pm n q) : Pm n (p.map (at_ q)) := by
  refine ⟨by simp [hp.len], nodup_map_inj hp.nd fun x hx y hy e => nd_inj hq.nd (by rw [hq.len]; exact hp.lt x hx) (by rw [hq.len]; exact hp.lt y hy) e, fun x hx => ?_⟩
  obtain ⟨y, hy, rfl⟩ := List.mem_map.mp hx
  exact hq.at_lt (hp.lt y hy)
theorem Iso.trans {n : Nat} {A B C : Gr} (h : Iso n A B) (h' : Iso n B C) : Iso n A C := by
  obtain ⟨p, hp, e⟩ := h
  obtain ⟨q, hq, e'⟩ := h'
  refine ⟨_, hp.comp hq, fun i j hi hj => ?_⟩
  rw [e i j hi hj, e' _ _ (hp.at_lt hi) (hp.at_lt hj), at_map (by rw [hp.len]; exact hi), at_map (by rw [hp.len]; exact hj)]
/-! homs -/
def cnt (n : Nat) : Nat → (List Nat → Nat) → Nat
  | 0, P => P []
  | k + 1, P => sm n fun u => cnt n k fun l => P (u :: l)
theorem cnt_congr {n : Nat} : ∀ {k : Nat} {P Q : List Nat → Nat}, (∀ l, l.length = k → (∀ x ∈ l, x < n) → P l = Q l) → cnt n k P = cnt n k Q
  | 0, P, Q, h => h [] rfl fun x hx => by cases hx
  | k + 1, P, Q, h => by
    unfold cnt
    exact sm_congr fun u hu => cnt_congr fun l hl hx => h (u :: l) (by simp [hl]) fun x hm => by
      rcases List.mem_cons.mp hm with rfl | hm
      · exact hu
      · exact hx x hm
theorem cnt_perm {n : Nat} {p : List Nat} (hp : Pm n p) : ∀ {k : Nat} {P : List Nat → Nat}, cnt n k (fun l => P (l.map (at_ p))) = cnt n k P
  | 0, P => rfl
  | k + 1, P => by
    unfold cnt
    have e : ∀ u, cnt n k (fun l => P ((u :: l).map (at_ p))) = cnt n k (fun l => P (at_ p u :: l)) := fun u => cnt_perm hp (P := fun l => P (at_ p u :: l))
    rw [sm_congr fun u _ => e u]
    exact sm_perm hp fun u => cnt n k fun l => P (u :: l)
theorem cnt_mul {n m : Nat} : ∀ {k : Nat} {P Q : List Nat → Nat}, cnt (n * m) k (fun l => P (l.map (· / m)) * Q (l.map (· % m))) = cnt n k P * cnt m k Q
  | 0, P, Q => rfl
  | k + 1, P, Q => by
    unfold cnt
    have e : ∀ i, cnt (n * m) k (fun l => P ((i :: l).map (· / m)) * Q ((i :: l).map (· % m))) = cnt n k (fun l => P (i / m :: l)) * cnt m k (fun l => Q (i % m :: l)) := fun i => cnt_mul (P := fun l => P (i / m :: l)) (Q := fun l => Q (i % m :: l))
    rw [sm_congr fun i _ => e i, sm_prod n m fun u x => cnt n k (fun l => P (u :: l)) * cnt m k (fun l => Q (x :: l))]
    rw [sm_congr fun u _ => sm_mull m (fun x => cnt m k fun l => Q (x :: l)) (cnt n k fun l => P (u :: l)), sm_mulr]
/-- a small graph: its size, its edges -/
abbrev Fg := Nat × List (Nat × Nat)
def okF (F : Fg) : Bool := F.2.all fun e => decide (e.1 < F.1) && decide (e.2 < F.1)
def ind (F : Fg) (A : Gr) (l : List Nat) : Bool := F.2.all fun e => A (at_ l e.1) (at_ l e.2)
def hom (F : Fg) (n : Nat) (A : Gr) : Nat := cnt n F.1 fun l => if ind F A l then 1 else 0
theorem okF_lt {F : Fg} (h : okF F = true) {e : Nat × Nat} (he : e ∈ F.2) : e.1 < F.1 ∧ e.2 < F.1 := by
  have := List.all_eq_true.mp h e he
  simpa using this
theorem hom_iso {F : Fg} (hF : okF F = true) {n : Nat} {A B : Gr} (h : Iso n A B) : hom F n A = hom F n B := by
  obtain ⟨p, hp, e⟩ := h
  unfold hom
  rw [← cnt_perm hp (P := fun l => if ind F B l then 1 else 0)]
  refine cnt_congr fun l hl hx => ?_
  have : ind F A l = ind F B (l.map (at_ p)) := by
    unfold ind
    rw [Bool.eq_iff_iff, List.all_eq_true, List.all_eq_true]
    refine forall_congr' fun z => forall_congr' fun hz => ?_
    obtain ⟨h1, h2⟩ := okF_lt hF hz
    rw [at_map (by omega), at_map (by omega), e _ _ (hx _ (at_mem (by omega))) (hx _ (at_mem (by omega)))]
  rw [this]
def pA (m : Nat) (A C : Gr) : Gr := fun i j => A (i / m) (j / m) && C (i % m) (j % m)
theorem hom_prod {F : Fg} (hF : okF F = true) {n m : Nat} {A C : Gr} : hom F (n * m) (pA m A C) = hom F n A * hom F m C := by
  unfold hom
  rw [← cnt_mul (P := fun l => if ind F A l then 1 else 0) (Q := fun l => if ind F C l then 1 else 0)]
  refine cnt_congr fun l hl hx => ?_
  have : ind F (pA m A C) l = (ind F A (l.map (· / m)) && ind F C (l.map (· % m))) := by
    unfold ind pA
    rw [Bool.eq_iff_iff, Bool.and_eq_true, List.all_eq_true, List.all_eq_true, List.all_eq_true]
    constructor
    · intro h
      refine ⟨fun z hz => ?_, fun z hz => ?_⟩ <;> obtain ⟨h1, h2⟩ := okF_lt hF hz <;> have := h z hz <;> rw [Bool.and_eq_true] at this <;> rw [at_map (by omega), at_map (by omega)]
      · exact this.1
      · exact this.2
    · intro ⟨h, h'⟩ z hz
      obtain ⟨h1, h2⟩ := okF_lt hF hz
      have a := h z hz
      have b := h' z hz
      rw [at_map (by omega), at_map (by omega)] at a b
      rw [Bool.and_eq_true]
      exact ⟨a, b⟩
  rw [this]
  cases ind F A (l.map (· / m)) <;> cases ind F C (l.map (· % m)) <;> rfl
end Wm
set_option maxHeartbeats 1000000
/-! edges, degrees, the search -/
namespace Wm
def edgesOf (n : Nat) (A : Gr) : List (Nat × Nat) := (List.range n).flatMap fun u => ((List.range n).filter fun v => decide (u ≤ v) && A u v).map fun v => (u, v)
theorem len_flat {α : Type} (n : Nat) (f : Nat → List α) : ((List.range n).flatMap f).length = sm n fun u => (f u).length := by
  induction n with
  | zero => rfl
  | succ n ih => rw [List.range_succ, List.flatMap_append, List.length_append, ih, sm_succ]; simp
theorem len_filter (n : Nat) (p : Nat → Bool) : ((List.range n).filter p).length = sm n fun v => if p v then 1 else 0 := by
  induction n with
  | zero => rfl
  | succ n ih =>
    rw [List.range_succ, List.filter_append, List.length_append, ih, sm_succ]
    congr 1
    cases h : p n <;> simp [h]
abbrev K2 : Fg := (2, [(0, 1)])
abbrev K1 : Fg := (1, [(0, 0)])
theorem hom_K2 (n : Nat) (A : Gr) : hom K2 n A = sm n fun u => sm n fun v => if A u v then 1 else 0 := by
  unfold hom cnt
  refine sm_congr fun u _ => ?_
  unfold cnt
  refine sm_congr fun v _ => ?_
  simp [cnt, ind, at_]
theorem hom_K1 (n : Nat) (A : Gr) : hom K1 n A = sm n fun u => if A u u then 1 else 0 := by
  unfold hom cnt
  refine sm_congr fun u _ => ?_
  simp [cnt, ind, at_]
theorem edges_len (n : Nat) (A : Gr) : (edgesOf n A).length = sm n fun u => sm n fun v => if (decide (u ≤ v) && A u v) then 1 else 0 := by
  unfold edgesOf
  rw [len_flat]
  refine sm_congr fun u _ => ?_
  rw [List.length_map, len_filter]
theorem edges_two {n : Nat} {A : Gr} (h : ∀ i j, A i j = A j i) : 2 * (edgesOf n A).length = hom K2 n A + hom K1 n A := by
  rw [edges_len, hom_K2, hom_K1]
  have e1 : (sm n fun u => sm n fun v => if (decide (u ≤ v) && A u v) then 1 else 0) = sm n fun u => sm n fun v => if (decide (v ≤ u) && A u v) then 1 else 0 := by
    rw [sm_swap]
    refine sm_congr fun u _ => sm_congr fun v _ => ?_
    rw [h v u]
  have e2 : (sm n fun u => if A u u then 1 else 0) = sm n fun u => sm n fun v => if v = u then (if A u v then 1 else 0) else 0 := by
    refine sm_congr fun u hu => ?_
    rw [sm_delta n (fun v => if A u v then 1 else 0) u hu]
  rw [Nat.two_mul]
  conv => lhs; arg 2; rw [e1]
  rw [e2, ← sm_plus, ← sm_plus]
  refine sm_congr fun u _ => ?_
  rw [← sm_plus, ← sm_plus]
  refine sm_congr fun v _ => ?_
  cases A u v
  · simp
  · rcases Nat.lt_trichotomy u v with q | q | q
    · have h1 : u ≤ v := by omega
      have h2 : ¬ v ≤ u := by omega
      have h3 : ¬ v = u := by omega
      simp [h1, h2, h3]
    · subst q; simp
    · have h1 : ¬ u ≤ v := by omega
      have h2 : v ≤ u := by omega
      have h3 : ¬ v = u := by omega
      simp [h1, h2, h3]
theorem filter_flat {α : Type} (q : α → Bool) (n : Nat) (f : Nat → List α) : ((List.range n).flatMap f).filter q = (List.range n).flatMap fun u => (f u).filter q := by
  induction n with
  | zero => rfl
  | succ n ih => rw [List.range_succ, List.flatMap_append, List.filter_append, ih, List.flatMap_append]; simp
theorem edges_loops (n : Nat) (A : Gr) : ((edgesOf n A).filter fun e => e.1 == e.2).length = hom K1 n A := by
  unfold edgesOf
  rw [filter_flat, len_flat, hom_K1]
  refine sm_congr fun u hu => ?_
  rw [List.filter_map, List.length_map, List.filter_filter, len_filter]
  rw [← sm_delta n (fun v => if A u v then 1 else 0) u hu]
  refine sm_congr fun v _ => ?_
  by_cases e : v = u
  · subst e; simp
  · have e' : (u == v) = false := by simpa using fun z => e z.symm
    simp [e, e']
theorem edges_iso {n : Nat} {A B : Gr} (hA : ∀ i j, A i j = A j i) (hB : ∀ i j, B i j = B j i) (h : Iso n A B) : (edgesOf n A).length = (edgesOf n B).length := by
  have a := edges_two (n := n) hA
  have b := edges_two (n := n) hB
  rw [hom_iso (F := K2) (by decide) h, hom_iso (F := K1) (by decide) h] at a
  omega
/-! the search -/
def deg (n : Nat) (A : Gr) (u : Nat) : Nat := ((List.range n).filter fun v => A u v).length
theorem deg_sm (n : Nat) (A : Gr) (u : Nat) : deg n A u = sm n fun v => if A u v then 1 else 0 := len_filter n _
theorem deg_iso {n : Nat} {A B : Gr} {p : List Nat} (h : IsoBy n A B p) {u : Nat} (hu : u < n) : deg n A u = deg n B (at_ p u) := by
  rw [deg_sm, deg_sm, ← sm_perm h.1 fun v => if B (at_ p u) v then 1 else 0]
  exact sm_congr fun v hv => by rw [h.2 u v hu hv]
structure Good (n : Nat) (A B : Gr) (row : List Nat) : Prop where
  le : row.length ≤ n
  nd : row.Nodup
  lt : ∀ x ∈ row, x < n
  con : ∀ i j, i < row.length → j < row.length → A i j = B (at_ row i) (at_ row j)
structure May (n : Nat) (A B : Gr) (row : List Nat) (p : Nat) : Prop where
  new : p ∉ row
  dg : deg n A row.length = deg n B p
  lp : A row.length row.length = B p p
  con : ∀ i, i < row.length → A row.length i = B p (at_ row i)
def Ext (n : Nat) (A B : Gr) (row : List Nat) : Prop := ∃ p t, IsoBy n A B p ∧ p = row ++ t
theorem at_app {a b : List Nat} {i : Nat} (h : i < a.length) : at_ (a ++ b) i = at_ a i := by
  rw [at_get h, at_get (by rw [List.length_append]; omega), List.getElem_append_left h]
theorem at_last {a b : List Nat} {x : Nat} : at_ (a ++ x :: b) a.length = x := by
  rw [at_get (by simp), List.getElem_append_right (Nat.le_refl _)]
  simp
section
variable {n : Nat} {A B : Gr} {row : List Nat}
theorem Good.nil : Good n A B [] := ⟨Nat.zero_le _, List.nodup_nil, fun x hx => (by cases hx), fun i j hi => absurd hi (Nat.not_lt_zero i)⟩
theorem Good.step (hA : ∀ i j, A i j = A j i) (hB : ∀ i j, B i j = B j i) (g : Good n A B row) {p : Nat} (hp : p < n) (hl : row.length < n) (m : May n A B row p) : Good n A B (row ++ [p]) := by
  refine ⟨by simp; omega, ?_, fun x hx => ?_, fun i j hi hj => ?_⟩
  · rw [List.nodup_append]
    exact ⟨g.nd, by simp, fun a ha b hb e => m.new (by rw [List.mem_singleton] at hb; rw [← hb, ← e]; exact ha)⟩
  · rcases List.mem_append.mp hx with hx | hx
    · exact g.lt x hx
    · rw [List.mem_singleton.mp hx]; exact hp
  · rw [List.length_append, List.length_singleton] at hi hj
    by_cases h1 : i < row.length <;> by_cases h2 : j < row.length
    · rw [at_app h1, at_app h2]; exact g.con i j h1 h2
    · have : j = row.length := by omega
      subst this
      rw [at_app h1, at_last, hA, m.con i h1, hB]
    · have : i = row.length := by omega
      subst this
      rw [at_app h2, at_last]; exact m.con j h2
    · have e1 : i = row.length := by omega
      have e2 : j = row.length := by omega
      subst e1; subst e2
      rw [at_last]; exact m.lp
theorem ext_full (g : Good n A B row) (h : row.length = n) : Ext n A B row := ⟨row, [], ⟨⟨h, g.nd, g.lt⟩, fun i j hi hj => g.con i j (by omega) (by omega)⟩, by simp⟩
theorem ext_up {p : Nat} (h : Ext n A B (row ++ [p])) : Ext n A B row := by
  obtain ⟨q, t, i, e⟩ := h
  exact ⟨q, p :: t, i, by rw [e]; simp⟩
theorem ext_down (hl : row.length < n) (h : Ext n A B row) : ∃ p, p < n ∧ May n A B row p ∧ Ext n A B (row ++ [p]) := by
  obtain ⟨q, t, i, e⟩ := h
  cases t with
  | nil => have := i.1.len; rw [e] at this; simp at this; omega
  | cons x t =>
    have hx : at_ q row.length = x := by rw [e]; exact at_last
    have hr : ∀ k, k < row.length → at_ q k = at_ row k := fun k hk => by rw [e]; exact at_app hk
    refine ⟨x, i.1.lt x (by rw [e]; simp), ⟨?_, ?_, ?_, fun k hk => ?_⟩, q, t, i, by rw [e]; simp⟩
    · have nd := i.1.nd
      rw [e, List.nodup_append] at nd
      exact fun hm => nd.2.2 x hm x List.mem_cons_self rfl
    · rw [← hx]; exact deg_iso i hl
    · rw [← hx]; exact i.2 _ _ hl hl
    · rw [← hx, ← hr k hk]; exact i.2 _ _ hl (by omega)
theorem ext_step (hl : row.length < n) : Ext n A B row ↔ ∃ p, p < n ∧ May n A B row p ∧ Ext n A B (row ++ [p]) := ⟨ext_down hl, fun ⟨_, _, _, h⟩ => ext_up h⟩
theorem ext_nil : Ext n A B [] ↔ Iso n A B := ⟨fun ⟨p, _, i, _⟩ => ⟨p, i⟩, fun ⟨p, i⟩ => ⟨p, p, i, rfl⟩⟩
end
end Wm
set_option maxRecDepth 100000
set_option maxHeartbeats 4000000
/-! graphs of at most three nodes: tables, and what they say of products -/
namespace Wm
def bit (u v : Nat) : Nat := max u v * (max u v + 1) / 2 + min u v
def adjc (k : Nat) : Gr := fun u v => k.testBit (bit u v)
theorem adjc_symm (k i j : Nat) : adjc k i j = adjc k j i := by unfold adjc bit; rw [Nat.max_comm, Nat.min_comm]
def N (s : Nat) : Nat := 2 ^ (s * (s + 1) / 2)
def tS : List (List Nat) := [[0], [0, 1], [0, 1, 2, 3, 5, 7], [0, 1, 2, 3, 5, 7, 10, 11, 12, 13, 14, 15, 26, 27, 29, 31, 37, 39, 47, 63]]
def tC : List (List Nat) := [[0], [0, 1], [0, 1, 2, 3, 1, 5, 3, 7], [0, 1, 2, 3, 1, 5, 3, 7, 2, 3, 10, 11, 12, 13, 14, 15, 2, 12, 10, 14, 3, 13, 11, 15, 10, 14, 26, 27, 14, 29, 27, 31, 1, 5, 12, 13, 5, 37, 13, 39, 3, 7, 14, 15, 13, 39, 29, 47, 3, 13, 14, 29, 7, 39, 15, 47, 11, 15, 27, 31, 15, 47, 31, 63]]
def tW : List (List (List Nat)) := [[[0]], [[0], [1]], [[0], [1], [2, 5], [3], [1], [2, 5], [3], [7]], [[0], [1], [2, 5], [3], [1], [2, 5], [3], [7], [2, 5], [3], [10], [11], [12, 37], [13], [14], [15], [2, 5], [12, 37], [10], [14], [3], [13], [11], [15], [10], [14], [26, 29], [27, 47], [14], [26, 29], [27, 47], [31], [1], [2, 5], [12, 37], [13], [2, 5], [12, 37], [13], [39], [3], [7], [14], [15], [13], [39], [26, 29], [27, 47], [3], [13], [14], [26, 29], [7], [39], [15], [27, 47], [11], [15], [27, 47], [31], [15], [27, 47], [31], [63]]]
def tP : List (List (List Nat)) := [[[0, 0, 0, 0]], [[0, 0, 0, 0], [1, 1, 1, 1]], [[0, 0, 0, 0], [1, 1, 1, 1], [2, 0, 0, 2], [5, 1, 4, 8], [1, 1, 1, 1], [2, 2, 2, 2], [5, 1, 4, 8], [8, 2, 8, 16]], [[0, 0, 0, 0], [1, 1, 1, 1], [2, 0, 0, 2], [5, 1, 4, 8], [1, 1, 1, 1], [2, 2, 2, 2], [5, 1, 4, 8], [8, 2, 8, 16], [2, 0, 0, 2], [5, 1, 4, 8], [6, 0, 0, 8], [11, 1, 7, 21], [3, 1, 1, 3], [6, 2, 5, 9], [9, 1, 4, 16], [14, 2, 11, 31], [2, 0, 0, 2], [3, 1, 1, 3], [6, 0, 0, 8], [9, 1, 4, 16], [5, 1, 4, 8], [6, 2, 5, 9], [11, 1, 7, 21], [14, 2, 11, 31], [6, 0, 0, 8], [9, 1, 4, 16], [12, 0, 6, 24], [17, 1, 13, 41], [9, 1, 4, 16], [12, 2, 8, 24], [17, 1, 13, 41], [22, 2, 20, 60], [1, 1, 1, 1], [2, 2, 2, 2], [3, 1, 1, 3], [6, 2, 5, 9], [2, 2, 2, 2], [3, 3, 3, 3], [6, 2, 5, 9], [9, 3, 9, 17], [5, 1, 4, 8], [8, 2, 8, 16], [9, 1, 4, 16], [14, 2, 11, 31], [6, 2, 5, 9], [9, 3, 9, 17], [12, 2, 8, 24], [17, 3, 15, 41], [5, 1, 4, 8], [6, 2, 5, 9], [9, 1, 4, 16], [12, 2, 8, 24], [8, 2, 8, 16], [9, 3, 9, 17], [14, 2, 11, 31], [17, 3, 15, 41], [11, 1, 7, 21], [14, 2, 11, 31], [17, 1, 13, 41], [22, 2, 20, 60], [14, 2, 11, 31], [17, 3, 15, 41], [22, 2, 20, 60], [27, 3, 27, 81]]]
def tK : List (List Nat) := [[0], [0, 1], [0, 1, 3, 1, 1, 1, 1, 1], [0, 1, 3, 1, 1, 1, 1, 1, 3, 1, 3, 1, 1, 1, 1, 1, 3, 1, 3, 1, 1, 1, 1, 1, 3, 1, 2, 1, 1, 1, 1, 1, 1, 1, 1, 1, 1, 1, 1, 1, 1, 1, 1, 1, 1, 1, 1, 1, 1, 1, 1, 1, 1, 1, 1, 1, 1, 1, 1, 1, 1, 1, 1, 1]]
def sorts (s : Nat) : List Nat := tS.getD s []
def canon (s k : Nat) : Nat := (tC.getD s []).getD k 0
def tw (s k : Nat) : List Nat := (tW.getD s []).getD k []
def prof (s k : Nat) : List Nat := (tP.getD s []).getD k []
def cls (s k : Nat) : Nat := (tK.getD s []).getD k 0
def perms (s : Nat) : List (List Nat) := match s with
  | 0 => [[]] | 1 => [[0]] | 2 => [[0, 1], [1, 0]] | _ => [[0, 1, 2], [0, 2, 1], [1, 0, 2], [1, 2, 0], [2, 0, 1], [2, 1, 0]]
def halves (s : Nat) : List (List Bool) := match s with
  | 0 => [[]] | 1 => [[false]] | 2 => [[false, false], [false, true]] | _ => [[false, false, false], [false, false, true], [false, true, false], [false, true, true]]
abbrev P3 : Fg := (3, [(0, 1), (0, 2)])
abbrev C3 : Fg := (3, [(0, 1), (0, 2), (1, 2)])
abbrev P4 : Fg := (4, [(0, 1), (0, 2), (1, 3)])
def eqv (s : Nat) (A B : Gr) (p q : List Nat) : Bool := (List.range s).all fun u => (List.range s).all fun v => A u v == B (at_ p u) (at_ q v)
theorem eqv_ok {s : Nat} {A B : Gr} {p q : List Nat} (h : eqv s A B p q = true) : ∀ u v, u < s → v < s → A u v = B (at_ p u) (at_ q v) := fun u v hu hv => by
  unfold eqv at h
  rw [List.all_eq_true] at h
  have := h u (List.mem_range.mpr hu)
  rw [List.all_eq_true] at this
  exact eq_of_beq (this v (List.mem_range.mpr hv))
/-- for each size up to 3 and each code -/
def allW (f : Nat → Nat → Bool) : Bool := (List.range 4).all fun s => (List.range (N s)).all fun k => f s k
theorem allW_ok {f : Nat → Nat → Bool} (h : allW f = true) {s k : Nat} (hs : s < 4) (hk : k < N s) : f s k = true := by
  unfold allW at h
  rw [List.all_eq_true] at h
  have := h s (List.mem_range.mpr hs)
  rw [List.all_eq_true] at this
  exact this k (List.mem_range.mpr hk)
theorem f1 : allW (fun s k => (perms s).any fun p => eqv s (adjc (canon s k)) (adjc k) p p) = true := by decide +kernel
theorem f1' : allW (fun s k => (perms s).any fun p => eqv s (adjc k) (adjc (canon s k)) p p) = true := by decide +kernel
theorem f2 : allW (fun s k => (tw s k).all fun w => (perms s).any fun p => (perms s).any fun q => eqv s (adjc w) (adjc k) p q) = true := by decide +kernel
theorem f3 : allW (fun m c => cls m c != 3 || (halves m).any fun h => (List.range m).all fun x => (List.range m).all fun y => !adjc c x y || (h.getD x false != h.getD y false)) = true := by decide +kernel
theorem f4 : allW (fun m c => cls m c != 0 || (List.range m).all fun x => (List.range m).all fun y => !adjc c x y) = true := by decide +kernel
theorem f5 : allW (fun s k => prof s k == [hom P3 s (adjc k), hom K1 s (adjc k), hom C3 s (adjc k), hom P4 s (adjc k)]) = true := by decide +kernel
def pr (s k i : Nat) : Nat := (prof s k).getD i 0
theorem f6 : allW (fun m c => m == 0 || match cls m c with
  | 0 => true
  | 1 => pr m c 0 != 0 && pr m c 1 != 0
  | 2 => pr m c 0 != 0 && pr m c 2 != 0
  | 3 => pr m c 0 != 0 && pr m c 3 != 0
  | _ => false) = true := by decide +kernel
theorem f7 : allW (fun s k => (sorts s).all fun w => (w == canon s k || pr s w 0 != pr s k 0 || pr s w 1 != pr s k 1) && (w == canon s k || pr s w 0 != pr s k 0 || pr s w 2 != pr s k 2) &&
  ((tw s k).contains w || pr s w 0 != pr s k 0 || pr s w 3 != pr s k 3)) = true := by decide +kernel
theorem f8 : allW (fun s k => (sorts s).contains (canon s k) && decide (canon s k < N s) && (canon s (canon s k) == canon s k) && (tw s k).all (fun w => tw s w == tw s k && decide (w < N s)) && (tw s (canon s k) == tw s k)) = true := by decide +kernel
theorem f9 : allW (fun s k => ((sorts s).filter fun w => (tw s k).contains w) == tw s k && ((sorts s).filter fun w => [canon s k].contains w) == [canon s k] && !(tw s k).isEmpty && !(sorts s).isEmpty && (sorts s).all fun w => canon s w == w && decide (w < N s)) = true := by decide +kernel
end Wm
set_option maxRecDepth 100000
set_option maxHeartbeats 4000000
/-! which webs have alike products -/
namespace Wm
/-- one renaming for each node of the second factor -/
theorem pos {n m : Nat} (hm : 0 < m) {A A' C : Gr} (P : Nat → List Nat) (hP : ∀ x, x < m → Pm n (P x)) (h : ∀ x y, x < m → y < m → C x y = true → ∀ u v, u < n → v < n → A u v = A' (at_ (P x) u) (at_ (P y) v)) : Iso (n * m) (pA m A C) (pA m A' C) := by
  let f : Nat → Nat := fun i => at_ (P (i % m)) (i / m) * m + i % m
  have hr : ∀ i, i % m < m := fun i => Nat.mod_lt _ hm
  have hq : ∀ i, i < n * m → i / m < n := fun i hi => Nat.div_lt_of_lt_mul (by rw [Nat.mul_comm]; exact hi)
  have fd : ∀ i, f i / m = at_ (P (i % m)) (i / m) := fun i => by
    show (_ * m + i % m) / m = _
    rw [Nat.mul_comm, Nat.mul_add_div hm, Nat.div_eq_of_lt (hr i), Nat.add_zero]
  have fm : ∀ i, f i % m = i % m := fun i => by
    show (_ * m + i % m) % m = _
    rw [Nat.mul_comm, Nat.mul_add_mod, Nat.mod_eq_of_lt (hr i)]
  have inj : ∀ i, i < n * m → ∀ j, j < n * m → f i = f j → i = j := fun i hi j hj e => by
    have e1 : i % m = j % m := by rw [← fm i, ← fm j, e]
    have e2 : at_ (P (i % m)) (i / m) = at_ (P (j % m)) (j / m) := by rw [← fd i, ← fd j, e]
    rw [e1] at e2
    have pj := hP _ (hr j)
    have e3 := nd_inj pj.nd (by rw [pj.len]; exact hq i hi) (by rw [pj.len]; exact hq j hj) e2
    rw [← Nat.div_add_mod i m, ← Nat.div_add_mod j m, e1, e3]
  have pm : Pm (n * m) ((List.range (n * m)).map f) := by
    refine ⟨by simp, nodup_map_inj List.nodup_range fun x hx y hy e => inj x (List.mem_range.mp hx) y (List.mem_range.mp hy) e, fun x hx => ?_⟩
    obtain ⟨i, hi, rfl⟩ := List.mem_map.mp hx
    have hi := List.mem_range.mp hi
    have a : at_ (P (i % m)) (i / m) < n := (hP _ (hr i)).at_lt (hq i hi)
    show at_ (P (i % m)) (i / m) * m + i % m < n * m
    calc at_ (P (i % m)) (i / m) * m + i % m < at_ (P (i % m)) (i / m) * m + m := Nat.add_lt_add_left (hr i) _
      _ = (at_ (P (i % m)) (i / m) + 1) * m := by rw [Nat.add_mul, Nat.one_mul]
      _ ≤ n * m := Nat.mul_le_mul_right _ a
  refine ⟨_, pm, fun i j hi hj => ?_⟩
  have af : ∀ i, i < n * m → at_ ((List.range (n * m)).map f) i = f i := fun i hi => by
    rw [at_map (by simpa using hi), at_range hi]
  rw [af i hi, af j hj]
  unfold pA
  rw [fd, fm, fd, fm]
  cases hc : C (i % m) (j % m) with
  | false => simp
  | true => rw [h _ _ (hr i) (hr j) hc _ _ (hq i hi) (hq j hj)]
theorem perms_pm {s : Nat} (hs : s < 4) {p : List Nat} (h : p ∈ perms s) : Pm s p := by
  have : ∀ p ∈ perms s, p.length = s ∧ p.Nodup ∧ ∀ x ∈ p, x < s := by
    match s, hs with
    | 0, _ => decide
    | 1, _ => decide
    | 2, _ => decide
    | 3, _ => decide
  obtain ⟨a, b, c⟩ := this p h
  exact ⟨a, b, c⟩
/-- the answers -/
def LL (s k m c : Nat) : List Nat := match cls m c with
  | 0 => sorts s
  | 3 => tw s k
  | _ => [canon s k]
section
variable {s m k k' c : Nat} (hs : s < 4) (hm : m < 4) (hm0 : 0 < m) (hk : k < N s) (hc : c < N m)
include hs hk hm0
theorem same_c (C : Gr) : Iso (s * m) (pA m (adjc (canon s k)) C) (pA m (adjc k) C) := by
  have := allW_ok f1 hs hk
  obtain ⟨p, hp, e⟩ := List.any_eq_true.mp this
  exact pos hm0 (fun _ => p) (fun _ _ => perms_pm hs hp) fun _ _ _ _ _ u v hu hv => eqv_ok e u v hu hv
theorem same_c' (C : Gr) : Iso (s * m) (pA m (adjc k) C) (pA m (adjc (canon s k)) C) := by
  have := allW_ok f1' hs hk
  obtain ⟨p, hp, e⟩ := List.any_eq_true.mp this
  exact pos hm0 (fun _ => p) (fun _ _ => perms_pm hs hp) fun _ _ _ _ _ u v hu hv => eqv_ok e u v hu hv
include hm hc
theorem T_pos {w : Nat} (h : w ∈ LL s k m c) : Iso (s * m) (pA m (adjc w) (adjc c)) (pA m (adjc k) (adjc c)) := by
  unfold LL at h
  split at h
  · rename_i e
    have g := allW_ok f4 hm hc
    rw [e] at g
    have g : ∀ x y, x < m → y < m → adjc c x y = false := fun x y hx hy => by
      have := List.all_eq_true.mp (by simpa using g : ((List.range m).all fun x => (List.range m).all fun y => !adjc c x y) = true) x (List.mem_range.mpr hx)
      have := List.all_eq_true.mp this y (List.mem_range.mpr hy)
      simpa using this
    exact pos hm0 (fun _ => List.range s) (fun _ _ => pm_range s) fun x y hx hy ht => by rw [g x y hx hy] at ht; cases ht
  · rename_i e
    have g := List.all_eq_true.mp (allW_ok f2 hs hk) w h
    obtain ⟨p, hp, g⟩ := List.any_eq_true.mp g
    obtain ⟨q, hq, g⟩ := List.any_eq_true.mp g
    have g := eqv_ok g
    have b := allW_ok f3 hm hc
    rw [e] at b
    obtain ⟨z, _, b⟩ := List.any_eq_true.mp (by simpa using b : ((halves m).any fun h => (List.range m).all fun x => (List.range m).all fun y => !adjc c x y || (h.getD x false != h.getD y false)) = true)
    have b : ∀ x y, x < m → y < m → adjc c x y = true → z.getD x false ≠ z.getD y false := fun x y hx hy ht => by
      have := List.all_eq_true.mp b x (List.mem_range.mpr hx)
      have := List.all_eq_true.mp this y (List.mem_range.mpr hy)
      rw [ht] at this
      simpa using this
    refine pos hm0 (fun x => if z.getD x false = true then q else p) (fun x _ => ?_) fun x y hx hy ht u v hu hv => ?_
    · by_cases zx : z.getD x false = true
      · simp only [zx, if_true]; exact perms_pm hs hq
      · simp only [zx, if_false]; exact perms_pm hs hp
    · have d := b x y hx hy ht
      cases zx : z.getD x false <;> cases zy : z.getD y false
      · rw [zx, zy] at d; exact absurd rfl d
      · simp only [Bool.false_eq_true, if_false, if_true]; exact g u v hu hv
      · simp only [Bool.false_eq_true, if_false, if_true]
        rw [adjc_symm w, g v u hv hu, adjc_symm k]
      · rw [zx, zy] at d; exact absurd rfl d
  · rw [List.mem_singleton.mp h]
    exact same_c hs hm0 hk (adjc c)
omit hm hc
theorem pr_hom : pr s k 0 = hom P3 s (adjc k) ∧ pr s k 1 = hom K1 s (adjc k) ∧ pr s k 2 = hom C3 s (adjc k) ∧ pr s k 3 = hom P4 s (adjc k) := by
  have := eq_of_beq (allW_ok f5 hs hk)
  unfold pr
  rw [this]
  exact ⟨rfl, rfl, rfl, rfl⟩
end
theorem pr_hom' {s k : Nat} (hs : s < 4) (hk : k < N s) : pr s k 0 = hom P3 s (adjc k) ∧ pr s k 1 = hom K1 s (adjc k) ∧ pr s k 2 = hom C3 s (adjc k) ∧ pr s k 3 = hom P4 s (adjc k) := by
  have := eq_of_beq (allW_ok f5 hs hk)
  unfold pr
  rw [this]
  exact ⟨rfl, rfl, rfl, rfl⟩
theorem sorts_lt {s w : Nat} (hs : s < 4) (h : w ∈ sorts s) : canon s w = w ∧ w < N s := by
  have h0 : 0 < N s := by unfold N; exact Nat.two_pow_pos _
  have := allW_ok f9 hs h0
  rw [Bool.and_eq_true] at this
  have := List.all_eq_true.mp this.2 w h
  rw [Bool.and_eq_true] at this
  exact ⟨eq_of_beq this.1, of_decide_eq_true this.2⟩
theorem T_neg {s m k c w : Nat} (hs : s < 4) (hm : m < 4) (hm0 : 0 < m) (hk : k < N s) (hc : c < N m) (hw : w ∈ sorts s) (h : w ∉ LL s k m c) : ¬ Iso (s * m) (pA m (adjc w) (adjc c)) (pA m (adjc k) (adjc c)) := fun i => by
  have hwN := (sorts_lt hs hw).2
  obtain ⟨w0, w1, w2, w3⟩ := pr_hom' hs hwN
  obtain ⟨k0, k1, k2, k3⟩ := pr_hom' hs hk
  obtain ⟨c0, c1, c2, c3⟩ := pr_hom' hm hc
  have key : ∀ F, okF F = true → hom F m (adjc c) ≠ 0 → hom F s (adjc w) = hom F s (adjc k) := fun F hF hz => by
    have := hom_iso hF i
    rw [hom_prod hF, hom_prod hF] at this
    exact Nat.eq_of_mul_eq_mul_right (Nat.pos_of_ne_zero hz) this
  have g7 := List.all_eq_true.mp (allW_ok f7 hs hk) w hw
  simp only [Bool.and_eq_true, Bool.or_eq_true, bne_iff_ne, beq_iff_eq] at g7
  obtain ⟨⟨gL, gT⟩, gB⟩ := g7
  have g6 := allW_ok f6 hm hc
  rw [Bool.or_eq_true] at g6
  have g6 := g6.resolve_left (by simp; omega)
  unfold LL at h
  split at h
  · exact h hw
  · rename_i e
    rw [e] at g6
    simp only [Bool.and_eq_true, bne_iff_ne] at g6
    rw [c0, c3] at g6
    have a := key P3 (by decide) g6.1
    have b := key P4 (by decide) g6.2
    rcases gB with (g | g) | g
    · exact h (List.contains_iff_mem.mp g)
    · exact g (by rw [w0, k0, a])
    · exact g (by rw [w3, k3, b])
  · rename_i e0 e3
    have hcn : w ≠ canon s k := fun e => h (by rw [e]; exact List.mem_singleton_self _)
    split at g6
    · rename_i e; exact e0 e
    · simp only [Bool.and_eq_true, bne_iff_ne] at g6
      rw [c0, c1] at g6
      have a := key P3 (by decide) g6.1
      have b := key K1 (by decide) g6.2
      rcases gL with (g | g) | g
      · exact hcn g
      · exact g (by rw [w0, k0, a])
      · exact g (by rw [w1, k1, b])
    · simp only [Bool.and_eq_true, bne_iff_ne] at g6
      rw [c0, c2] at g6
      have a := key P3 (by decide) g6.1
      have b := key C3 (by decide) g6.2
      rcases gT with (g | g) | g
      · exact hcn g
      · exact g (by rw [w0, k0, a])
      · exact g (by rw [w2, k2, b])
    · rename_i e; exact e3 e
    · cases g6
theorem canon_in {s k : Nat} (hs : s < 4) (hk : k < N s) : canon s k ∈ sorts s ∧ canon s k < N s := by
  have := allW_ok f8 hs hk
  simp only [Bool.and_eq_true] at this
  exact ⟨List.contains_iff_mem.mp this.1.1.1.1, of_decide_eq_true this.1.1.1.2⟩
/-- two webs of the same size: alike products exactly if the sort of the one is an answer of the other -/
theorem T {s m k k' c : Nat} (hs : s < 4) (hm : m < 4) (hm0 : 0 < m) (hk : k < N s) (hk' : k' < N s) (hc : c < N m) {G : Gr} (g : Iso (s * m) (pA m (adjc k) (adjc c)) G) (g' : Iso (s * m) G (pA m (adjc k) (adjc c))) :
    Iso (s * m) (pA m (adjc k') (adjc c)) G ↔ canon s k' ∈ LL s k m c := by
  constructor
  · intro i
    refine Classical.byContradiction fun h => T_neg hs hm hm0 hk hc (canon_in hs hk').1 h ?_
    exact (same_c hs hm0 hk' (adjc c)).trans (i.trans g')
  · intro h
    exact (same_c' hs hm0 hk' (adjc c)).trans ((T_pos hs hm hm0 hk hc h).trans g)
end Wm
set_option maxRecDepth 100000
set_option maxHeartbeats 1000000
/-! how a mirror is run on letters -/
namespace Wl
open PySem L2 PyProof.Rows Wd Wg Wm
section
variable {fa fb fc : E → Option D} {fs : E → Option (List D)} {env : E} {x y d r : D} {ds : List D} {ta tb : E → Option Bool} {a b : Bool}
theorem b2 {g : D → D → Option D} {r : Option D} (ha : fa env = some x) (hb : fb env = some y) (h : g x y = r) : bin2 g fa fb env = r := by unfold bin2; rw [ha, hb]; exact h
theorem mt {g : List D → Option D} {r : Option D} (hs : fs env = some ds) (h : g ds = r) : mapT g fs env = r := by unfold mapT; rw [hs]; exact h
theorem c2 (ha : fa env = some x) (hs : fs env = some ds) : cons2 fa fs env = some (x :: ds) := by unfold cons2; rw [ha, hs]
theorem tst_ (h : fa env = some (.bl b)) : tst fa env = some b := by unfold tst; rw [h]
theorem tru_ (h : fa env = some (.bl b)) : truT fa env = some b := by unfold truT; rw [h]; rfl
theorem or_ (ha : ta env = some a) (hb : a = false → tb env = some b) : orT ta tb env = some (a || b) := by unfold orT; rw [ha]; cases a; exact hb rfl; rfl
theorem and_ (ha : ta env = some a) (hb : a = true → tb env = some b) : andT ta tb env = some (a && b) := by unfold andT; rw [ha]; cases a; rfl; exact hb rfl
theorem not_ (ha : ta env = some a) : notT ta env = some (!a) := by unfold notT; rw [ha]; rfl
theorem bor_ (h : fa ⟨env.fz, env.fz⟩ = some d) (n : noL d = true) : bor fa env = some d := by unfold bor; rw [h]; exact if_pos n
theorem borT_ (h : ta ⟨env.fz, env.fz⟩ = some b) : borT ta env = some b := h
end
section
variable {env : List Ent} {rest : M} {i : Nat} {f : E → Option D} {ff : E → Option (List D)} {d : D} {ds : List D} {X : Option Out} {c : E → Option Bool} {b : Bool}
theorem s_set (h : f (en env) = some d) (k : rest (setEnv i d env) = X) : mSeq (mSet i f) rest env = X := by unfold mSeq mSet; rw [h]; exact k
theorem s_setF (h : ff (en env) = some ds) (k : rest (setOwn i ds env) = X) : mSeq (mSetF i ff) rest env = X := by unfold mSeq mSetF; rw [h]; exact k
theorem s_drop (h : f (en env) = some d) (k : rest env = X) : mSeq (mDrop f) rest env = X := by unfold mSeq mDrop; rw [h]; exact k
theorem s_ret (h : f ⟨env.map fzE, env.map fzE⟩ = some d) : mSeq (mRet f) rest env = some (.rt d) := by unfold mSeq mRet; rw [h]
theorem s_if {p q : M} (h : c (en env) = some b) (ht : b = true → mSeq p rest env = X) (hf : b = false → mSeq q rest env = X) : mSeq (mIf c p q) rest env = X := by
  have e : mIf c p q env = if b = true then p env else q env := by unfold mIf; rw [h]; cases b <;> rfl
  unfold mSeq
  rw [e]
  cases b with
  | true => exact ht rfl
  | false => exact hf rfl
theorem s_nil : mSeq mNil rest env = rest env := rfl
theorem s_seq {p q : M} : mSeq (mSeq p q) rest env = mSeq p (mSeq q rest) env := by
  unfold mSeq
  cases p env with
  | none => rfl
  | some o => cases o <;> rfl
theorem s_nx {p : M} {env' : List Ent} (h : p env = some (.nx env')) (k : rest env' = X) : mSeq p rest env = X := by unfold mSeq; rw [h]; exact k
theorem s_rt {p : M} (h : p env = some (.rt d)) : mSeq p rest env = some (.rt d) := by unfold mSeq; rw [h]
theorem s_bind {t : Wd.B} {env' : List Ent} (h : f (en env) = some d) (ht : t d env = some env') (k : rest env' = X) : mSeq (mBind t f) rest env = X := by unfold mSeq mBind; rw [h]; simp only []; rw [ht]; exact k
theorem s_app {acc : List D} (h : f (en env) = some d) (e : env[i]? = some (.own acc)) (l : acc.length < LIM) (k : rest (setOwn i (acc ++ [d]) env) = X) : mSeq (mApp i f) rest env = X := by
  unfold mSeq mApp; rw [h]; simp only []; rw [e]; simp only []; rw [if_pos l]; exact k
theorem for_ {fi : E → Option (List D)} {t : Wd.B} {m : M} (h : fi (en env) = some ds) : mFor fi t m env = mLoop t m ds env := by unfold mFor; rw [h]
theorem run_of {n N : Nat} {m : M} (hl : ds.length = n) (h : m (ds.map Ent.val ++ List.replicate (N - n) Ent.no) = some (.rt d)) : runF n N m ds = some d := by unfold runF; rw [if_pos hl, h]
end
section
variable {t : Wd.B} {m : M}
theorem loop_fold {α : Type} (S : α → List Ent → Prop) (f : α → D → α) : ∀ (ds : List D), (∀ d ∈ ds, ∀ a env, S a env → ∃ env1 env2, t d env = some env1 ∧ m env1 = some (.nx env2) ∧ S (f a d) env2) → ∀ a env, S a env → ∃ env', mLoop t m ds env = some (.nx env') ∧ S (ds.foldl f a) env'
  | [], _, a, env, h => ⟨env, rfl, h⟩
  | d :: ds, st, a, env, h => by
    obtain ⟨e1, e2, h1, h2, h3⟩ := st d List.mem_cons_self a env h
    obtain ⟨e', h4, h5⟩ := loop_fold S f ds (fun d hd => st d (List.mem_cons_of_mem _ hd)) (f a d) e2 h3
    refine ⟨e', ?_, h5⟩
    unfold mLoop
    rw [h1]; simp only []; rw [h2]; exact h4
/-- a loop that may hand back -/
theorem loop_find (S : List Ent → Prop) (c : D → Option D) : ∀ (ds : List D), (∀ d ∈ ds, ∀ env, S env → ∃ env1, t d env = some env1 ∧ ((c d = none ∧ ∃ env2, m env1 = some (.nx env2) ∧ S env2) ∨ ∃ r, c d = some r ∧ m env1 = some (.rt r))) → ∀ env, S env →
    (∃ env', mLoop t m ds env = some (.nx env') ∧ S env' ∧ ∀ d ∈ ds, c d = none) ∨ ∃ d ∈ ds, ∃ r, c d = some r ∧ mLoop t m ds env = some (.rt r)
  | [], _, env, h => .inl ⟨env, rfl, h, fun d hd => by cases hd⟩
  | d :: ds, st, env, h => by
    obtain ⟨e1, h1, h2⟩ := st d List.mem_cons_self env h
    rcases h2 with ⟨hc, e2, h2, h3⟩ | ⟨r, hc, h2⟩
    · rcases loop_find S c ds (fun d hd => st d (List.mem_cons_of_mem _ hd)) e2 h3 with ⟨e', h4, h5, h6⟩ | ⟨d', hd', r, h4, h5⟩
      · refine .inl ⟨e', ?_, h5, fun x hx => ?_⟩
        · unfold mLoop; rw [h1]; simp only []; rw [h2]; exact h4
        · rcases List.mem_cons.mp hx with rfl | hx
          · exact hc
          · exact h6 x hx
      · refine .inr ⟨d', List.mem_cons_of_mem _ hd', r, h4, ?_⟩
        unfold mLoop; rw [h1]; simp only []; rw [h2]; exact h5
    · refine .inr ⟨d, List.mem_cons_self, r, hc, ?_⟩
      unfold mLoop; rw [h1]; simp only []; rw [h2]
end
/-! data -/
abbrev iD (n : Nat) : D := .int (n : Int)
abbrev rowD (l : List Nat) : D := .lst (l.map iD)
def pN (e : Nat × Nat) : D := .tup [iD e.1, iD e.2]
def gD (n : Nat) (A : Gr) : D := .tup [iD n, .tup ((edgesOf n A).map pN)]
def matD (n : Nat) (A : Gr) : D := .lst ((List.range n).map fun u => .lst ((List.range n).map fun v => .bl (A u v)))
def nbrD (n : Nat) (A : Gr) : D := .lst ((List.range n).map fun u => rowD ((List.range n).filter fun v => A u v))
theorem rangeD_add : ∀ (n : Nat) (lo : Nat), rangeD (lo : Int) n = (List.range n).map fun i => iD (lo + i)
  | 0, lo => rfl
  | n + 1, lo => by
    unfold rangeD
    have := rangeD_add n (lo + 1)
    rw [List.range_succ_eq_map, List.map_cons, List.map_map]
    congr 1
    have e : ((lo : Int) + 1) = ((lo + 1 : Nat) : Int) := by omega
    rw [e, this]
    refine List.map_congr_left fun i _ => ?_
    simp only [Function.comp]
    congr 1
    omega
theorem rangeD0 (n : Nat) : rangeD 0 n = (List.range n).map iD := by
  have := rangeD_add n 0
  simpa using this
theorem rng1_ {fs : E → Option (List D)} {env : E} {n : Nat} (h : fs env = some [iD n]) (hn : n < 100000) : rng1 fs env = some ((List.range n).map iD) := by
  unfold rng1
  rw [h]
  simp only []
  have : Wd.inR (n : Int) = true := by
    unfold Wd.inR big62
    rw [Bool.and_eq_true, decide_eq_true_eq, decide_eq_true_eq]
    omega
  rw [if_pos this]
  show some (rangeD 0 (n : Int).toNat) = _
  rw [Int.toNat_natCast, rangeD0]
theorem rng2_ {fs : E → Option (List D)} {env : E} {i n : Nat} (h : fs env = some [iD i, iD n]) (hi : i < 100000) (hn : n < 100000) : rng2 fs env = some ((List.range (n - i)).map fun j => iD (i + j)) := by
  unfold rng2
  rw [h]
  simp only []
  have : ∀ n : Nat, n < 100000 → Wd.inR (n : Int) = true := fun n hn => by
    unfold Wd.inR big62
    rw [Bool.and_eq_true, decide_eq_true_eq, decide_eq_true_eq]
    omega
  rw [if_pos (by rw [this i hi, this n hn]; rfl)]
  have e : ((n : Int) - (i : Int)).toNat = n - i := by omega
  rw [e, rangeD_add]
theorem enumD_map {α : Type} (f : α → D) : ∀ (l : List α) (k : Nat), enumD (k : Int) (l.map f) = (l.zipIdx k).map fun p => .tup [iD p.2, f p.1]
  | [], k => rfl
  | x :: r, k => by
    rw [List.map_cons]
    unfold enumD
    rw [List.zipIdx_cons, List.map_cons]
    congr 1
    have e : ((k : Int) + 1) = ((k + 1 : Nat) : Int) := by omega
    rw [e]
    exact enumD_map f r (k + 1)
theorem ixN_nat {n i : Nat} (h : i < n) : ixN n (i : Int) = some i := by
  unfold ixN
  rw [if_pos (by omega), if_pos (by omega)]
  rfl
theorem ix_lst {ds : List D} {i : Nat} {d : D} (h : ds[i]? = some d) : gIx (.lst ds) (iD i) = some d := by
  have hi : i < ds.length := (List.getElem?_eq_some_iff.mp h).1
  show atI ds (i : Int) = _
  unfold atI
  rw [ixN_nat hi]
  exact h
theorem ix_tup {ds : List D} {i : Nat} {d : D} (h : ds[i]? = some d) : gIx (.tup ds) (iD i) = some d := by
  have hi : i < ds.length := (List.getElem?_eq_some_iff.mp h).1
  show atI ds (i : Int) = _
  unfold atI
  rw [ixN_nat hi]
  exact h
theorem get_range {α : Type} (f : Nat → α) {n i : Nat} (h : i < n) : ((List.range n).map f)[i]? = some (f i) := by
  rw [List.getElem?_map, List.getElem?_range h]; rfl
theorem ix_range (f : Nat → D) {n i : Nat} (h : i < n) : gIx (.lst ((List.range n).map f)) (iD i) = some (f i) := ix_lst (get_range f h)
theorem ix_row {l : List Nat} {i : Nat} (h : i < l.length) : gIx (rowD l) (iD i) = some (iD (at_ l i)) := by
  refine ix_lst ?_
  rw [List.getElem?_map, List.getElem?_eq_getElem h, at_get h]; rfl
theorem ix_mat {n : Nat} {A : Gr} {u : Nat} (h : u < n) : gIx (matD n A) (iD u) = some (.lst ((List.range n).map fun v => .bl (A u v))) := ix_range _ h
theorem ix_nbr {n : Nat} {A : Gr} {u : Nat} (h : u < n) : gIx (nbrD n A) (iD u) = some (rowD ((List.range n).filter fun v => A u v)) := ix_range _ h
theorem ix_g0 {n : Nat} {A : Gr} : gIx (gD n A) (.int 0) = some (iD n) := rfl
theorem ix_g1 {n : Nat} {A : Gr} : gIx (gD n A) (.int 1) = some (.tup ((edgesOf n A).map pN)) := rfl
theorem len_lst {α : Type} (l : List α) (f : α → D) : gLen [.lst (l.map f)] = some (iD l.length) := by show some (D.int (l.map f).length) = _; rw [List.length_map]
theorem len_tup {α : Type} (l : List α) (f : α → D) : gLen [.tup (l.map f)] = some (iD l.length) := by show some (D.int (l.map f).length) = _; rw [List.length_map]
theorem flat_row (l : List Nat) : (l.map iD).all flatD = true := by induction l with
  | nil => rfl
  | cons a r ih => rw [List.map_cons, List.all_cons, ih]; rfl
theorem eqD_ii (a b : Nat) : eqD (iD a) (iD b) = (a == b) := by
  unfold eqD
  rw [Bool.eq_iff_iff, beq_iff_eq, beq_iff_eq]
  omega
theorem any_row (l : List Nat) (p : Nat) : ((l.map iD).any fun z => eqD z (iD p)) = decide (p ∈ l) := by
  induction l with
  | nil => simp
  | cons a r ih =>
    rw [List.map_cons, List.any_cons, ih, eqD_ii]
    rw [Bool.eq_iff_iff, Bool.or_eq_true, beq_iff_eq, decide_eq_true_eq, decide_eq_true_eq, List.mem_cons]
    exact or_congr_left ⟨fun e => e.symm, fun e => e.symm⟩
theorem in_row (l : List Nat) (p : Nat) : gInB false (iD p) (rowD l) = some (.bl (decide (p ∈ l))) := by
  unfold gInB
  simp only []
  rw [if_pos (by rw [flat_row]; rfl), any_row]
  cases decide (p ∈ l) <;> rfl
theorem okD_int (i : Int) : okD (.int i) = true := by unfold okD okN; rfl
theorem okD_bl (i : Bool) : okD (.bl i) = true := by unfold okD okN; rfl
theorem eq_int (neg : Bool) (a b : Nat) : gEqB neg (iD a) (iD b) = some (.bl (neg != (a == b))) := by
  unfold gEqB
  simp only []
  rw [okD_int, okD_int, eqD_ii]; rfl
theorem eq_bl (neg a b : Bool) : gEqB neg (.bl a) (.bl b) = some (.bl (neg != (a == b))) := by
  unfold gEqB
  simp only []
  rw [okD_bl, okD_bl]
  unfold eqD
  rfl
end Wl
set_option maxRecDepth 100000
set_option maxHeartbeats 1000000
/-! the program's search for a renaming -/
namespace Wl
open PySem L2 PyProof.Rows Wd Wg Wm
theorem s_ifret {env : List Ent} {rest : M} {c : E → Option Bool} {b : Bool} {r : E → Option D} {d : D} (h : c (en env) = some b) (hr : r ⟨env.map fzE, env.map fzE⟩ = some d) :
    mSeq (mIf c (mSeq (mRet r) mNil) mNil) rest env = if b = true then some (.rt d) else rest env := by
  cases b with
  | true => rw [if_pos rfl]; exact s_if h (fun _ => s_seq.trans (s_ret hr)) (fun z => nomatch z)
  | false => rw [if_neg (by decide)]; exact s_if h (fun z => nomatch z) (fun _ => s_nil)
section
variable {n : Nat} {A B : Gr} {row : List Nat} {p : Nat}
theorem mem_nb {u v : Nat} (hv : v < n) : decide (v ∈ (List.range n).filter fun v => A u v) = A u v := by
  rw [Bool.eq_iff_iff, decide_eq_true_eq, List.mem_filter, List.mem_range]
  exact ⟨fun h => h.2, fun h => ⟨hv, h⟩⟩
theorem in_nb {u v : Nat} (hv : v < n) : gInB false (iD v) (rowD ((List.range n).filter fun v => A u v)) = some (.bl (A u v)) := by
  rw [in_row, mem_nb hv]
theorem len_nb {u : Nat} : gLen [rowD ((List.range n).filter fun v => A u v)] = some (iD (deg n A u)) := len_lst _ _
theorem zip_mem {l : List Nat} {q : Nat × Nat} (h : q ∈ l.zipIdx) : q.2 < l.length ∧ at_ l q.2 = q.1 := by
  obtain ⟨x, i⟩ := q
  have := List.mem_zipIdx h
  simp only [Nat.zero_le, Nat.zero_add, Nat.sub_zero, true_and] at this
  obtain ⟨h1, h2⟩ := this
  exact ⟨h1, by rw [at_get h1]; exact h2.symm⟩
theorem mem_zip {l : List Nat} {i : Nat} (h : i < l.length) : (at_ l i, i) ∈ l.zipIdx := by
  rw [at_get h]
  refine List.mem_iff_getElem.mpr ⟨i, by simpa using h, by simp⟩
theorem may_f (hr : ∀ x ∈ row, x < n) (hk : row.length < n) (hp : p < n) : ∃ b, g_may_follow [nbrD n A, nbrD n B, rowD row, iD p] = some (.bl b) ∧ (b = true ↔ May n A B row p) := by
  let b1 := decide (p ∈ row) || (true != (deg n A row.length == deg n B p))
  let b2' := true != (A row.length row.length == B p p)
  have start : ∀ X, (if b1 = true then some (.rt (.bl false)) else if b2' = true then some (.rt (.bl false)) else X) = (if (b1 || b2') = true then some (Out.rt (.bl false)) else X) := fun X => by cases b1 <;> cases b2' <;> rfl
  let c : D → Option D := fun d => match d with
    | .tup [.int i, .int q] => if (true != (A row.length i.toNat == B p q.toNat)) = true then some (.bl false) else none
    | _ => none
  let S : List Ent → Prop := fun env => ∃ x y, env = [.val (nbrD n A), .val (nbrD n B), .val (rowD row), .val (iD p), .val (iD row.length), x, y]
  have main : ∃ X, g_may_follow [nbrD n A, nbrD n B, rowD row, iD p] = X ∧ X = (if (b1 || b2') = true then some (.bl false) else if (∀ i, i < row.length → A row.length i = B p (at_ row i)) then some (.bl true) else some (.bl false)) := by
    refine ⟨_, rfl, ?_⟩
    have key : m_may_follow [.val (nbrD n A), .val (nbrD n B), .val (rowD row), .val (iD p), .no, .no, .no] = if (b1 || b2') = true then some (.rt (.bl false)) else if (∀ i, i < row.length → A row.length i = B p (at_ row i)) then some (.rt (.bl true)) else some (.rt (.bl false)) := by
      unfold m_may_follow
      refine s_set (d := iD row.length) (mt (c2 rfl rfl) (len_lst _ _)) ?_
      refine (s_ifret (b := b1) (d := .bl false) ?_ rfl).trans ?_
      · exact or_ (tst_ (b2 rfl rfl (in_row _ _))) fun _ => tst_ (b2 (mt (c2 (b2 rfl rfl (ix_nbr hk)) rfl) len_nb) (mt (c2 (b2 rfl rfl (ix_nbr hp)) rfl) len_nb) (eq_int _ _ _))
      rw [← start]
      congr 1
      refine (s_ifret (b := b2') (d := .bl false) ?_ rfl).trans ?_
      · exact tst_ (b2 (b2 rfl (b2 rfl rfl (ix_nbr hk)) (in_nb hk)) (b2 rfl (b2 rfl rfl (ix_nbr hp)) (in_nb hp)) (eq_bl _ _ _))
      congr 1
      have lp := loop_find (t := bTp (bCons (bNm 5) (bCons (bNm 6) bNil))) (m := (mSeq (mIf (tst (bin2 (gEqB true) (bin2 (gInB false) (gv 5) (bin2 gIx (gv 0) (gv 4))) (bin2 (gInB false) (gv 6) (bin2 gIx (gv 1) (gv 3))))) (mSeq (mRet (cB false)) mNil) mNil) mNil)) S c (row.zipIdx.map fun q => .tup [iD q.2, iD q.1]) (fun d hd env ⟨x, y, he⟩ => by
        obtain ⟨q, hq, rfl⟩ := List.mem_map.mp hd
        obtain ⟨q1, q2⟩ := zip_mem hq
        subst he
        have hq1 : q.1 < n := by rw [← q2]; exact hr _ (at_mem q1)
        refine ⟨_, rfl, ?_⟩
        have ev := s_ifret (rest := mNil) (env := [.val (nbrD n A), .val (nbrD n B), .val (rowD row), .val (iD p), .val (iD row.length), .val (iD q.2), .val (iD q.1)]) (r := cB false) (d := .bl false) (c := tst (bin2 (gEqB true) (bin2 (gInB false) (gv 5) (bin2 gIx (gv 0) (gv 4))) (bin2 (gInB false) (gv 6) (bin2 gIx (gv 1) (gv 3))))) (b := true != (A row.length q.2 == B p q.1))
          (tst_ (b2 (b2 rfl (b2 rfl rfl (ix_nbr hk)) (in_nb (by omega))) (b2 rfl (b2 rfl rfl (ix_nbr hp)) (in_nb hq1)) (eq_bl _ _ _))) rfl
        have cv : c (.tup [iD q.2, iD q.1]) = if (true != (A row.length q.2 == B p q.1)) = true then some (.bl false) else none := rfl
        by_cases h : (true != (A row.length q.2 == B p q.1)) = true
        · exact .inr ⟨.bl false, by rw [cv, if_pos h], ev.trans (if_pos h)⟩
        · exact .inl ⟨by rw [cv, if_neg h], _, ev.trans (if_neg h), _, _, rfl⟩) [.val (nbrD n A), .val (nbrD n B), .val (rowD row), .val (iD p), .val (iD row.length), .no, .no] ⟨_, _, rfl⟩
      have fe : (enuV (gv 2)) (en [.val (nbrD n A), .val (nbrD n B), .val (rowD row), .val (iD p), .val (iD row.length), .no, .no]) = some (row.zipIdx.map fun q => .tup [iD q.2, iD q.1]) := by
        show some (enumD 0 (row.map iD)) = _
        exact congrArg some (enumD_map iD row 0)
      rcases lp with ⟨e', l1, ⟨x, y, rfl⟩, l3⟩ | ⟨d, hd, r, l1, l2⟩
      · refine (s_nx ((for_ fe).trans l1) (s_ret (f := cB true) rfl)).trans ?_
        rw [if_pos]
        intro i hi
        have := l3 _ (List.mem_map_of_mem (mem_zip hi))
        have cv : c (.tup [iD i, iD (at_ row i)]) = if (true != (A row.length i == B p (at_ row i))) = true then some (.bl false) else none := rfl
        have this : (if (true != (A row.length i == B p (at_ row i))) = true then some (D.bl false) else none) = none := cv ▸ this
        by_cases h : (true != (A row.length i == B p (at_ row i))) = true
        · rw [if_pos h] at this; cases this
        · simpa using h
      · refine (s_rt (d := r) ((for_ fe).trans l2)).trans ?_
        obtain ⟨q, hq, rfl⟩ := List.mem_map.mp hd
        obtain ⟨q1, q2⟩ := zip_mem hq
        have cv : c (.tup [iD q.2, iD q.1]) = if (true != (A row.length q.2 == B p q.1)) = true then some (.bl false) else none := rfl
        rw [cv] at l1
        by_cases h : (true != (A row.length q.2 == B p q.1)) = true
        · rw [if_pos h] at l1
          cases l1
          rw [if_neg]
          intro hall
          have := hall q.2 q1
          rw [q2] at this
          rw [this] at h
          simp at h
        · rw [if_neg h] at l1; cases l1
    show runF 4 7 m_may_follow _ = _
    by_cases h1 : (b1 || b2') = true
    · rw [if_pos h1] at key ⊢
      exact run_of rfl key
    · rw [if_neg h1] at key ⊢
      by_cases h2 : ∀ i, i < row.length → A row.length i = B p (at_ row i)
      · rw [if_pos h2] at key ⊢
        exact run_of rfl key
      · rw [if_neg h2] at key ⊢
        exact run_of rfl key
  obtain ⟨X, e, hX⟩ := main
  by_cases h1 : (b1 || b2') = true
  · rw [if_pos h1] at hX
    refine ⟨false, by rw [e, hX], fun z => (nomatch z), fun m => ?_⟩
    exfalso
    have a1 : b1 = false := by
      show (decide (p ∈ row) || (true != (deg n A row.length == deg n B p))) = false
      rw [decide_eq_false m.new, m.dg]; simp
    have a2 : b2' = false := by
      show (true != (A row.length row.length == B p p)) = false
      rw [m.lp]; simp
    rw [a1, a2] at h1
    cases h1
  · rw [if_neg h1] at hX
    have h0 : b1 = false ∧ b2' = false := by
      rw [Bool.or_eq_true, not_or] at h1
      exact ⟨Bool.eq_false_iff.mpr h1.1, Bool.eq_false_iff.mpr h1.2⟩
    by_cases h2 : ∀ i, i < row.length → A row.length i = B p (at_ row i)
    · rw [if_pos h2] at hX
      refine ⟨true, by rw [e, hX], fun _ => ?_, fun _ => rfl⟩
      have z1 : (decide (p ∈ row) || (true != (deg n A row.length == deg n B p))) = false := h0.1
      have z2 : (true != (A row.length row.length == B p p)) = false := h0.2
      rw [Bool.or_eq_false_iff] at z1
      exact ⟨of_decide_eq_false z1.1, by simpa using z1.2, by simpa using z2, h2⟩
    · rw [if_neg h2] at hX
      exact ⟨false, by rw [e, hX], fun z => (nomatch z), fun m => absurd m.con h2⟩
end
end Wl
set_option maxRecDepth 100000
set_option maxHeartbeats 1000000
/-! the program's search for a renaming, whole -/
namespace Wl
open PySem L2 PyProof.Rows Wd Wg Wm
theorem add_row (row : List Nat) (p : Nat) (h : row.length < 1000) : gAdd (rowD row) (.lst [iD p]) = some (rowD (row ++ [p])) := by
  unfold gAdd
  simp only []
  rw [if_pos (by rw [List.length_map]; show row.length + 1 ≤ 100000; omega)]
  show _ = some (D.lst ((row ++ [p]).map iD))
  rw [List.map_append]; rfl
def nz : D → Option D
  | .non => none
  | r => some r
theorem nz_some {d : D} (h : d ≠ .non) : nz d = some d := by cases d <;> first | rfl | exact absurd rfl h
theorem non_t {env : List Ent} {f : E → Option D} {d : D} (h : f (en env) = some d) : tst (nonV true f) (en env) = some (!isNonD d) := by
  refine tst_ ?_
  unfold nonV
  rw [h]
  cases d <;> rfl
section
variable {n : Nat} {A B : Gr} (hn : n < 1000) (hA : ∀ i j, A i j = A j i) (hB : ∀ i j, B i j = B j i)
include hn hA hB
theorem completed_f : ∀ (j : Nat) (row : List Nat), Good n A B row → n < j + row.length → ∃ d, g_completed j [nbrD n A, nbrD n B, rowD row] = some d ∧ (d ≠ .non ↔ Ext n A B row)
  | 0, row, g, h => by have := g.le; omega
  | j + 1, row, g, h => by
    have gl := g.le
    by_cases hf : row.length = n
    · refine ⟨.tup (row.map iD), ?_, fun _ => ext_full g hf, fun _ z => nomatch z⟩
      refine run_of (n := 3) rfl ?_
      unfold m_completed
      refine (s_ifret (b := true) (d := .tup (row.map iD)) ?_ rfl).trans (if_pos rfl)
      refine tst_ (b2 (mt (c2 rfl rfl) (len_lst _ _)) (mt (c2 rfl rfl) (len_lst _ _)) ((eq_int _ _ _).trans ?_))
      rw [hf, List.length_range]; simp
    · have hl : row.length < n := by omega
      let c : D → Option D := fun d => match d with
        | .int i => (match g_may_follow [nbrD n A, nbrD n B, rowD row, .int i] with
          | some (.bl true) => (g_completed j [nbrD n A, nbrD n B, rowD (row ++ [i.toNat])]).bind nz
          | _ => none)
        | _ => none
      have step : ∀ p, p < n → (c (iD p) = none ∧ ¬ (May n A B row p ∧ Ext n A B (row ++ [p]))) ∨ (∃ r, c (iD p) = some r ∧ r ≠ .non ∧ (May n A B row p ∧ Ext n A B (row ++ [p]))) := fun p hp => by
        obtain ⟨b, e, hb⟩ := may_f (A := A) (B := B) g.lt hl hp
        cases b with
        | false =>
          refine .inl ⟨?_, fun m => by have := hb.mpr m.1; cases this⟩
          show (match g_may_follow [nbrD n A, nbrD n B, rowD row, iD p] with | some (.bl true) => _ | _ => none) = none
          rw [e]
        | true =>
          have m := hb.mp rfl
          obtain ⟨d, e2, hd⟩ := completed_f j (row ++ [p]) (g.step hA hB hp hl m) (by simp; omega)
          have cv : c (iD p) = nz d := by
            show (match g_may_follow [nbrD n A, nbrD n B, rowD row, iD p] with | some (.bl true) => (g_completed j [nbrD n A, nbrD n B, rowD (row ++ [p])]).bind nz | _ => none) = _
            rw [e]; simp only []; rw [e2]; rfl
          by_cases hz : d = .non
          · subst hz
            exact .inl ⟨cv, fun m => absurd (hd.mpr m.2) (fun z => z rfl)⟩
          · refine .inr ⟨d, ?_, hz, m, hd.mp hz⟩
            rw [cv]
            exact nz_some hz
      let S : List Ent → Prop := fun env => ∃ x y, env = [.val (nbrD n A), .val (nbrD n B), .val (rowD row), x, y]
      have lp := loop_find (t := bNm 3) (m := (mSeq (mIf (truT (mapT g_may_follow (cons2 (gv 0) (cons2 (gv 1) (cons2 (gv 2) (cons2 (gv 3) (fun _ => some []))))))) (mSeq (mSet 4 (mapT (g_completed j) (cons2 (gv 0) (cons2 (gv 1) (cons2 (bin2 gAdd (gv 2) (mapT gLst (cons2 (gv 3) (fun _ => some [])))) (fun _ => some []))))))
        (mSeq (mIf (tst (nonV true (gv 4))) (mSeq (mRet (gv 4)) mNil) mNil) mNil)) mNil) mNil)) S c ((List.range n).map iD) (fun d hd env ⟨x, y, he⟩ => by
          obtain ⟨p, hp, rfl⟩ := List.mem_map.mp hd
          have hp := List.mem_range.mp hp
          subst he
          refine ⟨_, rfl, ?_⟩
          obtain ⟨b, e, hb⟩ := may_f (A := A) (B := B) g.lt hl hp
          have et : truT (mapT g_may_follow (cons2 (gv 0) (cons2 (gv 1) (cons2 (gv 2) (cons2 (gv 3) (fun _ => some [])))))) (en [.val (nbrD n A), .val (nbrD n B), .val (rowD row), .val (iD p), y]) = some b := tru_ (mt (c2 rfl (c2 rfl (c2 rfl (c2 rfl rfl)))) e)
          cases b with
          | false =>
            refine .inl ⟨?_, _, s_if et (fun z => nomatch z) (fun _ => s_nil.trans rfl), _, _, rfl⟩
            rcases step p hp with s | ⟨r, _, _, m, _⟩
            · exact s.1
            · have := hb.mpr m; cases this
          | true =>
            have m := hb.mp rfl
            obtain ⟨d, e2, hd2⟩ := completed_f j (row ++ [p]) (g.step hA hB hp hl m) (by simp; omega)
            have e4 : mapT (g_completed j) (cons2 (gv 0) (cons2 (gv 1) (cons2 (bin2 gAdd (gv 2) (mapT gLst (cons2 (gv 3) (fun _ => some [])))) (fun _ => some [])))) (en [.val (nbrD n A), .val (nbrD n B), .val (rowD row), .val (iD p), y]) = some d :=
              mt (c2 rfl (c2 rfl (c2 (b2 rfl rfl (add_row row p (by omega))) rfl))) e2
            have e5 := s_ifret (rest := mSeq mNil mNil) (env := [.val (nbrD n A), .val (nbrD n B), .val (rowD row), .val (iD p), .val d]) (r := gv 4) (d := d) (non_t (f := gv 4) rfl) rfl
            have e6 : (mSeq (mIf (tst (nonV true (gv 4))) (mSeq (mRet (gv 4)) mNil) mNil) mNil) [.val (nbrD n A), .val (nbrD n B), .val (rowD row), .val (iD p), .val d] = if (!isNonD d) = true then some (.rt d) else some (.nx [.val (nbrD n A), .val (nbrD n B), .val (rowD row), .val (iD p), .val d]) :=
              s_ifret (rest := mNil) (r := gv 4) (d := d) (non_t (f := gv 4) rfl) rfl
            have cv : c (iD p) = nz d := by
              show (match g_may_follow [nbrD n A, nbrD n B, rowD row, iD p] with | some (.bl true) => (g_completed j [nbrD n A, nbrD n B, rowD (row ++ [p])]).bind nz | _ => none) = _
              rw [e]; simp only []; rw [e2]; rfl
            by_cases hz : d = .non
            · subst hz
              exact .inl ⟨cv, _, s_if et (fun _ => s_seq.trans (s_set e4 (s_nx e6 rfl))) (fun z => nomatch z), _, _, rfl⟩
            · have hz2 : (!isNonD d) = true := by cases d <;> first | rfl | exact absurd rfl hz
              rw [if_pos hz2] at e6
              refine .inr ⟨d, ?_, s_if et (fun _ => s_seq.trans (s_set e4 (s_rt e6))) (fun z => nomatch z)⟩
              rw [cv]
              exact nz_some hz) [.val (nbrD n A), .val (nbrD n B), .val (rowD row), .no, .no] ⟨_, _, rfl⟩
      have cond : tst (bin2 (gEqB false) (mapT gLen (cons2 (gv 2) (fun _ => some []))) (mapT gLen (cons2 (gv 0) (fun _ => some [])))) (en [.val (nbrD n A), .val (nbrD n B), .val (rowD row), .no, .no]) = some false := by
        refine tst_ (b2 (mt (c2 rfl rfl) (len_lst _ _)) (mt (c2 rfl rfl) (len_lst _ _)) ((eq_int _ _ _).trans ?_))
        rw [List.length_range]
        have : (row.length == n) = false := by simpa using hf
        rw [this]; rfl
      have rg : rng1 (cons2 (mapT gLen (cons2 (gv 1) (fun _ => some []))) (fun _ => some [])) (en [.val (nbrD n A), .val (nbrD n B), .val (rowD row), .no, .no]) = some ((List.range n).map iD) := by
        refine rng1_ (c2 (mt (c2 rfl rfl) ((len_lst _ _).trans ?_)) rfl) (by omega)
        rw [List.length_range]
      rcases lp with ⟨e', l1, ⟨x, y, rfl⟩, l3⟩ | ⟨d, hd, r, l1, l2⟩
      · refine ⟨.non, ?_, fun z => absurd rfl z, fun ex => ?_⟩
        · refine run_of (n := 3) rfl ?_
          unfold m_completed
          refine (s_ifret (d := .tup (row.map iD)) cond rfl).trans ?_
          rw [if_neg (by decide)]
          exact s_nx ((for_ rg).trans l1) (s_ret rfl)
        · exfalso
          obtain ⟨p, hp, m, e⟩ := ext_down hl ex
          have := l3 _ (List.mem_map_of_mem (List.mem_range.mpr hp))
          rcases step p hp with s | ⟨r, s, _⟩
          · exact s.2 ⟨m, e⟩
          · rw [s] at this; cases this
      · obtain ⟨p, hp, rfl⟩ := List.mem_map.mp hd
        have hp := List.mem_range.mp hp
        rcases step p hp with s | ⟨r', s, hz, m⟩
        · rw [s.1] at l1; cases l1
        · rw [s] at l1
          cases l1
          refine ⟨r, ?_, fun _ => ext_up m.2, fun _ => hz⟩
          refine run_of (n := 3) rfl ?_
          unfold m_completed
          refine (s_ifret (d := .tup (row.map iD)) cond rfl).trans ?_
          rw [if_neg (by decide)]
          exact s_rt ((for_ rg).trans l2)
end
end Wl
set_option maxRecDepth 100000
set_option maxHeartbeats 1000000
/-! the law's own search -/
namespace Wl
open PySem L2 PyProof.Rows Wd Wg Wm
abbrev mrow (n : Nat) (A : Gr) (u : Nat) : D := .lst ((List.range n).map fun v => .bl (A u v))
theorem eqD_bt (b : Bool) : eqD (.bl b) (.bl true) = b := by unfold eqD; cases b <;> rfl
theorem cntD_map {α : Type} (f : α → Bool) : ∀ l : List α, cntD (.bl true) (l.map fun v => .bl (f v)) = (l.filter f).length
  | [] => rfl
  | a :: r => by
    rw [List.map_cons]
    unfold cntD
    rw [eqD_bt, cntD_map f r, List.filter_cons]
    cases f a <;> simp
theorem flat_bl {α : Type} (f : α → Bool) (l : List α) : (l.map fun v => D.bl (f v)).all flatD = true := by
  induction l with
  | nil => rfl
  | cons a r ih => rw [List.map_cons, List.all_cons, ih]; rfl
theorem cnt_row {fo : E → Option D} {env : E} {n : Nat} {A : Gr} {u : Nat} (h : fo env = some (mrow n A u)) : cntV fo (cB true) env = some (iD (deg n A u)) := by
  unfold cntV
  rw [h]
  simp only [cB]
  rw [if_pos (by rw [flat_bl]; rfl), cntD_map]; rfl
theorem ix_mrow {n : Nat} {A : Gr} {u v : Nat} (h : v < n) : gIx (mrow n A u) (iD v) = some (.bl (A u v)) := ix_range _ h
section
variable {n : Nat} {A B : Gr} {row : List Nat} {p : Nat}
theorem Lmay_f (hn : n < 1000) (hA : ∀ i j, A i j = A j i) (hB : ∀ i j, B i j = B j i) (hr : ∀ x ∈ row, x < n) (hk : row.length < n) (hp : p < n) : ∃ b, g_L_may_follow [matD n A, matD n B, rowD row, iD p] = some (.bl b) ∧ (b = true ↔ May n A B row p) := by
  let b1 := decide (p ∈ row) || (true != (deg n A row.length == deg n B p))
  let b2' := true != (A row.length row.length == B p p)
  have start : ∀ X, (if b1 = true then some (.rt (.bl false)) else if b2' = true then some (.rt (.bl false)) else X) = (if (b1 || b2') = true then some (Out.rt (.bl false)) else X) := fun X => by cases b1 <;> cases b2' <;> rfl
  let c : D → Option D := fun d => match d with
    | .int i => if (true != (A i.toNat row.length == B (at_ row i.toNat) p)) = true then some (.bl false) else none
    | _ => none
  let S : List Ent → Prop := fun env => ∃ x, env = [.val (matD n A), .val (matD n B), .val (rowD row), .val (iD p), .val (iD row.length), x]
  have main : ∃ X, g_L_may_follow [matD n A, matD n B, rowD row, iD p] = X ∧ X = (if (b1 || b2') = true then some (.bl false) else if (∀ i, i < row.length → A i row.length = B (at_ row i) p) then some (.bl true) else some (.bl false)) := by
    refine ⟨_, rfl, ?_⟩
    have key : m_L_may_follow [.val (matD n A), .val (matD n B), .val (rowD row), .val (iD p), .no, .no] = if (b1 || b2') = true then some (.rt (.bl false)) else if (∀ i, i < row.length → A i row.length = B (at_ row i) p) then some (.rt (.bl true)) else some (.rt (.bl false)) := by
      unfold m_L_may_follow
      refine s_set (d := iD row.length) (mt (c2 rfl rfl) (len_lst _ _)) ?_
      refine (s_ifret (b := b1) (d := .bl false) ?_ rfl).trans ?_
      · exact or_ (tst_ (b2 rfl rfl (in_row _ _))) fun _ => tst_ (b2 (cnt_row (b2 rfl rfl (ix_mat hk))) (cnt_row (b2 rfl rfl (ix_mat hp))) (eq_int _ _ _))
      rw [← start]
      refine congrArg (fun X => if b1 = true then some (Out.rt (.bl false)) else X) ?_
      refine (s_ifret (b := b2') (d := .bl false) ?_ rfl).trans ?_
      · exact tst_ (b2 (b2 (b2 rfl rfl (ix_mat hk)) rfl (ix_mrow hk)) (b2 (b2 rfl rfl (ix_mat hp)) rfl (ix_mrow hp)) (eq_bl _ _ _))
      refine congrArg (fun X => if b2' = true then some (Out.rt (.bl false)) else X) ?_
      have lp := loop_find (t := bNm 5) (m := (mSeq (mIf (tst (bin2 (gEqB true) (bin2 gIx (bin2 gIx (gv 0) (gv 5)) (gv 4)) (bin2 gIx (bin2 gIx (gv 1) (bin2 gIx (gv 2) (gv 5))) (gv 3)))) (mSeq (mRet (cB false)) mNil) mNil) mNil)) S c ((List.range row.length).map iD) (fun d hd env ⟨x, he⟩ => by
        obtain ⟨i, hi, rfl⟩ := List.mem_map.mp hd
        have hi := List.mem_range.mp hi
        subst he
        have hq1 : at_ row i < n := hr _ (at_mem hi)
        refine ⟨_, rfl, ?_⟩
        have ev := s_ifret (rest := mNil) (env := [.val (matD n A), .val (matD n B), .val (rowD row), .val (iD p), .val (iD row.length), .val (iD i)]) (r := cB false) (d := .bl false) (c := tst (bin2 (gEqB true) (bin2 gIx (bin2 gIx (gv 0) (gv 5)) (gv 4)) (bin2 gIx (bin2 gIx (gv 1) (bin2 gIx (gv 2) (gv 5))) (gv 3)))) (b := true != (A i row.length == B (at_ row i) p))
          (tst_ (b2 (b2 (b2 rfl rfl (ix_mat (by omega))) rfl (ix_mrow hk)) (b2 (b2 rfl (b2 rfl rfl (ix_row hi)) (ix_mat hq1)) rfl (ix_mrow hp)) (eq_bl _ _ _))) rfl
        have cv : c (iD i) = if (true != (A i row.length == B (at_ row i) p)) = true then some (.bl false) else none := rfl
        by_cases h : (true != (A i row.length == B (at_ row i) p)) = true
        · exact .inr ⟨.bl false, by rw [cv, if_pos h], ev.trans (if_pos h)⟩
        · exact .inl ⟨by rw [cv, if_neg h], _, ev.trans (if_neg h), _, rfl⟩) [.val (matD n A), .val (matD n B), .val (rowD row), .val (iD p), .val (iD row.length), .no] ⟨_, rfl⟩
      have fe : rng1 (cons2 (gv 4) (fun _ => some [])) (en [.val (matD n A), .val (matD n B), .val (rowD row), .val (iD p), .val (iD row.length), .no]) = some ((List.range row.length).map iD) := rng1_ (c2 rfl rfl) (by omega)
      rcases lp with ⟨e', l1, ⟨x, rfl⟩, l3⟩ | ⟨d, hd, r, l1, l2⟩
      · refine (s_nx ((for_ fe).trans l1) (s_ret (f := cB true) rfl)).trans ?_
        rw [if_pos]
        intro i hi
        have := l3 _ (List.mem_map_of_mem (List.mem_range.mpr hi))
        have cv : c (iD i) = if (true != (A i row.length == B (at_ row i) p)) = true then some (.bl false) else none := rfl
        have this : (if (true != (A i row.length == B (at_ row i) p)) = true then some (D.bl false) else none) = none := cv ▸ this
        by_cases h : (true != (A i row.length == B (at_ row i) p)) = true
        · rw [if_pos h] at this; cases this
        · simpa using h
      · refine (s_rt (d := r) ((for_ fe).trans l2)).trans ?_
        obtain ⟨i, hi, rfl⟩ := List.mem_map.mp hd
        have hi := List.mem_range.mp hi
        have cv : c (iD i) = if (true != (A i row.length == B (at_ row i) p)) = true then some (.bl false) else none := rfl
        rw [cv] at l1
        by_cases h : (true != (A i row.length == B (at_ row i) p)) = true
        · rw [if_pos h] at l1
          cases l1
          rw [if_neg]
          intro hall
          rw [hall i hi] at h
          simp at h
        · rw [if_neg h] at l1; cases l1
    show runF 4 6 m_L_may_follow _ = _
    by_cases h1 : (b1 || b2') = true
    · rw [if_pos h1] at key ⊢
      exact run_of rfl key
    · rw [if_neg h1] at key ⊢
      by_cases h2 : ∀ i, i < row.length → A i row.length = B (at_ row i) p
      · rw [if_pos h2] at key ⊢
        exact run_of rfl key
      · rw [if_neg h2] at key ⊢
        exact run_of rfl key
  obtain ⟨X, e, hX⟩ := main
  by_cases h1 : (b1 || b2') = true
  · rw [if_pos h1] at hX
    refine ⟨false, by rw [e, hX], fun z => (nomatch z), fun m => ?_⟩
    exfalso
    have a1 : b1 = false := by
      show (decide (p ∈ row) || (true != (deg n A row.length == deg n B p))) = false
      rw [decide_eq_false m.new, m.dg]; simp
    have a2 : b2' = false := by
      show (true != (A row.length row.length == B p p)) = false
      rw [m.lp]; simp
    rw [a1, a2] at h1
    cases h1
  · rw [if_neg h1] at hX
    have h0 : b1 = false ∧ b2' = false := by
      rw [Bool.or_eq_true, not_or] at h1
      exact ⟨Bool.eq_false_iff.mpr h1.1, Bool.eq_false_iff.mpr h1.2⟩
    by_cases h2 : ∀ i, i < row.length → A i row.length = B (at_ row i) p
    · rw [if_pos h2] at hX
      refine ⟨true, by rw [e, hX], fun _ => ?_, fun _ => rfl⟩
      have z1 : (decide (p ∈ row) || (true != (deg n A row.length == deg n B p))) = false := h0.1
      have z2 : (true != (A row.length row.length == B p p)) = false := h0.2
      rw [Bool.or_eq_false_iff] at z1
      exact ⟨of_decide_eq_false z1.1, by simpa using z1.2, by simpa using z2, fun i hi => by rw [hA, hB p]; exact h2 i hi⟩
    · rw [if_neg h2] at hX
      exact ⟨false, by rw [e, hX], fun z => (nomatch z), fun m => absurd (fun i hi => by rw [hA, hB _ p]; exact m.con i hi) h2⟩
end
section
variable {n : Nat} {A B : Gr} (hn : n < 1000) (hA : ∀ i j, A i j = A j i) (hB : ∀ i j, B i j = B j i)
include hn hA hB
theorem Lcompletes_f : ∀ (j : Nat) (row : List Nat), Good n A B row → n < j + row.length → ∃ b, g_L_completes j [matD n A, matD n B, rowD row] = some (.bl b) ∧ (b = true ↔ Ext n A B row)
  | 0, row, g, h => by have := g.le; omega
  | j + 1, row, g, h => by
    have gl := g.le
    by_cases hf : row.length = n
    · refine ⟨true, ?_, fun _ => ext_full g hf, fun _ => rfl⟩
      refine run_of (n := 3) rfl ?_
      unfold m_L_completes
      refine (s_ifret (b := true) (d := .bl true) ?_ rfl).trans (if_pos rfl)
      refine tst_ (b2 (mt (c2 rfl rfl) (len_lst _ _)) (mt (c2 rfl rfl) (len_lst _ _)) ((eq_int _ _ _).trans ?_))
      rw [hf, List.length_range]; simp
    · have hl : row.length < n := by omega
      let env0 : Ent → List Ent := fun x => [.val (matD n A), .val (matD n B), .val (rowD row), x]
      have step : ∀ p, p < n → ∃ b, andT (truT (mapT g_L_may_follow (cons2 (gv 0) (cons2 (gv 1) (cons2 (gv 2) (cons2 (gv 3) (fun _ => some []))))))) (truT (mapT (g_L_completes j) (cons2 (gv 0) (cons2 (gv 1) (cons2 (bin2 gAdd (gv 2) (mapT gLst (cons2 (gv 3) (fun _ => some [])))) (fun _ => some [])))))) (en (env0 (.val (iD p)))) = some b ∧ (b = true ↔ (May n A B row p ∧ Ext n A B (row ++ [p]))) := fun p hp => by
        obtain ⟨b, e, hb⟩ := Lmay_f hn hA hB g.lt hl hp
        have e1 : truT (mapT g_L_may_follow (cons2 (gv 0) (cons2 (gv 1) (cons2 (gv 2) (cons2 (gv 3) (fun _ => some [])))))) (en (env0 (.val (iD p)))) = some b := tru_ (mt (c2 rfl (c2 rfl (c2 rfl (c2 rfl rfl)))) e)
        cases b with
        | false =>
          refine ⟨false, ?_, fun z => (nomatch z), fun m => by have := hb.mpr m.1; cases this⟩
          exact and_ (b := false) e1 fun z => nomatch z
        | true =>
          have m := hb.mp rfl
          obtain ⟨b', e2, hd⟩ := Lcompletes_f j (row ++ [p]) (g.step hA hB hp hl m) (by simp; omega)
          refine ⟨b', ?_, fun z => ⟨m, hd.mp z⟩, fun z => hd.mpr z.2⟩
          have := and_ (tb := truT (mapT (g_L_completes j) (cons2 (gv 0) (cons2 (gv 1) (cons2 (bin2 gAdd (gv 2) (mapT gLst (cons2 (gv 3) (fun _ => some [])))) (fun _ => some [])))))) (b := b') e1 fun _ => tru_ (mt (c2 rfl (c2 rfl (c2 (b2 rfl rfl (add_row row p (by omega))) rfl))) e2)
          exact this
      let c : D → Option D := fun d => match andT (truT (mapT g_L_may_follow (cons2 (gv 0) (cons2 (gv 1) (cons2 (gv 2) (cons2 (gv 3) (fun _ => some []))))))) (truT (mapT (g_L_completes j) (cons2 (gv 0) (cons2 (gv 1) (cons2 (bin2 gAdd (gv 2) (mapT gLst (cons2 (gv 3) (fun _ => some [])))) (fun _ => some [])))))) (en (env0 (.val d))) with
        | some true => some (.bl true)
        | _ => none
      let S : List Ent → Prop := fun env => ∃ x, env = env0 x
      have lp := loop_find (t := bNm 3) (m := (mSeq (mIf (andT (truT (mapT g_L_may_follow (cons2 (gv 0) (cons2 (gv 1) (cons2 (gv 2) (cons2 (gv 3) (fun _ => some []))))))) (truT (mapT (g_L_completes j) (cons2 (gv 0) (cons2 (gv 1) (cons2 (bin2 gAdd (gv 2) (mapT gLst (cons2 (gv 3) (fun _ => some [])))) (fun _ => some []))))))) (mSeq (mRet (cB true)) mNil) mNil) mNil)) S c ((List.range n).map iD) (fun d hd env ⟨x, he⟩ => by
          obtain ⟨p, hp, rfl⟩ := List.mem_map.mp hd
          have hp := List.mem_range.mp hp
          subst he
          refine ⟨env0 (.val (iD p)), rfl, ?_⟩
          obtain ⟨b, e, _⟩ := step p hp
          have ev := s_ifret (rest := mNil) (r := cB true) (d := .bl true) e rfl
          cases b with
          | true => exact .inr ⟨.bl true, by show (match _ with | some true => some (D.bl true) | _ => none) = _; rw [e], ev.trans (if_pos rfl)⟩
          | false => exact .inl ⟨by show (match _ with | some true => some (D.bl true) | _ => none) = _; rw [e], _, ev.trans (if_neg (by decide)), _, rfl⟩) (env0 .no) ⟨_, rfl⟩
      have cond : tst (bin2 (gEqB false) (mapT gLen (cons2 (gv 2) (fun _ => some []))) (mapT gLen (cons2 (gv 0) (fun _ => some [])))) (en (env0 .no)) = some false := by
        refine tst_ (b2 (mt (c2 rfl rfl) (len_lst _ _)) (mt (c2 rfl rfl) (len_lst _ _)) ((eq_int _ _ _).trans ?_))
        rw [List.length_range]
        have : (row.length == n) = false := by simpa using hf
        rw [this]; rfl
      have rg : rng1 (cons2 (mapT gLen (cons2 (gv 1) (fun _ => some []))) (fun _ => some [])) (en (env0 .no)) = some ((List.range n).map iD) := by
        refine rng1_ (c2 (mt (c2 rfl rfl) ((len_lst _ _).trans ?_)) rfl) (by omega)
        rw [List.length_range]
      rcases lp with ⟨e', l1, ⟨x, rfl⟩, l3⟩ | ⟨d, hd, r, l1, l2⟩
      · refine ⟨false, ?_, fun z => (nomatch z), fun ex => ?_⟩
        · refine run_of (n := 3) rfl ?_
          unfold m_L_completes
          refine (s_ifret (d := .bl true) cond rfl).trans ?_
          rw [if_neg (by decide)]
          exact s_nx ((for_ rg).trans l1) (s_ret rfl)
        · exfalso
          obtain ⟨p, hp, m, e⟩ := ext_down hl ex
          have := l3 _ (List.mem_map_of_mem (List.mem_range.mpr hp))
          obtain ⟨b, e1, hb⟩ := step p hp
          have hb := hb.mpr ⟨m, e⟩
          subst hb
          have this : (match andT (truT (mapT g_L_may_follow (cons2 (gv 0) (cons2 (gv 1) (cons2 (gv 2) (cons2 (gv 3) (fun _ => some []))))))) (truT (mapT (g_L_completes j) (cons2 (gv 0) (cons2 (gv 1) (cons2 (bin2 gAdd (gv 2) (mapT gLst (cons2 (gv 3) (fun _ => some [])))) (fun _ => some [])))))) (en (env0 (.val (iD p)))) with | some true => some (D.bl true) | _ => none) = none := this
          rw [e1] at this
          cases this
      · obtain ⟨p, hp, rfl⟩ := List.mem_map.mp hd
        have hp := List.mem_range.mp hp
        obtain ⟨b, e1, hb⟩ := step p hp
        have l1 : (match andT (truT (mapT g_L_may_follow (cons2 (gv 0) (cons2 (gv 1) (cons2 (gv 2) (cons2 (gv 3) (fun _ => some []))))))) (truT (mapT (g_L_completes j) (cons2 (gv 0) (cons2 (gv 1) (cons2 (bin2 gAdd (gv 2) (mapT gLst (cons2 (gv 3) (fun _ => some [])))) (fun _ => some [])))))) (en (env0 (.val (iD p)))) with | some true => some (D.bl true) | _ => none) = some r := l1
        rw [e1] at l1
        cases b with
        | false => cases l1
        | true =>
          cases l1
          refine ⟨true, ?_, fun _ => ext_up (hb.mp rfl).2, fun _ => rfl⟩
          refine run_of (n := 3) rfl ?_
          unfold m_L_completes
          refine (s_ifret (d := .bl true) cond rfl).trans ?_
          rw [if_neg (by decide)]
          exact s_rt ((for_ rg).trans l2)
end
end Wl
set_option maxRecDepth 100000
set_option maxHeartbeats 1000000
/-! matrices and rows of neighbours -/
namespace Wl
open PySem L2 PyProof.Rows Wd Wg Wm
theorem lc_filter {t : BL} {ft : E → Option Bool} {fe : E → Option D} {L : EL} (P : D → Bool) (F : D → D) : ∀ ds : List D, (∀ d ∈ ds, ∃ L', t d L = some L' ∧ ft ⟨L', []⟩ = some (P d) ∧ (P d = true → fe ⟨L', []⟩ = some (F d))) → lcGo t ft fe L ds = some ((ds.filter P).map F)
  | [], _ => rfl
  | d :: ds, h => by
    obtain ⟨L', h1, h2, h3⟩ := h d List.mem_cons_self
    have ih := lc_filter P F ds fun x hx => h x (List.mem_cons_of_mem _ hx)
    unfold lcGo
    rw [h1]; simp only []; rw [h2]
    cases hp : P d with
    | false => simp only []; rw [ih, List.filter_cons, hp]; rfl
    | true =>
      simp only []
      rw [h3 hp]; simp only []; rw [ih, List.filter_cons, hp]; rfl
theorem lc_map {t : BL} {fe : E → Option D} {L : EL} (F : D → D) (ds : List D) (h : ∀ d ∈ ds, ∃ L', t d L = some L' ∧ fe ⟨L', []⟩ = some (F d)) : lcGo t yesT fe L ds = some (ds.map F) := by
  have e := lc_filter (ft := yesT) (fe := fe) (fun _ => true) F ds fun d hd => let ⟨L', a, b⟩ := h d hd; ⟨L', a, rfl, fun _ => b⟩
  have f : ds.filter (fun _ => true) = ds := List.filter_eq_self.mpr fun _ _ => rfl
  rw [f] at e
  exact e
theorem lcF_map {t : BL} {fe : E → Option (List D)} {L : EL} (F : D → List D) : ∀ ds : List D, (∀ d ∈ ds, ∃ L', t d L = some L' ∧ fe ⟨L', []⟩ = some (F d)) → lcF t fe L ds = some (ds.map F)
  | [], _ => rfl
  | d :: ds, h => by
    obtain ⟨L', h1, h2⟩ := h d List.mem_cons_self
    have ih := lcF_map F ds fun x hx => h x (List.mem_cons_of_mem _ hx)
    unfold lcF
    rw [h1]; simp only []; rw [h2]; simp only []; rw [ih]; rfl
theorem s_set2 {env : List Ent} {rest : M} {i : Nat} {vs : List Nat} {fi : E → Option (List D)} {t : BL} {fe : E → Option (List D)} {ds : List D} {dss : List (List D)} {X : Option Out} (h : fi (en env) = some ds) (h2 : lcF t fe (wipeL vs (en env).st) ds = some dss) (hl : dss.length ≤ LIM) (hn : nos dss = true) (k : rest (setOwn2 i dss env) = X) : mSeq (mSet2 i vs fi t fe) rest env = X := by
  unfold mSeq mSet2
  rw [h]; simp only []; rw [h2]; simp only []
  rw [if_pos (by rw [decide_eq_true hl, hn]; rfl)]
  exact k
theorem nos_map {α : Type} (f : α → List D) : ∀ l : List α, (∀ a ∈ l, noLs (f a) = true) → nos (l.map f) = true
  | [], _ => by unfold nos; rfl
  | a :: r, h => by
    rw [List.map_cons]
    unfold nos
    rw [h a List.mem_cons_self, nos_map f r fun b hb => h b (List.mem_cons_of_mem _ hb)]; rfl
theorem edges_mem {n : Nat} {A : Gr} {u v : Nat} : (u, v) ∈ edgesOf n A ↔ u < n ∧ v < n ∧ u ≤ v ∧ A u v = true := by
  unfold edgesOf
  rw [List.mem_flatMap]
  constructor
  · rintro ⟨a, ha, h⟩
    obtain ⟨b, hb, e⟩ := List.mem_map.mp h
    cases e
    rw [List.mem_filter, Bool.and_eq_true, decide_eq_true_eq] at hb
    exact ⟨List.mem_range.mp ha, List.mem_range.mp hb.1, hb.2⟩
  · rintro ⟨h1, h2, h3, h4⟩
    exact ⟨u, List.mem_range.mpr h1, List.mem_map.mpr ⟨v, List.mem_filter.mpr ⟨List.mem_range.mpr h2, by rw [h4, decide_eq_true h3]; rfl⟩, rfl⟩⟩
abbrev mtx (n : Nat) (M : Gr) : List (List D) := (List.range n).map fun u => (List.range n).map fun v => .bl (M u v)
def put (M : Gr) (a b : Nat) : Gr := fun i j => M i j || (i == a && j == b)
theorem set_range {α : Type} (f : Nat → α) {n a : Nat} (x : α) (h : a < n) : ((List.range n).map f).set a x = (List.range n).map fun i => if i = a then x else f i := by
  refine List.ext_getElem (by simp) fun i h1 h2 => ?_
  rw [List.getElem_set, List.getElem_map, List.getElem_map, List.getElem_range]
  by_cases e : a = i
  · subst e; simp
  · rw [if_neg e, if_neg (fun z => e z.symm)]
theorem mtx_put {n : Nat} {M : Gr} {a b : Nat} (ha : a < n) (hb : b < n) : (mtx n M).set a (((List.range n).map fun v => D.bl (M a v)).set b (.bl true)) = mtx n (put M a b) := by
  rw [set_range _ _ hb, set_range _ _ ha]
  refine List.map_congr_left fun i hi => ?_
  by_cases e : i = a
  · subst e
    rw [if_pos rfl]
    refine List.map_congr_left fun j hj => ?_
    unfold put
    by_cases e2 : j = b
    · subst e2; simp
    · rw [if_neg e2]; simp [e2]
  · rw [if_neg e]
    refine List.map_congr_left fun j hj => ?_
    unfold put
    simp [e]
theorem s_put2 {env : List Ent} {rest : M} {i n : Nat} {M' : Gr} {f1 f2 : E → Option D} {a b : Nat} {X : Option Out} (e : env[i]? = some (.own2 (mtx n M'))) (h1 : f1 (en env) = some (iD a)) (h2 : f2 (en env) = some (iD b)) (ha : a < n) (hb : b < n) (k : rest (setOwn2 i (mtx n (put M' a b)) env) = X) :
    mSeq (mPut2 i f1 f2 (cB true)) rest env = X := by
  unfold mSeq mPut2
  simp only [cB]
  rw [h1]; simp only []; rw [h2]; simp only []; rw [e]; simp only []
  have l1 : (mtx n M').length = n := by simp
  rw [l1, ixN_nat ha]; simp only []
  rw [get_range _ ha]; simp only []
  have l2 : ((List.range n).map fun v => D.bl (M' a v)).length = n := by simp
  rw [l2, ixN_nat hb]; simp only []
  rw [mtx_put ha hb]
  exact k
def pf (M : Gr) (e : Nat × Nat) : Gr := put (put M e.1 e.2) e.2 e.1
theorem pf_fold (l : List (Nat × Nat)) : ∀ (M : Gr) (u v : Nat), (l.foldl pf M) u v = (M u v || l.any fun e => (u == e.1 && v == e.2) || (u == e.2 && v == e.1)) := by
  induction l with
  | nil => intro M u v; simp
  | cons e r ih =>
    intro M u v
    rw [List.foldl_cons, ih, List.any_cons]
    unfold pf put
    simp only [Bool.or_assoc]
theorem edges_any {n : Nat} {A : Gr} (hA : ∀ i j, A i j = A j i) {u v : Nat} (hu : u < n) (hv : v < n) : ((edgesOf n A).any fun e => (u == e.1 && v == e.2) || (u == e.2 && v == e.1)) = A u v := by
  rw [Bool.eq_iff_iff, List.any_eq_true]
  constructor
  · rintro ⟨⟨a, b⟩, hm, h⟩
    obtain ⟨_, _, _, h4⟩ := edges_mem.mp hm
    rw [Bool.or_eq_true, Bool.and_eq_true, Bool.and_eq_true] at h
    rcases h with ⟨h1, h2⟩ | ⟨h1, h2⟩
    · rw [beq_iff_eq.mp h1, beq_iff_eq.mp h2]; exact h4
    · rw [beq_iff_eq.mp h1, beq_iff_eq.mp h2, hA]; exact h4
  · intro h
    by_cases q : u ≤ v
    · exact ⟨(u, v), edges_mem.mpr ⟨hu, hv, q, h⟩, by simp⟩
    · exact ⟨(v, u), edges_mem.mpr ⟨hv, hu, by omega, by rw [hA]; exact h⟩, by simp⟩
theorem noLs_bl {α : Type} (f : α → Bool) : ∀ l : List α, noLs (l.map fun v => .bl (f v)) = true
  | [] => by unfold noLs; rfl
  | a :: r => by rw [List.map_cons]; unfold noLs; rw [noLs_bl f r]; unfold noL; rfl
theorem matrix_f {n : Nat} {A : Gr} (hn : n < 1000) (hA : ∀ i j, A i j = A j i) : g_L_matrix [gD n A] = some (matD n A) := by
  refine run_of (n := 1) rfl ?_
  show m_L_matrix [.val (gD n A), .no, .no, .no] = _
  unfold m_L_matrix
  refine s_set2 (ds := (List.range n).map iD) (dss := mtx n fun _ _ => false) (rng1_ (c2 (b2 rfl rfl ix_g0) rfl) (by omega)) ?_ (by simp [LIM]; omega) (nos_map _ _ fun a _ => noLs_bl _ _) ?_
  · have rep : ∀ n : Nat, (List.replicate n [D.bl false]).flatten = (List.range n).map fun _ => D.bl false := fun n => by
      induction n with
      | zero => rfl
      | succ n ih => rw [List.replicate_succ', List.flatten_append, ih, List.range_succ, List.map_append]; rfl
    refine (lcF_map (t := eNm 3) (fe := mulF (mapT gLst (cons2 (cB false) fun x => some [])) (bin2 gIx (gv 0) (cI 0))) (L := wipeL [3] (en [Ent.val (gD n A), Ent.no, Ent.no, Ent.no]).st) (fun _ => (List.range n).map fun _ => .bl false) _ fun d hd => ⟨_, rfl, ?_⟩).trans ?_
    · show (if (decide ([D.bl false].length ≤ 1) && decide ((0 : Int) ≤ (n : Int)) && decide ((n : Int) ≤ 100000)) = true then some (List.replicate (n : Int).toNat [D.bl false]).flatten else none) = _
      rw [if_pos (by simp; omega)]
      rw [Int.toNat_natCast, rep]
    · rw [List.map_map]; rfl
  · have lp := loop_fold (t := bNm 2) (m := (mSeq (mPut2 1 (bin2 gIx (gv 2) (cI 0)) (bin2 gIx (gv 2) (cI 1)) (cB true)) (mSeq (mPut2 1 (bin2 gIx (gv 2) (cI 1)) (bin2 gIx (gv 2) (cI 0)) (cB true)) mNil))) (α := Gr)
      (S := fun M env => ∃ x, env = [.val (gD n A), .own2 (mtx n M), x, .no]) (fun M d => match d with | .tup [.int a, .int b] => pf M (a.toNat, b.toNat) | _ => M) ((edgesOf n A).map pN) (fun d hd M env ⟨x, he⟩ => by
        obtain ⟨⟨a, b⟩, hm, rfl⟩ := List.mem_map.mp hd
        obtain ⟨ha, hb, _, _⟩ := edges_mem.mp hm
        subst he
        exact ⟨[.val (gD n A), .own2 (mtx n M), .val (pN (a, b)), .no], [.val (gD n A), .own2 (mtx n (pf M (a, b))), .val (pN (a, b)), .no], rfl, s_put2 (M' := M) rfl rfl rfl ha hb (s_put2 (M' := put M a b) rfl rfl rfl hb ha rfl), _, rfl⟩) (fun _ _ => false) [.val (gD n A), .own2 (mtx n fun _ _ => false), .no, .no] ⟨_, rfl⟩
    obtain ⟨e', l1, ⟨x, rfl⟩⟩ := lp
    refine s_nx ((for_ (ds := (edgesOf n A).map pN) rfl).trans l1) (s_ret ?_)
    have fl : ∀ (l : List (Nat × Nat)) (M : Gr), (l.map pN).foldl (fun M d => match d with | .tup [.int a, .int b] => pf M (a.toNat, b.toNat) | _ => M) M = l.foldl pf M := fun l => by
      induction l with
      | nil => intro M; rfl
      | cons e r ih => intro M; rw [List.map_cons, List.foldl_cons, List.foldl_cons, ih]; rfl
    rw [fl]
    show some (D.lst ((mtx n _).map D.lst)) = _
    unfold mtx matD
    rw [List.map_map]
    congr 2
    refine List.map_congr_left fun u hu => ?_
    show D.lst _ = D.lst _
    congr 1
    refine List.map_congr_left fun v hv => ?_
    rw [pf_fold, edges_any hA (List.mem_range.mp hu) (List.mem_range.mp hv)]; rfl
end Wl
set_option maxRecDepth 100000
set_option maxHeartbeats 1000000
/-! the rows of neighbours -/
namespace Wl
open PySem L2 PyProof.Rows Wd Wg Wm
theorem loop_idx {t : Wd.B} {m : M} (S : Nat → List Ent → Prop) : ∀ (ds : List D) (k : Nat), (∀ i d env, ds[i]? = some d → S (k + i) env → ∃ env1 env2, t d env = some env1 ∧ m env1 = some (.nx env2) ∧ S (k + i + 1) env2) → ∀ env, S k env → ∃ env', mLoop t m ds env = some (.nx env') ∧ S (k + ds.length) env'
  | [], k, _, env, h => ⟨env, rfl, h⟩
  | d :: ds, k, st, env, h => by
    obtain ⟨e1, e2, h1, h2, h3⟩ := st 0 d env rfl h
    obtain ⟨e', h4, h5⟩ := loop_idx S ds (k + 1) (fun i d env hd hs => by
      have := st (i + 1) d env (by simpa using hd) (by rw [show k + (i + 1) = k + 1 + i by omega]; exact hs)
      rw [show k + (i + 1) = k + 1 + i by omega] at this
      exact this) e2 h3
    refine ⟨e', ?_, by rw [List.length_cons, show k + (ds.length + 1) = k + 1 + ds.length by omega]; exact h5⟩
    unfold mLoop
    rw [h1]; simp only []; rw [h2]; exact h4
theorem sm_le {n c : Nat} {f : Nat → Nat} (h : ∀ i, i < n → f i ≤ c) : sm n f ≤ n * c := by
  induction n with
  | zero => simp [sm]
  | succ n ih =>
    rw [sm_succ, Nat.succ_mul]
    exact Nat.add_le_add (ih fun i hi => h i (by omega)) (h n (by omega))
theorem edges_le (n : Nat) (A : Gr) : (edgesOf n A).length ≤ n * n := by
  rw [edges_len]
  refine sm_le fun u _ => ?_
  have := sm_le (n := n) (c := 1) (f := fun v => if (decide (u ≤ v) && A u v) then 1 else 0) fun v _ => by split <;> omega
  omega
def hN (u : Nat) (e : Nat × Nat) : List Nat := (if u = e.1 then [e.2] else []) ++ (if u = e.2 ∧ e.1 ≠ e.2 then [e.1] else [])
theorem hN_le (u : Nat) (e : Nat × Nat) : (hN u e).length ≤ 2 := by
  unfold hN
  rw [List.length_append]
  split <;> split <;> simp
theorem flat_le (u : Nat) : ∀ l : List (Nat × Nat), (l.flatMap (hN u)).length ≤ 2 * l.length
  | [] => by simp
  | e :: r => by
    rw [List.flatMap_cons, List.length_append, List.length_cons]
    have := flat_le u r
    have := hN_le u e
    omega
abbrev lsts (n : Nat) (l : Nat → List Nat) : List (List D) := (List.range n).map fun u => (l u).map iD
theorem s_app2 {env : List Ent} {rest : M} {i n : Nat} {l : Nat → List Nat} {f1 f2 : E → Option D} {a b : Nat} {X : Option Out} (e : env[i]? = some (.own2 (lsts n l))) (h1 : f1 (en env) = some (iD a)) (h2 : f2 (en env) = some (iD b)) (ha : a < n) (hl : (l a).length < 100000) (k : rest (setOwn2 i (lsts n (fun u => if u = a then l a ++ [b] else l u)) env) = X) :
    mSeq (mApp2 i f1 f2) rest env = X := by
  unfold mSeq mApp2
  rw [h1]; simp only []; rw [h2]; simp only []; rw [e]; simp only []
  have l1 : (lsts n l).length = n := by simp
  rw [l1, ixN_nat ha]; simp only []
  rw [get_range _ ha]; simp only []
  rw [if_pos (by rw [List.length_map]; exact hl)]
  have : (lsts n l).set a ((l a).map iD ++ [iD b]) = lsts n (fun u => if u = a then l a ++ [b] else l u) := by
    rw [set_range _ _ ha]
    refine List.map_congr_left fun u _ => ?_
    by_cases q : u = a
    · subst q; simp
    · simp [q]
  rw [this]
  exact k
theorem flat_nil {α β : Type} {f : α → List β} {l : List α} (h : ∀ a ∈ l, f a = []) : l.flatMap f = [] := List.flatMap_eq_nil_iff.mpr h
theorem flat_if {α : Type} (p : α → Bool) : ∀ l : List α, (l.flatMap fun a => if p a then [a] else []) = l.filter p
  | [] => rfl
  | a :: r => by
    rw [List.flatMap_cons, flat_if p r, List.filter_cons]
    cases p a <;> rfl
theorem flat_congr {α β : Type} {f g : α → List β} : ∀ {l : List α}, (∀ a ∈ l, f a = g a) → l.flatMap f = l.flatMap g
  | [], _ => rfl
  | a :: r, h => by rw [List.flatMap_cons, List.flatMap_cons, h a List.mem_cons_self, flat_congr fun b hb => h b (List.mem_cons_of_mem _ hb)]
theorem flat_one (p : Nat → Bool) (u x : Nat) : ∀ n : Nat, (((List.range n).filter p).flatMap fun b => if b = u then [x] else []) = if u < n ∧ p u = true then [x] else []
  | 0 => by simp
  | n + 1 => by
    rw [List.range_succ, List.filter_append, List.flatMap_append, flat_one p u x n]
    by_cases h : u = n
    · subst h
      cases hp : p u <;> simp [hp]
    · have e : ([n].filter p).flatMap (fun b => if b = u then [x] else []) = [] := flat_nil fun b hb => by
        have := List.mem_singleton.mp (List.mem_filter.mp hb).1
        rw [if_neg]; omega
      rw [e, List.append_nil]
      by_cases h2 : u < n
      · have h3 : u < n + 1 := by omega
        simp [h2, h3]
      · have h3 : ¬ u < n + 1 := by omega
        simp [h2, h3]
theorem nb_list {n : Nat} {A : Gr} (hA : ∀ i j, A i j = A j i) {u : Nat} (hu : u < n) : (edgesOf n A).flatMap (hN u) = (List.range n).filter fun v => A u v := by
  have e1 : (edgesOf n A).flatMap (hN u) = (List.range n).flatMap fun a => ((List.range n).filter fun b => decide (a ≤ b) && A a b).flatMap fun b => hN u (a, b) := by
    unfold edgesOf
    rw [List.flatMap_assoc]
    refine flat_congr fun a _ => ?_
    rw [List.flatMap_map]
  have G : ∀ a, a < n → (((List.range n).filter fun b => decide (a ≤ b) && A a b).flatMap fun b => hN u (a, b)) = if a < u then (if A u a then [a] else []) else if a = u then (List.range n).filter (fun b => decide (u ≤ b) && A u b) else [] := fun a ha => by
    by_cases h1 : a < u
    · rw [if_pos h1]
      have : (((List.range n).filter fun b => decide (a ≤ b) && A a b).flatMap fun b => hN u (a, b)) = (((List.range n).filter fun b => decide (a ≤ b) && A a b).flatMap fun b => if b = u then [a] else []) := flat_congr fun b _ => by
        unfold hN
        rw [if_neg (by simp; omega)]
        by_cases q : b = u
        · rw [if_pos ⟨q.symm, by simp; omega⟩, if_pos q]; rfl
        · rw [if_neg (fun z => q z.1.symm), if_neg q]; rfl
      rw [this, flat_one]
      have h2 : a ≤ u := by omega
      rw [hA u a]
      cases A a u <;> simp [hu, h2]
    · rw [if_neg h1]
      by_cases h2 : a = u
      · subst h2
        rw [if_pos rfl]
        have : (((List.range n).filter fun b => decide (a ≤ b) && A a b).flatMap fun b => hN a (a, b)) = (((List.range n).filter fun b => decide (a ≤ b) && A a b).flatMap fun b => [b]) := flat_congr fun b _ => by
          unfold hN
          rw [if_pos rfl, if_neg (fun z => z.2 z.1)]; rfl
        rw [this, List.flatMap_singleton']
      · rw [if_neg h2]
        refine flat_nil fun b hb => ?_
        have := (List.mem_filter.mp hb).2
        rw [Bool.and_eq_true, decide_eq_true_eq] at this
        unfold hN
        rw [if_neg (by simp; omega), if_neg (fun z => by have := z.1; simp at this; omega)]; rfl
  rw [e1, flat_congr fun a ha => G a (List.mem_range.mp ha)]
  obtain ⟨k, rfl⟩ : ∃ k, n = u + (k + 1) := ⟨n - u - 1, by omega⟩
  have r : List.range (u + (k + 1)) = List.range u ++ (List.range (k + 1)).map (u + ·) := List.range_add
  have p1 : ((List.range u).flatMap fun a => if a < u then (if A u a then [a] else []) else if a = u then (List.range (u + (k + 1))).filter (fun b => decide (u ≤ b) && A u b) else []) = (List.range u).filter fun v => A u v := by
    rw [flat_congr (g := fun a => if A u a then [a] else []) fun a ha => if_pos (List.mem_range.mp ha), flat_if]
  have p2 : (((List.range (k + 1)).map (u + ·)).flatMap fun a => if a < u then (if A u a then [a] else []) else if a = u then (List.range (u + (k + 1))).filter (fun b => decide (u ≤ b) && A u b) else []) = (List.range (u + (k + 1))).filter (fun b => decide (u ≤ b) && A u b) := by
    rw [List.range_succ_eq_map, List.map_cons, List.flatMap_cons]
    rw [if_neg (by omega), if_pos (by omega)]
    rw [flat_nil fun a ha => ?_, List.append_nil]
    obtain ⟨b, hb, rfl⟩ := List.mem_map.mp ha
    obtain ⟨c, _, rfl⟩ := List.mem_map.mp hb
    rw [if_neg (by omega), if_neg (by omega)]
  have p3 : (List.range (u + (k + 1))).filter (fun b => decide (u ≤ b) && A u b) = ((List.range (k + 1)).map (u + ·)).filter fun v => A u v := by
    rw [r, List.filter_append]
    have : (List.range u).filter (fun b => decide (u ≤ b) && A u b) = [] := List.filter_eq_nil_iff.mpr fun b hb => by
      have := List.mem_range.mp hb
      have h : ¬ u ≤ b := by omega
      simp [h]
    rw [this, List.nil_append]
    refine List.filter_congr fun b hb => ?_
    obtain ⟨c, _, rfl⟩ := List.mem_map.mp hb
    simp
  conv => lhs; arg 2; rw [r]
  rw [List.flatMap_append, p1, p2, p3]
  conv => rhs; rw [r]
  rw [List.filter_append]
theorem intsOf_map : ∀ l : List Nat, intsOf (l.map iD) = some (l.map fun x : Nat => (x : Int))
  | [] => rfl
  | a :: r => by
    rw [List.map_cons]
    unfold intsOf
    rw [intsOf_map r]; rfl
theorem sort_row {l : List Nat} (h : l.Pairwise (· ≤ ·)) : gSortI [rowD l] = some (rowD l) := by
  show (match intsOf (l.map iD) with | none => none | some ns => some (D.lst ((sortI ns).map D.int))) = _
  rw [intsOf_map]
  simp only []
  have : sortI (l.map fun x : Nat => (x : Int)) = l.map fun x : Nat => (x : Int) := sorted_uniq (sortI_perm _) (sortI_sorted _) (List.pairwise_map.mpr (h.imp fun q => by omega))
  rw [this, List.map_map]; rfl
theorem noLs_row (l : List Nat) : noLs (l.map iD) = true := by
  induction l with
  | nil => unfold noLs; rfl
  | cons a r ih => rw [List.map_cons]; unfold noLs; rw [ih]; unfold noL; rfl
theorem rows_f {n : Nat} {A : Gr} (hn : n ≤ 64) (hA : ∀ i j, A i j = A j i) : g_neighbour_rows [gD n A] = some (nbrD n A) := by
  refine run_of (n := 1) rfl ?_
  show m_neighbour_rows [.val (gD n A), .no, .no, .no, .no, .no] = _
  unfold m_neighbour_rows
  refine s_set2 (ds := (List.range n).map iD) (dss := lsts n fun _ => []) (rng1_ (c2 (b2 rfl rfl ix_g0) rfl) (by omega)) ?_ (by simp [LIM]; omega) (nos_map _ _ fun a _ => noLs_row _) ?_
  · refine (lcF_map (t := eNm 4) (fe := shortF (fun _ => some [])) (L := wipeL [4] (en [Ent.val (gD n A), Ent.no, Ent.no, Ent.no, Ent.no, Ent.no]).st) (fun _ => []) _ fun d hd => ⟨_, rfl, rfl⟩).trans ?_
    rw [List.map_map]; rfl
  · have le := edges_le n A
    have le2 : n * n ≤ 64 * 64 := Nat.mul_le_mul hn hn
    let fl : Nat → Nat → List Nat := fun i u => ((edgesOf n A).take i).flatMap (hN u)
    have bd : ∀ i u, (fl i u).length ≤ 2 * (64 * 64) := fun i u => by
      have := flat_le u ((edgesOf n A).take i)
      have h2 : ((edgesOf n A).take i).length ≤ (edgesOf n A).length := by rw [List.length_take]; omega
      show (((edgesOf n A).take i).flatMap (hN u)).length ≤ _
      omega
    have lp := loop_idx (t := bTp (bCons (bNm 2) (bCons (bNm 3) bNil))) (m := (mSeq (mApp2 1 (gv 2) (gv 3)) (mSeq (mIf (tst (bin2 (gEqB true) (gv 2) (gv 3))) (mSeq (mApp2 1 (gv 3) (gv 2)) mNil) mNil) mNil)))
      (fun i env => ∃ x y, env = [.val (gD n A), .own2 (lsts n (fl i)), x, y, .no, .no]) ((edgesOf n A).map pN) 0 (fun i d env hd ⟨x, y, he⟩ => by
        rw [Nat.zero_add] at he ⊢
        rw [List.getElem?_map] at hd
        cases hg : (edgesOf n A)[i]? with
        | none => rw [hg] at hd; cases hd
        | some e =>
          rw [hg] at hd
          cases hd
          obtain ⟨a, b⟩ := e
          obtain ⟨ha, hb, hab, _⟩ := edges_mem.mp (List.mem_of_getElem? hg)
          subst he
          have tk : (edgesOf n A).take (i + 1) = (edgesOf n A).take i ++ [(a, b)] := by
            have hi := (List.getElem?_eq_some_iff.mp hg).1
            rw [List.take_add_one, hg]; rfl
          have f1 : ∀ u, fl (i + 1) u = fl i u ++ hN u (a, b) := fun u => by
            show ((edgesOf n A).take (i + 1)).flatMap (hN u) = _
            rw [tk, List.flatMap_append]; simp [fl]
          let l1 : Nat → List Nat := fun u => if u = a then fl i a ++ [b] else fl i u
          by_cases q : a = b
          · subst q
            have e : lsts n l1 = lsts n (fl (i + 1)) := List.map_congr_left fun u _ => by
              rw [f1]
              show List.map iD (if u = a then fl i a ++ [a] else fl i u) = _
              unfold hN
              by_cases z : u = a
              · subst z; simp
              · simp [z]
            refine ⟨_, [.val (gD n A), .own2 (lsts n l1), .val (iD a), .val (iD a), .no, .no], rfl, s_app2 (l := fl i) (a := a) (b := a) rfl rfl rfl ha (by have := bd i a; omega) ?_, _, _, by rw [e]⟩
            refine s_if (b := false) (tst_ (b2 rfl rfl ((eq_int true a a).trans (by simp)))) (fun z => nomatch z) fun _ => rfl
          · let l2 : Nat → List Nat := fun u => if u = b then l1 b ++ [a] else l1 u
            have e : lsts n l2 = lsts n (fl (i + 1)) := List.map_congr_left fun u _ => by
              rw [f1]
              show List.map iD (if u = b then (if b = a then fl i a ++ [b] else fl i b) ++ [a] else if u = a then fl i a ++ [b] else fl i u) = _
              unfold hN
              by_cases z : u = b
              · subst z
                have q2 : ¬ u = a := fun z => q z.symm
                simp [q, q2]
              · by_cases z2 : u = a
                · subst z2; simp [z]
                · simp [z, z2]
            have lb : (l1 b).length < 100000 := by
              have := bd i a
              have := bd i b
              show (if b = a then fl i a ++ [b] else fl i b).length < _
              split
              · rw [List.length_append, List.length_singleton]; omega
              · omega
            refine ⟨_, [.val (gD n A), .own2 (lsts n l2), .val (iD a), .val (iD b), .no, .no], rfl, s_app2 (l := fl i) (a := a) (b := b) rfl rfl rfl ha (by have := bd i a; omega) ?_, _, _, by rw [e]⟩
            have qb : (a == b) = false := by simpa using q
            refine s_if (b := true) (tst_ (b2 rfl rfl ((eq_int true a b).trans (by rw [qb]; rfl)))) (fun _ => ?_) (fun z => nomatch z)
            exact s_seq.trans (s_app2 (l := l1) (a := b) (b := a) rfl rfl rfl hb lb rfl)) [.val (gD n A), .own2 (lsts n fun _ => []), .no, .no, .no, .no] ⟨.no, .no, rfl⟩
    obtain ⟨e', l1, ⟨x, y, rfl⟩⟩ := lp
    refine s_nx ((for_ (ds := (edgesOf n A).map pN) rfl).trans l1) (s_ret ?_)
    have fin : ∀ u, u < n → fl (0 + ((edgesOf n A).map pN).length) u = (List.range n).filter fun v => A u v := fun u hu => by
      show ((edgesOf n A).take _).flatMap (hN u) = _
      rw [Nat.zero_add, List.length_map, List.take_length]
      exact nb_list hA hu
    have e2 : lsts n (fl (0 + ((edgesOf n A).map pN).length)) = lsts n fun u => (List.range n).filter fun v => A u v := List.map_congr_left fun u hu => by rw [fin u (List.mem_range.mp hu)]
    rw [e2]
    have e3 : lcV [5] (seqV (gv 1)) (eNm 5) yesT (mapT gSortI (cons2 (gv 5) fun x => some [])) ⟨[.val (gD n A), .own2 (lsts n fun u => (List.range n).filter fun v => A u v), x, y, .no, .no].map fzE, [.val (gD n A), .own2 (lsts n fun u => (List.range n).filter fun v => A u v), x, y, .no, .no].map fzE⟩ = some ((lsts n fun u => (List.range n).filter fun v => A u v).map D.lst) := by
      unfold lcV
      show lcGo (eNm 5) yesT (mapT gSortI (cons2 (gv 5) fun x => some [])) _ ((lsts n fun u => (List.range n).filter fun v => A u v).map D.lst) = _
      refine (lc_map id _ fun d hd => ?_).trans (by rw [List.map_id])
      obtain ⟨r, hr, rfl⟩ := List.mem_map.mp hd
      obtain ⟨u, hu, rfl⟩ := List.mem_map.mp hr
      refine ⟨_, rfl, mt (c2 rfl rfl) (sort_row ?_)⟩
      exact (List.pairwise_lt_range.filter _).imp fun q => Nat.le_of_lt q
    unfold lstV
    rw [e3]
    simp only []
    rw [if_pos (by simp [LIM]; omega)]
    unfold nbrD lsts
    rw [List.map_map]; rfl
end Wl
set_option maxRecDepth 100000
set_option maxHeartbeats 1000000
/-! products -/
namespace Wl
open PySem L2 PyProof.Rows Wd Wg Wm
theorem fdiv_n {a b : Nat} (h : 0 < b) (h2 : b < 1000000) : gFdiv (iD a) (iD b) = some (iD (a / b)) := by
  show (if (decide ((0 : Int) < (b : Int)) && decide ((b : Int) < 1073741824)) = true then some (D.int ((a : Int) / (b : Int))) else none) = _
  rw [if_pos (by simp; omega)]
  rfl
theorem mod_n {a b : Nat} (h : 0 < b) : gMod (iD a) (iD b) = some (iD (a % b)) := by
  show (if (decide ((0 : Int) < (b : Int))) = true then some (D.int ((a : Int) % (b : Int))) else none) = _
  rw [if_pos (by simp; omega)]
  rfl
theorem mul_n {a b : Nat} (h : a < 1000000) : gMul (iD a) (iD b) = some (iD (a * b)) := by
  show (if ((decide (-two64 < (a : Int)) && decide ((a : Int) < two64)) || (decide (-two64 < (b : Int)) && decide ((b : Int) < two64))) = true then some (D.int ((a : Int) * (b : Int))) else none) = _
  rw [if_pos]
  · congr 2
  · rw [Bool.or_eq_true, Bool.and_eq_true, decide_eq_true_eq, decide_eq_true_eq]
    left
    unfold two64
    omega
theorem sub_n {a b : Nat} (h : b ≤ a) : gSub (iD a) (iD b) = some (iD (a - b)) := by
  show some (D.int ((a : Int) - (b : Int))) = _
  rw [show ((a : Int) - (b : Int)) = ((a - b : Nat) : Int) by omega]
theorem divmod_n {a b : Nat} (h : 0 < b) (h2 : b < 1000000) : gDivmod [iD a, iD b] = some (.tup [iD (a / b), iD (a % b)]) := by
  show (if (decide ((0 : Int) < (b : Int)) && decide ((b : Int) < 1073741824)) = true then some (D.tup [.int ((a : Int) / (b : Int)), .int ((a : Int) % (b : Int))]) else none) = _
  rw [if_pos (by simp; omega)]
  rfl
theorem Ljoined_f (a b c d : Bool) : g_L_joined [.str "direct", .bl a, .bl b, .bl c, .bl d] = some (.bl (a && b)) := by cases a <;> cases b <;> rfl
theorem joined_f (a b c d : Bool) : g_joined [.str "direct", .bl a, .bl b, .bl c, .bl d] = some (.bl (a && b)) := by cases a <;> cases b <;> rfl
def rowE (N : Nat) (G : Gr) (u : Nat) : List (Nat × Nat) := (((List.range (N - u)).map (u + ·)).filter fun v => G u v).map fun v => (u, v)
theorem rowE_le (N : Nat) (G : Gr) (u : Nat) : (rowE N G u).length ≤ N := by
  unfold rowE
  rw [List.length_map]
  have := List.length_filter_le (fun v => G u v) ((List.range (N - u)).map (u + ·))
  rw [List.length_map, List.length_range] at this
  omega
theorem rowE_pn (N : Nat) (G : Gr) (u : Nat) : (rowE N G u).map pN = (((List.range (N - u)).map (u + ·)).filter fun v => G u v).map fun h => pN (u, h) := by unfold rowE; rw [List.map_map]; rfl
theorem rowE_edges (N : Nat) (G : Gr) : (List.range N).flatMap (rowE N G) = edgesOf N G := by
  unfold edgesOf rowE
  refine flat_congr fun u hu => ?_
  have hu := List.mem_range.mp hu
  congr 1
  obtain ⟨k, rfl⟩ : ∃ k, N = u + k := ⟨N - u, by omega⟩
  rw [show u + k - u = k by omega]
  have r : List.range (u + k) = List.range u ++ (List.range k).map (u + ·) := List.range_add
  rw [r, List.filter_append]
  have : (List.range u).filter (fun b => decide (u ≤ b) && G u b) = [] := List.filter_eq_nil_iff.mpr fun b hb => by
    have := List.mem_range.mp hb
    have h : ¬ u ≤ b := by omega
    simp [h]
  rw [this, List.nil_append]
  refine List.filter_congr fun b hb => ?_
  obtain ⟨c, _, rfl⟩ := List.mem_map.mp hb
  simp
section
variable {t : Wd.B} {m : M}
theorem inner_loop (S : List D → List Ent → Prop) (cond : Nat → Bool) (low N : Nat) (st : ∀ h, low ≤ h → h < N → ∀ acc env, acc.length < 50000 → S acc env → ∃ env1 env2, t (iD h) env = some env1 ∧ m env1 = some (.nx env2) ∧ S (if cond h then acc ++ [pN (low, h)] else acc) env2) (acc : List D) (env : List Ent) (hl : acc.length + N ≤ 50000) (h : S acc env) :
    ∃ env', mLoop t m ((List.range (N - low)).map fun j => iD (low + j)) env = some (.nx env') ∧ S (acc ++ (((List.range (N - low)).map (low + ·)).filter cond).map fun h => pN (low, h)) env' := by
  have := loop_idx (t := t) (m := m) (fun i env => S (acc ++ (((List.range i).map (low + ·)).filter cond).map fun h => pN (low, h)) env) ((List.range (N - low)).map fun j => iD (low + j)) 0 (fun i d env hd hs => by
    rw [Nat.zero_add] at hs ⊢
    have hi : i < N - low := by
      have := (List.getElem?_eq_some_iff.mp hd).1
      simpa using this
    rw [get_range _ hi] at hd
    cases hd
    have hb : (acc ++ (((List.range i).map (low + ·)).filter cond).map fun h => pN (low, h)).length < 50000 := by
      rw [List.length_append, List.length_map]
      have := List.length_filter_le cond ((List.range i).map (low + ·))
      rw [List.length_map, List.length_range] at this
      omega
    obtain ⟨e1, e2, h1, h2, h3⟩ := st (low + i) (by omega) (by omega) _ _ hb hs
    refine ⟨e1, e2, h1, h2, ?_⟩
    rw [List.range_succ, List.map_append, List.filter_append, List.map_append, ← List.append_assoc]
    cases hc : cond (low + i) with
    | true => rw [hc] at h3; simpa [hc] using h3
    | false => rw [hc] at h3; simpa [hc] using h3) env (by simpa using h)
  simpa using this
theorem outer_loop (S : List D → List Ent → Prop) (G : Gr) (N : Nat) (hN : N ≤ 64) (st : ∀ low, low < N → ∀ acc env, acc.length + N ≤ 50000 → S acc env → ∃ env1 env2, t (iD low) env = some env1 ∧ m env1 = some (.nx env2) ∧ S (acc ++ (rowE N G low).map pN) env2) (env : List Ent) (h : S [] env) :
    ∃ env', mLoop t m ((List.range N).map iD) env = some (.nx env') ∧ S ((edgesOf N G).map pN) env' := by
  have := loop_idx (t := t) (m := m) (fun i env => S (((List.range i).flatMap (rowE N G)).map pN) env) ((List.range N).map iD) 0 (fun i d env hd hs => by
    rw [Nat.zero_add] at hs ⊢
    have hi : i < N := by
      have := (List.getElem?_eq_some_iff.mp hd).1
      simpa using this
    rw [get_range _ hi] at hd
    cases hd
    have hb : (((List.range i).flatMap (rowE N G)).map pN).length + N ≤ 50000 := by
      rw [List.length_map, len_flat]
      have := sm_le (n := i) (c := N) (f := fun u => (rowE N G u).length) fun u _ => rowE_le N G u
      have : i * N ≤ 64 * 64 := Nat.mul_le_mul (by omega) hN
      omega
    obtain ⟨e1, e2, h1, h2, h3⟩ := st i hi _ _ hb hs
    refine ⟨e1, e2, h1, h2, ?_⟩
    rw [List.range_succ, List.flatMap_append, List.map_append]
    simpa using h3) env (by simpa using h)
  rw [Nat.zero_add, List.length_map, List.length_range, rowE_edges] at this
  exact this
end
section
variable {n m : Nat} {A C : Gr} (hA : ∀ i j, A i j = A j i) (hC : ∀ i j, C i j = C j i) (hnm : n * m ≤ 64) (hn : n ≤ 64) (hm : m ≤ 64)
include hA hC hnm hn hm
theorem Lproduct_f : g_L_product [.str "direct", gD n A, gD m C] = some (gD (n * m) (pA m A C)) := by
  refine run_of (n := 3) rfl ?_
  show m_L_product [.val (.str "direct"), .val (gD n A), .val (gD m C), .no, .no, .no, .no, .no, .no, .no, .no, .no] = _
  unfold m_L_product
  refine s_set (d := matD n A) (mt (c2 rfl rfl) (matrix_f (by omega) hA)) ?_
  refine s_set (d := matD m C) (mt (c2 rfl rfl) (matrix_f (by omega) hC)) ?_
  refine s_setF (ds := []) rfl ?_
  have size : ∀ env : List Ent, env[1]? = some (.val (gD n A)) → env[2]? = some (.val (gD m C)) → bin2 gMul (bin2 gIx (gv 1) (cI 0)) (bin2 gIx (gv 2) (cI 0)) (en env) = some (iD (n * m)) := fun env h1 h2 => by
    have g1 : gv 1 (en env) = some (gD n A) := by unfold gv en; simp only [List.getElem?_map, h1]; rfl
    have g2 : gv 2 (en env) = some (gD m C) := by unfold gv en; simp only [List.getElem?_map, h2]; rfl
    exact b2 (b2 g1 rfl ix_g0) (b2 g2 rfl ix_g0) (mul_n (by omega))
  have lp := outer_loop (t := bNm 6) (m := (mSeq (mFor (rng2 (cons2 (gv 6) (cons2 (bin2 gMul (bin2 gIx (gv 1) (cI 0)) (bin2 gIx (gv 2) (cI 0))) (fun _ => some [])))) (bNm 7) (mSeq (mSet 8 (bin2 gFdiv (gv 6) (bin2 gIx (gv 2) (cI 0))))
      (mSeq (mSet 9 (bin2 gSub (gv 6) (bin2 gMul (gv 8) (bin2 gIx (gv 2) (cI 0))))) (mSeq (mSet 10 (bin2 gFdiv (gv 7) (bin2 gIx (gv 2) (cI 0)))) (mSeq (mSet 11 (bin2 gSub (gv 7) (bin2 gMul (gv 10) (bin2 gIx (gv 2) (cI 0)))))
      (mSeq (mIf (truT (mapT g_L_joined (cons2 (gv 0) (cons2 (bin2 gIx (bin2 gIx (gv 3) (gv 8)) (gv 10)) (cons2 (bin2 gIx (bin2 gIx (gv 4) (gv 9)) (gv 11)) (cons2 (bin2 (gEqB false) (gv 8) (gv 10)) (cons2 (bin2 (gEqB false) (gv 9) (gv 11)) (fun _ => some [])))))))) (mSeq (mApp 5 (mapT gTup (cons2 (gv 6) (cons2 (gv 7) (fun _ => some []))))) mNil) mNil) mNil)))))) mNil))
    (fun acc env => ∃ x6 x7 x8 x9 x10 x11, env = [.val (.str "direct"), .val (gD n A), .val (gD m C), .val (matD n A), .val (matD m C), .own acc, x6, x7, x8, x9, x10, x11]) (pA m A C) (n * m) hnm (fun low hlow acc env hacc ⟨x6, x7, x8, x9, x10, x11, he⟩ => by
      subst he
      have hm0 : 0 < m := Nat.pos_of_ne_zero fun z => by subst z; omega
      have il := inner_loop (t := bNm 7) (m := (mSeq (mSet 8 (bin2 gFdiv (gv 6) (bin2 gIx (gv 2) (cI 0))))
        (mSeq (mSet 9 (bin2 gSub (gv 6) (bin2 gMul (gv 8) (bin2 gIx (gv 2) (cI 0))))) (mSeq (mSet 10 (bin2 gFdiv (gv 7) (bin2 gIx (gv 2) (cI 0)))) (mSeq (mSet 11 (bin2 gSub (gv 7) (bin2 gMul (gv 10) (bin2 gIx (gv 2) (cI 0)))))
        (mSeq (mIf (truT (mapT g_L_joined (cons2 (gv 0) (cons2 (bin2 gIx (bin2 gIx (gv 3) (gv 8)) (gv 10)) (cons2 (bin2 gIx (bin2 gIx (gv 4) (gv 9)) (gv 11)) (cons2 (bin2 (gEqB false) (gv 8) (gv 10)) (cons2 (bin2 (gEqB false) (gv 9) (gv 11)) (fun _ => some [])))))))) (mSeq (mApp 5 (mapT gTup (cons2 (gv 6) (cons2 (gv 7) (fun _ => some []))))) mNil) mNil) mNil))))))
        (fun acc env => ∃ x7 x8 x9 x10 x11, env = [.val (.str "direct"), .val (gD n A), .val (gD m C), .val (matD n A), .val (matD m C), .own acc, .val (iD low), x7, x8, x9, x10, x11]) (fun h => pA m A C low h) low (n * m) (fun h hh1 hh2 acc env ha ⟨x7, x8, x9, x10, x11, he⟩ => by
          subst he
          have dl : low / m < n := Nat.div_lt_of_lt_mul (by rw [Nat.mul_comm]; exact hlow)
          have dh : h / m < n := Nat.div_lt_of_lt_mul (by rw [Nat.mul_comm]; exact hh2)
          have ml : low % m < m := Nat.mod_lt _ hm0
          have mh : h % m < m := Nat.mod_lt _ hm0
          have rl : low - low / m * m = low % m := by have := Nat.div_add_mod low m; rw [Nat.mul_comm] at this; omega
          have rh : h - h / m * m = h % m := by have := Nat.div_add_mod h m; rw [Nat.mul_comm] at this; omega
          have kl : low / m * m ≤ low := Nat.div_mul_le_self _ _
          have kh : h / m * m ≤ h := Nat.div_mul_le_self _ _
          have s9 : gSub (iD low) (iD (low / m * m)) = some (iD (low % m)) := by rw [← rl]; exact sub_n kl
          have s11 : gSub (iD h) (iD (h / m * m)) = some (iD (h % m)) := by rw [← rh]; exact sub_n kh
          let full : List D → List Ent := fun acc => [.val (.str "direct"), .val (gD n A), .val (gD m C), .val (matD n A), .val (matD m C), .own acc, .val (iD low), .val (iD h), .val (iD (low / m)), .val (iD (low % m)), .val (iD (h / m)), .val (iD (h % m))]
          have tj : truT (mapT g_L_joined (cons2 (gv 0) (cons2 (bin2 gIx (bin2 gIx (gv 3) (gv 8)) (gv 10)) (cons2 (bin2 gIx (bin2 gIx (gv 4) (gv 9)) (gv 11)) (cons2 (bin2 (gEqB false) (gv 8) (gv 10)) (cons2 (bin2 (gEqB false) (gv 9) (gv 11)) (fun _ => some []))))))) (en (full acc)) = some (pA m A C low h) :=
            tru_ (mt (c2 rfl (c2 (b2 (b2 rfl rfl (ix_mat dl)) rfl (ix_mrow dh)) (c2 (b2 (b2 rfl rfl (ix_mat ml)) rfl (ix_mrow mh)) (c2 (b2 rfl rfl (eq_int _ _ _)) (c2 (b2 rfl rfl (eq_int _ _ _)) rfl))))) (Ljoined_f _ _ _ _))
          refine ⟨_, full (if pA m A C low h then acc ++ [pN (low, h)] else acc), rfl, ?_, _, _, _, _, _, rfl⟩
          refine s_set (d := iD (low / m)) (b2 rfl (b2 rfl rfl ix_g0) (fdiv_n hm0 (by omega))) ?_
          refine s_set (d := iD (low % m)) (b2 rfl (b2 rfl (b2 rfl rfl ix_g0) (mul_n (by omega))) s9) ?_
          refine s_set (d := iD (h / m)) (b2 rfl (b2 rfl rfl ix_g0) (fdiv_n hm0 (by omega))) ?_
          refine s_set (d := iD (h % m)) (b2 rfl (b2 rfl (b2 rfl rfl ix_g0) (mul_n (by omega))) s11) ?_
          refine s_if (b := pA m A C low h) tj (fun z => ?_) (fun z => ?_)
          · rw [if_pos z]
            exact s_seq.trans (s_app (i := 5) (acc := acc) (d := pN (low, h)) rfl rfl (by show acc.length < 100000; omega) rfl)
          · rw [if_neg (by rw [z]; decide)]; rfl) acc [.val (.str "direct"), .val (gD n A), .val (gD m C), .val (matD n A), .val (matD m C), .own acc, .val (iD low), x7, x8, x9, x10, x11] hacc ⟨_, _, _, _, _, rfl⟩
      obtain ⟨e', l1, ⟨y7, y8, y9, y10, y11, rfl⟩⟩ := il
      refine ⟨_, _, rfl, s_nx ((for_ (rng2_ (n := n * m) (c2 rfl (c2 (size _ rfl rfl) rfl)) (by omega) (by omega))).trans l1) rfl, .val (iD low), y7, y8, y9, y10, y11, by rw [rowE_pn]⟩) [.val (.str "direct"), .val (gD n A), .val (gD m C), .val (matD n A), .val (matD m C), .own [], .no, .no, .no, .no, .no, .no] ⟨_, _, _, _, _, _, rfl⟩
  obtain ⟨e', l1, ⟨x6, x7, x8, x9, x10, x11, rfl⟩⟩ := lp
  refine s_nx ((for_ (rng1_ (c2 (size _ rfl rfl) rfl) (by omega))).trans l1) (s_ret ?_)
  refine mt (c2 (b2 (b2 rfl rfl ix_g0) (b2 rfl rfl ix_g0) (mul_n (by omega))) (c2 (mt (c2 rfl rfl) rfl) rfl)) rfl
theorem product_f : g_product [.str "direct", gD n A, gD m C] = some (gD (n * m) (pA m A C)) := by
  refine run_of (n := 3) rfl ?_
  show m_product [.val (.str "direct"), .val (gD n A), .val (gD m C), .no, .no, .no, .no, .no, .no, .no, .no, .no, .no] = _
  unfold m_product
  refine s_if (b := false) rfl (fun z => nomatch z) fun _ => ?_
  refine s_nil.trans ?_
  refine s_if (b := false) rfl (fun z => nomatch z) fun _ => ?_
  refine s_nil.trans ?_
  refine s_set (d := iD (n * m)) (b2 (b2 rfl rfl ix_g0) (b2 rfl rfl ix_g0) (mul_n (by omega))) ?_
  refine s_if (b := false) ?_ (fun z => nomatch z) fun _ => ?_
  · refine tst_ (b2 rfl rfl ?_)
    show some (D.bl (decide ((64 : Int) < ((n * m : Nat) : Int)))) = _
    rw [decide_eq_false (by omega)]
  refine s_nil.trans ?_
  refine s_set (d := nbrD n A) (mt (c2 rfl rfl) (rows_f hn hA)) ?_
  refine s_set (d := nbrD m C) (mt (c2 rfl rfl) (rows_f hm hC)) ?_
  refine s_setF (ds := []) rfl ?_
  have lp := outer_loop (t := bNm 7) (m := (mSeq (mBind (bTp (bCons (bNm 9) (bCons (bNm 10) bNil))) (mapT gDivmod (cons2 (gv 7) (cons2 (bin2 gIx (gv 2) (cI 0)) (fun _ => some [])))))
    (mSeq (mFor (rng2 (cons2 (gv 7) (cons2 (gv 3) (fun _ => some [])))) (bNm 8) (mSeq (mBind (bTp (bCons (bNm 11) (bCons (bNm 12) bNil))) (mapT gDivmod (cons2 (gv 8) (cons2 (bin2 gIx (gv 2) (cI 0)) (fun _ => some [])))))
    (mSeq (mIf (truT (mapT g_joined (cons2 (gv 0) (cons2 (bin2 (gInB false) (gv 11) (bin2 gIx (gv 4) (gv 9))) (cons2 (bin2 (gInB false) (gv 12) (bin2 gIx (gv 5) (gv 10))) (cons2 (bin2 (gEqB false) (gv 9) (gv 11)) (cons2 (bin2 (gEqB false) (gv 10) (gv 12)) (fun _ => some [])))))))) (mSeq (mApp 6 (mapT gTup (cons2 (gv 7) (cons2 (gv 8) (fun _ => some []))))) mNil) mNil) mNil))) mNil)))
    (fun acc env => ∃ x7 x8 x9 x10 x11 x12, env = [.val (.str "direct"), .val (gD n A), .val (gD m C), .val (iD (n * m)), .val (nbrD n A), .val (nbrD m C), .own acc, x7, x8, x9, x10, x11, x12]) (pA m A C) (n * m) hnm (fun low hlow acc env hacc ⟨x7, x8, x9, x10, x11, x12, he⟩ => by
      subst he
      have hm0 : 0 < m := Nat.pos_of_ne_zero fun z => by subst z; omega
      have il := inner_loop (t := bNm 8) (m := (mSeq (mBind (bTp (bCons (bNm 11) (bCons (bNm 12) bNil))) (mapT gDivmod (cons2 (gv 8) (cons2 (bin2 gIx (gv 2) (cI 0)) (fun _ => some [])))))
        (mSeq (mIf (truT (mapT g_joined (cons2 (gv 0) (cons2 (bin2 (gInB false) (gv 11) (bin2 gIx (gv 4) (gv 9))) (cons2 (bin2 (gInB false) (gv 12) (bin2 gIx (gv 5) (gv 10))) (cons2 (bin2 (gEqB false) (gv 9) (gv 11)) (cons2 (bin2 (gEqB false) (gv 10) (gv 12)) (fun _ => some [])))))))) (mSeq (mApp 6 (mapT gTup (cons2 (gv 7) (cons2 (gv 8) (fun _ => some []))))) mNil) mNil) mNil)))
        (fun acc env => ∃ x8 x11 x12, env = [.val (.str "direct"), .val (gD n A), .val (gD m C), .val (iD (n * m)), .val (nbrD n A), .val (nbrD m C), .own acc, .val (iD low), x8, .val (iD (low / m)), .val (iD (low % m)), x11, x12]) (fun h => pA m A C low h) low (n * m) (fun h hh1 hh2 acc env ha ⟨x8, x11, x12, he⟩ => by
          subst he
          have dl : low / m < n := Nat.div_lt_of_lt_mul (by rw [Nat.mul_comm]; exact hlow)
          have dh : h / m < n := Nat.div_lt_of_lt_mul (by rw [Nat.mul_comm]; exact hh2)
          have ml : low % m < m := Nat.mod_lt _ hm0
          have mh : h % m < m := Nat.mod_lt _ hm0
          let full : List D → List Ent := fun acc => [.val (.str "direct"), .val (gD n A), .val (gD m C), .val (iD (n * m)), .val (nbrD n A), .val (nbrD m C), .own acc, .val (iD low), .val (iD h), .val (iD (low / m)), .val (iD (low % m)), .val (iD (h / m)), .val (iD (h % m))]
          have tj : truT (mapT g_joined (cons2 (gv 0) (cons2 (bin2 (gInB false) (gv 11) (bin2 gIx (gv 4) (gv 9))) (cons2 (bin2 (gInB false) (gv 12) (bin2 gIx (gv 5) (gv 10))) (cons2 (bin2 (gEqB false) (gv 9) (gv 11)) (cons2 (bin2 (gEqB false) (gv 10) (gv 12)) (fun _ => some []))))))) (en (full acc)) = some (pA m A C low h) :=
            tru_ (mt (c2 rfl (c2 (b2 rfl (b2 rfl rfl (ix_nbr dl)) (in_nb dh)) (c2 (b2 rfl (b2 rfl rfl (ix_nbr ml)) (in_nb mh)) (c2 (b2 rfl rfl (eq_int _ _ _)) (c2 (b2 rfl rfl (eq_int _ _ _)) rfl))))) (joined_f _ _ _ _))
          refine ⟨_, full (if pA m A C low h then acc ++ [pN (low, h)] else acc), rfl, ?_, _, _, _, rfl⟩
          refine s_bind (d := .tup [iD (h / m), iD (h % m)]) (mt (c2 rfl (c2 (b2 rfl rfl ix_g0) rfl)) (divmod_n hm0 (by omega))) rfl ?_
          refine s_if (b := pA m A C low h) tj (fun z => ?_) (fun z => ?_)
          · rw [if_pos z]
            exact s_seq.trans (s_app (i := 6) (acc := acc) (d := pN (low, h)) rfl rfl (by show acc.length < 100000; omega) rfl)
          · rw [if_neg (by rw [z]; decide)]; rfl) acc [.val (.str "direct"), .val (gD n A), .val (gD m C), .val (iD (n * m)), .val (nbrD n A), .val (nbrD m C), .own acc, .val (iD low), x8, .val (iD (low / m)), .val (iD (low % m)), x11, x12] hacc ⟨_, _, _, rfl⟩
      obtain ⟨e', l1, ⟨y8, y11, y12, rfl⟩⟩ := il
      refine ⟨_, _, rfl, s_bind (d := .tup [iD (low / m), iD (low % m)]) (mt (c2 rfl (c2 (b2 rfl rfl ix_g0) rfl)) (divmod_n hm0 (by omega))) rfl (s_nx ((for_ (rng2_ (n := n * m) (c2 rfl (c2 rfl rfl)) (by omega) (by omega))).trans l1) rfl), .val (iD low), y8, .val (iD (low / m)), .val (iD (low % m)), y11, y12, by rw [rowE_pn]⟩) [.val (.str "direct"), .val (gD n A), .val (gD m C), .val (iD (n * m)), .val (nbrD n A), .val (nbrD m C), .own [], .no, .no, .no, .no, .no, .no] ⟨_, _, _, _, _, _, rfl⟩
  obtain ⟨e', l1, ⟨x7, x8, x9, x10, x11, x12, rfl⟩⟩ := lp
  refine s_nx ((for_ (rng1_ (c2 rfl rfl) (by omega))).trans l1) (s_ret ?_)
  exact mt (c2 rfl (c2 (mt (c2 rfl rfl) rfl) rfl)) rfl
end
end Wl
set_option maxRecDepth 100000
set_option maxHeartbeats 1000000
/-! alike, ties, fits, renamed -/
namespace Wl
open PySem L2 PyProof.Rows Wd Wg Wm
section
variable {n m : Nat} {A B : Gr} (hn : n ≤ 9) (hm : m ≤ 9) (hA : ∀ i j, A i j = A j i) (hB : ∀ i j, B i j = B j i)
include hn hm hA hB
theorem alike_f : ∃ b, g_L_alike [gD n A, gD m B] = some (.bl b) ∧ (b = true ↔ n = m ∧ Iso n A B) := by
  let b1 : Bool := (true != (n == m)) || (true != ((edgesOf n A).length == (edgesOf m B).length))
  have cond : orT (tst (bin2 (gEqB true) (bin2 gIx (gv 0) (cI 0)) (bin2 gIx (gv 1) (cI 0)))) (tst (bin2 (gEqB true) (mapT gLen (cons2 (bin2 gIx (gv 0) (cI 1)) (fun _ => some []))) (mapT gLen (cons2 (bin2 gIx (gv 1) (cI 1)) (fun _ => some []))))) (en [.val (gD n A), .val (gD m B)]) = some b1 :=
    or_ (tst_ (b2 (b2 rfl rfl ix_g0) (b2 rfl rfl ix_g0) (eq_int _ _ _))) fun _ => tst_ (b2 (mt (c2 (b2 rfl rfl ix_g1) rfl) (len_tup _ _)) (mt (c2 (b2 rfl rfl ix_g1) rfl) (len_tup _ _)) (eq_int _ _ _))
  have main : ∀ d, (b1 = false → (mapT (g_L_completes 11) (cons2 (mapT g_L_matrix (cons2 (gv 0) (fun _ => some []))) (cons2 (mapT g_L_matrix (cons2 (gv 1) (fun _ => some []))) (cons2 (mapT gLst (fun _ => some [])) (fun _ => some []))))) ⟨[.val (gD n A), .val (gD m B)].map fzE, [.val (gD n A), .val (gD m B)].map fzE⟩ = some d) → g_L_alike [gD n A, gD m B] = some (if b1 = true then .bl false else d) := fun d hd => by
    refine run_of (n := 2) rfl ?_
    show m_L_alike [.val (gD n A), .val (gD m B)] = _
    unfold m_L_alike
    refine (s_ifret (d := .bl false) cond rfl).trans ?_
    by_cases h : b1 = true
    · rw [if_pos h, if_pos h]
    · rw [if_neg h, if_neg h]
      exact s_ret (hd (Bool.eq_false_iff.mpr h))
  by_cases hb : b1 = true
  · refine ⟨false, ?_, fun z => (nomatch z), fun ⟨e, i⟩ => ?_⟩
    · have := main (.bl false) fun z => by rw [hb] at z; cases z
      rw [if_pos hb] at this; exact this
    · exfalso
      subst e
      have := edges_iso hA hB i
      have : b1 = false := by
        show ((true != (n == n)) || (true != ((edgesOf n A).length == (edgesOf n B).length))) = false
        rw [this]; simp
      rw [this] at hb; cases hb
  · have hb' : b1 = false := Bool.eq_false_iff.mpr hb
    have q : (true != (n == m)) = false := (Bool.or_eq_false_iff.mp hb').1
    have e : n = m := by simpa using q
    subst e
    obtain ⟨b, h1, h2⟩ := Lcompletes_f (n := n) (by omega) hA hB 11 [] Good.nil (by simp; omega)
    refine ⟨b, ?_, ⟨fun z => ⟨rfl, ext_nil.mp (h2.mp z)⟩, fun z => h2.mpr (ext_nil.mpr z.2)⟩⟩
    have := main (.bl b) fun _ => mt (c2 (mt (c2 rfl rfl) (matrix_f (by omega) hA)) (c2 (mt (c2 rfl rfl) (matrix_f (by omega) hB)) (c2 rfl rfl))) h1
    rw [if_neg hb] at this
    exact this
theorem find_f : ∃ d, g_find_renaming [gD n A, gD m B] = some d ∧ (d ≠ .non ↔ n = m ∧ Iso n A B) := by
  by_cases e : n = m
  · subst e
    have run : ∀ d b, (b = ((edgesOf n A).length == (edgesOf n B).length)) → (b = true → mapT (g_completed 11) (cons2 (mapT g_neighbour_rows (cons2 (gv 0) (fun _ => some []))) (cons2 (mapT g_neighbour_rows (cons2 (gv 1) (fun _ => some []))) (cons2 (mapT gLst (fun _ => some [])) (fun _ => some [])))) ⟨[.val (gD n A), .val (gD n B)].map fzE, [.val (gD n A), .val (gD n B)].map fzE⟩ = some d) → g_find_renaming [gD n A, gD n B] = some (if b = true then d else .non) := fun d b hb hd => by
      refine run_of (n := 2) rfl ?_
      show m_find_renaming [.val (gD n A), .val (gD n B)] = _
      unfold m_find_renaming
      refine (s_ifret (b := false) (d := .non) (tst_ (b2 (b2 rfl rfl ix_g0) (b2 rfl rfl ix_g0) ((eq_int true n n).trans (by simp)))) rfl).trans ?_
      rw [if_neg (by decide)]
      refine s_if (b := false) ?_ (fun z => nomatch z) fun _ => s_nil.trans ?_
      · refine tst_ (b2 (b2 rfl rfl ix_g0) rfl ?_)
        show some (D.bl (decide ((9 : Int) < (n : Int)))) = _
        rw [decide_eq_false (by omega)]
      refine (s_ifret (b := true != b) (d := .non) (tst_ (b2 (mt (c2 (b2 rfl rfl ix_g1) rfl) (len_tup _ _)) (mt (c2 (b2 rfl rfl ix_g1) rfl) (len_tup _ _)) ((eq_int true _ _).trans (by rw [← hb])))) rfl).trans ?_
      cases b with
      | true => rw [if_neg (by decide), if_pos rfl]; exact s_ret (hd rfl)
      | false => rw [if_pos (by decide), if_neg (by decide)]
    by_cases hl : ((edgesOf n A).length == (edgesOf n B).length) = true
    · obtain ⟨d, h1, h2⟩ := completed_f (n := n) (by omega) hA hB 11 [] Good.nil (by simp; omega)
      refine ⟨d, ?_, ⟨fun z => ⟨rfl, ext_nil.mp (h2.mp z)⟩, fun z => h2.mpr (ext_nil.mpr z.2)⟩⟩
      have := run d true hl.symm fun _ => mt (c2 (mt (c2 rfl rfl) (rows_f (by omega) hA)) (c2 (mt (c2 rfl rfl) (rows_f (by omega) hB)) (c2 rfl rfl))) h1
      exact this
    · have hl' := Bool.eq_false_iff.mpr hl
      refine ⟨.non, run .non false hl'.symm (fun z => nomatch z), fun z => absurd rfl z, fun z => ?_⟩
      exfalso
      exact hl (by rw [edges_iso hA hB z.2]; simp)
  · refine ⟨.non, ?_, fun z => absurd rfl z, fun z => absurd z.1 e⟩
    refine run_of (n := 2) rfl ?_
    show m_find_renaming [.val (gD n A), .val (gD m B)] = _
    unfold m_find_renaming
    have q : (n == m) = false := by simpa using e
    refine (s_ifret (b := true) (d := .non) (tst_ (b2 (b2 rfl rfl ix_g0) (b2 rfl rfl ix_g0) ((eq_int true n m).trans (by rw [q]; rfl)))) rfl).trans ?_
    rw [if_pos rfl]
end
theorem edges_45 {n : Nat} {A : Gr} (hn : n ≤ 9) (hA : ∀ i j, A i j = A j i) : (edgesOf n A).length ≤ 45 := by
  have e := edges_two (n := n) hA
  have a : hom K2 n A ≤ n * n := by
    rw [hom_K2]
    refine sm_le fun u _ => ?_
    have := sm_le (n := n) (c := 1) (f := fun v => if A u v then 1 else 0) fun v _ => by split <;> omega
    omega
  have b : hom K1 n A ≤ n * 1 := by
    rw [hom_K1]
    exact sm_le fun u _ => by split <;> omega
  have : n * n ≤ 9 * 9 := Nat.mul_le_mul hn hn
  omega
theorem ties_f {n : Nat} {A : Gr} (hn : n ≤ 64) (hA : ∀ i j, A i j = A j i) : g_L_ties [gD n A] = some (iD (hom K2 n A)) := by
  have le := edges_le n A
  have le2 : n * n ≤ 64 * 64 := Nat.mul_le_mul hn hn
  refine run_of (n := 1) rfl ?_
  show m_L_ties [.val (gD n A), .no] = _
  unfold m_L_ties
  refine s_ret ?_
  let P : D → Bool := fun d => match d with | .tup [.int a, .int b] => a == b | _ => false
  have pP : ∀ e : Nat × Nat, P (pN e) = (e.1 == e.2) := fun e => by
    show ((e.1 : Int) == (e.2 : Int)) = _
    rw [Bool.eq_iff_iff, beq_iff_eq, beq_iff_eq]; omega
  have e3 : lcV [1] (seqV (bin2 gIx (gv 0) (cI 1))) (eNm 1) (tst (bin2 (gEqB false) (bin2 gIx (gv 1) (cI 0)) (bin2 gIx (gv 1) (cI 1)))) (gv 1) ⟨[Ent.val (gD n A), .no].map fzE, [Ent.val (gD n A), .no].map fzE⟩ = some (((edgesOf n A).map pN).filter P) := by
    show lcGo _ _ _ _ ((edgesOf n A).map pN) = _
    refine (lc_filter P id _ fun d hd => ?_).trans (by rw [List.map_id])
    obtain ⟨e, he, rfl⟩ := List.mem_map.mp hd
    refine ⟨_, rfl, ?_, fun _ => rfl⟩
    rw [pP]
    refine tst_ (b2 (x := iD e.1) (y := iD e.2) (b2 rfl rfl rfl) (b2 rfl rfl rfl) ((eq_int false _ _).trans ?_))
    cases (e.1 == e.2) <;> rfl
  have len : (((edgesOf n A).map pN).filter P).length = hom K1 n A := by
    rw [List.filter_map, List.length_map, ← edges_loops]
    congr 1
    exact List.filter_congr fun e _ => pP e
  have le3 := List.length_filter_le P ((edgesOf n A).map pN)
  rw [List.length_map] at le3
  have lV : lstV (lcV [1] (seqV (bin2 gIx (gv 0) (cI 1))) (eNm 1) (tst (bin2 (gEqB false) (bin2 gIx (gv 1) (cI 0)) (bin2 gIx (gv 1) (cI 1)))) (gv 1)) ⟨[Ent.val (gD n A), .no].map fzE, [Ent.val (gD n A), .no].map fzE⟩ = some (.lst (((edgesOf n A).map pN).filter P)) := by
    unfold lstV
    rw [e3]
    exact if_pos (by unfold LIM; omega)
  have two := edges_two (n := n) hA
  refine b2 (b2 rfl (mt (c2 (b2 rfl rfl ix_g1) rfl) (len_tup _ _)) (mul_n (a := 2) (by omega))) (mt (c2 lV rfl) (show gLen [.lst _] = some (iD (hom K1 n A)) by show some (D.int _) = _; rw [len])) ?_
  rw [sub_n (by omega)]
  congr 3
  omega
theorem fits_f {b m k : Nat} {B C G : Gr} (hb : b ≤ 3) (hm : m ≤ 3) (hk : k ≤ 9) (hB : ∀ i j, B i j = B j i) (hC : ∀ i j, C i j = C j i) (hG : ∀ i j, G i j = G j i) :
    ∃ r, g_L_fits [gD b B, gD m C, gD k G] = some (.bl r) ∧ (r = true ↔ b * m = k ∧ Iso (b * m) (pA m B C) G) := by
  have hbm : b * m ≤ 9 := Nat.mul_le_mul hb hm
  have hP : ∀ i j, pA m B C i j = pA m B C j i := fun i j => by unfold pA; rw [hB, hC]
  obtain ⟨r, e, hr⟩ := alike_f (n := b * m) (m := k) (A := pA m B C) (B := G) hbm hk hP hG
  let b1 : Bool := (true != (b * m == k)) || (true != (hom K2 b B * hom K2 m C == hom K2 k G))
  have K3 : ∀ {n : Nat} {A : Gr}, n ≤ 9 → hom K2 n A ≤ 81 := fun {n A} hn => by
    rw [hom_K2]
    have := sm_le (n := n) (c := n) (f := fun u => sm n fun v => if A u v then 1 else 0) fun u _ => by
      have := sm_le (n := n) (c := 1) (f := fun v => if A u v then 1 else 0) fun v _ => by split <;> omega
      omega
    have : n * n ≤ 9 * 9 := Nat.mul_le_mul hn hn
    omega
  have cond : orT (tst (bin2 (gEqB true) (bin2 gMul (bin2 gIx (gv 0) (cI 0)) (bin2 gIx (gv 1) (cI 0))) (bin2 gIx (gv 2) (cI 0)))) (tst (bin2 (gEqB true) (bin2 gMul (mapT g_L_ties (cons2 (gv 0) (fun _ => some []))) (mapT g_L_ties (cons2 (gv 1) (fun _ => some [])))) (mapT g_L_ties (cons2 (gv 2) (fun _ => some []))))) (en [.val (gD b B), .val (gD m C), .val (gD k G)]) = some b1 :=
    or_ (tst_ (b2 (b2 (b2 rfl rfl ix_g0) (b2 rfl rfl ix_g0) (mul_n (by omega))) (b2 rfl rfl ix_g0) (eq_int _ _ _)))
      fun _ => tst_ (b2 (b2 (mt (c2 rfl rfl) (ties_f (by omega) hB)) (mt (c2 rfl rfl) (ties_f (by omega) hC)) (mul_n (by have := K3 (n := b) (A := B) (by omega); omega))) (mt (c2 rfl rfl) (ties_f (by omega) hG)) (eq_int _ _ _))
  have main : g_L_fits [gD b B, gD m C, gD k G] = some (if b1 = true then .bl false else .bl r) := by
    refine run_of (n := 3) rfl ?_
    show m_L_fits [.val (gD b B), .val (gD m C), .val (gD k G)] = _
    unfold m_L_fits
    refine (s_ifret (d := .bl false) cond rfl).trans ?_
    by_cases h : b1 = true
    · rw [if_pos h, if_pos h]
    · rw [if_neg h, if_neg h]
      exact s_ret (mt (c2 (mt (c2 rfl (c2 rfl (c2 rfl rfl))) (Lproduct_f hB hC (by omega) (by omega) (by omega))) (c2 rfl rfl)) e)
  by_cases h : b1 = true
  · rw [if_pos h] at main
    refine ⟨false, main, fun z => (nomatch z), fun ⟨e1, i⟩ => ?_⟩
    exfalso
    subst e1
    have e2 := hom_iso (F := K2) (by decide) i
    rw [hom_prod (by decide)] at e2
    have : b1 = false := by
      show ((true != (b * m == b * m)) || (true != (hom K2 b B * hom K2 m C == hom K2 (b * m) G))) = false
      rw [e2]; simp
    rw [this] at h; cases h
  · rw [if_neg h] at main
    exact ⟨r, main, hr⟩
end Wl
set_option maxRecDepth 100000
set_option maxHeartbeats 1000000
/-! a web in another numbering -/
namespace Wl
open PySem L2 PyProof.Rows Wd Wg Wm
theorem perm_mem {α : Type} [BEq α] [LawfulBEq α] : ∀ {l m : List α}, l.Nodup → m.Nodup → (∀ x, x ∈ l ↔ x ∈ m) → l.Perm m
  | [], m, _, _, h => by
    have : m = [] := List.eq_nil_iff_forall_not_mem.mpr fun x hx => by have := (h x).mpr hx; cases this
    rw [this]
  | a :: l, m, nl, nm, h => by
    have nl' := List.nodup_cons.mp nl
    have ha : a ∈ m := (h a).mp List.mem_cons_self
    have ih := perm_mem (l := l) (m := m.erase a) nl'.2 (nm.erase a) fun x => by
      rw [List.Nodup.mem_erase_iff nm]
      constructor
      · intro hx
        exact ⟨fun e => nl'.1 (e ▸ hx), (h x).mp (List.mem_cons_of_mem _ hx)⟩
      · rintro ⟨h1, h2⟩
        rcases List.mem_cons.mp ((h x).mpr h2) with e | e
        · exact absurd e h1
        · exact e
    exact (List.Perm.cons a ih).trans (List.perm_cons_erase ha).symm
abbrev ltE (e f : Nat × Nat) : Prop := e.1 < f.1 ∨ (e.1 = f.1 ∧ e.2 < f.2)
theorem edges_asc (n : Nat) (A : Gr) : (edgesOf n A).Pairwise ltE := by
  unfold edgesOf
  rw [List.pairwise_flatMap]
  refine ⟨fun u _ => ?_, ?_⟩
  · rw [List.pairwise_map]
    exact (List.pairwise_lt_range.filter _).imp fun q => .inr ⟨rfl, q⟩
  · refine List.pairwise_lt_range.imp fun q x hx y hy => ?_
    obtain ⟨a, _, rfl⟩ := List.mem_map.mp hx
    obtain ⟨b, _, rfl⟩ := List.mem_map.mp hy
    exact .inl q
theorem edges_nd (n : Nat) (A : Gr) : (edgesOf n A).Nodup := (edges_asc n A).imp fun {a b} q e => by
  subst e
  rcases q with q | q <;> omega
def castP (e : Nat × Nat) : Int × Int := ((e.1 : Int), (e.2 : Int))
theorem pairsOf_map : ∀ {l : List (Nat × Nat)}, (∀ e ∈ l, e.1 < 64 ∧ e.2 < 64) → pairsOf (l.map pN) = some (l.map castP)
  | [], _ => rfl
  | e :: r, h => by
    rw [List.map_cons]
    have he := h e List.mem_cons_self
    show (if (okI (e.1 : Int) && okI (e.2 : Int)) = true then (match pairsOf (r.map pN) with | none => none | some ps => some (((e.1 : Int), (e.2 : Int)) :: ps)) else none) = _
    rw [if_pos, pairsOf_map fun x hx => h x (List.mem_cons_of_mem _ hx)]
    · rfl
    · unfold okI
      simp
      omega
/-- an edge under a renaming -/
def mv (p : List Nat) (e : Nat × Nat) : Nat × Nat := (min (at_ p e.1) (at_ p e.2), max (at_ p e.1) (at_ p e.2))
def reG (n : Nat) (A : Gr) (p : List Nat) : Gr := fun u v => (edgesOf n A).any fun e => mv p e == (min u v, max u v)
theorem reG_symm (n : Nat) (A : Gr) (p : List Nat) (i j : Nat) : reG n A p i j = reG n A p j i := by unfold reG; rw [Nat.min_comm, Nat.max_comm]
theorem mm_eq {a b c d : Nat} (h : (min a b, max a b) = (min c d, max c d)) : (a = c ∧ b = d) ∨ (a = d ∧ b = c) := by
  rw [Prod.mk.injEq] at h
  omega
section
variable {n : Nat} {A : Gr} {p : List Nat} (hA : ∀ i j, A i j = A j i) (hp : Pm n p)
include hA hp
theorem reG_at {i j : Nat} (hi : i < n) (hj : j < n) : A i j = reG n A p (at_ p i) (at_ p j) := by
  rw [Bool.eq_iff_iff]
  unfold reG
  rw [List.any_eq_true]
  constructor
  · intro h
    by_cases q : i ≤ j
    · exact ⟨(i, j), edges_mem.mpr ⟨hi, hj, q, h⟩, by simp [mv]⟩
    · exact ⟨(j, i), edges_mem.mpr ⟨hj, hi, by omega, by rw [hA]; exact h⟩, by simp [mv, Nat.min_comm, Nat.max_comm]⟩
  · rintro ⟨⟨a, b⟩, hm, h⟩
    obtain ⟨ha, hb, _, hab⟩ := edges_mem.mp hm
    have h := mm_eq (beq_iff_eq.mp h)
    have inj : ∀ {x y}, x < n → y < n → at_ p x = at_ p y → x = y := fun {x y} hx hy e => nd_inj hp.nd (by rw [hp.len]; exact hx) (by rw [hp.len]; exact hy) e
    rcases h with ⟨h1, h2⟩ | ⟨h1, h2⟩
    · rw [← inj ha hi h1, ← inj hb hj h2]; exact hab
    · rw [← inj ha hj h1, ← inj hb hi h2, hA]; exact hab
theorem reG_iso : Iso n A (reG n A p) := ⟨p, hp, fun i j hi hj => reG_at hA hp hi hj⟩
theorem inv_ex : ∃ q, Pm n q ∧ ∀ x, x < n → at_ p (at_ q x) = x := by
  have hm : ∀ x, x < n → ∃ i, i < n ∧ at_ p i = x := fun x hx => by
    have : x ∈ p := hp.perm.mem_iff.mpr (List.mem_range.mpr hx)
    obtain ⟨i, hi, e⟩ := List.mem_iff_getElem.mp this
    exact ⟨i, by rw [← hp.len]; exact hi, by rw [at_get hi, e]⟩
  let f : Nat → Nat := fun x => if h : x < n then Classical.choose (hm x h) else 0
  have hf : ∀ x, x < n → f x < n ∧ at_ p (f x) = x := fun x h => by
    have := Classical.choose_spec (hm x h)
    simp only [f, dif_pos h]
    exact this
  refine ⟨(List.range n).map f, ⟨by simp, nodup_map_inj List.nodup_range fun x hx y hy e => ?_, fun x hx => ?_⟩, fun x hx => ?_⟩
  · have h1 := (hf x (List.mem_range.mp hx)).2
    have h2 := (hf y (List.mem_range.mp hy)).2
    rw [← h1, ← h2, e]
  · obtain ⟨y, hy, rfl⟩ := List.mem_map.mp hx
    exact (hf y (List.mem_range.mp hy)).1
  · rw [at_map (by simpa using hx), at_range hx]
    exact (hf x hx).2
theorem reG_iso' : Iso n (reG n A p) A := by
  obtain ⟨q, hq, hpq⟩ := inv_ex hA hp
  refine ⟨q, hq, fun i j hi hj => ?_⟩
  rw [reG_at hA hp (hq.at_lt hi) (hq.at_lt hj), hpq i hi, hpq j hj]
theorem mv_lt {e : Nat × Nat} (he : e ∈ edgesOf n A) : (mv p e).1 < n ∧ (mv p e).2 < n ∧ (mv p e).1 ≤ (mv p e).2 := by
  obtain ⟨a, b⟩ := e
  obtain ⟨ha, hb, _, _⟩ := edges_mem.mp he
  have := hp.at_lt ha
  have := hp.at_lt hb
  unfold mv
  simp only []
  omega
theorem reG_perm : (edgesOf n (reG n A p)).Perm ((edgesOf n A).map (mv p)) := by
  refine perm_mem (edges_nd _ _) ?_ fun x => ?_
  · refine List.pairwise_map.mpr ((edges_asc n A).imp_of_mem fun {a b} ha hb q e => ?_)
    obtain ⟨a1, a2⟩ := a
    obtain ⟨b1, b2⟩ := b
    obtain ⟨h1, h2, h3, _⟩ := edges_mem.mp ha
    obtain ⟨h4, h5, h6, _⟩ := edges_mem.mp hb
    have inj : ∀ {x y}, x < n → y < n → at_ p x = at_ p y → x = y := fun {x y} hx hy e => nd_inj hp.nd (by rw [hp.len]; exact hx) (by rw [hp.len]; exact hy) e
    have q' : a1 < b1 ∨ (a1 = b1 ∧ a2 < b2) := q
    rcases mm_eq e with ⟨z1, z2⟩ | ⟨z1, z2⟩
    · have := inj h1 h4 z1
      have := inj h2 h5 z2
      omega
    · have := inj h1 h5 z1
      have := inj h2 h4 z2
      omega
  · obtain ⟨u, v⟩ := x
    rw [edges_mem, List.mem_map]
    constructor
    · rintro ⟨hu, hv, huv, h⟩
      unfold reG at h
      rw [List.any_eq_true] at h
      obtain ⟨e, he, h⟩ := h
      refine ⟨e, he, ?_⟩
      rw [beq_iff_eq.mp h, Nat.min_eq_left huv, Nat.max_eq_right huv]
    · rintro ⟨e, he, h⟩
      obtain ⟨h1, h2, h3⟩ := mv_lt hA hp he
      rw [h] at h1 h2 h3
      refine ⟨h1, h2, h3, ?_⟩
      unfold reG
      rw [List.any_eq_true]
      exact ⟨e, he, by rw [h, Nat.min_eq_left h3, Nat.max_eq_right h3]; simp⟩
theorem renamed_f (hn : n ≤ 9) : g_L_renamed [gD n A, rowD p] = some (gD n (reG n A p)) := by
  have le := edges_45 hn hA
  refine run_of (n := 2) rfl ?_
  show m_L_renamed [.val (gD n A), .val (rowD p), .no, .no, .no, .no] = _
  unfold m_L_renamed
  refine s_setF (ds := []) rfl ?_
  have lp := loop_idx (t := bNm 3) (m := (mSeq (mSet 4 (bin2 gIx (gv 1) (bin2 gIx (gv 3) (cI 0)))) (mSeq (mSet 5 (bin2 gIx (gv 1) (bin2 gIx (gv 3) (cI 1))))
    (mSeq (mApp 2 (mapT gTup (cons2 (mapT gMin (cons2 (gv 4) (cons2 (gv 5) (fun _ => some [])))) (cons2 (mapT gMax (cons2 (gv 4) (cons2 (gv 5) (fun _ => some [])))) (fun _ => some []))))) mNil))))
    (fun i env => ∃ x3 x4 x5, env = [.val (gD n A), .val (rowD p), .own ((((edgesOf n A).take i).map (mv p)).map pN), x3, x4, x5]) ((edgesOf n A).map pN) 0 (fun i d env hd ⟨x3, x4, x5, he⟩ => by
      rw [Nat.zero_add] at he ⊢
      subst he
      rw [List.getElem?_map] at hd
      cases hg : (edgesOf n A)[i]? with
      | none => rw [hg] at hd; cases hd
      | some e =>
        rw [hg] at hd
        cases hd
        obtain ⟨a, b⟩ := e
        obtain ⟨ha, hb, hab, _⟩ := edges_mem.mp (List.mem_of_getElem? hg)
        have tk : (edgesOf n A).take (i + 1) = (edgesOf n A).take i ++ [(a, b)] := by
          rw [List.take_add_one, hg]; rfl
        have hl : ((((edgesOf n A).take i).map (mv p)).map pN).length < LIM := by
          rw [List.length_map, List.length_map, List.length_take]
          unfold LIM; omega
        have mn : ∀ x y : Nat, gMin [iD x, iD y] = some (iD (min x y)) := fun x y => by
          show some (D.int (if (y : Int) < (x : Int) then (y : Int) else (x : Int))) = _
          congr 2
          by_cases h : (y : Int) < x
          · rw [if_pos h]; omega
          · rw [if_neg h]; omega
        have mx : ∀ x y : Nat, gMax [iD x, iD y] = some (iD (max x y)) := fun x y => by
          show some (D.int (if (y : Int) > (x : Int) then (y : Int) else (x : Int))) = _
          congr 2
          by_cases h : (y : Int) > x
          · rw [if_pos h]; omega
          · rw [if_neg h]; omega
        refine ⟨_, [.val (gD n A), .val (rowD p), .own ((((edgesOf n A).take (i + 1)).map (mv p)).map pN), .val (pN (a, b)), .val (iD (at_ p a)), .val (iD (at_ p b))], rfl, ?_, _, _, _, rfl⟩
        refine s_set (d := iD (at_ p a)) (b2 rfl (b2 (y := D.int 0) rfl rfl rfl) (ix_row (by rw [hp.len]; exact ha))) ?_
        refine s_set (d := iD (at_ p b)) (b2 rfl (b2 (y := D.int 1) rfl rfl rfl) (ix_row (by rw [hp.len]; exact hb))) ?_
        refine s_app (i := 2) (acc := (((edgesOf n A).take i).map (mv p)).map pN) (d := pN (mv p (a, b))) (mt (c2 (mt (c2 rfl (c2 rfl rfl)) (mn _ _)) (c2 (mt (c2 rfl (c2 rfl rfl)) (mx _ _)) rfl)) rfl) rfl hl ?_
        rw [tk, List.map_append, List.map_append]
        rfl) [.val (gD n A), .val (rowD p), .own [], .no, .no, .no] ⟨.no, .no, .no, rfl⟩
  obtain ⟨e', l1, ⟨x3, x4, x5, rfl⟩⟩ := lp
  refine s_nx ((for_ (ds := (edgesOf n A).map pN) rfl).trans l1) (s_ret ?_)
  rw [Nat.zero_add, List.length_map, List.take_length]
  have lt64 : ∀ e ∈ (edgesOf n A).map (mv p), e.1 < 64 ∧ e.2 < 64 := fun e he => by
    obtain ⟨f, hf, rfl⟩ := List.mem_map.mp he
    obtain ⟨h1, h2, _⟩ := mv_lt hA hp hf
    omega
  have srt : gSortP [.lst (((edgesOf n A).map (mv p)).map pN)] = some (.lst ((edgesOf n (reG n A p)).map pN)) := by
    show (match pairsOf (((edgesOf n A).map (mv p)).map pN) with | none => none | some ps => if ps.length < 64 then some (D.lst ((sortP ps).map pairD)) else none) = _
    rw [pairsOf_map lt64]
    simp only []
    rw [if_pos (by rw [List.length_map, List.length_map]; omega)]
    have : (edgesOf n (reG n A p)).map castP = sortP (((edgesOf n A).map (mv p)).map castP) := by
      refine sortP_uniq ((reG_perm hA hp).map castP) (fun q hq => ?_) ?_
      · obtain ⟨e, he, rfl⟩ := List.mem_map.mp hq
        have := lt64 e he
        unfold okP castP
        simp only []
        omega
      · refine List.pairwise_map.mpr ((edges_asc n (reG n A p)).imp_of_mem fun {a b} ha hb q => ?_)
        obtain ⟨a1, a2⟩ := a
        obtain ⟨b1, b2⟩ := b
        obtain ⟨h1, h2, _, _⟩ := edges_mem.mp ha
        obtain ⟨h4, h5, _, _⟩ := edges_mem.mp hb
        have q' : a1 < b1 ∨ (a1 = b1 ∧ a2 < b2) := q
        unfold cdP castP
        simp only []
        omega
    rw [← this, List.map_map]; rfl
  exact mt (c2 (b2 rfl rfl ix_g0) (c2 (mt (c2 (mt (c2 rfl rfl) srt) rfl) rfl) rfl)) rfl
end
end Wl
set_option maxRecDepth 100000
set_option maxHeartbeats 1000000
/-! drawn numbers -/
namespace Wl
open PySem L2 PyProof.Rows Wd Wg Wm
theorem cell_f (ns : List Int) (p : Nat) : ∃ c : Nat, g_L_cell [.scr ns, iD p] = some (iD c) := by
  by_cases h : p < ns.length
  · refine ⟨(ns[p]).natAbs, ?_⟩
    refine run_of (n := 2) rfl ?_
    show m_L_cell [.val (.scr ns), .val (iD p)] = _
    unfold m_L_cell
    have ix : gIx (.scr ns) (iD p) = some (.int ns[p]) := by
      show (atI ns (p : Int)).map D.int = _
      unfold atI
      rw [ixN_nat h]
      show (ns[p]?).map D.int = _
      rw [List.getElem?_eq_getElem h]; rfl
    have ab : gAbs [.int ns[p]] = some (iD ns[p].natAbs) := by
      show some (D.int (if ns[p] < 0 then -ns[p] else ns[p])) = _
      congr 2
      split <;> omega
    refine (s_ifret (b := true) (d := iD ns[p].natAbs) (tst_ (b2 rfl (mt (c2 rfl rfl) rfl) (show some (D.bl (decide ((p : Int) < (ns.length : Int)))) = _ by rw [decide_eq_true (by omega)]))) ?_).trans (if_pos rfl)
    exact mt (c2 (mt (c2 (b2 rfl rfl ix) rfl) rfl) rfl) ab
  · refine ⟨0, ?_⟩
    refine run_of (n := 2) rfl ?_
    show m_L_cell [.val (.scr ns), .val (iD p)] = _
    unfold m_L_cell
    refine s_if (b := false) (tst_ (b2 rfl (mt (c2 rfl rfl) rfl) (show some (D.bl (decide ((p : Int) < (ns.length : Int)))) = _ by rw [decide_eq_false (by omega)]))) (fun z => nomatch z) fun _ => s_nil.trans (s_ret rfl)
theorem mod_i (v : Int) {b : Nat} (h : 0 < b) : ∃ x : Nat, gMod (.int v) (iD b) = some (iD x) ∧ x < b := by
  have h1 := Int.emod_nonneg v (show (b : Int) ≠ 0 by omega)
  have h2 := Int.emod_lt_of_pos v (show (0 : Int) < (b : Int) by omega)
  refine ⟨(v % (b : Int)).toNat, ?_, by omega⟩
  show (if (decide ((0 : Int) < (b : Int))) = true then some (D.int (v % (b : Int))) else none) = _
  rw [if_pos (by simp; omega)]
  congr 2
  omega
theorem fdiv_i (v : Int) {b : Nat} (h : 0 < b) (h2 : b < 1000000) : gFdiv (.int v) (iD b) = some (.int (v / (b : Int))) := by
  show (if (decide ((0 : Int) < (b : Int)) && decide ((b : Int) < 1073741824)) = true then some (D.int (v / (b : Int))) else none) = _
  rw [if_pos (by simp; omega)]
theorem mul_i (i j : Int) (h : -1000000000000 < j ∧ j < 1000000000000) : gMul (.int i) (.int j) = some (.int (i * j)) := by
  show (if ((decide (-two64 < i) && decide (i < two64)) || (decide (-two64 < j) && decide (j < two64))) = true then some (D.int (i * j)) else none) = _
  rw [if_pos]
  rw [Bool.or_eq_true, Bool.and_eq_true, Bool.and_eq_true, decide_eq_true_eq, decide_eq_true_eq, decide_eq_true_eq, decide_eq_true_eq]
  right
  unfold two64
  omega
theorem draws_f (ns : List Int) (p cnt base : Nat) (hc : cnt ≤ 64) (hb : 0 < base) (hb2 : base < 1000000) : ∃ l, g_L_draws [.scr ns, iD p, iD cnt, iD base] = some (rowD l) ∧ l.length = cnt ∧ ∀ x ∈ l, x < base := by
  obtain ⟨c, hcell⟩ := cell_f ns p
  have p18 : gPow (.int 10) (.int 18) = some (.int 1000000000000000000) := rfl
  let env0 : D → Ent → List Ent := fun cc o => [.val (.scr ns), .val (iD p), .val (iD cnt), .val (iD base), .val cc, o, .no, .no]
  have start : ∀ X, (if decide ((1000000000000000000 : Int) ≤ (c : Int)) = true then mSeq (mSeq (mSet 4 (bin2 gSub (gv 4) (bin2 gPow (cI 10) (cI 18))))
      (mSeq (mFor (rng1 (cons2 (gv 2) (fun _ => some []))) (bNm 6) (mSeq (mApp 5 (bin2 gMod (mapT gInt (cons2 (gv 4) (fun _ => some []))) (gv 3))) (mSeq (mSet 4 (bin2 gFdiv (gv 4) (gv 3))) mNil))) (mSeq (mRet (gv 5)) mNil)))
      (mSeq (mFor (rng1 (cons2 (gv 2) (fun _ => some []))) (bNm 6) (mSeq (mSet 7 (bin2 gMod (mapT gInt (cons2 (bin2 gAdd (bin2 gAdd (bin2 gMul (gv 4) (cI 48271)) (bin2 gMul (bin2 gAdd (gv 6) (cI 1)) (cI 69621))) (cI 17)) (fun _ => some []))) (cI 2147483647)))
        (mSeq (mSet 7 (bin2 gMod (mapT gInt (cons2 (bin2 gAdd (bin2 gAdd (bin2 gMul (gv 7) (gv 7)) (bin2 gMul (gv 4) (bin2 gAdd (gv 6) (cI 3)))) (cI 12345)) (fun _ => some []))) (cI 1000003))) (mSeq (mApp 5 (bin2 gMod (mapT gInt (cons2 (bin2 gFdiv (gv 7) (cI 7)) (fun _ => some []))) (gv 3))) mNil)))) (mSeq (mRet (gv 5)) mNil)) (env0 (iD c) (.own []))
      else mSeq (mFor (rng1 (cons2 (gv 2) (fun _ => some []))) (bNm 6) (mSeq (mSet 7 (bin2 gMod (mapT gInt (cons2 (bin2 gAdd (bin2 gAdd (bin2 gMul (gv 4) (cI 48271)) (bin2 gMul (bin2 gAdd (gv 6) (cI 1)) (cI 69621))) (cI 17)) (fun _ => some []))) (cI 2147483647)))
        (mSeq (mSet 7 (bin2 gMod (mapT gInt (cons2 (bin2 gAdd (bin2 gAdd (bin2 gMul (gv 7) (gv 7)) (bin2 gMul (gv 4) (bin2 gAdd (gv 6) (cI 3)))) (cI 12345)) (fun _ => some []))) (cI 1000003))) (mSeq (mApp 5 (bin2 gMod (mapT gInt (cons2 (bin2 gFdiv (gv 7) (cI 7)) (fun _ => some []))) (gv 3))) mNil)))) (mSeq (mRet (gv 5)) mNil) (env0 (iD c) (.own []))) = X → m_L_draws [.val (.scr ns), .val (iD p), .val (iD cnt), .val (iD base), .no, .no, .no, .no] = X := fun X h => by
    unfold m_L_draws
    refine s_set (d := iD c) (mt (c2 rfl (c2 rfl rfl)) hcell) (s_setF (ds := []) rfl ?_)
    refine s_if (b := decide ((1000000000000000000 : Int) ≤ (c : Int))) (tst_ (b2 rfl (b2 rfl rfl p18) rfl)) (fun z => ?_) (fun z => ?_)
    · rw [if_pos z] at h; exact h
    · rw [if_neg (by rw [z]; decide)] at h; exact s_nil.trans h
  have rg : ∀ cc o, rng1 (cons2 (gv 2) (fun _ => some [])) (en (env0 cc o)) = some ((List.range cnt).map iD) := fun cc o => rng1_ (c2 rfl rfl) (by omega)
  by_cases hbig : decide ((1000000000000000000 : Int) ≤ (c : Int)) = true
  · have lp := loop_idx (t := bNm 6) (m := (mSeq (mApp 5 (bin2 gMod (mapT gInt (cons2 (gv 4) (fun _ => some []))) (gv 3))) (mSeq (mSet 4 (bin2 gFdiv (gv 4) (gv 3))) mNil)))
      (fun i env => ∃ (l : List Nat) (v : Int) (x : Ent), env = [.val (.scr ns), .val (iD p), .val (iD cnt), .val (iD base), .val (.int v), .own (l.map iD), x, .no] ∧ l.length = i ∧ ∀ y ∈ l, y < base) ((List.range cnt).map iD) 0 (fun i d env hd ⟨l, v, x, he, h1, h2⟩ => by
        subst he
        have hi : i < cnt := by
          have := (List.getElem?_eq_some_iff.mp hd).1
          simpa using this
        obtain ⟨y, hy, hy2⟩ := mod_i v hb
        refine ⟨_, [.val (.scr ns), .val (iD p), .val (iD cnt), .val (iD base), .val (.int (v / (base : Int))), .own ((l ++ [y]).map iD), .val d, .no], rfl, ?_, l ++ [y], _, _, rfl, by simp [h1], fun z hz => ?_⟩
        · refine s_app (i := 5) (acc := l.map iD) (d := iD y) (b2 (mt (c2 rfl rfl) rfl) rfl hy) rfl (by rw [List.length_map, h1]; unfold LIM; omega) ?_
          refine s_set (d := .int (v / (base : Int))) (b2 rfl rfl (fdiv_i v hb hb2)) ?_
          rw [List.map_append]; rfl
        · rcases List.mem_append.mp hz with hz | hz
          · exact h2 z hz
          · rw [List.mem_singleton.mp hz]; exact hy2) (env0 (.int ((c : Int) - 1000000000000000000)) (.own [])) ⟨[], _, _, rfl, rfl, fun y hy => by cases hy⟩
    obtain ⟨e', l1, ⟨l, v, x, rfl, h1, h2⟩⟩ := lp
    refine ⟨l, run_of (n := 4) rfl (start _ ?_), by simpa using h1, h2⟩
    rw [if_pos hbig]
    refine s_seq.trans (s_set (d := .int ((c : Int) - 1000000000000000000)) (b2 rfl (b2 rfl rfl p18) rfl) ?_)
    refine s_seq.trans (s_nx ((for_ (rg _ _)).trans l1) (s_seq.trans (s_ret rfl)))
  · have lp := loop_idx (t := bNm 6) (m := (mSeq (mSet 7 (bin2 gMod (mapT gInt (cons2 (bin2 gAdd (bin2 gAdd (bin2 gMul (gv 4) (cI 48271)) (bin2 gMul (bin2 gAdd (gv 6) (cI 1)) (cI 69621))) (cI 17)) (fun _ => some []))) (cI 2147483647)))
        (mSeq (mSet 7 (bin2 gMod (mapT gInt (cons2 (bin2 gAdd (bin2 gAdd (bin2 gMul (gv 7) (gv 7)) (bin2 gMul (gv 4) (bin2 gAdd (gv 6) (cI 3)))) (cI 12345)) (fun _ => some []))) (cI 1000003))) (mSeq (mApp 5 (bin2 gMod (mapT gInt (cons2 (bin2 gFdiv (gv 7) (cI 7)) (fun _ => some []))) (gv 3))) mNil))))
      (fun i env => ∃ (l : List Nat) (x y : Ent), env = [.val (.scr ns), .val (iD p), .val (iD cnt), .val (iD base), .val (iD c), .own (l.map iD), x, y] ∧ l.length = i ∧ ∀ y ∈ l, y < base) ((List.range cnt).map iD) 0 (fun i d env hd ⟨l, x, z, he, h1, h2⟩ => by
        subst he
        have hi : i < cnt := by
          have := (List.getElem?_eq_some_iff.mp hd).1
          simpa using this
        rw [get_range _ hi] at hd
        cases hd
        obtain ⟨m1, e1, l1⟩ := mod_i ((c : Int) * 48271 + (((i : Int) + 1) * 69621) + 17) (b := 2147483647) (by omega)
        obtain ⟨m2, e2, l2⟩ := mod_i ((m1 : Int) * (m1 : Int) + (c : Int) * ((i : Int) + 3) + 12345) (b := 1000003) (by omega)
        obtain ⟨y, e3, l3⟩ := mod_i ((m2 : Int) / 7) hb
        refine ⟨_, [.val (.scr ns), .val (iD p), .val (iD cnt), .val (iD base), .val (iD c), .own ((l ++ [y]).map iD), .val (iD i), .val (iD m2)], rfl, ?_, l ++ [y], _, _, rfl, by simp [h1], fun z hz => ?_⟩
        · refine s_set (d := iD m1) (b2 (mt (c2 (b2 (b2 (b2 rfl rfl (mul_i _ _ (by omega))) (b2 (b2 rfl rfl rfl) rfl (mul_i _ _ (by omega))) rfl) rfl rfl) rfl) rfl) rfl e1) ?_
          refine s_set (d := iD m2) (b2 (mt (c2 (b2 (b2 (b2 rfl rfl (mul_i _ _ (by omega))) (b2 rfl (b2 rfl rfl rfl) (mul_i _ _ (by omega))) rfl) rfl rfl) rfl) rfl) rfl e2) ?_
          refine s_app (i := 5) (acc := l.map iD) (d := iD y) (b2 (mt (c2 (b2 rfl rfl (fdiv_i _ (b := 7) (by omega) (by omega))) rfl) rfl) rfl e3) rfl (by rw [List.length_map, h1]; unfold LIM; omega) ?_
          rw [List.map_append]; rfl
        · rcases List.mem_append.mp hz with hz | hz
          · exact h2 z hz
          · rw [List.mem_singleton.mp hz]; exact l3) (env0 (iD c) (.own [])) ⟨[], _, _, rfl, rfl, fun y hy => by cases hy⟩
    obtain ⟨e', l1, ⟨l, x, y, rfl, h1, h2⟩⟩ := lp
    refine ⟨l, run_of (n := 4) rfl (start _ ?_), by simpa using h1, h2⟩
    rw [if_neg hbig]
    exact s_nx ((for_ (rg _ _)).trans l1) (s_ret rfl)
theorem cut_to {l : List Nat} {p : Nat} (h : p ≤ l.length) {f fh : E → Option D} {env : E} (hf : f env = some (rowD l)) (hh : fh env = some (iD p)) : cutX f (fun _ => some none) (partV fh) env = some (rowD (l.take p)) := by
  unfold cutX partV
  rw [hf, hh]
  show some (D.lst (Wd.cutD (l.map iD) none (some (p : Int)))) = _
  unfold Wd.cutD
  rw [HT.sIx_none, HT.sIx_nat, List.length_map, Nat.min_eq_left h, List.drop_zero, Nat.sub_zero, ← List.map_take]
theorem cut_from {l : List Nat} {p : Nat} (h : p ≤ l.length) {f fl : E → Option D} {env : E} (hf : f env = some (rowD l)) (hl : fl env = some (iD p)) : cutX f (partV fl) (fun _ => some none) env = some (rowD (l.drop p)) := by
  unfold cutX partV
  rw [hf, hl]
  show some (D.lst (Wd.cutD (l.map iD) (some (p : Int)) none)) = _
  unfold Wd.cutD
  rw [HT.sIx_none, HT.sIx_nat, List.length_map, Nat.min_eq_left h, ← List.map_drop, List.take_of_length_le (by rw [List.length_map, List.length_drop]; omega)]
theorem add_rows (a b : List Nat) (h : a.length + b.length ≤ 1000) : gAdd (rowD a) (rowD b) = some (rowD (a ++ b)) := by
  unfold gAdd
  simp only []
  rw [if_pos (by rw [List.length_map, List.length_map]; unfold LIM; omega)]
  show _ = some (D.lst ((a ++ b).map iD))
  rw [List.map_append]
theorem lcV_ {vs : List Nat} {fi : E → Option (List D)} {t : BL} {ft : E → Option Bool} {fe : E → Option D} {env : E} {ds rs : List D} (h : fi env = some ds) (k : lcGo t ft fe (wipeL vs env.st) ds = some rs) : lcV vs fi t ft fe env = some rs := by
  unfold lcV
  rw [h]
  exact k
theorem lstV_ {f : E → Option (List D)} {env : E} {rs : List D} (h : f env = some rs) (l : rs.length ≤ 100000) : lstV f env = some (.lst rs) := by
  unfold lstV
  rw [h]
  exact if_pos l
theorem shuffle_f (l : List Nat) (hl : l.length ≤ 64) : ∃ q, g_L_shuffle [rowD l] = some (rowD q) ∧ Pm l.length q := by
  have lp := loop_idx (t := bNm 3) (m := (mSeq (mSet 4 (bin2 gMod (mapT gInt (cons2 (gv 3) (fun _ => some []))) (mapT gLen (cons2 (gv 1) (fun _ => some []))))) (mSeq (mApp 2 (bin2 gIx (gv 1) (gv 4)))
    (mSeq (mSet 1 (bin2 gAdd (cutX (gv 1) (fun _ => some none) (partV (gv 4))) (cutX (gv 1) (partV (bin2 gAdd (gv 4) (cI 1))) (fun _ => some none)))) mNil))))
    (fun i env => ∃ (left row : List Nat) (x3 x4 : Ent), env = [.val (rowD l), .val (rowD left), .own (row.map iD), x3, x4, .no] ∧ (row ++ left).Perm (List.range l.length) ∧ row.length = i) (l.map iD) 0 (fun i d env hd ⟨left, row, x3, x4, he, h1, h2⟩ => by
      subst he
      have hi : i < l.length := by
        have := (List.getElem?_eq_some_iff.mp hd).1
        simpa using this
      have hlen := h1.length_eq
      rw [List.length_append, List.length_range] at hlen
      have hl0 : 0 < left.length := by omega
      rw [List.getElem?_map, List.getElem?_eq_getElem hi] at hd
      cases hd
      have hp : l[i] % left.length < left.length := Nat.mod_lt _ hl0
      generalize hpl : l[i] % left.length = p at hp
      refine ⟨_, [.val (rowD l), .val (rowD (left.take p ++ left.drop (p + 1))), .own ((row ++ [at_ left p]).map iD), .val (iD l[i]), .val (iD p), .no], rfl, ?_, _, row ++ [at_ left p], _, _, rfl, ?_, by simp [h2]⟩
      · refine s_set (d := iD p) (b2 (mt (c2 rfl rfl) rfl) (mt (c2 rfl rfl) (len_lst _ _)) (by rw [mod_n hl0, hpl])) ?_
        refine s_app (i := 2) (acc := row.map iD) (d := iD (at_ left p)) (b2 rfl rfl (ix_row hp)) rfl (by rw [List.length_map, h2]; unfold LIM; omega) ?_
        refine s_set (d := rowD (left.take p ++ left.drop (p + 1))) (b2 (cut_to (by omega) rfl rfl) (cut_from (p := p + 1) (by omega) rfl (b2 rfl rfl rfl)) (add_rows _ _ (by rw [List.length_take, List.length_drop]; omega))) ?_
        rw [List.map_append]; rfl
      · refine List.Perm.trans ?_ h1
        rw [List.append_assoc]
        refine List.Perm.append_left row ?_
        have e : left = left.take p ++ at_ left p :: left.drop (p + 1) := by
          rw [at_get hp, ← List.drop_eq_getElem_cons hp, List.take_append_drop]
        conv => rhs; rw [e]
        exact (List.perm_middle (l₁ := left.take p) (a := at_ left p) (l₂ := left.drop (p + 1))).symm) [.val (rowD l), .val (rowD (List.range l.length)), .own [], .no, .no, .no] ⟨List.range l.length, [], .no, .no, rfl, by simp, rfl⟩
  obtain ⟨e', l1, ⟨left, row, x3, x4, rfl, h1, h2⟩⟩ := lp
  have hlen := h1.length_eq
  rw [List.length_append, List.length_range] at hlen
  rw [List.length_map] at h2
  have hnil : left = [] := List.eq_nil_of_length_eq_zero (by omega)
  subst hnil
  rw [List.append_nil] at h1
  refine ⟨row, ?_, ⟨by omega, h1.nodup_iff.mpr List.nodup_range, fun x hx => List.mem_range.mp (h1.mem_iff.mp hx)⟩⟩
  refine run_of (n := 1) rfl ?_
  show m_L_shuffle [.val (rowD l), .no, .no, .no, .no, .no] = _
  unfold m_L_shuffle
  have rg : rng1 (cons2 (mapT gLen (cons2 (gv 0) (fun _ => some []))) (fun _ => some [])) (en [.val (rowD l), .no, .no, .no, .no, .no]) = some ((List.range l.length).map iD) := rng1_ (c2 (mt (c2 rfl rfl) (len_lst _ _)) rfl) (by omega)
  have lc : lcGo (eNm 5) yesT (gv 5) (wipeL [5] (en [.val (rowD l), .no, .no, .no, .no, .no]).st) ((List.range l.length).map iD) = some ((List.range l.length).map iD) := (lc_map (t := eNm 5) (fe := gv 5) (L := wipeL [5] (en [.val (rowD l), .no, .no, .no, .no, .no]).st) id _ fun d _ => ⟨_, rfl, rfl⟩).trans (by rw [List.map_id])
  exact s_set (d := rowD (List.range l.length)) (lstV_ (lcV_ rg lc) (by rw [List.length_map, List.length_range]; omega)) (s_setF (ds := []) rfl (s_nx ((for_ (ds := l.map iD) rfl).trans l1) (s_ret rfl)))
theorem drawn_f (ns : List Int) (place size skip : Nat) (h : size + skip ≤ 64) : ∃ q, g_L_drawn_row [.scr ns, iD place, iD size, iD skip] = some (rowD q) ∧ Pm size q := by
  obtain ⟨l, e1, h1, _⟩ := draws_f ns place (size + skip) 2520 h (by omega) (by omega)
  have hd : (l.drop skip).length = size := by rw [List.length_drop, h1]; omega
  obtain ⟨q, e2, h2⟩ := shuffle_f (l.drop skip) (by omega)
  rw [hd] at h2
  refine ⟨q, ?_, h2⟩
  refine run_of (n := 4) rfl ?_
  show m_L_drawn_row [.val (.scr ns), .val (iD place), .val (iD size), .val (iD skip)] = _
  unfold m_L_drawn_row
  refine s_ret (mt (c2 (cut_from (l := l) (p := skip) (by omega) (mt (c2 rfl (c2 rfl (c2 (b2 rfl rfl rfl) (c2 rfl rfl)))) e1) rfl) rfl) e2)
end Wl
set_option maxRecDepth 1000000
set_option maxHeartbeats 0
/-! what the kernel reckons of small webs, in the mirrors themselves -/
namespace Wl
open PySem L2 PyProof.Rows Wd Wg Wm
mutual
def sameD : D → D → Bool
  | .non, .non => true
  | .bl a, .bl b => a == b
  | .int i, .int j => i == j
  | .tup xs, .tup ys => sameDs xs ys
  | .lst xs, .lst ys => sameDs xs ys
  | _, _ => false
def sameDs : List D → List D → Bool
  | [], [] => true
  | x :: xs, y :: ys => sameD x y && sameDs xs ys
  | _, _ => false
end
mutual
theorem sameD_ok : ∀ {a b : D}, sameD a b = true → a = b
  | .non, b, h => by cases b <;> first | rfl | (unfold sameD at h; cases h)
  | .bl a, b, h => by cases b <;> first | (unfold sameD at h; rw [beq_iff_eq.mp h]) | (unfold sameD at h; cases h)
  | .int a, b, h => by cases b <;> first | (unfold sameD at h; rw [beq_iff_eq.mp h]) | (unfold sameD at h; cases h)
  | .str a, b, h => by cases b <;> (unfold sameD at h; cases h)
  | .scr a, b, h => by cases b <;> (unfold sameD at h; cases h)
  | .ntp a, b, h => by cases b <;> (unfold sameD at h; cases h)
  | .fls a, b, h => by cases b <;> (unfold sameD at h; cases h)
  | .tup xs, b, h => by
    cases b with
    | tup ys => unfold sameD at h; rw [sameDs_ok h]
    | _ => unfold sameD at h; cases h
  | .lst xs, b, h => by
    cases b with
    | lst ys => unfold sameD at h; rw [sameDs_ok h]
    | _ => unfold sameD at h; cases h
theorem sameDs_ok : ∀ {a b : List D}, sameDs a b = true → a = b
  | [], [], _ => rfl
  | [], _ :: _, h => by unfold sameDs at h; cases h
  | _ :: _, [], h => by unfold sameDs at h; cases h
  | x :: xs, y :: ys, h => by
    unfold sameDs at h
    rw [Bool.and_eq_true] at h
    rw [sameD_ok h.1, sameDs_ok h.2]
end
def sameO (o : Option D) (d : D) : Bool := match o with
  | some x => sameD x d
  | none => false
theorem sameO_ok {o : Option D} {d : D} (h : sameO o d = true) : o = some d := by
  cases o with
  | none => cases h
  | some x => exact congrArg some (sameD_ok h)
def sameL (o : Option (List D)) (d : List D) : Bool := match o with
  | some x => sameDs x d
  | none => false
theorem sameL_ok {o : Option (List D)} {d : List D} (h : sameL o d = true) : o = some d := by
  cases o with
  | none => cases h
  | some x => exact congrArg some (sameDs_ok h)
abbrev webD (s k : Nat) : D := gD s (adjc k)
def permsD (s : Nat) : D := .lst ((perms s).map rowD)
def decE : D → Nat
  | .tup [_, .tup es] => es.foldl (fun acc e => match e with
    | .tup [.int a, .int b] => acc + 2 ^ bit a.toNat b.toNat
    | _ => acc) 0
  | _ => 0
def isWd (s : Nat) (d : D) : Bool := sameD d (webD s (decE d)) && decide (decE d < N s)
def isWeb (s : Nat) (o : Option D) : Bool := match o with
  | some d => isWd s d
  | none => false
theorem isWd_ok {s : Nat} {d : D} (h : isWd s d = true) : ∃ k, k < N s ∧ d = webD s k := by
  unfold isWd at h
  rw [Bool.and_eq_true] at h
  exact ⟨_, of_decide_eq_true h.2, sameD_ok h.1⟩
theorem isWeb_ok {s : Nat} {o : Option D} (h : isWeb s o = true) : ∃ k, k < N s ∧ o = some (webD s k) := by
  cases o with
  | none => cases h
  | some d =>
    obtain ⟨k, hk, e⟩ := isWd_ok h
    exact ⟨k, hk, congrArg some e⟩
def isWebs (s : Nat) (o : Option D) : Bool := match o with
  | some (.lst l) => !l.isEmpty && l.all (isWd s)
  | _ => false
def bitsL (n b : Nat) : List Nat := (List.range n).map fun i => if b.testBit i then 1 else 0
def odd (m c : Nat) : Bool := cls m c == 1 || cls m c == 2
/-- sides, or none -/
def sideOk (b : Bool) (o : Option D) : Bool := match o with
  | some d => isNonD d == b
  | none => false
theorem sideOk_ok {b : Bool} {o : Option D} (h : sideOk b o = true) : ∃ d, o = some d ∧ isNonD d = b := by
  cases o with
  | none => cases h
  | some d => exact ⟨d, rfl, beq_iff_eq.mp h⟩
theorem e1 : ((List.range 4).all fun s => sameO (g_L_permutations [iD s]) (permsD s)) = true := by decide +kernel
theorem e2 : ((List.range 4).all fun s => (List.range 64).all fun b => isWeb s (g_L_web [iD s, rowD (bitsL 6 b), .bl true]) && isWeb s (g_L_web [iD s, rowD (bitsL 6 b), .bl false])) = true := by decide +kernel
theorem e3 : ((List.range 4).all fun s => (List.range (2 ^ s)).all fun h => (List.range 8).all fun b => isWeb s (g_L_two_sided [iD s, rowD (bitsL s h), rowD (bitsL 3 b)])) = true := by decide +kernel
theorem e4 : allW (fun s k => isWebs s (g_L_twisted_webs [webD s k, permsD s])) = true := by decide +kernel
theorem e6 : allW (fun s k => sameO (g_sort_of [webD s k]) (webD s (canon s k))) = true := by decide +kernel
theorem e7 : allW (fun s k => sameO (g_L_sorts_of [iD s, .lst [webD s k], permsD s]) (.lst [webD s (canon s k)])) = true := by decide +kernel
theorem e8 : allW (fun s k => sameO (g_can_cancel [webD s k]) (.bl (odd s k))) = true := by decide +kernel
theorem e8' : allW (fun s k => sideOk (odd s k) (g_L_sides [matD s (adjc k)])) = true := by decide +kernel
theorem e9 : ((List.range 4).all fun s => sameL (g_all_webs [iD s, .bl true]) ((sorts s).map (webD s))) = true := by decide +kernel
theorem e10 : ((List.range 4).all fun s => sameO (g_L_all_sorts [iD s, permsD s]) (.lst ((sorts s).map (webD s)))) = true := by decide +kernel
theorem e12 : allW (fun s k => (edgesOf s (adjc k)).isEmpty == (cls s k == 0)) = true := by decide +kernel
theorem e13 : ((List.range 4).all fun s => (List.range 4).all fun s' => (sorts s).all fun x => (sorts s').all fun y => eqD (webD s x) (webD s' y) == (s == s' && x == y)) = true := by decide +kernel
theorem e14 : ((List.range 4).all fun s => (sorts s).all fun x => okD (webD s x) && sameO (g_L_same 7 [webD s x, webD s x]) (.bl true)) = true := by decide +kernel
theorem e15 : ((List.range 4).all fun s => sameO (g_L_same 7 [.lst ((sorts s).map (webD s)), .lst ((sorts s).map (webD s))]) (.bl true)) = true := by decide +kernel
theorem e16 : allW (fun s k => sameO (g_L_same 7 [.lst ((tw s k).map (webD s)), .lst ((tw s k).map (webD s))]) (.bl true) && sameO (g_L_same 7 [.lst [webD s (canon s k)], .lst [webD s (canon s k)]]) (.bl true)) = true := by decide +kernel
theorem e17 : (sameO (g_L_same 7 [.bl true, .bl true]) (.bl true) && sameO (g_L_same 7 [.bl false, .bl false]) (.bl true)) = true := by decide +kernel
end Wl
set_option maxRecDepth 1000000
set_option maxHeartbeats 0
namespace Wl
open PySem L2 PyProof.Rows Wd Wg Wm
theorem e11 : allW (fun s k => sameO (g_twist_sorts [webD s k]) (.lst ((tw s k).map (webD s)))) = true := by decide +kernel
end Wl
set_option maxRecDepth 100000
set_option maxHeartbeats 1000000
/-! the webs that a script makes -/
namespace Wl
open PySem L2 PyProof.Rows Wd Wg Wm
theorem all4 {f : Nat → Bool} (h : ((List.range 4).all f) = true) {s : Nat} (hs : s < 4) : f s = true := List.all_eq_true.mp h s (List.mem_range.mpr hs)
theorem allr {n : Nat} {f : Nat → Bool} (h : ((List.range n).all f) = true) {s : Nat} (hs : s < n) : f s = true := List.all_eq_true.mp h s (List.mem_range.mpr hs)
theorem bits_ex : ∀ l : List Nat, (∀ x ∈ l, x < 2) → ∃ h, h < 2 ^ l.length ∧ l = bitsL l.length h
  | [], _ => ⟨0, by decide, rfl⟩
  | x :: r, hx => by
    obtain ⟨h, h1, h2⟩ := bits_ex r fun y hy => hx y (List.mem_cons_of_mem _ hy)
    have x2 := hx x List.mem_cons_self
    refine ⟨x + 2 * h, ?_, ?_⟩
    · rw [List.length_cons, Nat.pow_succ]; omega
    · unfold bitsL
      rw [List.length_cons, List.range_succ_eq_map, List.map_cons, List.map_map]
      congr 1
      · rw [Nat.testBit_zero]
        have : (x + 2 * h) % 2 = x := by omega
        rw [this]
        have : x = 0 ∨ x = 1 := by omega
        rcases this with rfl | rfl <;> rfl
      · conv => lhs; rw [h2]
        unfold bitsL
        refine List.map_congr_left fun i _ => ?_
        show _ = if (x + 2 * h).testBit (i + 1) then 1 else 0
        rw [Nat.testBit_succ]
        have : (x + 2 * h) / 2 = h := by omega
        rw [this]
theorem edges_congr {n : Nat} {A B : Gr} (h : ∀ u v, u < n → v < n → u ≤ v → A u v = B u v) : edgesOf n A = edgesOf n B := by
  unfold edgesOf
  refine flat_congr fun u hu => ?_
  congr 1
  refine List.filter_congr fun v hv => ?_
  by_cases q : u ≤ v
  · rw [h u v (List.mem_range.mp hu) (List.mem_range.mp hv) q]
  · simp [q]
theorem code3 : ∀ a b c d e f : Bool, ((List.range 64).any fun k => adjc k 0 0 == a && adjc k 0 1 == b && adjc k 1 1 == c && adjc k 0 2 == d && adjc k 1 2 == e && adjc k 2 2 == f) = true := by decide +kernel
theorem code2 : ∀ a b c : Bool, ((List.range 8).any fun k => adjc k 0 0 == a && adjc k 0 1 == b && adjc k 1 1 == c) = true := by decide +kernel
theorem code1 : ∀ a : Bool, ((List.range 2).any fun k => adjc k 0 0 == a) = true := by decide +kernel
theorem small_web {s : Nat} (hs : s < 4) (A : Gr) : ∃ k, k < N s ∧ gD s A = webD s k := by
  have fin : ∀ k, edgesOf s A = edgesOf s (adjc k) → gD s A = webD s k := fun k e => by unfold webD gD; rw [e]
  match s, hs with
  | 0, _ => exact ⟨0, by decide, fin 0 rfl⟩
  | 1, _ =>
    obtain ⟨k, hk, h⟩ := List.any_eq_true.mp (code1 (A 0 0))
    refine ⟨k, List.mem_range.mp hk, fin k (edges_congr fun u v hu hv q => ?_)⟩
    have e1 : u = 0 := by omega
    have e2 : v = 0 := by omega
    subst e1; subst e2
    exact (beq_iff_eq.mp h).symm
  | 2, _ =>
    obtain ⟨k, hk, h⟩ := List.any_eq_true.mp (code2 (A 0 0) (A 0 1) (A 1 1))
    simp only [Bool.and_eq_true, beq_iff_eq] at h
    obtain ⟨⟨h1, h2⟩, h3⟩ := h
    refine ⟨k, List.mem_range.mp hk, fin k (edges_congr fun u v hu hv q => ?_)⟩
    match u, v, hu, hv, q with
    | 0, 0, _, _, _ => exact h1.symm
    | 0, 1, _, _, _ => exact h2.symm
    | 1, 1, _, _, _ => exact h3.symm
    | 1, 0, _, _, q => omega
  | 3, _ =>
    obtain ⟨k, hk, h⟩ := List.any_eq_true.mp (code3 (A 0 0) (A 0 1) (A 1 1) (A 0 2) (A 1 2) (A 2 2))
    simp only [Bool.and_eq_true, beq_iff_eq] at h
    obtain ⟨⟨⟨⟨⟨h1, h2⟩, h3⟩, h4⟩, h5⟩, h6⟩ := h
    refine ⟨k, List.mem_range.mp hk, fin k (edges_congr fun u v hu hv q => ?_)⟩
    match u, v, hu, hv, q with
    | 0, 0, _, _, _ => exact h1.symm
    | 0, 1, _, _, _ => exact h2.symm
    | 1, 1, _, _, _ => exact h3.symm
    | 0, 2, _, _, _ => exact h4.symm
    | 1, 2, _, _, _ => exact h5.symm
    | 2, 2, _, _, _ => exact h6.symm
    | 1, 0, _, _, q => omega
    | 2, 0, _, _, q => omega
    | 2, 1, _, _, q => omega
theorem N_pos (s : Nat) : 0 < N s := by unfold N; exact Nat.two_pow_pos _
theorem empty_web {m : Nat} (hm : m < 4) : webD m 0 = .tup [iD m, .tup []] := by
  match m, hm with
  | 0, _ => rfl
  | 1, _ => rfl
  | 2, _ => rfl
  | 3, _ => rfl
theorem web_f {s : Nat} (hs : s < 4) {l : List Nat} (hl : l.length = 6) (h2 : ∀ x ∈ l, x < 2) (fl : Bool) : ∃ k, k < N s ∧ g_L_web [iD s, rowD l, .bl fl] = some (webD s k) := by
  obtain ⟨b, hb, e⟩ := bits_ex l h2
  rw [hl] at hb e
  have := allr (all4 e2 hs) (show b < 64 by omega)
  rw [Bool.and_eq_true] at this
  rw [e]
  cases fl with
  | true => exact isWeb_ok this.1
  | false => exact isWeb_ok this.2
theorem two_f {s : Nat} (hs : s < 4) {l r : List Nat} (hl : l.length = s) (h2 : ∀ x ∈ l, x < 2) (hr : r.length = 3) (h3 : ∀ x ∈ r, x < 2) : ∃ k, k < N s ∧ g_L_two_sided [iD s, rowD l, rowD r] = some (webD s k) := by
  obtain ⟨b, hb, e⟩ := bits_ex l h2
  obtain ⟨c, hc, e'⟩ := bits_ex r h3
  rw [hl] at hb e
  rw [hr] at hc e'
  have := allr (allr (all4 e3 hs) hb) (show c < 8 by omega)
  rw [e, e']
  exact isWeb_ok this
theorem sizes8 : ∀ x, x < 8 → ∃ s, s < 4 ∧ gIx (.lst [.int 3, .int 2, .int 3, .int 2, .int 1, .int 3, .int 2, .int 0]) (iD x) = some (iD s) := fun x hx => by
  match x, hx with
  | 0, _ => exact ⟨3, by decide, rfl⟩
  | 1, _ => exact ⟨2, by decide, rfl⟩
  | 2, _ => exact ⟨3, by decide, rfl⟩
  | 3, _ => exact ⟨2, by decide, rfl⟩
  | 4, _ => exact ⟨1, by decide, rfl⟩
  | 5, _ => exact ⟨3, by decide, rfl⟩
  | 6, _ => exact ⟨2, by decide, rfl⟩
  | 7, _ => exact ⟨0, by decide, rfl⟩
theorem sizes8' : ∀ x, x < 8 → ∃ s, s < 4 ∧ gIx (.lst [.int 3, .int 2, .int 3, .int 2, .int 3, .int 1, .int 2, .int 0]) (iD x) = some (iD s) := fun x hx => by
  match x, hx with
  | 0, _ => exact ⟨3, by decide, rfl⟩
  | 1, _ => exact ⟨2, by decide, rfl⟩
  | 2, _ => exact ⟨3, by decide, rfl⟩
  | 3, _ => exact ⟨2, by decide, rfl⟩
  | 4, _ => exact ⟨3, by decide, rfl⟩
  | 5, _ => exact ⟨1, by decide, rfl⟩
  | 6, _ => exact ⟨2, by decide, rfl⟩
  | 7, _ => exact ⟨0, by decide, rfl⟩
/-- int(cell // d) % b -/
theorem dm (c d b : Nat) (hd : 0 < d) (hd2 : d < 1000000) (hb : 0 < b) {f : E → Option D} {env : E} (h : f env = some (iD c)) : bin2 gMod (mapT gInt (cons2 (bin2 gFdiv f (cI d)) (fun _ => some []))) (cI b) env = some (iD (c / d % b)) :=
  b2 (mt (c2 (b2 h rfl (fdiv_n (a := c) (b := d) hd hd2)) rfl) rfl) rfl (mod_n (a := c / d) (b := b) hb)
theorem im (c b : Nat) (hb : 0 < b) {f : E → Option D} {env : E} (h : f env = some (iD c)) : bin2 gMod (mapT gInt (cons2 f (fun _ => some []))) (cI b) env = some (iD (c % b)) :=
  b2 (mt (c2 h rfl) rfl) rfl (mod_n (a := c) (b := b) hb)
theorem second_f (ns : List Int) : ∃ m c, m < 4 ∧ c < N m ∧ g_L_second [.scr ns] = some (webD m c) := by
  obtain ⟨cl, hcl⟩ := cell_f ns 2
  obtain ⟨m, hm, hsz⟩ := sizes8 (cl % 8) (Nat.mod_lt _ (by decide))
  obtain ⟨l3, d3, len3, lt3⟩ := draws_f ns 3 m 2 (by omega) (by omega) (by omega)
  obtain ⟨l4, d4, len4, lt4⟩ := draws_f ns 4 3 2 (by omega) (by omega) (by omega)
  obtain ⟨l6, d6, len6, lt6⟩ := draws_f ns 4 6 2 (by omega) (by omega) (by omega)
  obtain ⟨k1, hk1, w1⟩ := two_f hm len3 lt3 len4 lt4
  obtain ⟨k2, hk2, w2⟩ := web_f hm len6 lt6 (false != (cl / 64 % 2 == 0))
  let b0 := false != (cl / 8 % 4 == 0)
  let b1 := (false != (cl / 8 % 4 == 1)) && (false != (cl / 32 % 2 == 0))
  have main : g_L_second [.scr ns] = some (if b0 = true then webD m k1 else if b1 = true then webD m 0 else webD m k2) := by
    refine run_of (n := 1) rfl ?_
    show m_L_second [.val (.scr ns), .no, .no, .no] = _
    unfold m_L_second
    refine s_set (d := iD cl) (mt (c2 rfl (c2 (x := iD 2) rfl rfl)) hcl) ?_
    refine s_set (d := iD m) (b2 rfl (im cl 8 (by omega) rfl) hsz) ?_
    refine s_set (d := iD (cl / 8 % 4)) (dm cl 8 4 (by omega) (by omega) (by omega) rfl) ?_
    refine (s_ifret (b := b0) (d := webD m k1) (tst_ (b2 rfl rfl (eq_int false _ 0))) (mt (c2 rfl (c2 (mt (c2 rfl (c2 (x := iD 3) rfl (c2 rfl (c2 (x := iD 2) rfl rfl)))) d3) (c2 (mt (c2 rfl (c2 (x := iD 4) rfl (c2 (x := iD 3) rfl (c2 (x := iD 2) rfl rfl)))) d4) rfl))) w1)).trans ?_
    by_cases h0 : b0 = true
    · rw [if_pos h0, if_pos h0]
    · rw [if_neg h0, if_neg h0]
      refine (s_ifret (b := b1) (d := webD m 0) (and_ (tst_ (b2 rfl rfl (eq_int false _ 1))) fun _ => tst_ (b2 (dm cl 32 2 (by omega) (by omega) (by omega) rfl) rfl (eq_int false _ 0))) (by rw [empty_web hm]; rfl)).trans ?_
      by_cases h1 : b1 = true
      · rw [if_pos h1, if_pos h1]
      · rw [if_neg h1, if_neg h1]
        exact s_ret (mt (c2 rfl (c2 (mt (c2 rfl (c2 (x := iD 4) rfl (c2 (x := iD 6) rfl (c2 (x := iD 2) rfl rfl)))) d6) (c2 (b2 (dm cl 64 2 (by omega) (by omega) (by omega) rfl) rfl (eq_int false _ 0)) rfl))) w2)
  by_cases h0 : b0 = true
  · rw [if_pos h0] at main; exact ⟨m, k1, hm, hk1, main⟩
  · rw [if_neg h0] at main
    by_cases h1 : b1 = true
    · rw [if_pos h1] at main; exact ⟨m, 0, hm, N_pos m, main⟩
    · rw [if_neg h1] at main; exact ⟨m, k2, hm, hk2, main⟩
theorem isWebs_ok {s : Nat} {o : Option D} (h : isWebs s o = true) : ∃ l, o = some (.lst l) ∧ l ≠ [] ∧ ∀ d ∈ l, ∃ k, k < N s ∧ d = webD s k := by
  unfold isWebs at h
  split at h
  · rename_i l
    rw [Bool.and_eq_true] at h
    refine ⟨l, rfl, fun z => by rw [z] at h; exact absurd h.1 (by decide), fun d hd => isWd_ok (List.all_eq_true.mp h.2 d hd)⟩
  · cases h
theorem third_f (ns : List Int) {s k : Nat} (hs : s < 4) (hk : k < N s) : ∃ s' k', s' < 4 ∧ k' < N s' ∧ g_L_third [.scr ns, webD s k, permsD s] = some (webD s' k') := by
  obtain ⟨cl, hcl⟩ := cell_f ns 5
  obtain ⟨q, hq, pq⟩ := drawn_f ns 6 s 1 (by omega)
  obtain ⟨l6, d6, len6, lt6⟩ := draws_f ns 6 6 2 (by omega) (by omega) (by omega)
  have ren : ∀ k, ∃ k', k' < N s ∧ g_L_renamed [webD s k, rowD q] = some (webD s k') := fun k => by
    obtain ⟨k', hk', e⟩ := small_web hs (reG s (adjc k) q)
    exact ⟨k', hk', (renamed_f (adjc_symm k) pq (by omega)).trans (by rw [e])⟩
  obtain ⟨tl, htl, hne, hall⟩ := isWebs_ok (allW_ok e4 hs hk)
  have hpos : 0 < tl.length := List.length_pos_iff.mpr hne
  have hi : cl / 4 % tl.length < tl.length := Nat.mod_lt _ hpos
  obtain ⟨k0, hk0, ek0⟩ := hall _ (List.getElem_mem hi)
  obtain ⟨k1, hk1, w1⟩ := ren k0
  obtain ⟨k2, hk2, w2⟩ := ren k
  obtain ⟨k3, hk3, w3⟩ := web_f hs len6 lt6 (false != (cl / 4 % 2 == 0))
  have h84 : cl / 8 % 4 < 4 := Nat.mod_lt _ (by decide)
  obtain ⟨k4, hk4, w4⟩ := web_f h84 len6 lt6 (false != (cl / 4 % 2 == 0))
  let b0 := false != (cl % 4 == 0)
  let b1 := false != (cl % 4 == 1)
  let b2' := false != (cl % 4 == 2)
  have dr : ∀ env : E, gv 0 env = some (.scr ns) → gv 4 env = some (iD s) → mapT g_L_drawn_row (cons2 (gv 0) (cons2 (cI 6) (cons2 (gv 4) (cons2 (cI 1) (fun _ => some []))))) env = some (rowD q) := fun env h0 h4 => mt (c2 h0 (c2 (x := iD 6) rfl (c2 h4 (c2 (x := iD 1) rfl rfl)))) hq
  have dd : ∀ env : E, gv 0 env = some (.scr ns) → mapT g_L_draws (cons2 (gv 0) (cons2 (cI 6) (cons2 (cI 6) (cons2 (cI 2) (fun _ => some []))))) env = some (rowD l6) := fun env h0 => mt (c2 h0 (c2 (x := iD 6) rfl (c2 (x := iD 6) rfl (c2 (x := iD 2) rfl rfl)))) d6
  have main : g_L_third [.scr ns, webD s k, permsD s] = some (if b0 = true then webD s k1 else if b1 = true then webD s k2 else if b2' = true then webD s k3 else webD (cl / 8 % 4) k4) := by
    refine run_of (n := 3) rfl ?_
    show m_L_third [.val (.scr ns), .val (webD s k), .val (permsD s), .no, .no, .no, .no] = _
    unfold m_L_third
    refine s_set (d := iD cl) (mt (c2 rfl (c2 (x := iD 5) rfl rfl)) hcl) ?_
    refine s_set (d := iD s) (b2 rfl rfl ix_g0) ?_
    refine s_set (d := iD (cl % 4)) (im cl 4 (by omega) rfl) ?_
    refine s_if (b := b0) (tst_ (b2 rfl rfl (eq_int false _ 0))) (fun h0 => ?_) (fun h0 => ?_)
    · rw [if_pos h0]
      refine s_seq.trans (s_set (d := .lst tl) (mt (c2 rfl (c2 rfl rfl)) htl) ?_)
      refine s_seq.trans (s_ret (mt (c2 (b2 (x := .lst tl) rfl (b2 (x := iD (cl / 4)) (y := iD tl.length) (mt (c2 (b2 rfl rfl (fdiv_n (a := cl) (b := 4) (by omega) (by omega))) rfl) rfl) (mt (c2 rfl rfl) rfl) (mod_n hpos)) (ix_lst (d := webD s k0) ?_)) (c2 (dr _ rfl rfl) rfl)) w1))
      rw [List.getElem?_eq_getElem hi, ek0]
    · rw [if_neg (by rw [h0]; decide)]
      refine s_nil.trans ?_
      refine (s_ifret (b := b1) (d := webD s k2) (tst_ (b2 rfl rfl (eq_int false _ 1))) (mt (c2 rfl (c2 (dr _ rfl rfl) rfl)) w2)).trans ?_
      by_cases h1 : b1 = true
      · rw [if_pos h1, if_pos h1]
      · rw [if_neg h1, if_neg h1]
        refine (s_ifret (b := b2') (d := webD s k3) (tst_ (b2 rfl rfl (eq_int false _ 2))) (mt (c2 rfl (c2 (dd _ rfl) (c2 (b2 (dm cl 4 2 (by omega) (by omega) (by omega) rfl) rfl (eq_int false _ 0)) rfl))) w3)).trans ?_
        by_cases h2 : b2' = true
        · rw [if_pos h2, if_pos h2]
        · rw [if_neg h2, if_neg h2]
          exact s_ret (mt (c2 (dm cl 8 4 (by omega) (by omega) (by omega) rfl) (c2 (dd _ rfl) (c2 (b2 (dm cl 4 2 (by omega) (by omega) (by omega) rfl) rfl (eq_int false _ 0)) rfl))) w4)
  by_cases h0 : b0 = true
  · rw [if_pos h0] at main; exact ⟨s, k1, hs, hk1, main⟩
  · rw [if_neg h0] at main
    by_cases h1 : b1 = true
    · rw [if_pos h1] at main; exact ⟨s, k2, hs, hk2, main⟩
    · rw [if_neg h1] at main
      by_cases h2 : b2' = true
      · rw [if_pos h2] at main; exact ⟨s, k3, hs, hk3, main⟩
      · rw [if_neg h2] at main; exact ⟨_, k4, h84, hk4, main⟩
end Wl
set_option maxRecDepth 100000
set_option maxHeartbeats 1000000
/-! answers, quotients -/
namespace Wl
open PySem L2 PyProof.Rows Wd Wg Wm
abbrev websD (s : Nat) (l : List Nat) : D := .lst (l.map (webD s))
theorem all_webs_f {s : Nat} (hs : s < 4) {f : E → Option D} {env : E} (h : f env = some (iD s)) : kwG g_all_webs f env = some ((sorts s).map (webD s)) := by
  unfold kwG
  rw [h]
  exact sameL_ok (all4 e9 hs)
theorem lstG_ {f : E → Option (List D)} {env : E} {ds : List D} (h : f env = some ds) (l : ds.length ≤ 100000) : lstG f env = some (.lst ds) := by
  unfold lstG
  rw [h]
  exact if_pos l
theorem sorts_len {s : Nat} (hs : s < 4) : (sorts s).length ≤ 20 := by
  match s, hs with
  | 0, _ => decide
  | 1, _ => decide
  | 2, _ => decide
  | 3, _ => decide
theorem LL_cases {m c : Nat} (hm : m < 4) (hm0 : 0 < m) (hc : c < N m) (s k : Nat) : (cls m c = 0 ∧ LL s k m c = sorts s) ∨ (odd m c = true ∧ cls m c ≠ 0 ∧ LL s k m c = [canon s k]) ∨ (odd m c = false ∧ cls m c ≠ 0 ∧ LL s k m c = tw s k) := by
  have g := allW_ok f6 hm hc
  rw [Bool.or_eq_true] at g
  have g := g.resolve_left (by simp; omega)
  unfold LL odd
  split at g
  · rename_i e; rw [e]; exact .inl ⟨rfl, rfl⟩
  · rename_i e; rw [e]; exact .inr (.inl ⟨rfl, by decide, rfl⟩)
  · rename_i e; rw [e]; exact .inr (.inl ⟨rfl, by decide, rfl⟩)
  · rename_i e; rw [e]; exact .inr (.inr ⟨rfl, by decide, rfl⟩)
  · cases g
theorem answers_f {s m k c : Nat} (hs : s < 4) (hm : m < 4) (hm0 : 0 < m) (hk : k < N s) (hc : c < N m) : g_answers [webD s k, webD m c] = some (websD s (LL s k m c)) := by
  have e12 := beq_iff_eq.mp (allW_ok e12 hm hc)
  have t1 : tst (bin2 (gEqB false) (bin2 gIx (gv 1) (cI 0)) (cI 0)) (en [.val (webD s k), .val (webD m c)]) = some false := by
    refine tst_ (b2 (b2 rfl rfl ix_g0) rfl ((eq_int false m 0).trans ?_))
    have : (m == 0) = false := by simp; omega
    rw [this]; rfl
  have t2 : notT (truT (bin2 gIx (gv 1) (cI 1))) (en [.val (webD s k), .val (webD m c)]) = some (cls m c == 0) := by
    have q : truT (bin2 gIx (gv 1) (cI 1)) (en [.val (webD s k), .val (webD m c)]) = some (!(edgesOf m (adjc c)).isEmpty) := by
      unfold truT
      rw [b2 (r := some (D.tup ((edgesOf m (adjc c)).map pN))) (g := gIx) (fa := gv 1) (fb := cI 1) rfl rfl ix_g1]
      show some (!((edgesOf m (adjc c)).map pN).isEmpty) = _
      rw [List.isEmpty_map]
    have := not_ q
    rw [this, e12, Bool.not_not]
  have t3 : tst (bin2 gGt (bin2 gIx (gv 0) (cI 0)) (cD k_MAX_SORTED)) (en [.val (webD s k), .val (webD m c)]) = some false := by
    refine tst_ (b2 (b2 rfl rfl ix_g0) rfl ?_)
    show some (D.bl (decide ((5 : Int) < (s : Int)))) = _
    rw [decide_eq_false (by omega)]
  have t4 : truT (mapT g_can_cancel (cons2 (gv 1) (fun _ => some []))) (en [.val (webD s k), .val (webD m c)]) = some (odd m c) := tru_ (mt (c2 rfl rfl) (sameO_ok (allW_ok e8 hm hc)))
  refine run_of (n := 2) rfl ?_
  show m_answers [.val (webD s k), .val (webD m c)] = _
  unfold m_answers
  refine s_if (b := false) t1 (fun z => nomatch z) fun _ => s_nil.trans ?_
  refine (s_ifret (d := websD s (sorts s)) t2 (lstG_ (all_webs_f hs (b2 rfl rfl ix_g0)) (by rw [List.length_map]; have := sorts_len hs; omega))).trans ?_
  rcases LL_cases hm hm0 hc s k with ⟨e, l⟩ | ⟨o, e, l⟩ | ⟨o, e, l⟩
  · rw [if_pos (by rw [e]; rfl), l]
  · rw [if_neg (by simpa using e), l]
    refine s_if (b := false) t3 (fun z => nomatch z) fun _ => s_nil.trans ?_
    refine (s_ifret (d := websD s [canon s k]) t4 (mt (c2 (mt (c2 rfl rfl) (sameO_ok (allW_ok e6 hs hk))) rfl) rfl)).trans ?_
    rw [if_pos o]
  · rw [if_neg (by simpa using e), l]
    refine s_if (b := false) t3 (fun z => nomatch z) fun _ => s_nil.trans ?_
    refine (s_ifret (d := websD s [canon s k]) t4 (mt (c2 (mt (c2 rfl rfl) (sameO_ok (allW_ok e6 hs hk))) rfl) rfl)).trans ?_
    rw [if_neg (by rw [o]; decide)]
    exact s_ret (mt (c2 rfl rfl) (sameO_ok (allW_ok e11 hs hk)))
theorem pA_symm {m : Nat} {A C : Gr} (hA : ∀ i j, A i j = A j i) (hC : ∀ i j, C i j = C j i) (i j : Nat) : pA m A C i j = pA m A C j i := by unfold pA; rw [hA, hC]
theorem quot_f {s m c : Nat} (hs : s < 4) (hm : m < 4) (hm0 : 0 < m) {G : Gr} (hG : ∀ i j, G i j = G j i) (P : Nat → Bool) (hP : ∀ w ∈ sorts s, (P w = true ↔ Iso (s * m) (pA m (adjc w) (adjc c)) G)) :
    g_direct_quotients [gD (s * m) G, webD m c] = some (websD s ((sorts s).filter P)) := by
  have hsm : s * m ≤ 9 := Nat.mul_le_mul (show s ≤ 3 by omega) (show m ≤ 3 by omega)
  have sl := sorts_len hs
  have m0 : (m == 0) = false := by simp; omega
  have lp := loop_idx (t := bNm 3) (m := (mSeq (mIf (tst (nonV true (mapT g_find_renaming (cons2 (mapT g_product (cons2 (cS "direct") (cons2 (gv 3) (cons2 (gv 1) (fun _ => some []))))) (cons2 (gv 0) (fun _ => some [])))))) (mSeq (mApp 2 (gv 3)) mNil) mNil) mNil))
    (fun i env => ∃ x, env = [.val (gD (s * m) G), .val (webD m c), .own ((((sorts s).take i).filter P).map (webD s)), x, .val (iD s), .val (iD 0)]) ((sorts s).map (webD s)) 0 (fun i d env hd ⟨x, he⟩ => by
      rw [Nat.zero_add] at he ⊢
      subst he
      rw [List.getElem?_map] at hd
      cases hg : (sorts s)[i]? with
      | none => rw [hg] at hd; cases hd
      | some w =>
        rw [hg] at hd
        cases hd
        have hw := List.mem_of_getElem? hg
        have tk : (sorts s).take (i + 1) = (sorts s).take i ++ [w] := by rw [List.take_add_one, hg]; rfl
        obtain ⟨d, hd1, hd2⟩ := find_f (n := s * m) (m := s * m) (A := pA m (adjc w) (adjc c)) (B := G) hsm hsm (pA_symm (adjc_symm w) (adjc_symm c)) hG
        have cond : tst (nonV true (mapT g_find_renaming (cons2 (mapT g_product (cons2 (cS "direct") (cons2 (gv 3) (cons2 (gv 1) (fun _ => some []))))) (cons2 (gv 0) (fun _ => some []))))) (en [.val (gD (s * m) G), .val (webD m c), .own ((((sorts s).take i).filter P).map (webD s)), .val (webD s w), .val (iD s), .val (iD 0)]) = some (!isNonD d) :=
          non_t (mt (c2 (mt (c2 rfl (c2 rfl (c2 rfl rfl))) (product_f (adjc_symm w) (adjc_symm c) (by omega) (by omega) (by omega))) (c2 rfl rfl)) hd1)
        have pd : P w = !isNonD d := by
          rw [Bool.eq_iff_iff, hP w hw]
          constructor
          · intro h
            have := hd2.mpr ⟨rfl, h⟩
            cases d <;> first | rfl | exact absurd rfl this
          · intro h
            refine (hd2.mp ?_).2
            rintro rfl
            cases h
        refine ⟨_, [.val (gD (s * m) G), .val (webD m c), .own ((((sorts s).take (i + 1)).filter P).map (webD s)), .val (webD s w), .val (iD s), .val (iD 0)], rfl, ?_, _, rfl⟩
        rw [tk, List.filter_append, List.map_append]
        refine s_if cond (fun z => ?_) (fun z => ?_)
        · have hp : P w = true := pd.trans z
          refine s_seq.trans (s_app (i := 2) (acc := (((sorts s).take i).filter P).map (webD s)) (d := webD s w) rfl rfl ?_ ?_)
          · rw [List.length_map]
            have := List.length_filter_le P ((sorts s).take i)
            rw [List.length_take] at this
            unfold LIM; omega
          · have : [w].filter P = [w] := by simp [hp]
            rw [this]; rfl
        · have hp : P w = false := pd.trans z
          have : [w].filter P = [] := by simp [hp]
          rw [this, List.map_nil, List.append_nil]; rfl) [.val (gD (s * m) G), .val (webD m c), .own [], .no, .val (iD s), .val (iD 0)] ⟨.no, rfl⟩
  obtain ⟨e', l1, ⟨x, rfl⟩⟩ := lp
  rw [Nat.zero_add, List.length_map, List.take_length] at l1
  refine run_of (n := 2) rfl ?_
  show m_direct_quotients [.val (gD (s * m) G), .val (webD m c), .no, .no, .no, .no] = _
  unfold m_direct_quotients
  refine s_if (b := false) (tst_ (b2 (b2 rfl rfl ix_g0) rfl ((eq_int false m 0).trans (by rw [m0]; rfl)))) (fun z => nomatch z) fun _ => s_nil.trans ?_
  refine s_if (b := false) ?_ (fun z => nomatch z) fun _ => s_nil.trans ?_
  · refine tst_ (b2 (b2 rfl rfl ix_g0) rfl ?_)
    show some (D.bl (decide ((9 : Int) < ((s * m : Nat) : Int)))) = _
    rw [decide_eq_false (by omega)]
  refine s_bind (d := .tup [iD s, iD 0]) (mt (c2 (b2 rfl rfl ix_g0) (c2 (b2 rfl rfl ix_g0) rfl)) ((divmod_n hm0 (by omega)).trans ?_)) rfl ?_
  · rw [Nat.mul_div_cancel _ hm0, Nat.mul_mod_left]
  refine (s_ifret (b := false) (d := .lst []) (tst_ (b2 rfl rfl ((eq_int true 0 0).trans rfl))) rfl).trans ?_
  rw [if_neg (by decide)]
  refine s_if (b := false) ?_ (fun z => nomatch z) fun _ => s_nil.trans ?_
  · refine tst_ (b2 rfl rfl ?_)
    show some (D.bl (decide ((3 : Int) < (s : Int)))) = _
    rw [decide_eq_false (by omega)]
  refine s_setF (ds := []) rfl (s_nx ((for_ (all_webs_f hs rfl)).trans l1) (s_ret rfl))
/-! the list is the same, asked in either way -/
theorem LL_filter {s m k c : Nat} (hs : s < 4) (hm : m < 4) (hm0 : 0 < m) (hk : k < N s) (hc : c < N m) : (sorts s).filter (fun w => decide (w ∈ LL s k m c)) = LL s k m c := by
  have g := allW_ok f9 hs hk
  simp only [Bool.and_eq_true, beq_iff_eq] at g
  have cv : ∀ l : List Nat, (sorts s).filter (fun w => decide (w ∈ l)) = (sorts s).filter (fun w => l.contains w) := fun l => List.filter_congr fun w _ => by rw [List.contains_eq_mem]
  rcases LL_cases hm hm0 hc s k with ⟨e, l⟩ | ⟨o, e, l⟩ | ⟨o, e, l⟩
  · rw [l]
    exact List.filter_eq_self.mpr fun w hw => decide_eq_true hw
  · rw [l, cv]; exact g.1.1.1.2
  · rw [l, cv]; exact g.1.1.1.1
theorem LL_ne {s m k c : Nat} (hs : s < 4) (hm : m < 4) (hm0 : 0 < m) (hk : k < N s) (hc : c < N m) : 0 < (LL s k m c).length ∧ ∀ w ∈ LL s k m c, w ∈ sorts s ∧ LL s w m c = LL s k m c := by
  have g := allW_ok f9 hs hk
  simp only [Bool.and_eq_true, beq_iff_eq] at g
  have g8 := allW_ok f8 hs hk
  simp only [Bool.and_eq_true, beq_iff_eq] at g8
  have sub := LL_filter hs hm hm0 hk hc
  refine ⟨?_, fun w hw => ⟨?_, ?_⟩⟩
  · rcases LL_cases hm hm0 hc s k with ⟨e, l⟩ | ⟨o, e, l⟩ | ⟨o, e, l⟩
    · rw [l]
      have := g.1.2
      rw [Bool.not_eq_true', List.isEmpty_eq_false_iff] at this
      exact List.length_pos_iff.mpr this
    · rw [l]; exact Nat.zero_lt_one
    · rw [l]
      have := g.1.1.2
      rw [Bool.not_eq_true', List.isEmpty_eq_false_iff] at this
      exact List.length_pos_iff.mpr this
  · rw [← sub] at hw
    exact (List.mem_filter.mp hw).1
  · rcases LL_cases hm hm0 hc s k with ⟨e, l⟩ | ⟨o, e, l⟩ | ⟨o, e, l⟩
    · rcases LL_cases hm hm0 hc s w with ⟨_, l'⟩ | ⟨_, e', _⟩ | ⟨_, e', _⟩
      · rw [l, l']
      · exact absurd e e'
      · exact absurd e e'
    · rw [l] at hw
      have hw := List.mem_singleton.mp hw
      rw [l]
      rcases LL_cases hm hm0 hc s w with ⟨e', l'⟩ | ⟨o', e', l'⟩ | ⟨o', e', l'⟩
      · exact absurd e' e
      · rw [l', hw, g8.1.1.2]
      · rw [o] at o'; cases o'
    · rw [l] at hw ⊢
      have h1 := List.all_eq_true.mp g8.1.2 w hw
      rw [Bool.and_eq_true, beq_iff_eq] at h1
      rcases LL_cases hm hm0 hc s w with ⟨e', l'⟩ | ⟨o', e', l'⟩ | ⟨o', e', l'⟩
      · exact absurd e' e
      · rw [o] at o'; cases o'
      · rw [l', h1.1]
theorem same_LL {s m k c : Nat} (hs : s < 4) (hm : m < 4) (hm0 : 0 < m) (hk : k < N s) (hc : c < N m) : g_L_same 7 [websD s (LL s k m c), websD s (LL s k m c)] = some (.bl true) := by
  have g := allW_ok e16 hs hk
  rw [Bool.and_eq_true] at g
  rcases LL_cases hm hm0 hc s k with ⟨e, l⟩ | ⟨o, e, l⟩ | ⟨o, e, l⟩
  · rw [l]; exact sameO_ok (all4 e15 hs)
  · rw [l]; exact sameO_ok g.2
  · rw [l]; exact sameO_ok g.1
theorem noLs_pN : ∀ l : List (Nat × Nat), noLs (l.map pN) = true
  | [] => by unfold noLs; rfl
  | e :: r => by
    rw [List.map_cons]
    unfold noLs
    rw [noLs_pN r]
    unfold pN noL noLs noL noLs noL noLs
    rfl
theorem noL_gD (n : Nat) (A : Gr) : noL (gD n A) = true := by
  have h : noL (.tup ((edgesOf n A).map pN)) = true := by unfold noL; exact noLs_pN _
  have h2 : noL (iD n) = true := by unfold noL; rfl
  have h3 : noLs [] = true := by unfold noLs; rfl
  unfold gD noL noLs noLs
  rw [h, h2, h3]; rfl
theorem noLs_webs (s : Nat) : ∀ l : List Nat, noLs (l.map (webD s)) = true
  | [] => by unfold noLs; rfl
  | k :: r => by
    rw [List.map_cons]
    unfold noLs
    rw [noLs_webs s r, noL_gD]; rfl
theorem noLs_two (n m : Nat) (A C : Gr) : noLs [gD n A, gD m C] = true := by
  unfold noLs noLs noLs
  rw [noL_gD, noL_gD]; rfl
theorem own_ {g : List D → Option D} {fs : E → Option (List D)} {env : E} {args ds : List D} (h : fs env = some args) (n : noLs args = true) (hg : g args = some (.lst ds)) (n2 : noLs ds = true) : ownG g fs env = some ds := by
  unfold ownG
  rw [h]
  simp only []
  rw [if_pos n, hg]
  exact if_pos n2
theorem s_put0 {env : List Ent} {rest : M} {i : Nat} {f : E → Option D} {d : D} {acc : List D} {X : Option Out} (e : env[i]? = some (.own acc)) (h : f (en env) = some d) (l : 0 < acc.length) (k : rest (setOwn i (acc.set 0 d) env) = X) : mSeq (mPut i (cI 0) f) rest env = X := by
  unfold mSeq mPut
  rw [h]; simp only [cI]; rw [e]; simp only []
  have : ixN acc.length (0 : Int) = some 0 := ixN_nat (i := 0) l
  rw [this]
  exact k
theorem told_f (ns : List Int) {s m k c : Nat} (hs : s < 4) (hm : m < 4) (hm0 : 0 < m) (hk : k < N s) (hc : c < N m) {cnt : Nat} (hcnt : cnt ≤ 2) : g_L_answers_told [.scr ns, webD s k, webD m c, websD s (LL s k m c), iD cnt] = some (.bl true) := by
  have hsm : s * m ≤ 9 := Nat.mul_le_mul (show s ≤ 3 by omega) (show m ≤ 3 by omega)
  obtain ⟨q, hq, pq⟩ := drawn_f ns 7 (s * m) 2 (by omega)
  have hsym := pA_symm (m := m) (adjc_symm k) (adjc_symm c)
  generalize hG : reG (s * m) (pA m (adjc k) (adjc c)) q = G
  have i1 : Iso (s * m) (pA m (adjc k) (adjc c)) G := hG ▸ reG_iso hsym pq
  have i2 : Iso (s * m) G (pA m (adjc k) (adjc c)) := hG ▸ reG_iso' hsym pq
  have gs : ∀ i j, G i j = G j i := hG ▸ reG_symm _ _ _
  have ren : g_L_renamed [gD (s * m) (pA m (adjc k) (adjc c)), rowD q] = some (gD (s * m) G) := (renamed_f hsym pq hsm).trans (by rw [hG])
  have an := answers_f hs hm hm0 hk hc
  have qu : g_direct_quotients [gD (s * m) G, webD m c] = some (websD s (LL s k m c)) := by
    have := quot_f (c := c) hs hm hm0 gs (fun w => decide (w ∈ LL s k m c)) fun w hw => by
      rw [decide_eq_true_eq]
      have sw := sorts_lt hs hw
      have := T hs hm hm0 hk sw.2 hc i1 i2
      rw [sw.1] at this
      exact this.symm
    rw [LL_filter hs hm hm0 hk hc] at this
    exact this
  have len := (LL_ne hs hm hm0 hk hc).1
  let D0 := websD s (LL s k m c)
  let L0 := (LL s k m c).map (webD s)
  let S : List Ent → Prop := fun env => ∃ x6 x7 x8, env = [.val (.scr ns), .val (webD s k), .val (webD m c), .val D0, .val (iD cnt), .val (gD (s * m) G), x6, x7, x8]
  have lp := loop_idx (t := bNm 6) (m := (mSeq (mSetF 7 (ownG g_answers (cons2 (gv 1) (cons2 (gv 2) (fun _ => some []))))) (mSeq (mSetF 8 (ownG g_direct_quotients (cons2 (gv 5) (cons2 (gv 2) (fun _ => some [])))))
    (mSeq (mIf (orT (notT (truT (bor (mapT (g_L_same 7) (cons2 (gv 3) (cons2 (gv 7) (fun _ => some []))))))) (notT (truT (bor (mapT (g_L_same 7) (cons2 (gv 3) (cons2 (gv 8) (fun _ => some [])))))))) (mSeq (mRet (cB false)) mNil) mNil)
    (mSeq (mPut 7 (cI 0) (mapT gTup (cons2 (cI 8) (cons2 (mapT gTup (fun _ => some [])) (fun _ => some []))))) (mSeq (mApp 8 (mapT gTup (cons2 (cI 9) (cons2 (mapT gTup (fun _ => some [])) (fun _ => some []))))) mNil))))))
    (fun _ env => S env) ((List.range cnt).map iD) 0 (fun i d env hd ⟨x6, x7, x8, he⟩ => by
      subst he
      refine ⟨_, [.val (.scr ns), .val (webD s k), .val (webD m c), .val D0, .val (iD cnt), .val (gD (s * m) G), .val d, .own (L0.set 0 (.tup [.int 8, .tup []])), .own (L0 ++ [.tup [.int 9, .tup []]])], rfl, ?_, _, _, _, rfl⟩
      refine s_setF (ds := L0) (own_ (c2 rfl (c2 rfl rfl)) (noLs_two _ _ _ _) an (noLs_webs _ _)) ?_
      refine s_setF (ds := L0) (own_ (c2 rfl (c2 rfl rfl)) (noLs_two _ _ _ _) qu (noLs_webs _ _)) ?_
      have sm := same_LL hs hm hm0 hk hc
      have nb : noL (.bl true) = true := by unfold noL; rfl
      refine (s_ifret (b := false) (d := .bl false) (or_ (a := false) (b := false) (not_ (a := true) (tru_ (bor_ (mt (c2 rfl (c2 rfl rfl)) sm) nb))) fun _ => not_ (a := true) (tru_ (bor_ (mt (c2 rfl (c2 rfl rfl)) sm) nb))) rfl).trans ?_
      rw [if_neg (by decide)]
      refine s_put0 (i := 7) (acc := L0) (d := .tup [.int 8, .tup []]) rfl rfl (by rw [List.length_map]; exact len) ?_
      refine s_app (i := 8) (acc := L0) (d := .tup [.int 9, .tup []]) rfl rfl ?_ rfl
      have := LL_filter hs hm hm0 hk hc
      have l2 := List.length_filter_le (fun w => decide (w ∈ LL s k m c)) (sorts s)
      rw [this] at l2
      have := sorts_len hs
      rw [List.length_map]; unfold LIM; omega) [.val (.scr ns), .val (webD s k), .val (webD m c), .val D0, .val (iD cnt), .val (gD (s * m) G), .no, .no, .no] ⟨_, _, _, rfl⟩
  obtain ⟨e', l1, ⟨x6, x7, x8, rfl⟩⟩ := lp
  refine run_of (n := 5) rfl ?_
  show m_L_answers_told [.val (.scr ns), .val (webD s k), .val (webD m c), .val D0, .val (iD cnt), .no, .no, .no, .no] = _
  unfold m_L_answers_told
  refine s_set (d := gD (s * m) (pA m (adjc k) (adjc c))) (mt (c2 rfl (c2 rfl (c2 rfl rfl))) (Lproduct_f (adjc_symm k) (adjc_symm c) (by omega) (by omega) (by omega))) ?_
  refine s_set (d := gD (s * m) G) (mt (c2 rfl (c2 (mt (c2 rfl (c2 (x := iD 7) rfl (c2 (b2 rfl rfl ix_g0) (c2 (x := iD 2) rfl rfl)))) hq) rfl)) ren) ?_
  exact s_nx ((for_ (rng1_ (c2 rfl rfl) (by omega))).trans l1) (s_ret rfl)
end Wl
set_option maxRecDepth 100000
set_option maxHeartbeats 1000000
/-! the law -/
namespace Wl
open PySem L2 PyProof.Rows Wd Wg Wm
theorem okN_int (n : Nat) (i : Int) : okN n (.int i) = true := by cases n <;> (unfold okN; rfl)
theorem okN_pN (n : Nat) (e : Nat × Nat) : okN (n + 1) (pN e) = true := by
  unfold pN okN okNs okNs okNs
  rw [okN_int, okN_int]; rfl
theorem okNs_pN (n : Nat) : ∀ l : List (Nat × Nat), okNs (n + 1) (l.map pN) = true
  | [] => by unfold okNs; rfl
  | e :: r => by
    rw [List.map_cons]
    unfold okNs
    rw [okN_pN, okNs_pN n r]; rfl
theorem okN_gD (n a : Nat) (A : Gr) : okN (n + 3) (gD a A) = true := by
  have h : okN (n + 2) (.tup ((edgesOf a A).map pN)) = true := by unfold okN; exact okNs_pN n _
  unfold gD okN okNs okNs okNs
  rw [okN_int, h]; rfl
theorem okNs_webs (n s : Nat) : ∀ l : List Nat, okNs (n + 3) (l.map (webD s)) = true
  | [] => by unfold okNs; rfl
  | k :: r => by
    rw [List.map_cons]
    unfold okNs
    rw [okN_gD, okNs_webs n s r]; rfl
theorem okD_webs (s : Nat) (l : List Nat) : okD (websD s l) = true := by
  unfold okD okN
  exact okNs_webs 4 s l
theorem okD_web (s k : Nat) : okD (webD s k) = true := okN_gD 5 s (adjc k)
theorem eq_web {s s' x y : Nat} (hs : s < 4) (hs' : s' < 4) (hx : x ∈ sorts s) (hy : y ∈ sorts s') : eqD (webD s x) (webD s' y) = (s == s' && x == y) := by
  have := List.all_eq_true.mp (all4 (all4 e13 hs) hs')
  have := List.all_eq_true.mp (this x hx) y hy
  exact beq_iff_eq.mp this
theorem in_webs {s s' x : Nat} (hs : s < 4) (hs' : s' < 4) (hx : x ∈ sorts s') {L : List Nat} (hL : ∀ w ∈ L, w ∈ sorts s) : gInB false (webD s' x) (websD s L) = some (.bl (s == s' && decide (x ∈ L))) := by
  have any : ∀ L : List Nat, (∀ w ∈ L, w ∈ sorts s) → ((L.map (webD s)).any fun z => eqD z (webD s' x)) = (s == s' && decide (x ∈ L)) := fun L => by
    induction L with
    | nil => intro _; simp
    | cons w r ih =>
      intro hL
      rw [List.map_cons, List.any_cons, ih fun v hv => hL v (List.mem_cons_of_mem _ hv), eq_web hs hs' (hL w List.mem_cons_self) hx]
      cases h : (s == s')
      · simp
      · rw [Bool.true_and, Bool.true_and, Bool.true_and, Bool.eq_iff_iff, Bool.or_eq_true, beq_iff_eq, decide_eq_true_eq, decide_eq_true_eq, List.mem_cons]
        exact or_congr_left ⟨fun e => e.symm, fun e => e.symm⟩
  have h1 : (flatD (webD s' x) && (L.map (webD s)).all flatD) = false := rfl
  unfold gInB
  simp only []
  rw [if_neg (by rw [h1]; decide), if_pos (by rw [okD_web, okD_webs]; rfl), any L hL]
  cases (s == s' && decide (x ∈ L)) <;> rfl
/-- what a test says -/
def bO (o : Option D) : Bool := match o with
  | some (.bl b) => b
  | _ => false
theorem seqV_ {f : E → Option D} {env : E} {ds : List D} (h : f env = some (.lst ds)) : seqV f env = some ds := by unfold seqV; rw [h]
theorem nonV_ {neg : Bool} {f : E → Option D} {env : E} {d : D} (h : f env = some d) : nonV neg f env = some (gNon neg d) := by unfold nonV; rw [h]; rfl
theorem bO_ {o : Option D} {b : Bool} (h : o = some (.bl b)) : bO o = b := by rw [h]; rfl
theorem due_f {s m k c : Nat} (hs : s < 4) (hm : m < 4) (hm0 : 0 < m) (hk : k < N s) (hc : c < N m) {fi : E → Option (List D)} {env : E} (hfi : fi env = some ((sorts s).map (webD s)))
    (h4 : ((wipeL [10] env.st)[4]?) = some (some (webD m c))) (h8 : ((wipeL [10] env.st)[8]?) = some (some (gD (s * m) (pA m (adjc k) (adjc c))))) (hl : (wipeL [10] env.st).length = 12) :
    lstV (lcV [10] fi (eNm 10) (truT (mapT g_L_fits (cons2 (gv 10) (cons2 (gv 4) (cons2 (gv 8) (fun _ => some [])))))) (gv 10)) env = some (websD s (LL s k m c)) := by
  have hsm : s * m ≤ 9 := Nat.mul_le_mul (show s ≤ 3 by omega) (show m ≤ 3 by omega)
  have hsym := pA_symm (m := m) (adjc_symm k) (adjc_symm c)
  have fit : ∀ w ∈ sorts s, g_L_fits [webD s w, webD m c, gD (s * m) (pA m (adjc k) (adjc c))] = some (.bl (decide (w ∈ LL s k m c))) := fun w hw => by
    obtain ⟨r, e, hr⟩ := fits_f (b := s) (m := m) (k := s * m) (B := adjc w) (C := adjc c) (G := pA m (adjc k) (adjc c)) (by omega) (by omega) hsm (adjc_symm w) (adjc_symm c) hsym
    have sw := sorts_lt hs hw
    have t := T hs hm hm0 hk sw.2 hc (iso_of_eq (n := s * m) (A := pA m (adjc k) (adjc c)) (B := pA m (adjc k) (adjc c)) fun _ _ _ _ => rfl) (iso_of_eq fun _ _ _ _ => rfl)
    rw [sw.1] at t
    have : r = decide (w ∈ LL s k m c) := by
      rw [Bool.eq_iff_iff, hr, decide_eq_true_eq, ← t]
      exact ⟨fun h => h.2, fun h => ⟨rfl, h⟩⟩
    rw [e, this]
  let Lw := wipeL [10] env.st
  obtain ⟨P, pw⟩ : ∃ P : D → Bool, ∀ w ∈ sorts s, P (webD s w) = decide (w ∈ LL s k m c) := ⟨fun d => bO (g_L_fits [d, webD m c, gD (s * m) (pA m (adjc k) (adjc c))]), fun w hw => bO_ (fit w hw)⟩
  have go : lcGo (eNm 10) (truT (mapT g_L_fits (cons2 (gv 10) (cons2 (gv 4) (cons2 (gv 8) (fun _ => some [])))))) (gv 10) Lw ((sorts s).map (webD s)) = some ((((sorts s).map (webD s)).filter P).map id) := by
    refine lc_filter (t := eNm 10) P id _ fun d hd => ?_
    obtain ⟨w, hw, rfl⟩ := List.mem_map.mp hd
    refine ⟨Lw.set 10 (some (webD s w)), rfl, ?_, fun _ => ?_⟩
    · have g10 : gv 10 ⟨Lw.set 10 (some (webD s w)), []⟩ = some (webD s w) := by
        unfold gv
        simp only []
        rw [List.getElem?_set_self (by show 10 < Lw.length; rw [hl]; decide)]; rfl
      have g4 : gv 4 ⟨Lw.set 10 (some (webD s w)), []⟩ = some (webD m c) := by
        unfold gv
        simp only []
        rw [List.getElem?_set_ne (by decide), h4]; rfl
      have g8 : gv 8 ⟨Lw.set 10 (some (webD s w)), []⟩ = some (gD (s * m) (pA m (adjc k) (adjc c))) := by
        unfold gv
        simp only []
        rw [List.getElem?_set_ne (by decide), h8]; rfl
      rw [pw w hw]
      exact tru_ (mt (c2 g10 (c2 g4 (c2 g8 rfl))) (fit w hw))
    · unfold gv
      simp only []
      rw [List.getElem?_set_self (by show 10 < Lw.length; rw [hl]; decide)]; rfl
  have res : (((sorts s).map (webD s)).filter P).map id = (LL s k m c).map (webD s) := by
    have e : (sorts s).filter (P ∘ webD s) = (sorts s).filter fun w => decide (w ∈ LL s k m c) := List.filter_congr fun w hw => by
      show P (webD s w) = _
      exact pw w hw
    rw [List.map_id, List.filter_map, e, LL_filter hs hm hm0 hk hc]
  rw [res] at go
  refine lstV_ (lcV_ hfi go) ?_
  have l2 := List.length_filter_le (fun w => decide (w ∈ LL s k m c)) (sorts s)
  rw [LL_filter hs hm hm0 hk hc] at l2
  have := sorts_len hs
  rw [List.length_map]; omega
theorem N0 {c : Nat} (h : c < N 0) : c = 0 := by unfold N at h; simp at h; exact h
theorem andV_ {f g : E → Option D} {env : E} {r : Option D} (h : f env = some (.bl true)) (k : g env = r) : andV f g env = r := by unfold andV; rw [h]; exact k
theorem law_f (ns : List Int) : g_law [.scr ns] = some (.bl true) := by
  obtain ⟨cl, hcl⟩ := cell_f ns 0
  obtain ⟨c8, hc8⟩ := cell_f ns 8
  obtain ⟨s, hs, hsz⟩ := sizes8' (cl % 8) (Nat.mod_lt _ (by decide))
  obtain ⟨l1, d1, len1, lt1⟩ := draws_f ns 1 6 2 (by omega) (by omega) (by omega)
  obtain ⟨k, hk, wa⟩ := web_f hs len1 lt1 (true != (cl / 8 % 3 == 1))
  obtain ⟨m, c, hm, hc, wc⟩ := second_f ns
  obtain ⟨s', k', hs', hk', wb⟩ := third_f ns hs hk
  obtain ⟨sd, hsd, hsd2⟩ := sideOk_ok (allW_ok e8' hm hc)
  have pe := sameO_ok (all4 e1 hs)
  have pe' := sameO_ok (all4 e1 hs')
  have cc := sameO_ok (allW_ok e8 hm hc)
  have so := sameO_ok (allW_ok e6 hs' hk')
  have sos := sameO_ok (allW_ok e7 hs hk)
  have sos' := sameO_ok (allW_ok e7 hs' hk')
  have ci' := (canon_in hs' hk').1
  have e14' := List.all_eq_true.mp (all4 e14 hs') _ ci'
  rw [Bool.and_eq_true] at e14'
  have sm14 := sameO_ok e14'.2
  have sob : g_L_same 7 [.bl (odd m c), .bl (odd m c)] = some (.bl true) := by
    have := e17
    rw [Bool.and_eq_true] at this
    cases odd m c
    · exact sameO_ok this.2
    · exact sameO_ok this.1
  let env : Ent → Ent → Ent → Ent → List Ent := fun x8 x9 x10 x11 => [.val (.scr ns), .val (iD cl), .val (iD s), .val (webD s k), .val (webD m c), .val (permsD s), .val (webD s' k'), .val (.bl (odd m c)), x8, x9, x10, x11]
  refine run_of (n := 1) rfl ?_
  show m_law [.val (.scr ns), .no, .no, .no, .no, .no, .no, .no, .no, .no, .no, .no] = _
  unfold m_law
  refine s_set (d := iD cl) (mt (c2 rfl (c2 (x := iD 0) rfl rfl)) hcl) ?_
  refine s_set (d := iD s) (b2 rfl (im cl 8 (by omega) rfl) hsz) ?_
  refine s_set (d := webD s k) (mt (c2 rfl (c2 (mt (c2 rfl (c2 (x := iD 1) rfl (c2 (x := iD 6) rfl (c2 (x := iD 2) rfl rfl)))) d1) (c2 (b2 (dm cl 8 3 (by omega) (by omega) (by omega) rfl) rfl (eq_int true _ 1)) rfl))) wa) ?_
  refine s_set (d := webD m c) (mt (c2 rfl rfl) wc) ?_
  refine s_set (d := permsD s) (mt (c2 rfl rfl) pe) ?_
  refine s_set (d := webD s' k') (mt (c2 rfl (c2 rfl (c2 rfl rfl))) wb) ?_
  refine s_set (d := .bl (odd m c)) ?_ ?_
  · have : mapT g_L_sides (cons2 (mapT g_L_matrix (cons2 (gv 4) (fun _ => some []))) (fun _ => some [])) (en [.val (.scr ns), .val (iD cl), .val (iD s), .val (webD s k), .val (webD m c), .val (permsD s), .val (webD s' k'), .no, .no, .no, .no, .no]) = some sd :=
      mt (c2 (mt (c2 rfl rfl) (matrix_f (by omega) (adjc_symm c))) rfl) hsd
    refine (nonV_ this).trans ?_
    rw [← hsd2]
    cases sd <;> rfl
  refine (s_ifret (b := false) (d := .bl false) (not_ (a := true) (tru_ (mt (c2 rfl (c2 (mt (c2 rfl rfl) cc) rfl)) sob))) rfl).trans ?_
  rw [if_neg (by decide)]
  by_cases hm0 : m = 0
  · subst hm0
    have c0 := N0 hc
    subst c0
    refine (s_ifret (b := true) (d := .bl true) (tst_ (b2 (b2 rfl rfl ix_g0) rfl (eq_int false 0 0))) ?_).trans (if_pos rfl)
    refine andV_ (mt (ds := [.int 0, webD s k, webD 0 0]) rfl rfl) (andV_ (mt (ds := [.int 0, webD s' k', webD 0 0]) rfl rfl) (mt (ds := [.int 1, .tup [.int 0, .tup []], webD 0 0]) rfl rfl))
  · have hm0 : 0 < m := Nat.pos_of_ne_zero hm0
    have m0 : (m == 0) = false := by simp; omega
    have hsm : s * m ≤ 9 := Nat.mul_le_mul (show s ≤ 3 by omega) (show m ≤ 3 by omega)
    have hsym := pA_symm (m := m) (adjc_symm k) (adjc_symm c)
    have an := answers_f hs hm hm0 hk hc
    obtain ⟨len, mem⟩ := LL_ne hs hm hm0 hk hc
    let DU := websD s (LL s k m c)
    let WH := gD (s * m) (pA m (adjc k) (adjc c))
    refine s_if (b := false) (tst_ (b2 (b2 rfl rfl ix_g0) rfl ((eq_int false m 0).trans (by rw [m0]; rfl)))) (fun z => nomatch z) fun _ => s_nil.trans ?_
    refine s_set (d := WH) (mt (c2 rfl (c2 rfl (c2 rfl rfl))) (Lproduct_f (adjc_symm k) (adjc_symm c) (by omega) (by omega) (by omega))) ?_
    have sq : seqV (mapT g_L_all_sorts (cons2 (gv 2) (cons2 (gv 5) (fun _ => some [])))) (en (env (.val WH) .no .no .no)) = some ((sorts s).map (webD s)) := by
      exact seqV_ (mt (c2 rfl (c2 rfl rfl)) (sameO_ok (all4 e10 hs)))
    refine s_set (d := DU) (due_f (env := en (env (.val WH) .no .no .no)) hs hm hm0 hk hc sq rfl rfl rfl) ?_
    -- with an odd ring there is one answer
    refine (s_ifret (b := false) (d := .bl false) ?_ rfl).trans ?_
    · have : andT (truT (gv 7)) (tst (bin2 (gEqB true) (gv 9) (mapT g_L_sorts_of (cons2 (gv 2) (cons2 (mapT gLst (cons2 (gv 3) (fun _ => some []))) (cons2 (gv 5) (fun _ => some []))))))) (en (env (.val WH) (.val DU) .no .no)) = some (odd m c && false) := by
        refine and_ (tru_ rfl) fun ho => ?_
        have hL : LL s k m c = [canon s k] := by
          rcases LL_cases hm hm0 hc s k with ⟨e, l⟩ | ⟨o, e, l⟩ | ⟨o, e, l⟩
          · unfold odd at ho; rw [e] at ho; cases ho
          · exact l
          · rw [o] at ho; cases ho
        refine tst_ (b2 (x := DU) rfl (mt (c2 rfl (c2 (mt (c2 rfl rfl) rfl) (c2 rfl rfl))) sos) ?_)
        show gEqB true (websD s (LL s k m c)) _ = _
        rw [hL]
        have cin := (canon_in hs hk).1
        show (if (okD (websD s [canon s k]) && okD (websD s [canon s k])) = true then some (D.bl (true != eqD (websD s [canon s k]) (websD s [canon s k]))) else none) = _
        rw [if_pos (by rw [okD_webs]; rfl)]
        have : eqD (websD s [canon s k]) (websD s [canon s k]) = true := by
          show eqD (.lst [webD s (canon s k)]) (.lst [webD s (canon s k)]) = true
          unfold eqD eqDs
          rw [eq_web hs hs cin cin]
          unfold eqDs
          simp
        rw [this]; rfl
      rw [Bool.and_false] at this
      exact this
    rw [if_neg (by decide)]
    -- asked of a
    refine (s_ifret (b := false) (d := .bl false) (not_ (a := true) (tru_ (mt (c2 rfl (c2 rfl (c2 rfl (c2 (x := DU) rfl (c2 (x := iD 2) rfl rfl))))) (told_f ns hs hm hm0 hk hc (cnt := 2) (by omega))))) rfl).trans ?_
    rw [if_neg (by decide)]
    -- one of the answers
    have hi : c8 % (LL s k m c).length < (LL s k m c).length := Nat.mod_lt _ len
    generalize hw : (LL s k m c)[c8 % (LL s k m c).length]'hi = w
    have hwm : w ∈ LL s k m c := by rw [← hw]; exact List.getElem_mem hi
    obtain ⟨hws, hwl⟩ := mem w hwm
    have hwN := (sorts_lt hs hws).2
    refine s_set (d := webD s w) (b2 (x := DU) (y := iD (c8 % (LL s k m c).length)) rfl (b2 (x := iD c8) (y := iD (LL s k m c).length) (mt (c2 (mt (c2 rfl (c2 (x := iD 8) rfl rfl)) hc8) rfl) rfl) (mt (c2 rfl rfl) (len_lst _ _)) (mod_n len)) (ix_lst ?_)) ?_
    · rw [List.getElem?_map, List.getElem?_eq_getElem hi, hw]; rfl
    refine (s_ifret (b := false) (d := .bl false) (not_ (a := true) (tru_ (mt (c2 rfl (c2 rfl (c2 rfl (c2 (x := DU) rfl (c2 (x := iD 1) rfl rfl))))) ?_))) rfl).trans ?_
    · have := told_f ns hs hm hm0 hwN hc (cnt := 1) (by omega)
      rw [hwl] at this
      exact this
    rw [if_neg (by decide)]
    -- the third web
    refine s_set (d := webD s' (canon s' k')) (mt (c2 rfl rfl) so) ?_
    refine (s_ifret (b := false) (d := .bl false) (not_ (a := true) (tru_ (mt (c2 (b2 (mt (c2 (b2 rfl rfl ix_g0) (c2 (mt (c2 rfl rfl) rfl) (c2 (mt (c2 (b2 rfl rfl ix_g0) rfl) pe') rfl))) sos') rfl (ix_lst (i := 0) (d := webD s' (canon s' k')) rfl)) (c2 rfl rfl)) sm14))) rfl).trans ?_
    rw [if_neg (by decide)]
    obtain ⟨r, er, hr⟩ := fits_f (b := s') (m := m) (k := s * m) (B := adjc k') (C := adjc c) (G := pA m (adjc k) (adjc c)) (by omega) (by omega) hsm (adjc_symm k') (adjc_symm c) hsym
    have hin := in_webs hs hs' ci' (fun w hw => (mem w hw).1)
    have rr : r = (s == s' && decide (canon s' k' ∈ LL s k m c)) := by
      rw [Bool.eq_iff_iff, hr, Bool.and_eq_true, beq_iff_eq, decide_eq_true_eq]
      constructor
      · rintro ⟨e, i⟩
        have e := Nat.eq_of_mul_eq_mul_right hm0 e
        subst e
        exact ⟨rfl, (T hs hm hm0 hk hk' hc (iso_of_eq fun _ _ _ _ => rfl) (iso_of_eq fun _ _ _ _ => rfl)).mp i⟩
      · rintro ⟨e, i⟩
        subst e
        exact ⟨rfl, (T hs hm hm0 hk hk' hc (iso_of_eq fun _ _ _ _ => rfl) (iso_of_eq fun _ _ _ _ => rfl)).mpr i⟩
    refine s_ret (b2 (x := .bl r) (y := .bl (s == s' && decide (canon s' k' ∈ LL s k m c))) (mt (c2 rfl (c2 rfl (c2 rfl rfl))) er) (b2 rfl (mt (c2 rfl (c2 rfl rfl)) an) hin) ((eq_bl false _ _).trans ?_))
    rw [← rr]
    cases r <;> rfl
end Wl
set_option maxRecDepth 100000
set_option maxHeartbeats 0
namespace Wl
open PySem PySem.Spec PyProof.Rows L2 Wd Wg
theorem un_of {K : PySem.W.Frag} {h : Heap} {mg : Str → Option Value} (X : K.In h) (G : h.Ns mainGlobals mg) (c : He.SaysD fa fn K) (e : exB K = true) : Un K mg where
  len := He.free_ok X G (c.fact 72 (f := .free "len") rfl)
  abs := He.free_ok X G (c.fact 73 (f := .free "abs") rfl)
  min := He.free_ok X G (c.fact 74 (f := .free "min") rfl)
  max := He.free_ok X G (c.fact 75 (f := .free "max") rfl)
  divmod := He.free_ok X G (c.fact 76 (f := .free "divmod") rfl)
  sorted := He.free_ok X G (c.fact 77 (f := .free "sorted") rfl)
  isinstance := He.free_ok X G (c.fact 78 (f := .free "isinstance") rfl)
  int := He.free_ok X G (c.fact 79 (f := .free "int") rfl)
  bool := He.free_ok X G (c.fact 80 (f := .free "bool") rfl)
  str := He.free_ok X G (c.fact 81 (f := .free "str") rfl)
  tuple := He.free_ok X G (c.fact 82 (f := .free "tuple") rfl)
  list := He.free_ok X G (c.fact 83 (f := .free "list") rfl)
  set := He.free_ok X G (c.fact 84 (f := .free "set") rfl)
  range := He.free_ok X G (c.fact 85 (f := .free "range") rfl)
  enumerate := He.free_ok X G (c.fact 86 (f := .free "enumerate") rfl)
  MAX_NODES := let ⟨t, ht⟩ := He.int_ok X G (c.fact 87 (f := .int "MAX_NODES" 64) rfl); ⟨.int 64, _, ht, ⟨t, rfl⟩, fun _ _ => mk_int⟩
  MAX_SORTED := let ⟨t, ht⟩ := He.int_ok X G (c.fact 88 (f := .int "MAX_SORTED" 5) rfl); ⟨.int 5, _, ht, ⟨t, rfl⟩, fun _ _ => mk_int⟩
  MAX_LISTED := let ⟨t, ht⟩ := He.int_ok X G (c.fact 89 (f := .int "MAX_LISTED" 6) rfl); ⟨.int 6, _, ht, ⟨t, rfl⟩, fun _ _ => mk_int⟩
  MAX_SIMPLE := let ⟨t, ht⟩ := He.int_ok X G (c.fact 90 (f := .int "MAX_SIMPLE" 4) rfl); ⟨.int 4, _, ht, ⟨t, rfl⟩, fun _ _ => mk_int⟩
  MAX_LOOPED := let ⟨t, ht⟩ := He.int_ok X G (c.fact 91 (f := .int "MAX_LOOPED" 3) rfl); ⟨.int 3, _, ht, ⟨t, rfl⟩, fun _ _ => mk_int⟩
  MAX_RENAMED := let ⟨t, ht⟩ := He.int_ok X G (c.fact 92 (f := .int "MAX_RENAMED" 9) rfl); ⟨.int 9, _, ht, ⟨t, rfl⟩, fun _ _ => mk_int⟩
  MAX_TWISTED := let ⟨t, ht⟩ := He.int_ok X G (c.fact 93 (f := .int "MAX_TWISTED" 6) rfl); ⟨.int 6, _, ht, ⟨t, rfl⟩, fun _ _ => mk_int⟩
  MAX_RESULT := let ⟨t, ht⟩ := He.int_ok X G (c.fact 94 (f := .int "MAX_RESULT" 3) rfl); ⟨.int 3, _, ht, ⟨t, rfl⟩, fun _ _ => mk_int⟩
  KINDS := ⟨.ref (He.ga K "KINDS"), _, He.glo_ok X G (c.fact 71 (f := .glo "KINDS") rfl), rfl, fun H _ => mk_tup (He.tupB_ok (He.ba e).1 H) (reps_cons mk_str (reps_cons mk_str (reps_cons mk_str (reps_cons mk_str reps_nil))))⟩
  d14 := let ⟨fd, F⟩ := c.def_ 0 (d := mkD "make_web" 14 []) rfl; ⟨He.ga K "make_web", fd, He.glo_ok X G (c.fact 0 (f := .glo "make_web") rfl), F⟩
  d15 := let ⟨fd, F⟩ := c.def_ 1 (d := mkD "neighbour_rows" 15 []) rfl; ⟨He.ga K "neighbour_rows", fd, He.glo_ok X G (c.fact 1 (f := .glo "neighbour_rows") rfl), F⟩
  d16 := let ⟨fd, F⟩ := c.def_ 2 (d := mkD "first_loop" 16 []) rfl; ⟨He.ga K "first_loop", fd, He.glo_ok X G (c.fact 2 (f := .glo "first_loop") rfl), F⟩
  d17 := let ⟨fd, F⟩ := c.def_ 3 (d := mkD "check_simple" 17 []) rfl; ⟨He.ga K "check_simple", fd, He.glo_ok X G (c.fact 3 (f := .glo "check_simple") rfl), F⟩
  d18 := let ⟨fd, F⟩ := c.def_ 4 (d := mkD "image" 18 []) rfl; ⟨He.ga K "image", fd, He.glo_ok X G (c.fact 4 (f := .glo "image") rfl), F⟩
  d19 := let ⟨fd, F⟩ := c.def_ 5 (d := mkD "renamed" 19 []) rfl; ⟨He.ga K "renamed", fd, He.glo_ok X G (c.fact 5 (f := .glo "renamed") rfl), F⟩
  d21 := let ⟨fd, F⟩ := c.def_ 6 (d := mkD "bit_of" 21 []) rfl; ⟨He.ga K "bit_of", fd, He.glo_ok X G (c.fact 6 (f := .glo "bit_of") rfl), F⟩
  d22 := let ⟨fd, F⟩ := c.def_ 7 (d := mkD "code_of" 22 []) rfl; ⟨He.ga K "code_of", fd, He.glo_ok X G (c.fact 7 (f := .glo "code_of") rfl), F⟩
  d23 := let ⟨fd, F⟩ := c.def_ 8 (d := mkD "web_of_code" 23 []) rfl; ⟨He.ga K "web_of_code", fd, He.glo_ok X G (c.fact 8 (f := .glo "web_of_code") rfl), F⟩
  d27 := let ⟨fd, F⟩ := c.def_ 9 (d := mkD "all_renamings" 27 []) rfl; ⟨He.ga K "all_renamings", fd, He.glo_ok X G (c.fact 9 (f := .glo "all_renamings") rfl), F⟩
  d28 := let ⟨fd, F⟩ := c.def_ 10 (d := mkD "code_under" 28 []) rfl; ⟨He.ga K "code_under", fd, He.glo_ok X G (c.fact 10 (f := .glo "code_under") rfl), F⟩
  d29 := let ⟨fd, F⟩ := c.def_ 11 (d := mkD "sort_row" 29 []) rfl; ⟨He.ga K "sort_row", fd, He.glo_ok X G (c.fact 11 (f := .glo "sort_row") rfl), F⟩
  d30 := let ⟨fd, F⟩ := c.def_ 12 (d := mkD "sort_of" 30 []) rfl; ⟨He.ga K "sort_of", fd, He.glo_ok X G (c.fact 12 (f := .glo "sort_of") rfl), F⟩
  d34 := let ⟨fd, F⟩ := c.def_ 13 (d := mkD "check_limit" 34 []) rfl; ⟨He.ga K "check_limit", fd, He.glo_ok X G (c.fact 13 (f := .glo "check_limit") rfl), F⟩
  d35 := let ⟨fd, F⟩ := c.def_ 14 (d := mkD "code_with" 35 []) rfl; ⟨He.ga K "code_with", fd, He.glo_ok X G (c.fact 14 (f := .glo "code_with") rfl), F⟩
  d36 := let ⟨fd, F⟩ := c.def_ 15 (d := mkD "is_least" 36 []) rfl; ⟨He.ga K "is_least", fd, He.glo_ok X G (c.fact 15 (f := .glo "is_least") rfl), F⟩
  d37 := let ⟨fd, F⟩ := c.def_ 16 (d := mkD "all_webs" 37 [("loops", .bl false)]) rfl; ⟨He.ga K "all_webs", fd, He.glo_ok X G (c.fact 16 (f := .glo "all_webs") rfl), F⟩
  d39 := let ⟨fd, F⟩ := c.def_ 17 (d := mkD "reached" 39 []) rfl; ⟨He.ga K "reached", fd, He.glo_ok X G (c.fact 17 (f := .glo "reached") rfl), F⟩
  d40 := let ⟨fd, F⟩ := c.def_ 18 (d := mkD "sides" 40 []) rfl; ⟨He.ga K "sides", fd, He.glo_ok X G (c.fact 18 (f := .glo "sides") rfl), F⟩
  d42 := let ⟨fd, F⟩ := c.def_ 19 (d := mkD "can_cancel" 42 []) rfl; ⟨He.ga K "can_cancel", fd, He.glo_ok X G (c.fact 19 (f := .glo "can_cancel") rfl), F⟩
  d45 := let ⟨fd, F⟩ := c.def_ 20 (d := mkD "may_follow" 45 []) rfl; ⟨He.ga K "may_follow", fd, He.glo_ok X G (c.fact 20 (f := .glo "may_follow") rfl), F⟩
  d46 := let ⟨fd, F⟩ := c.def_ 21 (d := mkD "completed" 46 []) rfl; ⟨He.ga K "completed", fd, He.glo_ok X G (c.fact 21 (f := .glo "completed") rfl), F⟩
  d47 := let ⟨fd, F⟩ := c.def_ 22 (d := mkD "find_renaming" 47 []) rfl; ⟨He.ga K "find_renaming", fd, He.glo_ok X G (c.fact 22 (f := .glo "find_renaming") rfl), F⟩
  d48 := let ⟨fd, F⟩ := c.def_ 23 (d := mkD "inverse_row" 48 []) rfl; ⟨He.ga K "inverse_row", fd, He.glo_ok X G (c.fact 23 (f := .glo "inverse_row") rfl), F⟩
  d51 := let ⟨fd, F⟩ := c.def_ 24 (d := mkD "twist_fault" 51 []) rfl; ⟨He.ga K "twist_fault", fd, He.glo_ok X G (c.fact 24 (f := .glo "twist_fault") rfl), F⟩
  d52 := let ⟨fd, F⟩ := c.def_ 25 (d := mkD "twisted" 52 []) rfl; ⟨He.ga K "twisted", fd, He.glo_ok X G (c.fact 25 (f := .glo "twisted") rfl), F⟩
  d53 := let ⟨fd, F⟩ := c.def_ 26 (d := mkD "may_extend" 53 []) rfl; ⟨He.ga K "may_extend", fd, He.glo_ok X G (c.fact 26 (f := .glo "may_extend") rfl), F⟩
  d54 := let ⟨fd, F⟩ := c.def_ 27 (d := mkD "twists" 54 []) rfl; ⟨He.ga K "twists", fd, He.glo_ok X G (c.fact 27 (f := .glo "twists") rfl), F⟩
  d55 := let ⟨fd, F⟩ := c.def_ 28 (d := mkD "is_new" 55 []) rfl; ⟨He.ga K "is_new", fd, He.glo_ok X G (c.fact 28 (f := .glo "is_new") rfl), F⟩
  d56 := let ⟨fd, F⟩ := c.def_ 29 (d := mkD "twist_sorts" 56 []) rfl; ⟨He.ga K "twist_sorts", fd, He.glo_ok X G (c.fact 29 (f := .glo "twist_sorts") rfl), F⟩
  d58 := let ⟨fd, F⟩ := c.def_ 30 (d := mkD "answers" 58 []) rfl; ⟨He.ga K "answers", fd, He.glo_ok X G (c.fact 30 (f := .glo "answers") rfl), F⟩
  d61 := let ⟨fd, F⟩ := c.def_ 31 (d := mkD "joined" 61 []) rfl; ⟨He.ga K "joined", fd, He.glo_ok X G (c.fact 31 (f := .glo "joined") rfl), F⟩
  d62 := let ⟨fd, F⟩ := c.def_ 32 (d := mkD "product" 62 []) rfl; ⟨He.ga K "product", fd, He.glo_ok X G (c.fact 32 (f := .glo "product") rfl), F⟩
  d65 := let ⟨fd, F⟩ := c.def_ 33 (d := mkD "direct_quotients" 65 []) rfl; ⟨He.ga K "direct_quotients", fd, He.glo_ok X G (c.fact 33 (f := .glo "direct_quotients") rfl), F⟩
  d67 := let ⟨fd, F⟩ := c.def_ 34 (d := mkD "_law_cell" 67 []) rfl; ⟨He.ga K "_law_cell", fd, He.glo_ok X G (c.fact 34 (f := .glo "_law_cell") rfl), F⟩
  d68 := let ⟨fd, F⟩ := c.def_ 35 (d := mkD "_law_draws" 68 []) rfl; ⟨He.ga K "_law_draws", fd, He.glo_ok X G (c.fact 35 (f := .glo "_law_draws") rfl), F⟩
  d69 := let ⟨fd, F⟩ := c.def_ 36 (d := mkD "_law_same" 69 []) rfl; ⟨He.ga K "_law_same", fd, He.glo_ok X G (c.fact 36 (f := .glo "_law_same") rfl), F⟩
  d70 := let ⟨fd, F⟩ := c.def_ 37 (d := mkD "_law_web" 70 []) rfl; ⟨He.ga K "_law_web", fd, He.glo_ok X G (c.fact 37 (f := .glo "_law_web") rfl), F⟩
  d71 := let ⟨fd, F⟩ := c.def_ 38 (d := mkD "_law_matrix" 71 []) rfl; ⟨He.ga K "_law_matrix", fd, He.glo_ok X G (c.fact 38 (f := .glo "_law_matrix") rfl), F⟩
  d72 := let ⟨fd, F⟩ := c.def_ 39 (d := mkD "_law_of_matrix" 72 []) rfl; ⟨He.ga K "_law_of_matrix", fd, He.glo_ok X G (c.fact 39 (f := .glo "_law_of_matrix") rfl), F⟩
  d73 := let ⟨fd, F⟩ := c.def_ 40 (d := mkD "_law_shuffle" 73 []) rfl; ⟨He.ga K "_law_shuffle", fd, He.glo_ok X G (c.fact 40 (f := .glo "_law_shuffle") rfl), F⟩
  d74 := let ⟨fd, F⟩ := c.def_ 41 (d := mkD "_law_renamed" 74 []) rfl; ⟨He.ga K "_law_renamed", fd, He.glo_ok X G (c.fact 41 (f := .glo "_law_renamed") rfl), F⟩
  d75 := let ⟨fd, F⟩ := c.def_ 42 (d := mkD "_law_permutations" 75 []) rfl; ⟨He.ga K "_law_permutations", fd, He.glo_ok X G (c.fact 42 (f := .glo "_law_permutations") rfl), F⟩
  d76 := let ⟨fd, F⟩ := c.def_ 43 (d := mkD "_law_may_follow" 76 []) rfl; ⟨He.ga K "_law_may_follow", fd, He.glo_ok X G (c.fact 43 (f := .glo "_law_may_follow") rfl), F⟩
  d77 := let ⟨fd, F⟩ := c.def_ 44 (d := mkD "_law_completes" 77 []) rfl; ⟨He.ga K "_law_completes", fd, He.glo_ok X G (c.fact 44 (f := .glo "_law_completes") rfl), F⟩
  d78 := let ⟨fd, F⟩ := c.def_ 45 (d := mkD "_law_alike" 78 []) rfl; ⟨He.ga K "_law_alike", fd, He.glo_ok X G (c.fact 45 (f := .glo "_law_alike") rfl), F⟩
  d79 := let ⟨fd, F⟩ := c.def_ 46 (d := mkD "_law_joined" 79 []) rfl; ⟨He.ga K "_law_joined", fd, He.glo_ok X G (c.fact 46 (f := .glo "_law_joined") rfl), F⟩
  d80 := let ⟨fd, F⟩ := c.def_ 47 (d := mkD "_law_product" 80 []) rfl; ⟨He.ga K "_law_product", fd, He.glo_ok X G (c.fact 47 (f := .glo "_law_product") rfl), F⟩
  d81 := let ⟨fd, F⟩ := c.def_ 48 (d := mkD "_law_two_sided" 81 []) rfl; ⟨He.ga K "_law_two_sided", fd, He.glo_ok X G (c.fact 48 (f := .glo "_law_two_sided") rfl), F⟩
  d82 := let ⟨fd, F⟩ := c.def_ 49 (d := mkD "_law_inverse" 82 []) rfl; ⟨He.ga K "_law_inverse", fd, He.glo_ok X G (c.fact 49 (f := .glo "_law_inverse") rfl), F⟩
  d83 := let ⟨fd, F⟩ := c.def_ 50 (d := mkD "_law_fault" 83 []) rfl; ⟨He.ga K "_law_fault", fd, He.glo_ok X G (c.fact 50 (f := .glo "_law_fault") rfl), F⟩
  d84 := let ⟨fd, F⟩ := c.def_ 51 (d := mkD "_law_twisted" 84 []) rfl; ⟨He.ga K "_law_twisted", fd, He.glo_ok X G (c.fact 51 (f := .glo "_law_twisted") rfl), F⟩
  d85 := let ⟨fd, F⟩ := c.def_ 52 (d := mkD "_law_drawn_row" 85 []) rfl; ⟨He.ga K "_law_drawn_row", fd, He.glo_ok X G (c.fact 52 (f := .glo "_law_drawn_row") rfl), F⟩
  d86 := let ⟨fd, F⟩ := c.def_ 53 (d := mkD "_law_least" 86 []) rfl; ⟨He.ga K "_law_least", fd, He.glo_ok X G (c.fact 53 (f := .glo "_law_least") rfl), F⟩
  d87 := let ⟨fd, F⟩ := c.def_ 54 (d := mkD "_law_of_code" 87 []) rfl; ⟨He.ga K "_law_of_code", fd, He.glo_ok X G (c.fact 54 (f := .glo "_law_of_code") rfl), F⟩
  d88 := let ⟨fd, F⟩ := c.def_ 55 (d := mkD "_law_sorts_of" 88 []) rfl; ⟨He.ga K "_law_sorts_of", fd, He.glo_ok X G (c.fact 55 (f := .glo "_law_sorts_of") rfl), F⟩
  d89 := let ⟨fd, F⟩ := c.def_ 56 (d := mkD "_law_all_sorts" 89 []) rfl; ⟨He.ga K "_law_all_sorts", fd, He.glo_ok X G (c.fact 56 (f := .glo "_law_all_sorts") rfl), F⟩
  d90 := let ⟨fd, F⟩ := c.def_ 57 (d := mkD "_law_twisted_webs" 90 []) rfl; ⟨He.ga K "_law_twisted_webs", fd, He.glo_ok X G (c.fact 57 (f := .glo "_law_twisted_webs") rfl), F⟩
  d91 := let ⟨fd, F⟩ := c.def_ 58 (d := mkD "_law_sides" 91 []) rfl; ⟨He.ga K "_law_sides", fd, He.glo_ok X G (c.fact 58 (f := .glo "_law_sides") rfl), F⟩
  d92 := let ⟨fd, F⟩ := c.def_ 59 (d := mkD "_law_ties" 92 []) rfl; ⟨He.ga K "_law_ties", fd, He.glo_ok X G (c.fact 59 (f := .glo "_law_ties") rfl), F⟩
  d93 := let ⟨fd, F⟩ := c.def_ 60 (d := mkD "_law_fits" 93 []) rfl; ⟨He.ga K "_law_fits", fd, He.glo_ok X G (c.fact 60 (f := .glo "_law_fits") rfl), F⟩
  d94 := let ⟨fd, F⟩ := c.def_ 61 (d := mkD "_law_unbounded" 94 []) rfl; ⟨He.ga K "_law_unbounded", fd, He.glo_ok X G (c.fact 61 (f := .glo "_law_unbounded") rfl), F⟩
  d95 := let ⟨fd, F⟩ := c.def_ 62 (d := mkD "_law_second" 95 []) rfl; ⟨He.ga K "_law_second", fd, He.glo_ok X G (c.fact 62 (f := .glo "_law_second") rfl), F⟩
  d96 := let ⟨fd, F⟩ := c.def_ 63 (d := mkD "_law_third" 96 []) rfl; ⟨He.ga K "_law_third", fd, He.glo_ok X G (c.fact 63 (f := .glo "_law_third") rfl), F⟩
  d97 := let ⟨fd, F⟩ := c.def_ 64 (d := mkD "_law_answers_told" 97 []) rfl; ⟨He.ga K "_law_answers_told", fd, He.glo_ok X G (c.fact 64 (f := .glo "_law_answers_told") rfl), F⟩
  d98 := let ⟨fd, F⟩ := c.def_ 65 (d := mkD "law" 98 []) rfl; ⟨He.ga K "law", fd, He.glo_ok X G (c.fact 65 (f := .glo "law") rfl), F⟩
theorem ux_of {K : PySem.W.Frag} {h : Heap} {mg : Str → Option Value} (X : K.In h) (G : h.Ns mainGlobals mg) (c : He.SaysD fa fn K) (e : exB K = true) : Ux K mg (He.ga K "NoBound") (He.ga K "WebError") (He.ga K "TooLarge") (He.ga K "UnfitWeb") (He.ga K "NoResult") := by
  obtain ⟨_, e⟩ := He.ba e
  obtain ⟨e1, e⟩ := He.ba e
  obtain ⟨e2, e⟩ := He.ba e
  obtain ⟨e3, e⟩ := He.ba e
  obtain ⟨e4, e⟩ := He.ba e
  obtain ⟨e5, e⟩ := He.ba e
  obtain ⟨e6, e⟩ := He.ba e
  obtain ⟨e7, e⟩ := He.ba e
  obtain ⟨e8, e⟩ := He.ba e
  obtain ⟨e9, e⟩ := He.ba e
  obtain ⟨e10, e11⟩ := He.ba e
  obtain ⟨x1, x2, x3, x4⟩ := He.exc_ok (c.fact 95 (f := .exc "NoBound") rfl)
  exact ⟨He.glo_ok X G (c.fact 66 (f := .glo "NoBound") rfl), He.glo_ok X G (c.fact 67 (f := .glo "WebError") rfl), He.glo_ok X G (c.fact 68 (f := .glo "TooLarge") rfl), He.glo_ok X G (c.fact 69 (f := .glo "UnfitWeb") rfl), He.glo_ok X G (c.fact 70 (f := .glo "NoResult") rfl), x1, x2, x3, x4, He.exm_ok (c.fact 96 (f := .exm "NoBound" "WebError" true) rfl), of_decide_eq_true e1, of_decide_eq_true e2, of_decide_eq_true e3, of_decide_eq_true e4,
    ⟨He.eqO_ok e5, He.eqO_ok e6, x3, e7, He.eqO_ok e8, He.eqO_ok e9, of_decide_eq_true e10, of_decide_eq_true e11⟩⟩
theorem rep_scr_of {K : PySem.W.Frag} {H : Hp} {a : Addr} {ns : List Int} (h : SqL K H a (ns.map V.int)) : rep K H (fun _ => False) (.scr ns) (.ref a) := by
  unfold rep
  refine ⟨a, rfl, ?_⟩
  rcases h with (h | h) | h
  · exact .inl ⟨fun z => z, h⟩
  · exact .inr (.inl h)
  · exact .inr (.inr fun H2 => .inr h)
theorem facts {P : Program} {w : World} {K : PySem.W.Frag} {h : Heap} {mg : Str → Option Value} {f : Addr} (X : K.In h) (G : h.Ns mainGlobals mg) (hfa : mg ("law" : Str) = some (.ref f)) (c : He.SaysD fa fn K) (e : exB K = true) :
    ∃ fd : FuncData, (∀ (s : Shared) (v : Value), BindsTo s fd ⟨[v], []⟩ [("_law_script", v)]) ∧ ∀ base : Heap, K.In base → base.Ns mainGlobals mg → FnOk P w K mg base CX0 29 f fd ["_law_script"] (SpF K 1 g_law) := by
  have U := un_of X G c e
  have T := ux_of X G c e
  obtain ⟨f', fd, hm, F⟩ := U.d98
  have ef := hfa.symm.trans hm
  cases ef
  have b := FunD.bindsA (ps := ["_law_script"]) F fun _ _ _ _ _ _ us hl => match us, hl with | [_], _ => rfl
  refine ⟨fd, fun s v => b s [v] rfl, fun base _ _ => ?_⟩
  exact fnF_law F U (d_L_unbounded U T)
end Wl
set_option maxRecDepth 100000
set_option maxHeartbeats 0
open PySem PySem.W PySem.Calls PyProof.Rows
theorem PySem.Challenge.cw_webnumbers_k30_whole_answers_holds : PySem.Challenge.rw_webnumbers_k30_whole_answers.Holds := by
  w_on; o_law
  refine HandSHeadRun.head_any (r := OpenLaw.row PySem.Challenge.rw_webnumbers_k30_whole_answers) (q := view (OpenLaw.row PySem.Challenge.rw_webnumbers_k30_whole_answers).prog [98]) (H := Wl.hk) (ob := Wl.ob) (M := 6000) (loose := Wl.loose) (d := HandSHeadRun.topDef (OpenLaw.row PySem.Challenge.rw_webnumbers_k30_whole_answers).prog 98) (kwd := []) Wl.ob_eq
    (by kernel_rfl) (fun s => by kernel_rfl) Wl.run (by kernel_rfl) (by kernel_rfl) (by kernel_rfl) (by rfl) (by first | assumption | decide +kernel) (by decide +kernel) ⟨rfl, rfl, rfl, rfl, rfl, by decide +kernel⟩ ?hw ?hc
  case hw => w_witness2
  case hc =>
    refine L2.walk_ofE (l := PySem.Challenge.rw_webnumbers_k30_whole_answers) (n := 63) (k := 29) (x := "_law_script") (CX := L2.CX0) rfl (by decide) (by kernel_rfl) ⟨rfl, by decide, by decide⟩ ?F (fun _ _ _ _ z => z)
    intro w mg fa h Y G hmg0
    obtain ⟨K, KX, c⟩ := Y
    have hmg : mg ("law" : PySem.Str) = some (.ref fa) := by
      have e : (HandSHeadRun.topDef (OpenLaw.row PySem.Challenge.rw_webnumbers_k30_whole_answers).prog 98).name = ("law" : PySem.Str) := by kernel_rfl
      rw [← e]
      exact hmg0
    obtain ⟨fd, hb, hF⟩ := Wl.facts (P := (PySem.Challenge.rw_webnumbers_k30_whole_answers).prog) (w := w) KX G hmg c.t.d c.more
    refine ⟨K, fd, Wd.SpF K 1 Wl.g_law, KX, hb, fun H a ns hl _ hS => ⟨rfl, fun _ => False, [.scr ns], .bl true, fun _ z => z.elim, Wd.reps_cons (Wl.rep_scr_of hS) Wd.reps_nil, Wl.law_f ns, fun v H' _ r => Wd.rep_bl r⟩, hF⟩
