import PyProof.Rows.All
import Wide.All
import OpenK.AllK
import Wide.FinOn
import HandS.ForMost
import HandS.ForSpec
import HandS.Wide
import HandS.TupAny
import HandS.TupMul
import HandS.Style
import HandS.IsInst
import HandS.Flow
import HandS.SortInts
import HandS.Conv
import HandS.Walk
import HandS.ExcCtx
import KE.GoesMore
import KE.GoesEnum
import HandS.ExcOwn
import HandS.CallSlots
import HandS.Defaults
import HandS.Dict
import HandS.Iter
import HandS.Text
import HandS.ExcInit
import HandS.ExcInitHot
import HandS.Nested
import KE.KExcSuper
import KE.KSuper
import HandS.Hot
import HandS.HotCalls
import HandS.ExcIs
import HandS.ExcField
import HandS.Lambda
import HandS.Head0
import HandS.Head1
import HandS.Head2
import HandS.HeadEnd
import HandS.HeadHook1
import HandS.HeadHook2
import HandS.HeadHook3
import HandS.HeadHook4
import HandS.HeadWalk
import KE.KStateDown
import HandS.Words
import HandS.WordsExc
import HandS.Codes
import PySem.Challenge.RW_ringsapart_k08_crews_of_a_ring
section
set_option Elab.async false
set_option linter.all false
set_option maxRecDepth 100000
set_option maxHeartbeats 2000000
/-! PiHead: a light look at the heap behind the top. -/
namespace PI
open PySem PySem.Spec PyProof.Rows L2 He NdefX
/-- what is looked at: the module's names' objects, their code objects, the namespaces of the classes rs, what the first one's namespace holds -/
def codesO (g : Addr → Option Obj) (a : Addr) : List Addr := match g a with
  | some o => match o.data with
    | .func fd => refV fd.code
    | _ => []
  | none => []
def nsO (g : Addr → Option Obj) (a : Addr) : List Addr := match g a with
  | some o => match o.data with
    | .cls cd => [cd.ns]
    | _ => []
  | none => []
def refsAt (g : Addr → Option Obj) (a : Addr) : List Addr := match g a with
  | some o => refsD o
  | none => []
def asP (rs : List Str) (g : Addr → Option Obj) : List Addr :=
  let tops := refsAt g mainGlobals
  let K0 := frT g [mainGlobals]
  let ns := rs.flatMap fun x => nsO g (ga K0 x)
  let one := match ns with
    | n :: _ => refsAt g n
    | [] => []
  mainGlobals :: cStatics :: (tops ++ tops.flatMap (codesO g) ++ ns ++ one ++ one.flatMap (refsAt g))
structure SaysP {α : Type} (tf : List Defn) (ob : PySem.W.Frag → α) (v : α) (h : Heap) (K : PySem.W.Frag) : Prop where
  t : ob K = v
  hd : ∀ p ∈ tf, PySem.W.codeHdIn K (cT K p).1 (cT K p).2 = true
  out : ∀ p ∈ tf, K.lookup (cT K p).2 = none
  empty : ∀ p ∈ tf, h.get? (cT K p).2 = some { cls := .none, data := .fields #[] }
def obsP {α : Type} (rs : List Str) (tf : List Defn) (ob : PySem.W.Frag → α) (g : Addr → Option Obj) : α × Bool := (ob (frT g (asP rs g)), tabsB g tf (frT g (asP rs g)))
theorem saysP_of {α : Type} {rs : List Str} {tf : List Defn} {ob : PySem.W.Frag → α} {v : α} {h : Heap} (e : obsP rs tf ob h.get? = (v, true)) : SaysP tf ob v h (frT h.get? (asP rs h.get?)) := by
  have e1 : ob (frT h.get? (asP rs h.get?)) = v := congrArg (fun z : α × Bool => z.1) e
  have e2 : tabsB h.get? tf (frT h.get? (asP rs h.get?)) = true := congrArg (fun z : α × Bool => z.2) e
  have key : ∀ p ∈ tf, PySem.W.codeHdIn (frT h.get? (asP rs h.get?)) (cT (frT h.get? (asP rs h.get?)) p).1 (cT (frT h.get? (asP rs h.get?)) p).2 = true ∧ ∃ o, h.get? (cT (frT h.get? (asP rs h.get?)) p).2 = some o ∧ emptyTab o = true := fun p hp => by
    obtain ⟨h3, h4⟩ := ba (List.all_eq_true.mp e2 p hp)
    refine ⟨h3, ?_⟩
    cases q : h.get? (cT (frT h.get? (asP rs h.get?)) p).2 with
    | none =>
      rw [q] at h4
      cases h4
    | some o =>
      rw [q] at h4
      exact ⟨o, rfl, h4⟩
  exact ⟨e1, fun p hp => (key p hp).1, fun p hp => by
    obtain ⟨_, o, q, z⟩ := key p hp
    exact frT_none q z, fun p hp => by
    obtain ⟨_, o, q, z⟩ := key p hp
    rw [q, emptyTab_eq z]⟩
def hookP {α : Type} (rs : List Str) (tf : List Defn) (ob : PySem.W.Frag → α) (v : α) : PySem.W.Hook where
  α := α × Bool
  obs := fun s => obsP rs tf ob s.heap.get?
  val := fun _ => (v, true)
  says := fun _ h => ∃ K : PySem.W.Frag, K.In h ∧ SaysP tf ob v h K
  of := fun _ _ e => ⟨_, frT_in, saysP_of e⟩
  keeps := fun _ _ _ ⟨K, hK, c⟩ k => ⟨K, PySem.W.Frag.In.keeps hK k, ⟨c.t, c.hd, c.out, fun p hp => k _ _ (c.empty p hp)⟩⟩
theorem obsP_eq {α : Type} {rs : List Str} {tf : List Defn} {ob : PySem.W.Frag → α} {v : α} {g : Addr → Option Obj} {s : Shared} (h : ∀ a, g a = s.heap.get? a) : obsP rs tf ob g = (hookP rs tf ob v).obs s := by
  have e : g = s.heap.get? := funext h
  rw [e] <;> rfl
/-! ### own exceptions -/
def oexB (K : PySem.W.Frag) (C : Addr) : Bool := match K.lookup C with
  | some ⟨.type t, _, .cls cd, sl⟩ => (match cd.mro, sl.toList with
    | .ref C' :: bm, [_, _, _, _, some (.builtin n), _] => decide (t = "type") && (decide (C' = C) && (decide (n = "ValueError.__new__") && (!cd.hasDel && (cd.hasDict && PySem.HandSPX.refsVE bm))))
    | _, _ => false)
  | _ => false
theorem oexB_ok {K : PySem.W.Frag} {C : Addr} (h : oexB K C = true) : ∃ nm q N bs bm sn sub ab col dd k0 k1 k2 k3 k5, K.lookup C = some (excClassObj nm q C N bs bm true sn sub ab col dd k0 k1 k2 k3 k5 "ValueError.__new__") ∧ PySem.HandSPX.refsVE bm = true := by
  unfold oexB at h
  split at h
  · rename_i t dd cd sl e
    split at h
    · rename_i C' bm k0 k1 k2 k3 n k5 e1 e2
      obtain ⟨h1, h⟩ := ba h
      obtain ⟨h2, h⟩ := ba h
      obtain ⟨h3, h⟩ := ba h
      obtain ⟨h4, h⟩ := ba h
      obtain ⟨h5, h6⟩ := ba h
      have e3 := of_decide_eq_true h1
      have e4 := of_decide_eq_true h2
      have e5 := of_decide_eq_true h3
      subst e3 e4 e5
      obtain ⟨nm, bs, mro, N, qn, hd, sn, sub, ab, col, del⟩ := cd
      dsimp only at e1 h4 h5
      subst e1 h5
      have hdel : del = false := by cases del <;> simp_all
      subst hdel
      have hsl : sl = #[k0, k1, k2, k3, some (.builtin "ValueError.__new__"), k5] := by
        rw [← Array.toList_inj]
        exact e2
      subst hsl
      exact ⟨nm, qn, N, bs, bm, sn, sub, ab, col, dd, k0, k1, k2, k3, k5, e, h6⟩
    · cases h
  · cases h
/-- all that is asked of one own exception: D the class that has the __init__ at fI -/
def excB (K : PySem.W.Frag) (C D fI : Addr) : Bool :=
  oexB K C && (eqO (PySem.W.findIn K (.ref C) "__setattr__") (some (some (.builtin "object.__setattr__"))) && (decide (PySem.W.subIn K (.ref C) (.type "BaseException") = some true) && (decide (PySem.W.typeIn K (.ref C) = some (.type "type")) && (PySem.W.keepIn K (.ref C) &&
    (decide (PySem.W.mroIn K C (.ref D) = some true) && (decide (PySem.W.ks_superIn K C D "__init__" = some (some (.builtin "ValueError.__init__"))) && (decide (PySem.W.subIn K (.ref C) (.type "ValueError") = some true) && (eqO (PySem.W.findIn K (.ref C) "what") (some none) &&
      (eqO (PySem.W.findIn K (.ref C) "__init__") (some (some (.ref fI))) && (eqO (PySem.W.findIn K (.ref C) "__getattribute__") (some (some (.builtin "BaseException.__getattribute__"))) && (eqO (PySem.W.findIn K (.ref C) "__getattr__") (some none) && (PySem.W.hasDictIn K C &&
        (eqO (PySem.W.findIn K (.ref C) "__class__") (some (some (.builtin "object.__class__"))) && (decide (PySem.W.mroIn K C (.type "object") = some true) && decide (PySem.W.exmOne K (.ref C) (.ref D) = some true)))))))))))))))
def excB0 (K : PySem.W.Frag) (fI : Addr) : Bool := decide (PySem.W.specialIn K (.builtin "object.__class__") "__get__" = some (some (.builtin "getset_descriptor.__get__"))) && (decide (PySem.W.takesIn K (.builtin "object.__class__") = some true) && decide (PySem.W.typeIn K (.ref fI) = some (.type "function")))
/-! ### the written __init__ -/
abbrev FnI : Type := Option (Str × Str × Arguments × FuncBody × Scope × Addr × List Str × Addr)
def fnI (K : PySem.W.Frag) (a : Addr) : FnI := match K.lookup a with
  | some ⟨_, _, .func fd, _⟩ => some (fd.name, fd.qualname, fd.params, fd.body, fd.scope, fd.globals, fd.closure.map (·.1), fd.builtins)
  | _ => none
def initB (K : PySem.W.Frag) (file : Str) (a D : Addr) : Bool := (match K.lookup a with
  | some ⟨_, _, .func fd, _⟩ => (match fd.defaults, fd.kwdefaults, fd.annotations, fd.code, fd.closure with
    | .none, .none, none, .ref c, [(_, cc)] => PySem.W.codeIn K (.ref c) fd.qualname && ((match K.lookup c with
        | some ⟨_, _, .fields vs, _⟩ => (match (vs[2]? : Option Value) with
          | some (.str f _) => file == f
          | _ => false)
        | _ => false) && (match K.lookup cc with
        | some ⟨_, _, .cell (some (.ref D')), _⟩ => decide (D' = D)
        | _ => false))
    | _, _, _, _, _ => false)
  | _ => false) && ((PySem.W.clsIn K D).isSome && (decide (PySem.W.nsIn K cStatics "thirdparty.any" = some none) && PySem.W.keepIn K (.ref a)))
end PI

end
section
set_option Elab.async false
set_option linter.all false
set_option maxRecDepth 100000
set_option maxHeartbeats 0
/-! HeadL: what stands behind the top. -/
namespace LawT
open PySem PySem.Spec PyProof.Rows L2 PI
def top (i : Nat) : Stmt := PySem.Challenge.pw_ringsapart_k08_crews_of_a_ring.main.body.getD i (.Pass ⟨0, 0, 0, 0⟩)
abbrev Pg : Program := PySem.Challenge.pw_ringsapart_k08_crews_of_a_ring
def loose0 : List Str := [Str.ofString "Refused", Str.ofString "BadNet", Str.ofString "BadVotes", Str.ofString "BadLinks", Str.ofString "BadNeed", Str.ofString "BadHost", Str.ofString "BadLot", Str.ofString "BadOrder", Str.ofString "BadBlock", Str.ofString "BadWhich", Str.ofString "BadSeam", Str.ofString "BadTimes", Str.ofString "BadRule", Str.ofString "BadLog", Str.ofString "BadHouse", Str.ofString "BadMoments", Str.ofString "BadKey", Str.ofString "BadValue", Str.ofString "BadMany", Str.ofString "BadPairs", Str.ofString "BadLetters", Str.ofString "BadName", Str.ofString "BadNumber", Str.ofString "BadPlace", Str.ofString "BadEdition", Str.ofString "BadRestores", Str.ofString "BadRecord", Str.ofString "BadEntry", Str.ofString "BadStory", Str.ofString "BadText", Str.ofString "WrongWord", Str.ofString "WrongLine", Str.ofString "Same", Str.ofString "Already", Str.ofString "NoLink"]
def loose1 : List Str := [Str.ofString "Unlike", Str.ofString "NotWorking", Str.ofString "Unruled", Str.ofString "NoRule", Str.ofString "Down", Str.ofString "Blank", Str.ofString "NotDown", Str.ofString "NotBlank", Str.ofString "NotOpen", Str.ofString "NotCommanding", Str.ofString "NotSettled", Str.ofString "NotSealed", Str.ofString "NotLet", Str.ofString "Harmful", Str.ofString "NoLetter", Str.ofString "NothingToUndo", Str.ofString "NothingToRedo", Str.ofString "TooMany", Str.ofString "is_whole", Str.ofString "is_from", Str.ofString "is_count", Str.ofString "wrong_votes", Str.ofString "check_votes", Str.ofString "check_need", Str.ofString "LEAST_RING", Str.ofString "MOST_RING", Str.ofString "check_ring", Str.ofString "step", Str.ofString "walk_of", Str.ofString "steps", Str.ofString "crew_round", Str.ofString "ring_crew", Str.ofString "BadScale", Str.ofString "Wild", Str.ofString "BadGap"]
def loose2 : List Str := [Str.ofString "BadWish", Str.ofString "BadWishes", Str.ofString "BadAnswers", Str.ofString "NoVotes", Str.ofString "NotMeeting", Str.ofString "Promised", Str.ofString "_law_is_whole", Str.ofString "_law_same", Str.ofString "_law_classes", Str.ofString "_law_heard", Str.ofString "_law_tells", Str.ofString "_law_meets", Str.ofString "_law_pool", Str.ofString "_law_take", Str.ofString "_law_one", Str.ofString "_law_steps", Str.ofString "_law_walk", Str.ofString "_law_ring_crew_size", Str.ofString "_law_drawn_round", Str.ofString "_law_is_round_crew", Str.ofString "_law_round_refusal", Str.ofString "_law_asked", Str.ofString "_law_odd_votes"]
def loose : List Str := loose0 ++ loose1 ++ loose2
abbrev s_is_whole : Stmt := top 55
def d_is_whole : He.DefD := ⟨("is_whole", none), "is_whole", "is_whole", defArgs s_is_whole, defBody s_is_whole, defScope s_is_whole, [], []⟩
abbrev s_is_from : Stmt := top 56
def d_is_from : He.DefD := ⟨("is_from", none), "is_from", "is_from", defArgs s_is_from, defBody s_is_from, defScope s_is_from, [], []⟩
abbrev s_is_count : Stmt := top 57
def d_is_count : He.DefD := ⟨("is_count", none), "is_count", "is_count", defArgs s_is_count, defBody s_is_count, defScope s_is_count, [], []⟩
abbrev s_wrong_votes : Stmt := top 58
def d_wrong_votes : He.DefD := ⟨("wrong_votes", none), "wrong_votes", "wrong_votes", defArgs s_wrong_votes, defBody s_wrong_votes, defScope s_wrong_votes, [], []⟩
abbrev s_check_votes : Stmt := top 59
def d_check_votes : He.DefD := ⟨("check_votes", none), "check_votes", "check_votes", defArgs s_check_votes, defBody s_check_votes, defScope s_check_votes, [], []⟩
abbrev s_check_need : Stmt := top 60
def d_check_need : He.DefD := ⟨("check_need", none), "check_need", "check_need", defArgs s_check_need, defBody s_check_need, defScope s_check_need, [], []⟩
abbrev s_check_ring : Stmt := top 64
def d_check_ring : He.DefD := ⟨("check_ring", none), "check_ring", "check_ring", defArgs s_check_ring, defBody s_check_ring, defScope s_check_ring, [], []⟩
abbrev s_step : Stmt := top 65
def d_step : He.DefD := ⟨("step", none), "step", "step", defArgs s_step, defBody s_step, defScope s_step, [], []⟩
abbrev s_walk_of : Stmt := top 66
def d_walk_of : He.DefD := ⟨("walk_of", none), "walk_of", "walk_of", defArgs s_walk_of, defBody s_walk_of, defScope s_walk_of, [], []⟩
abbrev s_steps : Stmt := top 68
def d_steps : He.DefD := ⟨("steps", none), "steps", "steps", defArgs s_steps, defBody s_steps, defScope s_steps, [], []⟩
abbrev s_crew_round : Stmt := top 69
def d_crew_round : He.DefD := ⟨("crew_round", none), "crew_round", "crew_round", defArgs s_crew_round, defBody s_crew_round, defScope s_crew_round, [], []⟩
abbrev s_ring_crew : Stmt := top 70
def d_ring_crew : He.DefD := ⟨("ring_crew", none), "ring_crew", "ring_crew", defArgs s_ring_crew, defBody s_ring_crew, defScope s_ring_crew, [], []⟩
abbrev s_law_is_whole : Stmt := top 82
def d_law_is_whole : He.DefD := ⟨("_law_is_whole", none), "_law_is_whole", "_law_is_whole", defArgs s_law_is_whole, defBody s_law_is_whole, defScope s_law_is_whole, [], []⟩
abbrev s_law_same : Stmt := top 83
def d_law_same : He.DefD := ⟨("_law_same", none), "_law_same", "_law_same", defArgs s_law_same, defBody s_law_same, defScope s_law_same, [], []⟩
abbrev s_law_classes : Stmt := top 84
def d_law_classes : He.DefD := ⟨("_law_classes", none), "_law_classes", "_law_classes", defArgs s_law_classes, defBody s_law_classes, defScope s_law_classes, [], []⟩
abbrev s_law_heard : Stmt := top 85
def d_law_heard : He.DefD := ⟨("_law_heard", none), "_law_heard", "_law_heard", defArgs s_law_heard, defBody s_law_heard, defScope s_law_heard, [], []⟩
abbrev s_law_tells : Stmt := top 86
def d_law_tells : He.DefD := ⟨("_law_tells", none), "_law_tells", "_law_tells", defArgs s_law_tells, defBody s_law_tells, defScope s_law_tells, [], []⟩
abbrev s_law_meets : Stmt := top 87
def d_law_meets : He.DefD := ⟨("_law_meets", none), "_law_meets", "_law_meets", defArgs s_law_meets, defBody s_law_meets, defScope s_law_meets, [], []⟩
abbrev s_law_pool : Stmt := top 88
def d_law_pool : He.DefD := ⟨("_law_pool", none), "_law_pool", "_law_pool", defArgs s_law_pool, defBody s_law_pool, defScope s_law_pool, [], []⟩
abbrev s_law_take : Stmt := top 89
def d_law_take : He.DefD := ⟨("_law_take", none), "_law_take", "_law_take", defArgs s_law_take, defBody s_law_take, defScope s_law_take, [], []⟩
abbrev s_law_one : Stmt := top 90
def d_law_one : He.DefD := ⟨("_law_one", none), "_law_one", "_law_one", defArgs s_law_one, defBody s_law_one, defScope s_law_one, [], []⟩
abbrev s_law_steps : Stmt := top 91
def d_law_steps : He.DefD := ⟨("_law_steps", none), "_law_steps", "_law_steps", defArgs s_law_steps, defBody s_law_steps, defScope s_law_steps, [], []⟩
abbrev s_law_walk : Stmt := top 92
def d_law_walk : He.DefD := ⟨("_law_walk", none), "_law_walk", "_law_walk", defArgs s_law_walk, defBody s_law_walk, defScope s_law_walk, [], []⟩
abbrev s_law_ring_crew_size : Stmt := top 93
def d_law_ring_crew_size : He.DefD := ⟨("_law_ring_crew_size", none), "_law_ring_crew_size", "_law_ring_crew_size", defArgs s_law_ring_crew_size, defBody s_law_ring_crew_size, defScope s_law_ring_crew_size, [], []⟩
abbrev s_law_drawn_round : Stmt := top 94
def d_law_drawn_round : He.DefD := ⟨("_law_drawn_round", none), "_law_drawn_round", "_law_drawn_round", defArgs s_law_drawn_round, defBody s_law_drawn_round, defScope s_law_drawn_round, [], []⟩
abbrev s_law_is_round_crew : Stmt := top 95
def d_law_is_round_crew : He.DefD := ⟨("_law_is_round_crew", none), "_law_is_round_crew", "_law_is_round_crew", defArgs s_law_is_round_crew, defBody s_law_is_round_crew, defScope s_law_is_round_crew, [], []⟩
abbrev s_law_round_refusal : Stmt := top 96
def d_law_round_refusal : He.DefD := ⟨("_law_round_refusal", none), "_law_round_refusal", "_law_round_refusal", defArgs s_law_round_refusal, defBody s_law_round_refusal, defScope s_law_round_refusal, [], []⟩
abbrev s_law_asked : Stmt := top 97
def d_law_asked : He.DefD := ⟨("_law_asked", none), "_law_asked", "_law_asked", defArgs s_law_asked, defBody s_law_asked, defScope s_law_asked, [], []⟩
abbrev s_law_odd_votes : Stmt := top 98
def d_law_odd_votes : He.DefD := ⟨("_law_odd_votes", none), "_law_odd_votes", "_law_odd_votes", defArgs s_law_odd_votes, defBody s_law_odd_votes, defScope s_law_odd_votes, [], []⟩
abbrev s_law : Stmt := top 99
def d_law : He.DefD := ⟨("law", none), "law", "law", defArgs s_law, defBody s_law, defScope s_law, [], []⟩
def fn : List He.DefD := [d_is_whole, d_is_from, d_is_count, d_wrong_votes, d_check_votes, d_check_need, d_check_ring, d_step, d_walk_of, d_steps, d_crew_round, d_ring_crew, d_law_is_whole, d_law_same, d_law_classes, d_law_heard, d_law_tells, d_law_meets, d_law_pool, d_law_take, d_law_one, d_law_steps, d_law_walk, d_law_ring_crew_size, d_law_drawn_round, d_law_is_round_crew, d_law_round_refusal, d_law_asked, d_law_odd_votes, d_law]
def faD : List He.Fa := [.glo "is_whole", .glo "is_from", .glo "is_count", .glo "wrong_votes", .glo "check_votes", .glo "check_need", .glo "check_ring", .glo "step", .glo "walk_of", .glo "steps", .glo "crew_round", .glo "ring_crew", .glo "_law_is_whole", .glo "_law_same", .glo "_law_classes", .glo "_law_heard", .glo "_law_tells", .glo "_law_meets", .glo "_law_pool", .glo "_law_take", .glo "_law_one", .glo "_law_steps", .glo "_law_walk", .glo "_law_ring_crew_size", .glo "_law_drawn_round", .glo "_law_is_round_crew", .glo "_law_round_refusal", .glo "_law_asked", .glo "_law_odd_votes", .glo "law"]
def faC0 : List He.Fa := [.glo "Refused", .glo "BadNet", .glo "BadVotes", .glo "BadLinks", .glo "BadNeed", .glo "BadHost", .glo "BadLot", .glo "BadOrder", .glo "BadBlock", .glo "BadWhich", .glo "BadSeam", .glo "BadTimes", .glo "BadRule", .glo "BadLog", .glo "BadHouse", .glo "BadMoments", .glo "BadKey", .glo "BadValue", .glo "BadMany", .glo "BadPairs", .glo "BadLetters", .glo "BadName", .glo "BadNumber", .glo "BadPlace", .glo "BadEdition", .glo "BadRestores", .glo "BadRecord", .glo "BadEntry", .glo "BadStory", .glo "BadText", .glo "WrongWord", .glo "WrongLine", .glo "Same", .glo "Already", .glo "NoLink"]
def faC1 : List He.Fa := [.glo "Unlike", .glo "NotWorking", .glo "Unruled", .glo "NoRule", .glo "Down", .glo "Blank", .glo "NotDown", .glo "NotBlank", .glo "NotOpen", .glo "NotCommanding", .glo "NotSettled", .glo "NotSealed", .glo "NotLet", .glo "Harmful", .glo "NoLetter", .glo "NothingToUndo", .glo "NothingToRedo", .glo "TooMany", .glo "BadScale", .glo "Wild", .glo "BadGap", .glo "BadWish", .glo "BadWishes", .glo "BadAnswers", .glo "NoVotes", .glo "NotMeeting", .glo "Promised"]
def faC : List He.Fa := faC0 ++ faC1
def faF : List He.Fa := [.free "bool", .free "enumerate", .free "int", .free "isinstance", .free "len", .free "list", .free "max", .free "min", .free "range", .free "sorted", .free "str", .free "sum", .free "super", .free "tuple"]
def faK : List He.Fa := [.int "LEAST_RING" 3, .int "MOST_RING" 200]
def cl0 : List Str := [Str.ofString "Refused", Str.ofString "BadNet", Str.ofString "BadVotes", Str.ofString "BadLinks", Str.ofString "BadNeed", Str.ofString "BadHost", Str.ofString "BadLot", Str.ofString "BadOrder", Str.ofString "BadBlock", Str.ofString "BadWhich", Str.ofString "BadSeam", Str.ofString "BadTimes", Str.ofString "BadRule", Str.ofString "BadLog", Str.ofString "BadHouse", Str.ofString "BadMoments", Str.ofString "BadKey", Str.ofString "BadValue", Str.ofString "BadMany", Str.ofString "BadPairs", Str.ofString "BadLetters", Str.ofString "BadName", Str.ofString "BadNumber", Str.ofString "BadPlace", Str.ofString "BadEdition", Str.ofString "BadRestores", Str.ofString "BadRecord", Str.ofString "BadEntry", Str.ofString "BadStory", Str.ofString "BadText", Str.ofString "WrongWord", Str.ofString "WrongLine", Str.ofString "Same", Str.ofString "Already", Str.ofString "NoLink"]
def cl1 : List Str := [Str.ofString "Unlike", Str.ofString "NotWorking", Str.ofString "Unruled", Str.ofString "NoRule", Str.ofString "Down", Str.ofString "Blank", Str.ofString "NotDown", Str.ofString "NotBlank", Str.ofString "NotOpen", Str.ofString "NotCommanding", Str.ofString "NotSettled", Str.ofString "NotSealed", Str.ofString "NotLet", Str.ofString "Harmful", Str.ofString "NoLetter", Str.ofString "NothingToUndo", Str.ofString "NothingToRedo", Str.ofString "TooMany", Str.ofString "BadScale", Str.ofString "Wild", Str.ofString "BadGap", Str.ofString "BadWish", Str.ofString "BadWishes", Str.ofString "BadAnswers", Str.ofString "NoVotes", Str.ofString "NotMeeting", Str.ofString "Promised"]
def clN : List Str := cl0 ++ cl1
def rsN : List Str := ["Refused", "BadVotes", "BadNeed"]
def raN : List Str := ["BadVotes", "BadNeed"]
def tf : List He.Defn := [("_law_asked", none)]

def fI (K : PySem.W.Frag) : Addr := He.ma K (He.ga K "Refused") "__init__"
def kitB1 (K : PySem.W.Frag) (x y : Str) : Bool := decide (PySem.W.kitOne K (.ref (He.ga K x)) (.ref (He.ga K y)) = some (decide (x = y)))
def noL (K : PySem.W.Frag) : Bool := K.all (fun q => match q.2.cls with | .type t => !(t == ("list" : Str)) | _ => true)
def ndT (K : PySem.W.Frag) : Bool := decide (tf.map (fun p => (He.cT K p).2)).Nodup
def obB (K : PySem.W.Frag) : Bool := noL K && (ndT K && (faD.all (fun f => f.ok K) && (faC.all (fun f => f.ok K) && (faF.all (fun f => f.ok K) && (faK.all (fun f => f.ok K) && (fn.all (fun d => d.ok K) && (excB0 K (fI K) &&
  (raN.all (fun x => excB K (He.ga K x) (He.ga K "Refused") (fI K)) && (raN.all (fun x => (clN.filter (· ≠ ("Refused" : Str))).all fun y => kitB1 K x y) && initB K Pg.main.file (fI K) (He.ga K "Refused"))))))))))
abbrev Ob : Type := Bool × List He.FnW × FnI
def obL (K : PySem.W.Frag) : Ob := (obB K, fn.map (fun d => He.fnW K d.at_), fnI K (fI K))
def inD : Stmt := (C8.clsBody (top 1)).getD 0 (.Pass ⟨0, 0, 0, 0⟩)
def vaL : Ob := (true, fn.map He.DefD.val, some ("__init__", "Refused.__init__", defArgs inD, .stmts (defBody inD), defScope inD, mainGlobals, [("__class__" : Str)], builtinsNs))
abbrev R : PySem.W.OpenRow := PySem.W.OpenLaw.row PySem.Challenge.rw_ringsapart_k08_crews_of_a_ring
abbrev hk : PySem.W.Hook := hookP rsN tf obL vaL
def ob (s : PySem.W.SharedT) : Ob × Bool := obsP rsN tf obL (HandSHeadRun.getT s)
theorem ob_eq (s : PySem.W.SharedT) : ob s = hk.obs s.abs := obsP_eq (HandSHeadRun.getT_eq s)
end LawT

end
section
set_option Elab.async false
set_option linter.all false
set_option maxRecDepth 100000
set_option maxHeartbeats 0
namespace LawT
open PySem PySem.Spec PyProof.Rows L2 PI
theorem run (w : World) : HandSHeadRun.RunEq R (PySem.W.view R.prog [99]) hk ob 20000 loose w := by
  intro os
  kernel_rfl
end LawT

end
section
set_option Elab.async false
set_option linter.all false
set_option maxRecDepth 100000
set_option maxHeartbeats 2000000
/-! PiCore: values as data, a store of mutable things, what the abstract heap says of them, and the judgements of a plain reading. -/
namespace PI
open PySem PySem.Spec PyProof.Rows L2

/-- data: tuples are values, mutable things stand in the store, functions by number -/
inductive D where
  | non | bl (b : Bool) | int (i : Int) | str (s : Str) | tup (xs : List D) | loc (n : Nat) | fn (a : Addr)
/-- what stands in the store -/
inductive O where
  | lst (xs : List D)
  | fro (xs : List D)
  | dK (kvs : List (Key × D))
  | froK (kvs : List (Key × D))
abbrev Sto := List O
/-- the answer of an expression: a value; an exception (its class by number, its one argument); nothing is said -/
inductive ER (α : Type) where
  | ok (a : α) (S : Sto)
  | ex (c : Nat) (w : D) (S : Sto)
  | bad
abbrev Rho := List (Option D)
abbrev M (α : Type) := Rho → Sto → ER α
/-- where the text's defs and classes stand -/
structure G where
  K : PySem.W.Frag
  C : Nat → Addr
  T : Hp → Prop
  B : List Addr

/-- a tuple that is not locked -/
def SqU (K : PySem.W.Frag) (H : Hp) (a : Addr) (xs : List V) : Prop := H a = some (.tup xs) ∨
  ∃ (o : Obj) (its : Array Value) (n : Nat), K.lookup a = some o ∧ o.cls = .type "tuple" ∧ o.data = .seq its n ∧ its.size ≤ sizeLine ∧ Vals xs its.toList
theorem SqU.t {K : PySem.W.Frag} {H : Hp} {a : Addr} {xs : List V} (h : SqU K H a xs) : SqT K H a xs := h.elim (fun h => .inl (.inl h)) .inr
mutual
def Rel (g : G) (π : List Addr) (H : Hp) : D → V → Prop
  | .non, v => v = .non
  | .bl b, v => v = .bl b
  | .int i, v => v = .int i
  | .str s, v => v = .str s
  | .tup xs, v => ∃ a vs, v = .ref a ∧ SqU g.K H a vs ∧ Rels g π H xs vs
  | .loc n, v => ∃ a, π[n]? = some a ∧ v = .ref a
  | .fn a, v => v = .ref a
def Rels (g : G) (π : List Addr) (H : Hp) : List D → List V → Prop
  | [], vs => vs = []
  | x :: xs, vs => ∃ v r, vs = v :: r ∧ Rel g π H x v ∧ Rels g π H xs r
end
/-- things that never change -/
def immut : HO → Prop
  | .lst _ => False
  | .dK _ => False
  | .dT _ => False
  | .set _ _ => False
  | .ins _ _ _ => False
  | .tbl _ => False
  | .frz _ (.dK _) => True
  | .frz _ _ => False
  | _ => True
structure Ext (π : List Addr) (H : Hp) (π' : List Addr) (H' : Hp) : Prop where
  pre : ∃ more, π' = π ++ more
  keep : ∀ b o, H b = some o → immut o → H' b = some o
theorem Ext.refl (π : List Addr) (H : Hp) : Ext π H π H := ⟨⟨[], by simp⟩, fun _ _ h _ => h⟩
theorem Ext.trans {π π1 π2 : List Addr} {H H1 H2 : Hp} (a : Ext π H π1 H1) (b : Ext π1 H1 π2 H2) : Ext π H π2 H2 := by
  obtain ⟨m1, e1⟩ := a.pre
  obtain ⟨m2, e2⟩ := b.pre
  exact ⟨⟨m1 ++ m2, by rw [e2, e1, List.append_assoc]⟩, fun c o h i => b.keep c o (a.keep c o h i) i⟩
theorem Ext.get {π π' : List Addr} {H H' : Hp} (e : Ext π H π' H') {n : Nat} {a : Addr} (h : π[n]? = some a) : π'[n]? = some a := by
  obtain ⟨m, rfl⟩ := e.pre
  rw [List.getElem?_append_left (List.getElem?_eq_some_iff.mp h).1]
  exact h
theorem Ext.sqT {g : G} {π π' : List Addr} {H H' : Hp} (e : Ext π H π' H') {a : Addr} {vs : List V} (h : SqU g.K H a vs) : SqU g.K H' a vs := by
  rcases h with h | h
  · exact .inl (e.keep _ _ h trivial)
  · exact .inr h
/-- tuples stay, no more -/
structure ExtW (π : List Addr) (H : Hp) (π' : List Addr) (H' : Hp) : Prop where
  pre : ∃ more, π' = π ++ more
  keep : ∀ b xs, H b = some (.tup xs) → H' b = some (.tup xs)
theorem Ext.w {π π' : List Addr} {H H' : Hp} (e : Ext π H π' H') : ExtW π H π' H' := ⟨e.pre, fun b xs h => e.keep b _ h trivial⟩
theorem ExtW.get {π π' : List Addr} {H H' : Hp} (e : ExtW π H π' H') {n : Nat} {a : Addr} (h : π[n]? = some a) : π'[n]? = some a := by
  obtain ⟨m, rfl⟩ := e.pre
  rw [List.getElem?_append_left (List.getElem?_eq_some_iff.mp h).1]
  exact h
theorem ExtW.sqT {g : G} {π π' : List Addr} {H H' : Hp} (e : ExtW π H π' H') {a : Addr} {vs : List V} (h : SqU g.K H a vs) : SqU g.K H' a vs := by
  rcases h with h | h
  · exact .inl (e.keep _ _ h)
  · exact .inr h
theorem Ext.upd_new {π : List Addr} {H : Hp} {p : Addr} {o : HO} (hp : H p = none) : Ext π H π (upd H p o) := ⟨⟨[], by simp⟩, fun b u h _ => by rw [upd_ne (ne_of_none h hp)]; exact h⟩
theorem Ext.upd_mut {π : List Addr} {H : Hp} {p : Addr} {o u : HO} (hp : H p = some u) (hu : ¬ immut u) : Ext π H π (upd H p o) := ⟨⟨[], by simp⟩, fun b w h i => by
  rw [upd_ne (fun z => by rw [z, hp] at h; cases h; exact hu i)]
  exact h⟩
mutual
theorem Rel.extW {g : G} {π π' : List Addr} {H H' : Hp} (e : ExtW π H π' H') : ∀ {d : D} {v : V}, Rel g π H d v → Rel g π' H' d v
  | .non, _, h => by unfold Rel at h ⊢; exact h
  | .bl _, _, h => by unfold Rel at h ⊢; exact h
  | .int _, _, h => by unfold Rel at h ⊢; exact h
  | .str _, _, h => by unfold Rel at h ⊢; exact h
  | .fn _, _, h => by unfold Rel at h ⊢; exact h
  | .loc _, _, h => by
    unfold Rel at h ⊢
    obtain ⟨a, h1, h2⟩ := h
    exact ⟨a, e.get h1, h2⟩
  | .tup xs, _, h => by
    unfold Rel at h ⊢
    obtain ⟨a, vs, h1, h2, h3⟩ := h
    exact ⟨a, vs, h1, e.sqT h2, Rels.extW e h3⟩
theorem Rels.extW {g : G} {π π' : List Addr} {H H' : Hp} (e : ExtW π H π' H') : ∀ {d : List D} {v : List V}, Rels g π H d v → Rels g π' H' d v
  | [], _, h => by unfold Rels at h ⊢; exact h
  | x :: xs, _, h => by
    unfold Rels at h ⊢
    obtain ⟨v, r, h1, h2, h3⟩ := h
    exact ⟨v, r, h1, Rel.extW e h2, Rels.extW e h3⟩
end
theorem Rel.ext {g : G} {π π' : List Addr} {H H' : Hp} (e : Ext π H π' H') {d : D} {v : V} (h : Rel g π H d v) : Rel g π' H' d v := h.extW e.w
theorem Rels.ext {g : G} {π π' : List Addr} {H H' : Hp} (e : Ext π H π' H') {d : List D} {v : List V} (h : Rels g π H d v) : Rels g π' H' d v := h.extW e.w
theorem Rels.nil {g : G} {π : List Addr} {H : Hp} : Rels g π H [] [] := by unfold Rels; rfl
theorem Rels.cons {g : G} {π : List Addr} {H : Hp} {d : D} {v : V} {ds : List D} {vs : List V} (h : Rel g π H d v) (t : Rels g π H ds vs) : Rels g π H (d :: ds) (v :: vs) := by
  unfold Rels; exact ⟨v, vs, rfl, h, t⟩
theorem Rels.length {g : G} {π : List Addr} {H : Hp} : ∀ {ds : List D} {vs : List V}, Rels g π H ds vs → ds.length = vs.length
  | [], _, h => by unfold Rels at h; subst h; rfl
  | x :: xs, _, h => by
    unfold Rels at h
    obtain ⟨v, r, rfl, _, h3⟩ := h
    simp [Rels.length h3]
theorem Rels.get {g : G} {π : List Addr} {H : Hp} : ∀ {ds : List D} {vs : List V} {i : Nat} {d : D}, Rels g π H ds vs → ds[i]? = some d → ∃ v, vs[i]? = some v ∧ Rel g π H d v
  | [], _, _, _, _, e => by simp at e
  | x :: xs, _, 0, d, h, e => by
    unfold Rels at h
    obtain ⟨v, r, rfl, h2, _⟩ := h
    simp at e; subst e
    exact ⟨v, rfl, h2⟩
  | x :: xs, _, i + 1, d, h, e => by
    unfold Rels at h
    obtain ⟨v, r, rfl, _, h3⟩ := h
    obtain ⟨w, h4, h5⟩ := Rels.get (i := i) h3 (by simpa using e)
    exact ⟨w, by simpa using h4, h5⟩
theorem Rels.getV {g : G} {π : List Addr} {H : Hp} {ds : List D} {vs : List V} {i : Nat} {v : V} (h : Rels g π H ds vs) (e : vs[i]? = some v) : ∃ d, ds[i]? = some d ∧ Rel g π H d v := by
  have hl := h.length
  have hi : i < ds.length := by rw [hl]; exact (List.getElem?_eq_some_iff.mp e).1
  obtain ⟨w, h1, h2⟩ := h.get (List.getElem?_eq_getElem hi)
  rw [e] at h1; cases h1
  exact ⟨_, List.getElem?_eq_getElem hi, h2⟩
theorem Rels.append {g : G} {π : List Addr} {H : Hp} : ∀ {ds es : List D} {vs ws : List V}, Rels g π H ds vs → Rels g π H es ws → Rels g π H (ds ++ es) (vs ++ ws)
  | [], _, _, _, h, k => by unfold Rels at h; subst h; simpa using k
  | x :: xs, _, _, _, h, k => by
    unfold Rels at h
    obtain ⟨v, r, rfl, h2, h3⟩ := h
    exact .cons h2 (Rels.append h3 k)
theorem Rels.take {g : G} {π : List Addr} {H : Hp} : ∀ {ds : List D} {vs : List V} (n : Nat), Rels g π H ds vs → Rels g π H (ds.take n) (vs.take n)
  | _, _, 0, _ => by simp; exact .nil
  | [], _, n + 1, h => by unfold Rels at h; subst h; simp; exact .nil
  | x :: xs, _, n + 1, h => by
    unfold Rels at h
    obtain ⟨v, r, rfl, h2, h3⟩ := h
    exact .cons h2 (Rels.take n h3)
theorem Rels.drop {g : G} {π : List Addr} {H : Hp} : ∀ {ds : List D} {vs : List V} (n : Nat), Rels g π H ds vs → Rels g π H (ds.drop n) (vs.drop n)
  | _, _, 0, h => by simpa using h
  | [], _, n + 1, h => by unfold Rels at h; subst h; simp; exact .nil
  | x :: xs, _, n + 1, h => by
    unfold Rels at h
    obtain ⟨v, r, rfl, h2, h3⟩ := h
    simpa using Rels.drop n h3
theorem Rels.set {g : G} {π : List Addr} {H : Hp} {d : D} {v : V} (hd : Rel g π H d v) : ∀ {ds : List D} {vs : List V} (i : Nat), Rels g π H ds vs → Rels g π H (ds.set i d) (vs.set i v)
  | [], _, _, h => by unfold Rels at h; subst h; simp; exact .nil
  | x :: xs, _, 0, h => by
    unfold Rels at h
    obtain ⟨v, r, rfl, h2, h3⟩ := h
    exact .cons hd h3
  | x :: xs, _, i + 1, h => by
    unfold Rels at h
    obtain ⟨v, r, rfl, h2, h3⟩ := h
    exact .cons h2 (Rels.set hd i h3)
theorem Rels.snoc {g : G} {π : List Addr} {H : Hp} {ds : List D} {vs : List V} {d : D} {v : V} (h : Rels g π H ds vs) (hd : Rel g π H d v) : Rels g π H (ds ++ [d]) (vs ++ [v]) := h.append (.cons hd .nil)
/-- ints and texts stand as they are -/
theorem Rels.ints {g : G} {π : List Addr} {H : Hp} : ∀ ns : List Int, Rels g π H (ns.map D.int) (ns.map V.int)
  | [] => by simp; exact .nil
  | n :: ns => .cons (by unfold Rel; rfl) (Rels.ints ns)
theorem Rels.ints_inv {g : G} {π : List Addr} {H : Hp} : ∀ {ns : List Int} {vs : List V}, Rels g π H (ns.map D.int) vs → vs = ns.map V.int
  | [], vs, h => by simp only [List.map_nil] at h ⊢; unfold Rels at h; exact h
  | n :: ns, vs, h => by
    simp only [List.map_cons] at h ⊢
    unfold Rels at h
    obtain ⟨v, r, rfl, h2, h3⟩ := h
    unfold Rel at h2
    rw [h2, Rels.ints_inv h3]
/-- dict entries -/
def RelK (g : G) (π : List Addr) (H : Hp) : List (Key × D) → List (Key × V) → Prop
  | [], vs => vs = []
  | x :: xs, vs => ∃ v r, vs = (x.1, v) :: r ∧ Rel g π H x.2 v ∧ RelK g π H xs r
theorem RelK.extW {g : G} {π π' : List Addr} {H H' : Hp} (e : ExtW π H π' H') : ∀ {d : List (Key × D)} {v : List (Key × V)}, RelK g π H d v → RelK g π' H' d v
  | [], _, h => by unfold RelK at h ⊢; exact h
  | x :: xs, _, h => by
    unfold RelK at h ⊢
    obtain ⟨v, r, h1, h2, h3⟩ := h
    exact ⟨v, r, h1, Rel.extW e h2, RelK.extW e h3⟩
theorem RelK.ext {g : G} {π π' : List Addr} {H H' : Hp} (e : Ext π H π' H') {d : List (Key × D)} {v : List (Key × V)} (h : RelK g π H d v) : RelK g π' H' d v := h.extW e.w
/-- what the heap says of a thing of the store -/
def RelO' (g : G) (π : List Addr) (H : Hp) (a : Addr) : O → Prop
  | .lst xs => ∃ vs, H a = some (.lst vs) ∧ Rels g π H xs vs
  | .fro xs => ∃ vs, SqL g.K H a vs ∧ (∃ o, H a = some (.frz o (.lst vs))) ∧ Rels g π H xs vs
  | .dK kvs => ∃ vs, H a = some (.dK vs) ∧ RelK g π H kvs vs
  | .froK kvs => ∃ vs o, H a = some (.frz o (.dK vs)) ∧ RelK g π H kvs vs
structure St' (g : G) (π : List Addr) (H : Hp) (S : Sto) : Prop where
  len : π.length = S.length
  nd : π.Nodup
  at_ : ∀ (n : Nat) (o : O) (a : Addr), S[n]? = some o → π[n]? = some a → RelO' g π H a o
  tab : g.T H
  pre : ∃ more, π = g.B ++ more
/-- the frame's slots -/
def RelR (g : G) (π : List Addr) (H : Hp) : Rho → L2.St → Prop
  | [], σ => σ = []
  | x :: xs, σ => ∃ v r, σ = v :: r ∧ (∀ d, x = some d → ∃ w, v = some w ∧ Rel g π H d w) ∧ RelR g π H xs r
theorem RelR.ext {g : G} {π π' : List Addr} {H H' : Hp} (e : Ext π H π' H') : ∀ {ρ : Rho} {σ : L2.St}, RelR g π H ρ σ → RelR g π' H' ρ σ
  | [], _, h => by unfold RelR at h ⊢; exact h
  | x :: xs, _, h => by
    unfold RelR at h ⊢
    obtain ⟨v, r, h1, h2, h3⟩ := h
    exact ⟨v, r, h1, fun d hd => (h2 d hd).imp fun w hw => ⟨hw.1, Rel.ext e hw.2⟩, RelR.ext e h3⟩
theorem RelR.get {g : G} {π : List Addr} {H : Hp} : ∀ {ρ : Rho} {σ : L2.St} {i : Nat} {d : D}, RelR g π H ρ σ → ρ[i]? = some (some d) → ∃ v, σ[i]? = some (some v) ∧ Rel g π H d v
  | [], _, _, _, _, e => by simp at e
  | x :: xs, _, 0, d, h, e => by
    unfold RelR at h
    obtain ⟨v, r, rfl, h2, _⟩ := h
    simp at e; subst e
    obtain ⟨w, rfl, hw⟩ := h2 d rfl
    exact ⟨w, rfl, hw⟩
  | x :: xs, _, i + 1, d, h, e => by
    unfold RelR at h
    obtain ⟨v, r, rfl, _, h3⟩ := h
    obtain ⟨w, h4, h5⟩ := RelR.get (i := i) h3 (by simpa using e)
    exact ⟨w, by simpa using h4, h5⟩
theorem RelR.set {g : G} {π : List Addr} {H : Hp} {d : D} {v : V} (hd : Rel g π H d v) : ∀ {ρ : Rho} {σ : L2.St} (i : Nat), RelR g π H ρ σ → RelR g π H (ρ.set i (some d)) (σ.set i (some v))
  | [], _, _, h => by unfold RelR at h; subst h; simp; unfold RelR; rfl
  | x :: xs, _, 0, h => by
    unfold RelR at h
    obtain ⟨v', r, rfl, h2, h3⟩ := h
    simp only [List.set_cons_zero]
    unfold RelR
    exact ⟨_, _, rfl, fun d' e => by cases e; exact ⟨v, rfl, hd⟩, h3⟩
  | x :: xs, _, i + 1, h => by
    unfold RelR at h
    obtain ⟨v', r, rfl, h2, h3⟩ := h
    simp only [List.set_cons_succ]
    unfold RelR
    exact ⟨_, _, rfl, h2, RelR.set hd i h3⟩
theorem RelR.unset {g : G} {π : List Addr} {H : Hp} {v : Option V} : ∀ {ρ : Rho} {σ : L2.St} (i : Nat), RelR g π H ρ σ → RelR g π H (ρ.set i none) (σ.set i v)
  | [], _, _, h => by unfold RelR at h; subst h; simp; unfold RelR; rfl
  | x :: xs, _, 0, h => by
    unfold RelR at h
    obtain ⟨v', r, rfl, h2, h3⟩ := h
    simp only [List.set_cons_zero]
    unfold RelR
    exact ⟨v, r, rfl, (fun d' e => nomatch e), h3⟩
  | x :: xs, _, i + 1, h => by
    unfold RelR at h
    obtain ⟨v', r, rfl, h2, h3⟩ := h
    simp only [List.set_cons_succ]
    unfold RelR
    exact ⟨_, _, rfl, h2, RelR.unset i h3⟩
theorem RelR.length {g : G} {π : List Addr} {H : Hp} : ∀ {ρ : Rho} {σ : L2.St}, RelR g π H ρ σ → ρ.length = σ.length
  | [], _, h => by unfold RelR at h; subst h; rfl
  | x :: xs, _, h => by
    unfold RelR at h
    obtain ⟨v, r, rfl, _, h3⟩ := h
    simp [RelR.length h3]
theorem RelR.start {g : G} {π : List Addr} {H : Hp} {k : Nat} : ∀ {ds : List D} {vs : List V}, Rels g π H ds vs → RelR g π H (ds.map some ++ List.replicate k none) (vs.map some ++ List.replicate k none)
  | [], vs, h => by
    unfold Rels at h; subst h
    simp only [List.map_nil, List.nil_append]
    induction k with
    | zero => simp; unfold RelR; rfl
    | succ k ih => rw [List.replicate_succ, List.replicate_succ]; unfold RelR; exact ⟨_, _, rfl, (fun d e => nomatch e), ih⟩
  | x :: xs, vs, h => by
    unfold Rels at h
    obtain ⟨v, r, rfl, h2, h3⟩ := h
    simp only [List.map_cons, List.cons_append]
    unfold RelR
    exact ⟨_, _, rfl, fun d e => by cases e; exact ⟨v, rfl, h2⟩, RelR.start h3⟩
/-! ### the store's moves -/
theorem St'.ext_new {g : G} {π : List Addr} {H H' : Hp} {S : Sto} (s : St' g π H S) (e : Ext π H π H') (h : ∀ (n : Nat) (o : O) (a : Addr) (vs : HO), S[n]? = some o → π[n]? = some a → H a = some vs → ¬ immut vs → H' a = some vs) (t : g.T H → g.T H') : St' g π H' S := by
  refine ⟨s.len, s.nd, fun n o a h1 h2 => ?_, t s.tab, s.pre⟩
  have r := s.at_ n o a h1 h2
  cases o with
  | lst xs =>
    obtain ⟨vs, e1, e2⟩ := r
    exact ⟨vs, h n _ a _ h1 h2 e1 (fun z => z), e2.ext e⟩
  | fro xs =>
    obtain ⟨vs, e1, ⟨o, e2⟩, e3⟩ := r
    have e4 := h n _ a _ h1 h2 e2 (fun z => z)
    exact ⟨vs, .inl (.inr ⟨o, e4⟩), ⟨o, e4⟩, e3.ext e⟩
  | dK kvs =>
    obtain ⟨vs, e1, e2⟩ := r
    exact ⟨vs, h n _ a _ h1 h2 e1 (fun z => z), e2.ext e⟩
  | froK kvs =>
    obtain ⟨vs, o, e1, e2⟩ := r
    exact ⟨vs, o, e.keep _ _ e1 trivial, e2.ext e⟩
/-- the glue bears new objects and changed ones that are no tables -/
structure GOk (g : G) : Prop where
  newT : ∀ H p o, g.T H → H p = none → g.T (upd H p o)
  mutT : ∀ H p o u, g.T H → H p = some u → ¬ immut u → (∀ ps, u ≠ .tbl ps) → g.T (upd H p o)
theorem St'.new {g : G} (gk : GOk g) {π : List Addr} {H : Hp} {S : Sto} {p : Addr} {o : HO} (s : St' g π H S) (hp : H p = none) : St' g π (upd H p o) S :=
  s.ext_new (.upd_new hp) (fun n o a vs _ _ h _ => by rw [upd_ne (ne_of_none h hp)]; exact h) (fun t => gk.newT _ _ _ t hp)
end PI

end
section
set_option Elab.async false
set_option linter.all false
set_option maxRecDepth 100000
set_option maxHeartbeats 2000000
/-! PiSim: what a plain reading says, and how readings are put together. -/
namespace PI
open PySem PySem.Spec PyProof.Rows L2

/-- how an answer is borne: by address book and heap -/
abbrev RelT (α β : Type) := G → List Addr → Hp → α → β → Prop
class RExt {α β : Type} (R : RelT α β) : Prop where
  ext : ∀ {g : G} {π π' : List Addr} {H H' : Hp} {a : α} {b : β}, Ext π H π' H' → R g π H a b → R g π' H' a b
abbrev RV : RelT D V := fun g π H d v => Rel g π H d v
abbrev RVs : RelT (List D) (List V) := fun g π H d v => Rels g π H d v
abbrev RB : RelT Bool Bool := fun _ _ _ a b => a = b
instance : RExt RV := ⟨fun e h => Rel.ext e h⟩
instance : RExt RVs := ⟨fun e h => Rels.ext e h⟩
instance : RExt RB := ⟨fun _ h => h⟩
/-- what is wanted behind an answer -/
def Post {α β : Type} (g : G) (R : RelT α β) (W : WX) (σ : L2.St) (π : List Addr) (H : Hp) (Q : β → Hp → Prop) : ER α → Prop
  | .ok a S => ∀ b π' H', Ext π H π' H' → St' g π' H' S → R g π' H' a b → Q b H'
  | .ex c w S => ∀ a wv π' H', Ext π H π' H' → St' g π' H' S → Rel g π' H' w wv → H' a = some (.xd [("what", wv)]) → W (.ref (g.C c)) (some a) σ H'
  | .bad => False
section
variable {α β γ δ : Type} {g : G} {R : RelT α β} {R2 : RelT γ δ} {W : WX} {σ : L2.St} {π π' : List Addr} {H H' : Hp}
theorem Post.mono {Q : β → Hp → Prop} (e : Ext π H π' H') : ∀ {r : ER α}, Post g R W σ π H Q r → Post g R W σ π' H' Q r
  | .ok a S, h => fun b π2 H2 e2 s r => h b π2 H2 (e.trans e2) s r
  | .ex c w S, h => fun a wv π2 H2 e2 s r x => h a wv π2 H2 (e.trans e2) s r x
  | .bad, h => h
/-- a reading by a plain function -/
def tG (g : G) (R : RelT α β) (W : WX) (m : M α) : L2.St → Hp → (β → Hp → Prop) → Prop := fun σ H Q =>
  ∃ π ρ S, RelR g π H ρ σ ∧ St' g π H S ∧ Post g R W σ π H Q (m ρ S)
def bindM (ma : M α) (k : α → M γ) : M γ := fun ρ S => match ma ρ S with
  | .ok a S1 => k a ρ S1
  | .ex c w S1 => .ex c w S1
  | .bad => .bad
def pureM (a : α) : M α := fun _ S => .ok a S
theorem tG_bind {ma : M α} {k : α → M γ} {Q : δ → Hp → Prop} {REST : β → Hp → Prop} {ρ : Rho} {S : Sto} (hr : RelR g π H ρ σ) (hs : St' g π H S) (hp : Post g R2 W σ π H Q (bindM ma k ρ S))
    (hk : ∀ a b π1 S1 H1, Ext π H π1 H1 → RelR g π1 H1 ρ σ → St' g π1 H1 S1 → R g π1 H1 a b → Post g R2 W σ π1 H1 Q (k a ρ S1) → REST b H1) : tG g R W ma σ H REST := by
  refine ⟨π, ρ, S, hr, hs, ?_⟩
  unfold bindM at hp
  cases e : ma ρ S with
  | ok a S1 =>
    rw [e] at hp
    intro b π' H' ex st r
    exact hk a b π' S1 H' ex (hr.ext ex) st r (Post.mono ex hp)
  | ex c w S1 =>
    rw [e] at hp
    exact hp
  | bad =>
    rw [e] at hp
    exact hp
/-- the answer is there -/
theorem Post.pure {Q : β → Hp → Prop} {a : α} {b : β} {S : Sto} (h : Post g R W σ π H Q (.ok a S)) (s : St' g π H S) (r : R g π H a b) : Q b H := h b π H (.refl _ _) s r
theorem tG.at {ma : M α} {Q : β → Hp → Prop} {ρ : Rho} {S : Sto} (hr : RelR g π H ρ σ) (hs : St' g π H S) (hp : Post g R W σ π H Q (ma ρ S)) : tG g R W ma σ H Q := ⟨π, ρ, S, hr, hs, hp⟩
end
/-- e is read by m -/
abbrev SimE (X : Cx) (g : G) (W : WX) (e : Expr) (m : M D) : Prop := PE X e (tG g RV W m)
abbrev SimT (X : Cx) (g : G) (W : WX) (e : Expr) (m : M Bool) : Prop := PT X e (tG g RB W m)
abbrev SimA (X : Cx) (g : G) (W : WX) (es : List Expr) (m : M (List D)) : Prop := PA X es (tG g RVs W m)
section
variable {X : Cx} {g : G} {W : WX}
theorem PE.imp {e : Expr} {t t' : TE} (h : PE X e t) (i : ∀ σ H Q, t' σ H Q → t σ H Q) : PE X e t' := ⟨fun pins s σ H Q I q => h.run pins s σ H Q I (i σ H Q q)⟩
theorem PT.imp {e : Expr} {t t' : TT} (h : PT X e t) (i : ∀ σ H Q, t' σ H Q → t σ H Q) : PT X e t' := ⟨fun pins s σ H Q I q => h.run pins s σ H Q I (i σ H Q q)⟩
theorem PW.imp {e : Expr} {t t' : TT} (h : PW X e t) (i : ∀ σ H Q, t' σ H Q → t σ H Q) : PW X e t' := ⟨fun w pins s σ H Q I q => h.run w pins s σ H Q I (i σ H Q q)⟩
theorem PA.imp {e : List Expr} {t t' : TA} (h : PA X e t) (i : ∀ σ H Q, t' σ H Q → t σ H Q) : PA X e t' := ⟨fun p pins s σ H Q I q => h.run p pins s σ H Q I (i σ H Q q)⟩
theorem PS.imp {e : Stmt} {t t' : TS} (h : PS X e t) (i : ∀ D σ H, t' D σ H → t D σ H) : PS X e t' := ⟨fun pins s σ H D I q => h.run pins s σ H D I (i D σ H q)⟩
theorem PSs.imp {e : List Stmt} {t t' : TS} (h : PSs X e t) (i : ∀ D σ H, t' D σ H → t D σ H) : PSs X e t' := ⟨fun pins s σ H D I q => h.run pins s σ H D I (i D σ H q)⟩
/-! ### names and constants -/
def mVar (i : Nat) : M D := fun ρ S => match ρ[i]? with
  | some (some d) => .ok d S
  | _ => .bad
theorem s_var {i : Nat} {x : Str} {pos : Pos} (hN : X.N[i]? = some x) (hv : Vis X.env.scope x) (hd : (x == ("__debug__" : Str)) = false := by decide) (hcd : (x == ("__classdict__" : Str)) = false := by decide) : SimE X g W (.Name x pos) (mVar i) := by
  refine PE.imp (pe_var hN hv hd hcd) fun σ H Q ⟨π, ρ, S, hr, hs, hp⟩ => ?_
  unfold mVar at hp
  cases e : ρ[i]? with
  | none => rw [e] at hp; exact hp.elim
  | some o =>
    cases o with
    | none => rw [e] at hp; exact hp.elim
    | some d =>
      rw [e] at hp
      obtain ⟨v, h1, h2⟩ := hr.get e
      exact ⟨v, h1, hp.pure hs h2⟩
def scalD : D → Option V
  | .non => some .non
  | .bl b => some (.bl b)
  | .int i => some (.int i)
  | .str s => some (.str s)
  | _ => none
theorem scalD_rel {π : List Addr} {H : Hp} : ∀ {d : D} {v : V}, scalD d = some v → Rel g π H d v
  | .non, _, h => by cases h; unfold Rel; rfl
  | .bl _, _, h => by cases h; unfold Rel; rfl
  | .int _, _, h => by cases h; unfold Rel; rfl
  | .str _, _, h => by cases h; unfold Rel; rfl
  | .tup _, _, h => by cases h
  | .loc _, _, h => by cases h
  | .fn _, _, h => by cases h
theorem s_con {e : Expr} {d : D} {v : V} (h : PE X e (tC v)) (hv : scalD d = some v) : SimE X g W e (pureM d) := by
  refine PE.imp h fun σ H Q ⟨π, ρ, S, hr, hs, hp⟩ => ?_
  exact Post.pure (R := RV) hp hs (scalD_rel hv)
theorem s_int {i j pos} : SimE X g W (.Constant (.int i) j pos) (pureM (.int i)) := s_con pe_int rfl
theorem s_bl {b j pos} : SimE X g W (.Constant (.bool b) j pos) (pureM (.bl b)) := s_con pe_bl rfl
theorem s_non {j pos} : SimE X g W (.Constant .none j pos) (pureM .non) := s_con pe_non rfl
theorem s_str {x j pos} : SimE X g W (.Constant (.str x) j pos) (pureM (.str x)) := s_con pe_str rfl
/-! ### operators by values -/
/-- f on values is read by a plain function of data and store -/
def SimOp (g : G) (r : R2) (op : D → D → Sto → ER D) : Prop := ∀ (W : WX) (σ : L2.St) (π : List Addr) (H : Hp) (S : Sto) (Q : VK) (x y : D) (v w : V),
  St' g π H S → Rel g π H x v → Rel g π H y w → Post g RV W σ π H Q (op x y S) → r v w H Q
def mOp (op : D → D → Sto → ER D) (ma mb : M D) : M D := bindM ma fun x => bindM mb fun y => fun _ S => op x y S
theorem tG_op {r : R2} {op : D → D → Sto → ER D} {ma mb : M D} (ho : SimOp g r op) {σ : L2.St} {H : Hp} {Q : VK} (h : tG g RV W (mOp op ma mb) σ H Q) : tOp r (tG g RV W ma) (tG g RV W mb) σ H Q := by
  obtain ⟨π, ρ, S, hr, hs, hp⟩ := h
  refine tG_bind (R := RV) hr hs hp fun x v π1 S1 H1 e1 hr1 hs1 rx hp1 => ?_
  refine tG_bind (R := RV) hr1 hs1 hp1 fun y w π2 S2 H2 e2 hr2 hs2 ry hp2 => ?_
  exact ho W σ π2 H2 S2 Q x y v w hs2 (rx.ext e2) ry hp2
theorem s_op {op : Operator} {r : R2} {f : D → D → Sto → ER D} {a b : Expr} {ma mb : M D} {pos : Pos} (ho : OpR X (binaryOp op) r) (hf : SimOp g r f) (ha : SimE X g W a ma) (hb : SimE X g W b mb) : SimE X g W (.BinOp a op b pos) (mOp f ma mb) :=
  PE.imp (pe_op ho ha hb) fun _ _ _ h => tG_op hf h
theorem s_cmp {op : CmpOp} {r : R2} {f : D → D → Sto → ER D} {a b : Expr} {ma mb : M D} {pos : Pos} (ho : OpR X (compareOp op) r) (hf : SimOp g r f) (ha : SimE X g W a ma) (hb : SimE X g W b mb) (hm : behindInMarks op b = false) :
    SimE X g W (.Compare a [op] [b] pos) (mOp f ma mb) := PE.imp (pe_cmpR ho ha hb hm) fun _ _ _ h => tG_op hf h
end
end PI

end
section
set_option Elab.async false
set_option linter.all false
set_option maxRecDepth 100000
set_option maxHeartbeats 2000000
/-! PiOps: operators, comparisons. -/
namespace PI
open PySem PySem.Spec PyProof.Rows L2
section
variable {g : G} {π : List Addr} {H : Hp} {S : Sto} {W : WX} {σ : L2.St}
/-! ### what a related thing is -/
theorem Rel.int' {i : Int} {v : V} (h : Rel g π H (.int i) v) : v = .int i := by unfold Rel at h; exact h
theorem Rel.bl' {i : Bool} {v : V} (h : Rel g π H (.bl i) v) : v = .bl i := by unfold Rel at h; exact h
theorem Rel.str' {i : Str} {v : V} (h : Rel g π H (.str i) v) : v = .str i := by unfold Rel at h; exact h
theorem Rel.non' {v : V} (h : Rel g π H .non v) : v = .non := by unfold Rel at h; exact h
theorem Rel.tup' {xs : List D} {v : V} (h : Rel g π H (.tup xs) v) : ∃ a vs, v = .ref a ∧ SqU g.K H a vs ∧ Rels g π H xs vs := by unfold Rel at h; exact h
theorem Rel.loc' {n : Nat} {v : V} (h : Rel g π H (.loc n) v) : ∃ a, π[n]? = some a ∧ v = .ref a := by unfold Rel at h; exact h
theorem Rel.int {i : Int} : Rel g π H (.int i) (.int i) := by unfold Rel; rfl
theorem Rel.bl {i : Bool} : Rel g π H (.bl i) (.bl i) := by unfold Rel; rfl
theorem Rel.str {i : Str} : Rel g π H (.str i) (.str i) := by unfold Rel; rfl
theorem Rel.non : Rel g π H .non .non := by unfold Rel; rfl
theorem Rel.tup {xs : List D} {a : Addr} {vs : List V} (h1 : SqU g.K H a vs) (h2 : Rels g π H xs vs) : Rel g π H (.tup xs) (.ref a) := by unfold Rel; exact ⟨a, vs, rfl, h1, h2⟩
theorem Rel.loc {n : Nat} {a : Addr} (h : π[n]? = some a) : Rel g π H (.loc n) (.ref a) := by unfold Rel; exact ⟨a, h, rfl⟩
/-- what stands at a place of the store -/
theorem St'.obj (s : St' g π H S) {n : Nat} {o : O} {v : V} (h : S[n]? = some o) (r : Rel g π H (.loc n) v) : ∃ a, v = .ref a ∧ π[n]? = some a ∧ RelO' g π H a o := by
  obtain ⟨a, h1, h2⟩ := r.loc'
  exact ⟨a, h2, h1, s.at_ n o a h h1⟩
theorem St'.trk (s : St' g π H S) {a : Addr} (h : a ∈ π) : ∃ o, H a = some o := by
  obtain ⟨n, hn⟩ := List.getElem?_of_mem h
  have hl : n < S.length := by rw [← s.len]; exact (List.getElem?_eq_some_iff.mp hn).1
  have r := s.at_ n _ a (List.getElem?_eq_getElem hl) hn
  cases e : S[n] with
  | lst xs => rw [e] at r; obtain ⟨vs, h1, _⟩ := r; exact ⟨_, h1⟩
  | fro xs => rw [e] at r; obtain ⟨vs, _, ⟨o, h1⟩, _⟩ := r; exact ⟨_, h1⟩
  | dK xs => rw [e] at r; obtain ⟨vs, h1, _⟩ := r; exact ⟨_, h1⟩
  | froK xs => rw [e] at r; obtain ⟨vs, o, h1, _⟩ := r; exact ⟨_, h1⟩
theorem Ext.push {p : Addr} {o : HO} (hp : H p = none) : Ext π H (π ++ [p]) (upd H p o) := ⟨⟨[p], rfl⟩, (Ext.upd_new (π := π) hp).keep⟩
/-- a new thing of the store -/
theorem St'.push (gk : GOk g) (s : St' g π H S) {p : Addr} {o : HO} {o' : O} (hp : H p = none) (h : RelO' g (π ++ [p]) (upd H p o) p o') : St' g (π ++ [p]) (upd H p o) (S ++ [o']) := by
  have hnp : p ∉ π := fun z => by
    obtain ⟨o, e⟩ := s.trk z
    rw [hp] at e; cases e
  refine ⟨by simp [s.len], ?_, fun n o2 a h1 h2 => ?_, gk.newT _ _ _ s.tab hp, by
    obtain ⟨m, e⟩ := s.pre
    exact ⟨m ++ [p], by rw [e, List.append_assoc]⟩⟩
  · rw [List.nodup_append]
    exact ⟨s.nd, by simp, fun a ha b hb e => hnp (by simp at hb; rw [← hb, ← e]; exact ha)⟩
  · by_cases hn : n < S.length
    · rw [List.getElem?_append_left hn] at h1
      rw [List.getElem?_append_left (by rw [s.len]; exact hn)] at h2
      have r := s.at_ n o2 a h1 h2
      have ap : a ≠ p := fun z => hnp (by rw [← z]; exact List.mem_of_getElem? h2)
      have ex : Ext π H (π ++ [p]) (upd H p o) := Ext.push hp
      cases o2 with
      | lst xs =>
        obtain ⟨vs, e1, e2⟩ := r
        exact ⟨vs, by rw [upd_ne ap]; exact e1, e2.ext ex⟩
      | fro xs =>
        obtain ⟨vs, e1, ⟨u, e2⟩, e3⟩ := r
        have e4 : upd H p o a = some (.frz u (.lst vs)) := by rw [upd_ne ap]; exact e2
        exact ⟨vs, .inl (.inr ⟨u, e4⟩), ⟨u, e4⟩, e3.ext ex⟩
      | dK kvs =>
        obtain ⟨vs, e1, e2⟩ := r
        exact ⟨vs, by rw [upd_ne ap]; exact e1, e2.ext ex⟩
      | froK kvs =>
        obtain ⟨vs, u, e1, e2⟩ := r
        exact ⟨vs, u, by rw [upd_ne ap]; exact e1, e2.ext ex⟩
    · have hl : n < (S ++ [o']).length := (List.getElem?_eq_some_iff.mp h1).1
      have en : n = S.length := by simp at hl; omega
      subst en
      rw [List.getElem?_append_right (Nat.le_refl _)] at h1
      rw [← s.len, List.getElem?_append_right (Nat.le_refl _)] at h2
      simp at h1 h2
      subst h1 h2
      exact h
/-- a thing of the store is changed -/
theorem St'.put (gk : GOk g) (s : St' g π H S) {n : Nat} {p : Addr} {u o : HO} {o' : O} (hn : π[n]? = some p) (hp : H p = some u) (hu : ¬ immut u) (ht : ∀ ps, u ≠ .tbl ps) (h : RelO' g π (upd H p o) p o') : St' g π (upd H p o) (S.set n o') := by
  refine ⟨by simp [s.len], s.nd, fun m o2 a h1 h2 => ?_, gk.mutT _ _ _ _ s.tab hp hu ht, s.pre⟩
  have ex : Ext π H π (upd H p o) := Ext.upd_mut hp hu
  by_cases hm : m = n
  · subst hm
    have hl : m < S.length := by
      have := (List.getElem?_eq_some_iff.mp h1).1
      simpa using this
    rw [List.getElem?_set_self hl] at h1
    rw [hn] at h2
    cases h1; cases h2
    exact h
  · rw [List.getElem?_set_ne (Ne.symm hm)] at h1
    have r := s.at_ m o2 a h1 h2
    have ap : a ≠ p := fun z => hm (by
      rw [z] at h2
      exact (List.getElem?_inj (List.getElem?_eq_some_iff.mp h2).1 s.nd).mp (h2.trans hn.symm))
    cases o2 with
    | lst xs =>
      obtain ⟨vs, e1, e2⟩ := r
      exact ⟨vs, by rw [upd_ne ap]; exact e1, e2.ext ex⟩
    | fro xs =>
      obtain ⟨vs, e1, ⟨u, e2⟩, e3⟩ := r
      have e4 : upd H p o a = some (.frz u (.lst vs)) := by rw [upd_ne ap]; exact e2
      exact ⟨vs, .inl (.inr ⟨u, e4⟩), ⟨u, e4⟩, e3.ext ex⟩
    | dK kvs =>
      obtain ⟨vs, e1, e2⟩ := r
      exact ⟨vs, by rw [upd_ne ap]; exact e1, e2.ext ex⟩
    | froK kvs =>
      obtain ⟨vs, u, e1, e2⟩ := r
      exact ⟨vs, u, by rw [upd_ne ap]; exact e1, e2.ext ex⟩
/-- a tuple, a list, read -/
def seqD (S : Sto) : D → Option (List D)
  | .tup xs => some xs
  | .loc n => match S[n]? with
    | some (.lst xs) => some xs
    | some (.fro xs) => some xs
    | _ => none
  | _ => none
theorem seqD_ok (s : St' g π H S) {d : D} {v : V} {xs : List D} (h : seqD S d = some xs) (r : Rel g π H d v) : ∃ a vs, v = .ref a ∧ Rels g π H xs vs ∧ ((SqL g.K H a vs ∧ ∃ n, d = .loc n) ∨ (SqU g.K H a vs ∧ d = .tup xs)) := by
  cases d with
  | tup ys =>
    cases h
    obtain ⟨a, vs, e, h1, h2⟩ := r.tup'
    exact ⟨a, vs, e, h2, .inr ⟨h1, rfl⟩⟩
  | loc n =>
    unfold seqD at h
    cases e : S[n]? with
    | none => simp [e] at h
    | some o =>
      cases o with
      | lst ys =>
        simp [e] at h
        subst h
        obtain ⟨a, e1, _, vs, e2, e3⟩ := s.obj e r
        exact ⟨a, vs, e1, e3, .inl ⟨SqL.of e2, n, rfl⟩⟩
      | fro ys =>
        simp [e] at h
        subst h
        obtain ⟨a, e1, _, vs, e2, _, e3⟩ := s.obj e r
        exact ⟨a, vs, e1, e3, .inl ⟨e2, n, rfl⟩⟩
      | dK ys => simp [e] at h
      | froK ys => simp [e] at h
  | _ => simp [seqD] at h
end
/-! ### arithmetic -/
def mulOk (i j : Int) : Bool := decide (i.natAbs.log2 + j.natAbs.log2 < 1000000) || (decide (-(2 ^ 64) < i) && decide (i < 2 ^ 64)) || (decide (-(2 ^ 64) < j) && decide (j < 2 ^ 64))
def fdivOk (j : Int) : Bool := (decide (j ≠ 0) && decide (j.natAbs < 1073741824)) || (decide (0 < j) && decide (j.natAbs.log2 < 9000))
def powOk (i j : Int) : Bool := decide (0 ≤ j) && decide (j ≤ 1000000) && decide (i.natAbs < 2 ^ 64)
def newO (o : O) : Sto → ER D := fun S => .ok (.loc S.length) (S ++ [o])
def opAdd : D → D → Sto → ER D
  | .int i, .int j, S => .ok (.int (i + j)) S
  | .str a, .str b, S => if a.length + b.length ≤ sizeLine then .ok (.str (a ++ b)) S else .bad
  | .tup xs, .tup ys, S => if xs.length + ys.length ≤ sizeLine then .ok (.tup (xs ++ ys)) S else .bad
  | .loc n, .loc m, S => match S[n]?, S[m]? with
    | some (.lst xs), some (.lst ys) => if xs.length + ys.length ≤ sizeLine then newO (.lst (xs ++ ys)) S else .bad
    | _, _ => .bad
  | _, _, _ => .bad
def opSub : D → D → Sto → ER D
  | .int i, .int j, S => .ok (.int (i - j)) S
  | _, _, _ => .bad
def opMul : D → D → Sto → ER D
  | .int i, .int j, S => if mulOk i j then .ok (.int (i * j)) S else .bad
  | .loc n, .int k, S => match S[n]? with
    | some (.lst xs) => if xs.length * k.toNat ≤ sizeLine ∧ k ≤ 16777216 ∧ -16777216 ≤ k then newO (.lst (List.replicate k.toNat xs).flatten) S else .bad
    | _ => .bad
  | .tup xs, .int k, S => if xs ≠ [] ∧ 2 ≤ k ∧ k ≤ 1000 ∧ xs.length ≤ 1000 then .ok (.tup (List.replicate k.toNat xs).flatten) S else .bad
  | _, _, _ => .bad
def opFdiv : D → D → Sto → ER D
  | .int i, .int j, S => if fdivOk j then .ok (.int (i.fdiv j)) S else .bad
  | _, _, _ => .bad
def opMod : D → D → Sto → ER D
  | .int i, .int j, S => if j = 0 then .bad else .ok (.int (i.fmod j)) S
  | _, _, _ => .bad
def opPow : D → D → Sto → ER D
  | .int i, .int j, S => if powOk i j then .ok (.int (i ^ j.toNat)) S else .bad
  | _, _, _ => .bad
section
variable {X : Cx} {g : G} {W : WX}
theorem post_new (gk : GOk g) {σ : L2.St} {π : List Addr} {H : Hp} {S : Sto} {Q : VK} {o' : O} {o : HO} {p : Addr} (s : St' g π H S) (hp : H p = none) (h : Post g RV W σ π H Q (newO o' S))
    (r : RelO' g (π ++ [p]) (upd H p o) p o') : Q (.ref p) (upd H p o) := by
  refine h (.ref p) (π ++ [p]) _ (Ext.push hp) (s.push gk hp r) (Rel.loc ?_)
  rw [← s.len, List.getElem?_append_right (Nat.le_refl _)]
  simp
theorem Rels.flat {π : List Addr} {H : Hp} {ds : List D} {vs : List V} (h : Rels g π H ds vs) : ∀ k : Nat, Rels g π H (List.replicate k ds).flatten (List.replicate k vs).flatten
  | 0 => by simp; exact .nil
  | k + 1 => by
    rw [List.replicate_succ, List.replicate_succ, List.flatten_cons, List.flatten_cons]
    exact h.append (Rels.flat h k)
def rAddAll (K : PySem.W.Frag) : R2 := fun x y H Q => (rI0 fun i j => .int (i + j)) x y H Q ∨ (∃ i j, x = .str i ∧ y = .str j ∧ i.length + j.length ≤ sizeLine ∧ Q (.str (i ++ j)) H) ∨ rCatA K x y H Q ∨ rCat x y H Q
theorem op_addAll : OpR X (binaryOp .Add) (rAddAll X.K) := OpR.or op_add (OpR.or op_add_str (OpR.or op_catA op_cat))
theorem sim_add (gk : GOk g) : SimOp g (rAddAll g.K) opAdd := by
  intro W σ π H S Q x y v w s rx ry h
  unfold opAdd at h
  split at h
  · rw [rx.int', ry.int']
    exact .inl ⟨_, _, rfl, rfl, Post.pure (R := RV) h s Rel.int⟩
  · split at h
    · rename_i hz
      rw [rx.str', ry.str']
      exact .inr (.inl ⟨_, _, rfl, rfl, hz, Post.pure (R := RV) h s Rel.str⟩)
    · exact h.elim
  · split at h
    · rename_i hz
      obtain ⟨a, vs, rfl, h1, h2⟩ := rx.tup'
      obtain ⟨b, ws, rfl, h3, h4⟩ := ry.tup'
      have l1 := h2.length
      have l2 := h4.length
      refine .inr (.inr (.inl ⟨a, b, vs, ws, rfl, rfl, h1.t, h3.t, by omega, fun e => ?_, fun _ e => ?_, fun _ _ p hp => ?_⟩))
      · subst e
        have ex := List.eq_nil_of_length_eq_zero l1
        rw [ex, List.nil_append] at h
        exact Post.pure (R := RV) h s ry
      · subst e
        have ex := List.eq_nil_of_length_eq_zero l2
        rw [ex, List.append_nil] at h
        exact Post.pure (R := RV) h s rx
      · have ex := Ext.upd_new (π := π) (o := .tup (vs ++ ws)) hp
        exact h _ π _ ex (s.new gk hp) (Rel.tup (.inl upd_same) ((h2.append h4).ext ex))
    · exact h.elim
  · split at h
    · rename_i n m S' xs ys e1 e2
      split at h
      · rename_i hz
        obtain ⟨a, rfl, _, vs, h1, h2⟩ := s.obj e1 rx
        obtain ⟨b, rfl, _, ws, h3, h4⟩ := s.obj e2 ry
        have l1 := h2.length
        have l2 := h4.length
        refine .inr (.inr (.inr ⟨a, b, vs, ws, rfl, rfl, h1, h3, by omega, fun p hp => ?_⟩))
        exact post_new gk s hp h ⟨vs ++ ws, upd_same, (h2.append h4).ext (Ext.push hp)⟩
      · exact h.elim
    · exact h.elim
  · exact h.elim
theorem sim_sub : SimOp g (rI0 fun i j => .int (i - j)) opSub := by
  intro W σ π H S Q x y v w s rx ry h
  unfold opSub at h
  split at h
  · rw [rx.int', ry.int']
    exact ⟨_, _, rfl, rfl, Post.pure (R := RV) h s Rel.int⟩
  · exact h.elim
def rMulAll (K : PySem.W.Frag) : R2 := fun x y H Q => (rI CMulW fun i j => .int (i * j)) x y H Q ∨ (rI CMul fun i j => .int (i * j)) x y H Q ∨ rRep x y H Q ∨ rRepT K x y H Q
theorem op_mulAll : OpR X (binaryOp .Mult) (rMulAll X.K) := OpR.or op_mulW (OpR.or op_mul (OpR.or op_rep op_repT))
theorem sim_mul (gk : GOk g) : SimOp g (rMulAll g.K) opMul := by
  intro W σ π H S Q x y v w s rx ry h
  unfold opMul at h
  split at h
  · rename_i i j S'
    split at h
    · rename_i hz
      rw [rx.int', ry.int']
      have q := Post.pure (R := RV) h s Rel.int
      unfold mulOk at hz
      simp only [Bool.or_eq_true, Bool.and_eq_true, decide_eq_true_eq] at hz
      rcases hz with (hz | hz) | hz
      · exact .inl ⟨_, _, rfl, rfl, hz, q⟩
      · exact .inr (.inl ⟨_, _, rfl, rfl, .inl hz, q⟩)
      · exact .inr (.inl ⟨_, _, rfl, rfl, .inr hz, q⟩)
    · exact h.elim
  · split at h
    · rename_i n k S' xs e1
      split at h
      · rename_i hz
        obtain ⟨a, rfl, _, vs, h1, h2⟩ := s.obj e1 rx
        rw [ry.int']
        have l1 := h2.length
        refine .inr (.inr (.inl ⟨a, k, vs, rfl, rfl, h1, by omega, by omega, by rw [← l1]; exact hz.1, fun p hp => ?_⟩))
        exact post_new gk s hp h ⟨_, upd_same, (h2.flat _).ext (Ext.push hp)⟩
      · exact h.elim
    · exact h.elim
  · split at h
    · rename_i xs k hz
      obtain ⟨a, vs, rfl, h1, h2⟩ := rx.tup'
      rw [ry.int']
      have l1 := h2.length
      refine .inr (.inr (.inr ⟨a, k, vs, rfl, rfl, h1.t, fun e => ?_, hz.2.1, hz.2.2.1, by omega, fun p hp => ?_⟩))
      · subst e
        exact hz.1 (List.eq_nil_of_length_eq_zero l1)
      · have ex := Ext.upd_new (π := π) (o := .tup (List.replicate k.toNat vs).flatten) hp
        exact h _ π _ ex (s.new gk hp) (Rel.tup (.inl upd_same) ((h2.flat _).ext ex))
    · exact h.elim
  · exact h.elim
def rFdivAll : R2 := fun x y H Q => (rI CDivN fun i j => .int (i.fdiv j)) x y H Q ∨ (rI CDivW fun i j => .int (i / j)) x y H Q
theorem op_fdivAll : OpR X (binaryOp .FloorDiv) rFdivAll := OpR.or op_fdivN op_fdivW
theorem sim_fdiv : SimOp g rFdivAll opFdiv := by
  intro W σ π H S Q x y v w s rx ry h
  unfold opFdiv at h
  split at h
  · rename_i i j S'
    split at h
    · rename_i hz
      rw [rx.int', ry.int']
      unfold fdivOk at hz
      simp only [Bool.or_eq_true, Bool.and_eq_true, decide_eq_true_eq] at hz
      rcases hz with hz | hz
      · exact .inl ⟨_, _, rfl, rfl, hz, Post.pure (R := RV) h s Rel.int⟩
      · refine .inr ⟨_, _, rfl, rfl, hz, ?_⟩
        rw [Int.fdiv_eq_ediv_of_nonneg _ (Int.le_of_lt hz.1)] at h
        exact Post.pure (R := RV) h s Rel.int
    · exact h.elim
  · exact h.elim
theorem sim_mod : SimOp g (rI (fun _ j => j ≠ 0) fun i j => .int (i.fmod j)) opMod := by
  intro W σ π H S Q x y v w s rx ry h
  unfold opMod at h
  split at h
  · split at h
    · exact h.elim
    · rename_i hz
      rw [rx.int', ry.int']
      exact ⟨_, _, rfl, rfl, hz, Post.pure (R := RV) h s Rel.int⟩
  · exact h.elim
theorem sim_pow : SimOp g (rI CPow fun i j => .int (i ^ j.toNat)) opPow := by
  intro W σ π H S Q x y v w s rx ry h
  unfold opPow at h
  split at h
  · split at h
    · rename_i hz
      rw [rx.int', ry.int']
      unfold powOk at hz
      simp only [Bool.and_eq_true, decide_eq_true_eq] at hz
      exact ⟨_, _, rfl, rfl, ⟨hz.1.1, hz.1.2, hz.2⟩, Post.pure (R := RV) h s Rel.int⟩
    · exact h.elim
  · exact h.elim
end
end PI

end
section
set_option Elab.async false
set_option linter.all false
set_option maxRecDepth 100000
set_option maxHeartbeats 2000000
/-! PiExpr: comparisons, tests, choices, displays, places, built-ins. -/
namespace PI
open PySem PySem.Spec PyProof.Rows L2
/-! ### equality of data -/
def mapO {α β : Type} (f : α → Option β) : List α → Option (List β)
  | [] => some []
  | x :: xs => match f x, mapO f xs with
    | some y, some ys => some (y :: ys)
    | _, _ => none
def toPD (S : Sto) : Nat → D → Option PyData
  | _, .non => some .none
  | _, .bl b => some (.bool b)
  | _, .int i => some (.int i)
  | _, .str s => some (.str s)
  | n + 1, .tup xs => (mapO (toPD S n) xs).map PyData.tuple
  | n + 1, .loc k => match S[k]? with
    | some (.lst xs) => (mapO (toPD S n) xs).map PyData.list
    | some (.fro xs) => (mapO (toPD S n) xs).map PyData.list
    | _ => none
  | _, _ => none
section
variable {g : G} {π : List Addr} {H : Hp} {S : Sto} {W : WX} {σ : L2.St}
theorem mapO_dp {f : D → Option PyData} (hf : ∀ d v p, f d = some p → Rel g π H d v → Dp g.K H v p) : ∀ {xs : List D} {vs : List V} {ps : List PyData}, mapO f xs = some ps → Rels g π H xs vs → DpAll g.K H vs ps
  | [], vs, ps, h, r => by
    unfold Rels at r; subst r
    cases h
    exact .nil
  | x :: xs, vs, ps, h, r => by
    unfold Rels at r
    obtain ⟨v, w, rfl, r1, r2⟩ := r
    unfold mapO at h
    cases e1 : f x with
    | none => rw [e1] at h; cases h
    | some p =>
      cases e2 : mapO f xs with
      | none => rw [e1, e2] at h; cases h
      | some qs =>
        rw [e1, e2] at h
        cases h
        exact .cons (hf _ _ _ e1 r1) (mapO_dp hf e2 r2)
theorem toPD_dp (s : St' g π H S) : ∀ (n : Nat) (d : D) (v : V) (p : PyData), toPD S n d = some p → Rel g π H d v → Dp g.K H v p := by
  intro n
  induction n with
  | zero =>
    intro d v p h r
    cases d with
    | non => cases h; rw [r.non']; exact .non
    | bl b => cases h; rw [r.bl']; exact .bl b
    | int b => cases h; rw [r.int']; exact .int b
    | str b => cases h; rw [r.str']; exact .str b
    | tup xs => cases h
    | loc k => cases h
    | fn k => cases h
  | succ n ih =>
    intro d v p h r
    cases d with
    | non => cases h; rw [r.non']; exact .non
    | bl b => cases h; rw [r.bl']; exact .bl b
    | int b => cases h; rw [r.int']; exact .int b
    | str b => cases h; rw [r.str']; exact .str b
    | tup xs =>
      unfold toPD at h
      obtain ⟨a, vs, rfl, h1, h2⟩ := r.tup'
      cases e : mapO (toPD S n) xs with
      | none => rw [e] at h; cases h
      | some ps =>
        rw [e] at h
        cases h
        exact .tup h1.t (mapO_dp (fun d v p => ih d v p) e h2)
    | loc k =>
      unfold toPD at h
      cases e : S[k]? with
      | none => rw [e] at h; cases h
      | some o =>
        rw [e] at h
        obtain ⟨a, rfl, _, ro⟩ := s.obj e r
        cases o with
        | lst xs =>
          obtain ⟨vs, h1, h2⟩ := ro
          cases e2 : mapO (toPD S n) xs with
          | none => simp only [e2] at h; cases h
          | some ps =>
            simp only [e2] at h
            cases h
            exact .lst (SqL.of h1) (mapO_dp (fun d v p => ih d v p) e2 h2)
        | fro xs =>
          obtain ⟨vs, h1, _, h2⟩ := ro
          cases e2 : mapO (toPD S n) xs with
          | none => simp only [e2] at h; cases h
          | some ps =>
            simp only [e2] at h
            cases h
            exact .lst h1 (mapO_dp (fun d v p => ih d v p) e2 h2)
        | dK kvs => cases h
        | froK kvs => cases h
    | fn k => cases h
end
def eqD (S : Sto) (d e : D) : Option Bool := match toPD S 60 d, toPD S 60 e with
  | some p, some q => if SeqAt.shaped p && SeqAt.shaped q then some (PyData.eqv p q) else none
  | _, _ => none
def opB (f : D → D → Sto → Option Bool) : D → D → Sto → ER D := fun x y S => match f x y S with
  | some b => .ok (.bl b) S
  | none => .bad
def opEq : D → D → Sto → ER D := opB fun x y S => eqD S x y
def opNe : D → D → Sto → ER D := opB fun x y S => (eqD S x y).map (!·)
def opLt : D → D → Sto → ER D := opB fun x y _ => match x, y with
  | .int i, .int j => some (decide (i < j))
  | .str i, .str j => some (decide (i.cps.toList < j.cps.toList))
  | _, _ => none
def opLe : D → D → Sto → ER D := opB fun x y _ => match x, y with
  | .int i, .int j => some (decide (i ≤ j))
  | _, _ => none
def opGt : D → D → Sto → ER D := opB fun x y _ => match x, y with
  | .int i, .int j => some (decide (j < i))
  | _, _ => none
def opGe : D → D → Sto → ER D := opB fun x y _ => match x, y with
  | .int i, .int j => some (decide (j ≤ i))
  | _, _ => none
def isNon : D → Bool
  | .non => true
  | _ => false
def opIs : D → D → Sto → ER D := opB fun x y _ => match x, y with
  | x, .non => some (isNon x)
  | .bl a, .bl b => some (decide (a = b))
  | _, _ => none
def opIsNot : D → D → Sto → ER D := opB fun x y _ => match x, y with
  | x, .non => some (!isNon x)
  | .bl a, .bl b => some (!decide (a = b))
  | _, _ => none
section
variable {X : Cx} {g : G} {W : WX}
theorem post_b {σ : L2.St} {π : List Addr} {H : Hp} {S : Sto} {Q : VK} {f : D → D → Sto → Option Bool} {x y : D} (s : St' g π H S) (h : Post g RV W σ π H Q (opB f x y S)) : ∃ b, f x y S = some b ∧ Q (.bl b) H := by
  unfold opB at h
  cases e : f x y S with
  | none => rw [e] at h; exact h.elim
  | some b =>
    rw [e] at h
    exact ⟨b, rfl, Post.pure (R := RV) h s Rel.bl⟩
theorem sim_eq : SimOp g (rEqD g.K) opEq := by
  intro W σ π H S Q x y v w s rx ry h
  obtain ⟨b, e, q⟩ := post_b s h
  unfold eqD at e
  split at e
  · rename_i p q' e1 e2
    split at e
    · rename_i hz
      obtain ⟨h1, h2⟩ := Bool.and_eq_true_iff.mp hz
      cases e
      exact ⟨p, q', toPD_dp s _ _ _ _ e1 rx, toPD_dp s _ _ _ _ e2 ry, h1, h2, q⟩
    · cases e
  · cases e
theorem sim_ne : SimOp g (rNeD g.K) opNe := by
  intro W σ π H S Q x y v w s rx ry h
  obtain ⟨b, e, q⟩ := post_b s h
  unfold eqD at e
  split at e
  · rename_i p q' e1 e2
    split at e
    · rename_i hz
      obtain ⟨h1, h2⟩ := Bool.and_eq_true_iff.mp hz
      cases e
      exact ⟨p, q', toPD_dp s _ _ _ _ e1 rx, toPD_dp s _ _ _ _ e2 ry, h1, h2, q⟩
    · cases e
  · cases e
def rLtAll : R2 := fun x y H Q => (rI0 fun i j => .bl (decide (i < j))) x y H Q ∨ (∃ i j, x = .str i ∧ y = .str j ∧ Q (.bl (decide (i.cps.toList < j.cps.toList))) H)
theorem op_ltAll : OpR X (compareOp .Lt) rLtAll := OpR.or op_lt op_lt_str
theorem sim_lt : SimOp g rLtAll opLt := by
  intro W σ π H S Q x y v w s rx ry h
  obtain ⟨b, e, q⟩ := post_b s h
  split at e
  · cases e
    rw [rx.int', ry.int']
    exact .inl ⟨_, _, rfl, rfl, q⟩
  · cases e
    rw [rx.str', ry.str']
    exact .inr ⟨_, _, rfl, rfl, q⟩
  · cases e
theorem sim_le : SimOp g (rI0 fun i j => .bl (decide (i ≤ j))) opLe := by
  intro W σ π H S Q x y v w s rx ry h
  obtain ⟨b, e, q⟩ := post_b s h
  split at e
  · cases e
    rw [rx.int', ry.int']
    exact ⟨_, _, rfl, rfl, q⟩
  · cases e
theorem sim_gt : SimOp g (rI0 fun i j => .bl (decide (j < i))) opGt := by
  intro W σ π H S Q x y v w s rx ry h
  obtain ⟨b, e, q⟩ := post_b s h
  split at e
  · cases e
    rw [rx.int', ry.int']
    exact ⟨_, _, rfl, rfl, q⟩
  · cases e
theorem sim_ge : SimOp g (rI0 fun i j => .bl (decide (j ≤ i))) opGe := by
  intro W σ π H S Q x y v w s rx ry h
  obtain ⟨b, e, q⟩ := post_b s h
  split at e
  · cases e
    rw [rx.int', ry.int']
    exact ⟨_, _, rfl, rfl, q⟩
  · cases e
theorem isNon_rel {π : List Addr} {H : Hp} : ∀ {x : D} {v : V}, Rel g π H x v → decide (v = .non) = isNon x
  | .non, _, h => by rw [h.non']; rfl
  | .bl _, _, h => by rw [h.bl']; rfl
  | .int _, _, h => by rw [h.int']; rfl
  | .str _, _, h => by rw [h.str']; rfl
  | .tup _, _, h => by obtain ⟨a, vs, rfl, _⟩ := h.tup'; rfl
  | .loc _, _, h => by obtain ⟨a, _, rfl⟩ := h.loc'; rfl
  | .fn _, _, h => by unfold Rel at h; rw [h]; rfl
def rIsAll : R2 := fun x y H Q => (y = .non ∧ Q (.bl (decide (x = .non))) H) ∨ (∃ a b : Bool, x = .bl a ∧ y = .bl b ∧ Q (.bl (decide (a = b))) H)
theorem op_isAll : OpR X (compareOp .Is) rIsAll := OpR.or op_isN op_isBl
theorem sim_is : SimOp g rIsAll opIs := by
  intro W σ π H S Q x y v w s rx ry h
  obtain ⟨b, e, q⟩ := post_b s h
  split at e
  · cases e
    rw [ry.non']
    exact .inl ⟨rfl, by rw [isNon_rel rx]; exact q⟩
  · cases e
    rw [rx.bl', ry.bl']
    exact .inr ⟨_, _, rfl, rfl, q⟩
  · cases e
def rIsNotAll : R2 := fun x y H Q => (y = .non ∧ Q (.bl (!decide (x = .non))) H) ∨ (∃ a b : Bool, x = .bl a ∧ y = .bl b ∧ Q (.bl (!decide (a = b))) H)
theorem op_isNotAll : OpR X (compareOp .IsNot) rIsNotAll := OpR.or op_notN op_notBl
theorem sim_isNot : SimOp g rIsNotAll opIsNot := by
  intro W σ π H S Q x y v w s rx ry h
  obtain ⟨b, e, q⟩ := post_b s h
  split at e
  · cases e
    rw [ry.non']
    exact .inl ⟨rfl, by rw [isNon_rel rx]; exact q⟩
  · cases e
    rw [rx.bl', ry.bl']
    exact .inr ⟨_, _, rfl, rfl, q⟩
  · cases e
/-! ### tests -/
def mTest (m : M D) : M Bool := bindM m fun x _ S => match x with
  | .bl b => .ok b S
  | _ => .bad
theorem tG_test {m : M D} {σ : L2.St} {H : Hp} {Q : Bool → Hp → Prop} (h : tG g RB W (mTest m) σ H Q) : tG g RV W m σ H fun x H1 => ∃ c, x = .bl c ∧ Q c H1 := by
  obtain ⟨π, ρ, S, hr, hs, hp⟩ := h
  refine tG_bind (R := RV) hr hs hp fun x v π1 S1 H1 e1 hr1 hs1 rx hp1 => ?_
  cases x with
  | bl b =>
    rw [rx.bl']
    exact ⟨b, rfl, Post.pure (R := RB) hp1 hs1 rfl⟩
  | _ => exact hp1.elim
theorem st_val {e : Expr} {m : M D} (h : SimE X g W e m) (he : ∀ whole, isTrue e X.env whole = (do let v ← whole; standAt e.pos; holding [v] (truthy v)) := by intro _; rfl) : SimT X g W e (mTest m) :=
  PT.imp (pt_val h he) fun _ _ _ q => tG_test q
def mNotT (m : M Bool) : M Bool := bindM m fun b => pureM (!b)
def mAndT (a b : M Bool) : M Bool := bindM a fun c => if c then b else pureM false
def mOrT (a b : M Bool) : M Bool := bindM a fun c => if c then pureM true else b
theorem st_not {a : Expr} {m : M Bool} {pos : Pos} (h : SimT X g W a m) : SimT X g W (.UnaryOp .Not a pos) (mNotT m) := PT.imp (pt_not h) fun σ H Q ⟨π, ρ, S, hr, hs, hp⟩ =>
  tG_bind (R := RB) hr hs hp fun x b π1 S1 H1 e1 hr1 hs1 rx hp1 => by
    cases (show x = b from rx)
    exact Post.pure (R := RB) hp1 hs1 rfl
abbrev SimW (X : Cx) (g : G) (W : WX) (e : Expr) (m : M Bool) : Prop := PW X e (tG g RB W m)
theorem sw_pt {e : Expr} {m : M Bool} (h : SimW X g W e m) : SimT X g W e m := PW.pt h
theorem sw_and1 {a : Expr} {m : M Bool} {pos : Pos} (h : SimT X g W a m) : SimW X g W (.BoolOp .And [a] pos) m := pw_and1 h
theorem sw_or1 {a : Expr} {m : M Bool} {pos : Pos} (h : SimT X g W a m) : SimW X g W (.BoolOp .Or [a] pos) m := pw_or1 h
theorem sw_and {a b : Expr} {rest : List Expr} {m n : M Bool} {pos : Pos} (h : SimT X g W a m) (k : SimW X g W (.BoolOp .And (b :: rest) pos) n) : SimW X g W (.BoolOp .And (a :: b :: rest) pos) (mAndT m n) :=
  PW.imp (pw_and h k) fun σ H Q ⟨π, ρ, S, hr, hs, hp⟩ => tG_bind (R := RB) hr hs hp fun x b π1 S1 H1 e1 hr1 hs1 rx hp1 => by
    cases (show x = b from rx)
    cases x with
    | true => exact tG.at hr1 hs1 hp1
    | false => exact Post.pure (R := RB) hp1 hs1 rfl
theorem sw_or {a b : Expr} {rest : List Expr} {m n : M Bool} {pos : Pos} (h : SimT X g W a m) (k : SimW X g W (.BoolOp .Or (b :: rest) pos) n) : SimW X g W (.BoolOp .Or (a :: b :: rest) pos) (mOrT m n) :=
  PW.imp (pw_or h k) fun σ H Q ⟨π, ρ, S, hr, hs, hp⟩ => tG_bind (R := RB) hr hs hp fun x b π1 S1 H1 e1 hr1 hs1 rx hp1 => by
    cases (show x = b from rx)
    cases x with
    | true => exact Post.pure (R := RB) hp1 hs1 rfl
    | false => exact tG.at hr1 hs1 hp1
/-! .. as values, all True or False but the last -/
def mAndV (a b : M D) : M D := bindM a fun c => match c with
  | .bl true => b
  | .bl false => pureM (.bl false)
  | _ => fun _ _ => .bad
def mOrV (a b : M D) : M D := bindM a fun c => match c with
  | .bl true => pureM (.bl true)
  | .bl false => b
  | _ => fun _ _ => .bad
def mNotV (a : M D) : M D := bindM a fun c => match c with
  | .bl b => pureM (.bl (!b))
  | _ => fun _ _ => .bad
theorem s_one {op} {a : Expr} {m : M D} {pos : Pos} (h : SimE X g W a m) : SimE X g W (.BoolOp op [a] pos) m := pe_one h
theorem s_and {a b : Expr} {rest : List Expr} {m n : M D} {pos : Pos} (h : SimE X g W a m) (k : SimE X g W (.BoolOp .And (b :: rest) pos) n) : SimE X g W (.BoolOp .And (a :: b :: rest) pos) (mAndV m n) :=
  PE.imp (pe_and h k) fun σ H Q ⟨π, ρ, S, hr, hs, hp⟩ => tG_bind (R := RV) hr hs hp fun x v π1 S1 H1 e1 hr1 hs1 rx hp1 => by
    cases x with
    | bl c =>
      refine ⟨c, rx.bl', ?_⟩
      cases c with
      | true => exact tG.at hr1 hs1 hp1
      | false => exact Post.pure (R := RV) hp1 hs1 Rel.bl
    | _ => exact hp1.elim
theorem s_or {a b : Expr} {rest : List Expr} {m n : M D} {pos : Pos} (h : SimE X g W a m) (k : SimE X g W (.BoolOp .Or (b :: rest) pos) n) : SimE X g W (.BoolOp .Or (a :: b :: rest) pos) (mOrV m n) :=
  PE.imp (pe_or h k) fun σ H Q ⟨π, ρ, S, hr, hs, hp⟩ => tG_bind (R := RV) hr hs hp fun x v π1 S1 H1 e1 hr1 hs1 rx hp1 => by
    cases x with
    | bl c =>
      refine ⟨c, rx.bl', ?_⟩
      cases c with
      | true => exact Post.pure (R := RV) hp1 hs1 Rel.bl
      | false => exact tG.at hr1 hs1 hp1
    | _ => exact hp1.elim
theorem s_not {a : Expr} {m : M D} {pos : Pos} (h : SimE X g W a m) : SimE X g W (.UnaryOp .Not a pos) (mNotV m) :=
  PE.imp (pe_not h) fun σ H Q ⟨π, ρ, S, hr, hs, hp⟩ => tG_bind (R := RV) hr hs hp fun x v π1 S1 H1 e1 hr1 hs1 rx hp1 => by
    cases x with
    | bl c => exact ⟨c, rx.bl', Post.pure (R := RV) hp1 hs1 Rel.bl⟩
    | _ => exact hp1.elim
def mIf (c : M Bool) (a b : M D) : M D := bindM c fun k => if k then a else b
theorem s_ifExp {c a b : Expr} {mc : M Bool} {ma mb : M D} {pos : Pos} (hc : SimT X g W c mc) (ha : SimE X g W a ma) (hb : SimE X g W b mb) : SimE X g W (.IfExp c a b pos) (mIf mc ma mb) :=
  PE.imp (pe_ifExp hc ha hb) fun σ H Q ⟨π, ρ, S, hr, hs, hp⟩ => tG_bind (R := RB) hr hs hp fun x b π1 S1 H1 e1 hr1 hs1 rx hp1 => by
    cases (show x = b from rx)
    cases x with
    | true => exact tG.at hr1 hs1 hp1
    | false => exact tG.at hr1 hs1 hp1
def mNeg (a : M D) : M D := bindM a fun c => match c with
  | .int i => pureM (.int (-i))
  | _ => fun _ _ => .bad
theorem s_neg {a : Expr} {m : M D} {pos : Pos} (h : SimE X g W a m) : SimE X g W (.UnaryOp .USub a pos) (mNeg m) :=
  PE.imp (pe_un un_neg h) fun σ H Q ⟨π, ρ, S, hr, hs, hp⟩ => tG_bind (R := RV) hr hs hp fun x v π1 S1 H1 e1 hr1 hs1 rx hp1 => by
    cases x with
    | int i => exact ⟨i, rx.int', Post.pure (R := RV) hp1 hs1 Rel.int⟩
    | _ => exact hp1.elim
/-- a op b op' c -/
def mChain (f f' : D → D → Sto → ER D) (ma mb mc : M D) : M D := bindM ma fun x => bindM mb fun y => bindM (fun _ S => f x y S) fun z => match z with
  | .bl true => bindM mc fun w _ S => f' y w S
  | .bl false => pureM (.bl false)
  | _ => fun _ _ => .bad
/-! ### arguments -/
def mNil : M (List D) := pureM []
def mCons (a : M D) (r : M (List D)) : M (List D) := bindM a fun x => bindM r fun xs => pureM (x :: xs)
theorem sa_nil : SimA X g W [] mNil := PA.imp pa_nil fun σ H Q ⟨π, ρ, S, hr, hs, hp⟩ => Post.pure (R := RVs) hp hs Rels.nil
theorem sa_cons {e : Expr} {es : List Expr} {m : M D} {r : M (List D)} (he : SimE X g W e m) (hr : SimA X g W es r) (hst : starEach (e :: es) X.env = (false, eval e X.env) :: starEach es X.env := by rfl) : SimA X g W (e :: es) (mCons m r) :=
  PA.imp (pa_cons he hr hst) fun σ H Q ⟨π, ρ, S, hr, hs, hp⟩ => tG_bind (R := RV) hr hs hp fun x v π1 S1 H1 e1 hr1 hs1 rx hp1 =>
    tG_bind (R := RVs) hr1 hs1 hp1 fun xs vs π2 S2 H2 e2 hr2 hs2 rxs hp2 => Post.pure (R := RVs) hp2 hs2 (Rels.cons (rx.ext e2) rxs)
/-! ### displays -/
def mTup (r : M (List D)) : M D := bindM r fun xs _ S => if xs.length ≤ sizeLine then .ok (.tup xs) S else .bad
def mLst (r : M (List D)) : M D := bindM r fun xs _ S => if xs.length ≤ sizeLine then newO (.lst xs) S else .bad
theorem s_tup (gk : GOk g) {es : List Expr} {r : M (List D)} {k : Nat} {pos : Pos} (h : SimA X g W es r) : SimE X g W (.Tuple es k pos) (mTup r) :=
  PE.imp (pe_tup h) fun σ H Q ⟨π, ρ, S, hr, hs, hp⟩ => tG_bind (R := RVs) hr hs hp fun xs vs π1 S1 H1 e1 hr1 hs1 rx hp1 => by
    split at hp1
    · rename_i hz
      refine ⟨by rw [← rx.length]; exact hz, fun p hp => ?_⟩
      have ex := Ext.upd_new (π := π1) (o := .tup vs) hp
      exact hp1 _ π1 _ ex (hs1.new gk hp) (Rel.tup (.inl upd_same) (rx.ext ex))
    · exact hp1.elim
theorem s_lst (gk : GOk g) {es : List Expr} {r : M (List D)} {pos : Pos} (h : SimA X g W es r) : SimE X g W (.List es pos) (mLst r) :=
  PE.imp (pe_lst h) fun σ H Q ⟨π, ρ, S, hr, hs, hp⟩ => tG_bind (R := RVs) hr hs hp fun xs vs π1 S1 H1 e1 hr1 hs1 rx hp1 => by
    split at hp1
    · rename_i hz
      refine ⟨by rw [← rx.length]; exact hz, fun p hp => ?_⟩
      exact post_new gk hs1 hp hp1 ⟨vs, upd_same, rx.ext (Ext.push hp)⟩
    · exact hp1.elim
end
end PI

end
section
set_option Elab.async false
set_option linter.all false
set_option maxRecDepth 100000
set_option maxHeartbeats 2000000
/-! PiCall: calls of built-ins, places, slices. -/
namespace L2
open PySem PySem.Spec PyProof.Rows
section
variable {prog : Program} {w : World} {A : Around} {E : Value → Shared → Prop} {s : Shared} {l : Addr} {its : List Value} {ns : List Int} {Q : Value → Shared → Prop}
theorem sumT_raw (hh : A.handled = none) (hl : s.heap.IsTuple l its.toArray) (hi : IntsAre its ns)
    (h : ∀ h' tk t', (∀ b o, s.heap.get? b = some o → h'.get? b = some o) → Q (.int ns.sum t') { s with heap := h', toks := tk }) : wpAny (model prog w) A (call (.builtin "sum") [.ref l]) Q E s := by
  obtain ⟨xs, e⟩ := hi.allInts.items
  have hn : numsOf (intItems xs).toList = ns := by rw [← e]; exact hi.numsOf
  rw [nums_intItems] at hn
  rw [e] at hl
  have hlt : l < s.heap.objs.size := by obtain ⟨_, e, _⟩ := hl; exact Heap.lt_size e
  refine call_sum_walkG (wpAny_pyIter_tuple hl ?_)
  have hT2 : (s.heap.push { cls := .type "tuple_iterator", data := .fields #[.ref l, .int 0 0] }).IsTuple l (intItems xs) := by
    obtain ⟨o, e1, e2⟩ := hl
    exact ⟨o, Heap.get?_push_of_some _ e1, e2⟩
  refine ⟨_, _, _, _, _, _, numAt xs, rfl, Walks.tuple (A := A.in1) hh s.heap.objs.size l (Nat.ne_of_lt hlt) (intItems xs), ⟨⟨_, Heap.get?_push_size _ rfl, rfl, rfl⟩, hT2⟩, (fun b hb => ?_), (fun _ _ => intItems_at), fun h' tk t' hk => ?_⟩
  · show b < (s.heap.push _).objs.size
    rw [Heap.size_push]
    rcases List.mem_cons.mp hb with rfl | hb
    · exact Nat.lt_succ_self _
    · rcases List.mem_cons.mp hb with rfl | hb
      · exact Nat.lt_succ_of_lt hlt
      · cases hb
  · have := h h' tk t' fun b o e => hk b o (by simpa using Nat.ne_of_lt (Heap.lt_size e)) (Heap.get?_push_of_some _ e)
    have e3 : preSum (numAt xs) (intItems xs).size = ns.sum := by
      rw [preSum_eq, List.take_of_length_le (by simp [intItems]), hn]
    show Q (.int (preSum (numAt xs) (intItems xs).size) t') _
    rw [e3]
    exact this
end
def rSumT (K : PySem.W.Frag) : List V → Hp → VK → Prop := fun vs H Q => ∃ (a : Addr) (ns : List Int), vs = [V.ref a] ∧ SqT K H a (ns.map V.int) ∧ Q (.int ns.sum) H
theorem cr_sumT {X : Cx} (hc : X.calm = true) : CallR X (.builtin "sum") (rSumT X.K) := by
  intro pins s σ H vs us Q I r h
  obtain ⟨a, ns, rfl, hs, q⟩ := h
  obtain ⟨its, rv, hl, _⟩ := I.tuple hs
  rw [Vals.ref1 r]
  exact sumT_raw (I.ok.hd hc) hl rv.ints fun h' tk t' hk => ⟨.int _, H, I.kept hk, ⟨_, rfl⟩, q⟩
end L2
namespace PI
open PySem PySem.Spec PyProof.Rows L2
/-- a built-in by values -/
def SimCall (g : G) (r : List V → Hp → VK → Prop) (f : List D → Sto → ER D) : Prop := ∀ (W : WX) (σ : L2.St) (π : List Addr) (H : Hp) (S : Sto) (Q : VK) (xs : List D) (vs : List V),
  St' g π H S → Rels g π H xs vs → Post g RV W σ π H Q (f xs S) → r vs H Q
def mCall (f : List D → Sto → ER D) (ma : M (List D)) : M D := bindM ma fun xs _ S => f xs S
section
variable {X : Cx} {g : G} {W : WX}
theorem tG_call {r : List V → Hp → VK → Prop} {f : List D → Sto → ER D} {ma : M (List D)} (hf : SimCall g r f) {σ : L2.St} {H : Hp} {Q : VK} (h : tG g RV W (mCall f ma) σ H Q) : tCB r (tG g RVs W ma) σ H Q := by
  obtain ⟨π, ρ, S, hr, hs, hp⟩ := h
  exact tG_bind (R := RVs) hr hs hp fun xs vs π1 S1 H1 e1 hr1 hs1 rx hp1 => hf W σ π1 H1 S1 Q xs vs hs1 rx hp1
theorem s_callB {id : String} {xs : Str} {e : Expr} {es : List Expr} {r : List V → Hp → VK → Prop} {f : List D → Sto → ER D} {ma : M (List D)} {p pos : Pos} (hc : CallR X (.builtin id) r) (hf : SimCall g r f) (hg : Gl X xs) (hm : X.mg xs = none) (hv : bootBuiltins xs = some (.builtin id))
    (ha : SimA X g W (e :: es) ma) (hn : xs ≠ "__name__" := by decide) (hdb : (xs == ("__debug__" : Str)) = false := by decide)
    (he : starEach (e :: es) X.env = (false, eval e X.env) :: starEach es X.env := by rfl) (hpl : (backTo pos (starEach es X.env)).any (·.1) = false := by rfl) : SimE X g W (.Call (.Name xs p) (e :: es) [] pos) (mCall f ma) :=
  PE.imp (pe_callB hc hg hm hv ha hn hdb he hpl) fun _ _ _ h => tG_call hf h
theorem s_callTy {T : String} {xs : Str} {e : Expr} {es : List Expr} {r : List V → Hp → VK → Prop} {f : List D → Sto → ER D} {ma : M (List D)} {p pos : Pos} (hc : CallR X (.type T) r) (hf : SimCall g r f) (hg : Gl X xs) (hm : X.mg xs = none) (hv : bootBuiltins xs = some (.type T))
    (ha : SimA X g W (e :: es) ma) (hn : xs ≠ "__name__" := by decide) (hdb : (xs == ("__debug__" : Str)) = false := by decide)
    (he : starEach (e :: es) X.env = (false, eval e X.env) :: starEach es X.env := by rfl) (hpl : (backTo pos (starEach es X.env)).any (·.1) = false := by rfl) : SimE X g W (.Call (.Name xs p) (e :: es) [] pos) (mCall f ma) :=
  PE.imp (pe_callTy hc hg hm hv ha hn hdb he hpl) fun _ _ _ h => tG_call hf h
/-! ### len, int, max, min, sum, sorted, tuple, list -/
theorem Rels.one {π : List Addr} {H : Hp} {d : D} {vs : List V} (h : Rels g π H [d] vs) : ∃ v, vs = [v] ∧ Rel g π H d v := by
  unfold Rels at h
  obtain ⟨v, r, rfl, h1, h2⟩ := h
  unfold Rels at h2
  subst h2
  exact ⟨v, rfl, h1⟩
theorem Rels.two {π : List Addr} {H : Hp} {d e : D} {vs : List V} (h : Rels g π H [d, e] vs) : ∃ v w, vs = [v, w] ∧ Rel g π H d v ∧ Rel g π H e w := by
  unfold Rels at h
  obtain ⟨v, r, rfl, h1, h2⟩ := h
  obtain ⟨w, rfl, h3⟩ := h2.one
  exact ⟨v, w, rfl, h1, h3⟩
def fLen : List D → Sto → ER D
  | [.str a], S => if a.length ≤ sizeLine then .ok (.int a.length) S else .bad
  | [d], S => match seqD S d with
    | some xs => .ok (.int xs.length) S
    | none => .bad
  | _, _ => .bad
theorem sim_len : SimCall g (fun xs H Q => ∃ x n, xs = [x] ∧ LenV g.K x H n ∧ Q (.int n) H) fLen := by
  intro W σ π H S Q xs vs s rx h
  unfold fLen at h
  split at h
  · split at h
    · rename_i hz
      obtain ⟨v, rfl, r⟩ := rx.one
      rw [r.str']
      exact ⟨_, _, rfl, ⟨hz, rfl⟩, Post.pure (R := RV) h s Rel.int⟩
    · exact h.elim
  · split at h
    · rename_i ys e
      obtain ⟨v, rfl, r⟩ := rx.one
      obtain ⟨a, ws, rfl, r2, r3⟩ := seqD_ok s e r
      refine ⟨_, ws.length, rfl, ?_, by rw [← r2.length]; exact Post.pure (R := RV) h s Rel.int⟩
      rcases r3 with ⟨r3, _⟩ | ⟨r3, _⟩
      · exact .inl ⟨_, r3, rfl⟩
      · exact .inr ⟨_, r3.t, rfl⟩
    · exact h.elim
  · exact h.elim
def fInt : List D → Sto → ER D
  | [.int i], S => .ok (.int i) S
  | [.bl b], S => .ok (.int (if b then 1 else 0)) S
  | _, _ => .bad
theorem sim_int : SimCall g (fun xs H Q => (∃ i, xs = [.int i] ∧ Q (.int i) H) ∨ ∃ k, xs = [.bl k] ∧ Q (.int (if k then 1 else 0)) H) fInt := by
  intro W σ π H S Q xs vs s rx h
  unfold fInt at h
  split at h
  · obtain ⟨v, rfl, r⟩ := rx.one
    rw [r.int']
    exact .inl ⟨_, rfl, Post.pure (R := RV) h s Rel.int⟩
  · obtain ⟨v, rfl, r⟩ := rx.one
    rw [r.bl']
    exact .inr ⟨_, rfl, Post.pure (R := RV) h s Rel.int⟩
  · exact h.elim
def fMax2 : List D → Sto → ER D
  | [.int i, .int j], S => .ok (.int (if j > i then j else i)) S
  | _, _ => .bad
def fMin2 : List D → Sto → ER D
  | [.int i, .int j], S => .ok (.int (if j < i then j else i)) S
  | _, _ => .bad
theorem sim_max2 : SimCall g (fun xs H Q => ∃ i j, xs = [.int i, .int j] ∧ Q (.int (if j > i then j else i)) H) fMax2 := by
  intro W σ π H S Q xs vs s rx h
  unfold fMax2 at h
  split at h
  · obtain ⟨v, w, rfl, r1, r2⟩ := rx.two
    rw [r1.int', r2.int']
    exact ⟨_, _, rfl, Post.pure (R := RV) h s Rel.int⟩
  · exact h.elim
theorem sim_min2 : SimCall g (fun xs H Q => ∃ i j, xs = [.int i, .int j] ∧ Q (.int (if j < i then j else i)) H) fMin2 := by
  intro W σ π H S Q xs vs s rx h
  unfold fMin2 at h
  split at h
  · obtain ⟨v, w, rfl, r1, r2⟩ := rx.two
    rw [r1.int', r2.int']
    exact ⟨_, _, rfl, Post.pure (R := RV) h s Rel.int⟩
  · exact h.elim
/-- all ints -/
def intsD : List D → Option (List Int)
  | [] => some []
  | .int i :: r => (intsD r).map (i :: ·)
  | _ :: _ => none
theorem intsD_map : ∀ ns : List Int, intsD (ns.map D.int) = some ns
  | [] => rfl
  | n :: ns => by simp [intsD, intsD_map ns]
theorem intsD_eq : ∀ {ds : List D} {ns : List Int}, intsD ds = some ns → ds = ns.map D.int
  | [], ns, h => by cases h; rfl
  | d :: ds, ns, h => by
    cases d with
    | int i =>
      cases e : intsD ds with
      | none => simp [intsD, e] at h
      | some ms =>
        simp [intsD, e] at h
        subst h
        rw [intsD_eq e]
        rfl
    | _ => simp [intsD] at h
def fSum : List D → Sto → ER D
  | [d], S => match (seqD S d).bind intsD with
    | some ns => .ok (.int ns.sum) S
    | none => .bad
  | _, _ => .bad
theorem seqI_ok {π : List Addr} {H : Hp} {S : Sto} (s : St' g π H S) {d : D} {v : V} {ns : List Int} (h : (seqD S d).bind intsD = some ns) (r : Rel g π H d v) : ∃ a, v = .ref a ∧ (SqL g.K H a (ns.map V.int) ∨ SqT g.K H a (ns.map V.int)) := by
  cases e : seqD S d with
  | none => rw [e] at h; cases h
  | some xs =>
    rw [e] at h
    have e2 := intsD_eq (show intsD xs = some ns from h)
    subst e2
    obtain ⟨a, vs, rfl, r2, r3⟩ := seqD_ok s e r
    rw [r2.ints_inv] at r3
    exact ⟨a, rfl, r3.imp (·.1) (·.1.t)⟩
theorem sim_sum : SimCall g (fun xs H Q => rSum g.K xs H Q ∨ rSumT g.K xs H Q) fSum := by
  intro W σ π H S Q xs vs s rx h
  unfold fSum at h
  split at h
  · split at h
    · rename_i ns e
      obtain ⟨v, rfl, r⟩ := rx.one
      obtain ⟨a, rfl, r3⟩ := seqI_ok s e r
      have q := Post.pure (R := RV) h s Rel.int
      rcases r3 with r3 | r3
      · exact .inl ⟨a, ns, rfl, r3, q⟩
      · exact .inr ⟨a, ns, rfl, r3, q⟩
    · exact h.elim
  · exact h.elim
theorem cr_sumAll (hc : X.calm = true) : CallR X (.builtin "sum") (fun xs H Q => rSum X.K xs H Q ∨ rSumT X.K xs H Q) := CallR.or (cr_sum hc) (cr_sumT hc)
/-- a list of ints in order -/
def sortI (ns : List Int) : List Int := ns.mergeSort (fun a b => decide (a ≤ b))
theorem sortI_unique {ns ms : List Int} (h : ms.Perm ns) (hs : ms.Pairwise (· ≤ ·)) : ms = sortI ns := by
  have h1 : (sortI ns).Perm ns := List.mergeSort_perm _ _
  have h2 : (sortI ns).Pairwise (fun a b => decide (a ≤ b) = true) := List.pairwise_mergeSort (fun a b c => by simp; omega) (fun a b => by simp; omega) ns
  have h3 : (sortI ns).Pairwise (· ≤ ·) := h2.imp fun h => of_decide_eq_true h
  refine List.Perm.eq_of_pairwise (le := (· ≤ ·)) (fun a b _ _ x y => by omega) hs h3 (h.trans h1.symm)
def fSorted : List D → Sto → ER D
  | [d], S => match d, (seqD S d).bind intsD with
    | .loc _, some ns => newO (.lst ((sortI ns).map D.int)) S
    | _, _ => .bad
  | _, _ => .bad
theorem sim_sorted (gk : GOk g) : SimCall g (rSortedI g.K) fSorted := by
  intro W σ π H S Q xs vs s rx h
  unfold fSorted at h
  split at h
  · split at h
    · rename_i n ns e
      obtain ⟨v, rfl, r⟩ := rx.one
      obtain ⟨a, rfl, r3⟩ : ∃ a, v = .ref a ∧ SqL g.K H a (ns.map V.int) := by
        cases e1 : seqD S (.loc n) with
        | none => rw [e1] at e; cases e
        | some ys =>
          rw [e1] at e
          have e2 := intsD_eq (show intsD ys = some ns from e)
          subst e2
          obtain ⟨a, ws, rfl, r2, r4⟩ := seqD_ok s e1 r
          rw [r2.ints_inv] at r4
          rcases r4 with ⟨r4, _⟩ | ⟨_, z⟩
          · exact ⟨a, rfl, r4⟩
          · cases z
      refine ⟨a, ns, rfl, r3, fun ms p h1 h2 hp => ?_⟩
      rw [sortI_unique h1 h2]
      exact post_new gk s hp h ⟨_, upd_same, Rels.ints _⟩
    · exact h.elim
  · exact h.elim
def fTuple : List D → Sto → ER D
  | [d], S => match seqD S d with
    | some xs => .ok (.tup xs) S
    | none => .bad
  | _, _ => .bad
theorem sim_tuple (gk : GOk g) : SimCall g (fun xs H Q => ∃ p ys, xs = [.ref p] ∧ ((SqL g.K H p ys ∧ ∀ l, H l = none → Q (.ref l) (upd H l (.tup ys))) ∨ (SqT g.K H p ys ∧ Q (.ref p) H))) fTuple := by
  intro W σ π H S Q xs vs s rx h
  unfold fTuple at h
  split at h
  · split at h
    · rename_i ys e
      obtain ⟨v, rfl, r⟩ := rx.one
      obtain ⟨a, ws, rfl, r2, r3⟩ := seqD_ok s e r
      refine ⟨a, ws, rfl, ?_⟩
      rcases r3 with ⟨r3, _⟩ | ⟨r3, ed⟩
      · refine .inl ⟨r3, fun l hl => ?_⟩
        have ex := Ext.upd_new (π := π) (o := .tup ws) hl
        exact h _ π _ ex (s.new gk hl) (Rel.tup (.inl upd_same) (r2.ext ex))
      · exact .inr ⟨r3.t, Post.pure (R := RV) h s (Rel.tup r3 r2)⟩
    · exact h.elim
  · exact h.elim
def fList : List D → Sto → ER D
  | [d], S => match seqD S d with
    | some xs => newO (.lst xs) S
    | none => .bad
  | _, _ => .bad
theorem sim_list (gk : GOk g) : SimCall g (fun xs H Q => ∃ p ys, xs = [.ref p] ∧ (SqL g.K H p ys ∨ SqT g.K H p ys) ∧ ∀ l, H l = none → Q (.ref l) (upd H l (.lst ys))) fList := by
  intro W σ π H S Q xs vs s rx h
  unfold fList at h
  split at h
  · split at h
    · rename_i ys e
      obtain ⟨v, rfl, r⟩ := rx.one
      obtain ⟨a, ws, rfl, r2, r3⟩ := seqD_ok s e r
      exact ⟨a, ws, rfl, r3.imp (·.1) (·.1.t), fun l hl => post_new gk s hl h ⟨_, upd_same, r2.ext (Ext.push hl)⟩⟩
    · exact h.elim
  · exact h.elim
/-! ### isinstance of a built-in class -/
def tyD (S : Sto) : D → Option String
  | .non => some "NoneType"
  | .bl _ => some "bool"
  | .int _ => some "int"
  | .str _ => some "str"
  | .tup _ => some "tuple"
  | .loc n => match S[n]? with
    | some (.lst _) => some "list"
    | some (.fro _) => some "list"
    | some (.dK _) => some "dict"
    | some (.froK _) => none
    | none => none
  | .fn _ => none
/-! ### places and slices -/
def rIxAll (K : PySem.W.Frag) : R2 := fun x y H Q => rIxL K x y H Q ∨ rIxT K x y H Q
theorem IxR.or {r r' : R2} (h : IxR X r) (h' : IxR X r') : IxR X (fun x y H Q => r x y H Q ∨ r' x y H Q) := by
  intro a b pins s σ H x y v u Q I rx ry q hs
  rcases q with q | q
  · exact h a b pins s σ H x y v u Q I rx ry q hs
  · exact h' a b pins s σ H x y v u Q I rx ry q hs
theorem ix_all : IxR X (rIxAll X.K) := IxR.or ix_list ix_tup
def opIx : D → D → Sto → ER D := fun x y S => match seqD S x, y with
  | some xs, .int i => match atI xs i with
    | some d => .ok d S
    | none => .bad
  | _, _ => .bad
theorem Rels.atI {π : List Addr} {H : Hp} {xs : List D} {vs : List V} {i : Int} {d : D} (r : Rels g π H xs vs) (h : L2.atI xs i = some d) : ∃ v, L2.atI vs i = some v ∧ Rel g π H d v := by
  unfold L2.atI at h ⊢
  rw [← r.length]
  cases e : ixN xs.length i with
  | none => rw [e] at h; cases h
  | some j =>
    rw [e] at h
    exact r.get h
theorem sim_ix : SimOp g (rIxAll g.K) opIx := by
  intro W σ π H S Q x y v w s rx ry h
  unfold opIx at h
  split at h
  · rename_i xs i e1
    split at h
    · rename_i d e2
      obtain ⟨a, vs, rfl, r2, r3⟩ := seqD_ok s e1 rx
      rw [ry.int']
      obtain ⟨v, h1, h2⟩ := r2.atI e2
      have q := Post.pure (R := RV) h s h2
      rcases r3 with ⟨r3, _⟩ | ⟨r3, _⟩
      · exact .inl ⟨a, vs, i, v, rfl, rfl, r3, h1, q⟩
      · exact .inr ⟨a, vs, i, v, rfl, rfl, r3.t, h1, q⟩
    · exact h.elim
  · exact h.elim
theorem s_ix {a b : Expr} {ma mb : M D} {pos : Pos} (hK : X.K = g.K) (ha : SimE X g W a ma) (hb : SimE X g W b mb) (hs : PlainIx b) : SimE X g W (.Subscript a b pos) (mOp opIx ma mb) := by
  refine PE.imp (pe_ix ix_all ha hb hs) fun _ _ _ h => ?_
  rw [hK]
  exact tG_op sim_ix h
abbrev RO : RelT (Option Int) (Option Int) := fun _ _ _ a b => a = b
instance : RExt RO := ⟨fun _ h => h⟩
abbrev SimO (X : Cx) (g : G) (W : WX) (e : Option Expr) (m : M (Option Int)) : Prop := PO X e (tG g RO W m)
theorem PO.imp {e : Option Expr} {t t' : TO} (h : PO X e t) (i : ∀ σ H Q, t' σ H Q → t σ H Q) : PO X e t' := ⟨fun pins s σ H Q I q => h.run pins s σ H Q I (i σ H Q q)⟩
def mNoO : M (Option Int) := pureM none
def mSomeO (m : M D) : M (Option Int) := bindM m fun x _ S => match x with
  | .int i => .ok (some i) S
  | _ => .bad
theorem so_none : SimO X g W none mNoO := PO.imp po_none fun σ H Q ⟨π, ρ, S, hr, hs, hp⟩ => Post.pure (R := RO) hp hs rfl
theorem so_some {e : Expr} {m : M D} (h : SimE X g W e m) : SimO X g W (some e) (mSomeO m) := PO.imp (po_some h) fun σ H Q ⟨π, ρ, S, hr, hs, hp⟩ =>
  tG_bind (R := RV) hr hs hp fun x v π1 S1 H1 e1 hr1 hs1 rx hp1 => by
    cases x with
    | int i => exact ⟨i, rx.int', Post.pure (R := RO) hp1 hs1 rfl⟩
    | _ => exact hp1.elim
/-- a piece of a list of data -/
def cutD {α : Type} (xs : List α) (lo hi : Option Int) : List α := (xs.drop (HT.sIx xs.length 0 lo)).take (HT.sIx xs.length xs.length hi - HT.sIx xs.length 0 lo)
theorem Rels.cut {π : List Addr} {H : Hp} {xs : List D} {vs : List V} {lo hi : Option Int} (r : Rels g π H xs vs) : Rels g π H (cutD xs lo hi) (cutV vs lo hi) := by
  unfold cutD cutV
  rw [← r.length]
  exact (r.drop _).take _
theorem cut_whole {xs : List D} {lo hi : Option Int} (h : HT.sIx xs.length 0 lo = 0 ∧ HT.sIx xs.length xs.length hi = xs.length) : cutD xs lo hi = xs := by
  unfold cutD
  rw [h.1, h.2]
  simp
def opSl (x : D) (lo hi : Option Int) (S : Sto) : ER D := match x with
  | .tup xs => .ok (.tup (cutD xs lo hi)) S
  | .loc _ => match seqD S x with
    | some xs => newO (.lst (cutD xs lo hi)) S
    | none => .bad
  | _ => .bad
def mSl (m : M D) (ml mh : M (Option Int)) : M D := bindM m fun x => bindM ml fun lo => bindM mh fun hi _ S => opSl x lo hi S
theorem sl_all : SlR X (fun x lo hi H Q => rSlL X.K x lo hi H Q ∨ rSlA X.K x lo hi H Q) := SlR.or sl_list sl_tupA
theorem s_slice (gk : GOk g) (hK : X.K = g.K) {e : Expr} {lo hi : Option Expr} {m : M D} {ml mh : M (Option Int)} {pos p2 : Pos} (he : SimE X g W e m) (hl : SimO X g W lo ml) (hh : SimO X g W hi mh) : SimE X g W (.Subscript e (.Slice lo hi none p2) pos) (mSl m ml mh) := by
  refine PE.imp (pe_slice sl_all he hl hh) fun σ H Q ⟨π, ρ, S, hr, hs, hp⟩ => ?_
  refine tG_bind (R := RV) hr hs hp fun x v π1 S1 H1 e1 hr1 hs1 rx hp1 => ?_
  refine tG_bind (R := RO) hr1 hs1 hp1 fun l l' π2 S2 H2 e2 hr2 hs2 rl hp2 => ?_
  refine tG_bind (R := RO) hr2 hs2 hp2 fun u u' π3 S3 H3 e3 hr3 hs3 ru hp3 => ?_
  cases (show l = l' from rl)
  cases (show u = u' from ru)
  rw [hK]
  have rx3 := (rx.ext e2).ext e3
  unfold opSl at hp3
  split at hp3
  · rename_i xs
    obtain ⟨a, vs, rfl, h1, h2⟩ := rx3.tup'
    have hl := h2.length
    refine .inr ⟨a, vs, rfl, h1.t, fun hw => ?_, fun hw p hp => ?_⟩
    · rw [← hl] at hw
      rw [cut_whole hw] at hp3
      exact Post.pure (R := RV) hp3 hs3 (Rel.tup h1 h2)
    · have ex := Ext.upd_new (π := π3) (o := .tup (cutV vs l u)) hp
      exact hp3 _ π3 _ ex (hs3.new gk hp) (Rel.tup (.inl upd_same) (h2.cut.ext ex))
  · rename_i n
    split at hp3
    · rename_i xs e4
      obtain ⟨a, vs, rfl, r2, r3⟩ := seqD_ok hs3 e4 rx3
      rcases r3 with ⟨r3, _⟩ | ⟨_, z⟩
      · exact .inl ⟨a, vs, rfl, r3, fun p hp => post_new gk hs3 hp hp3 ⟨_, upd_same, r2.cut.ext (Ext.push hp)⟩⟩
      · cases z
    · exact hp3.elim
  · exact hp3.elim
end
end PI

end
section
set_option Elab.async false
set_option linter.all false
set_option maxRecDepth 100000
set_option maxHeartbeats 2000000
/-! PiStmt: statements, loops, calls of defs. -/
namespace PI
open PySem PySem.Spec PyProof.Rows L2
inductive SR where
  | nx (ρ : Rho) (S : Sto)
  | rt (d : D) (S : Sto)
  | bk (ρ : Rho) (S : Sto)
  | ct (ρ : Rho) (S : Sto)
  | ex (c : Nat) (w : D) (ρ : Rho) (S : Sto)
  | bad
abbrev MS := Rho → Sto → SR
def PostS (g : G) (W : WX) (Dn : Ends) (π : List Addr) (H : Hp) : SR → Prop
  | .nx ρ S => ∀ σ' π' H', Ext π H π' H' → RelR g π' H' ρ σ' → St' g π' H' S → Dn.nx σ' H'
  | .rt d S => ∀ v π' H', Ext π H π' H' → St' g π' H' S → Rel g π' H' d v → Dn.rt v H'
  | .bk ρ S => ∀ σ' π' H', Ext π H π' H' → RelR g π' H' ρ σ' → St' g π' H' S → Dn.bk σ' H'
  | .ct ρ S => ∀ σ' π' H', Ext π H π' H' → RelR g π' H' ρ σ' → St' g π' H' S → Dn.ct σ' H'
  | .ex c w ρ S => ∀ σ' a wv π' H', Ext π H π' H' → RelR g π' H' ρ σ' → St' g π' H' S → Rel g π' H' w wv → H' a = some (.xd [("what", wv)]) → W (.ref (g.C c)) (some a) σ' H'
  | .bad => False
theorem PostS.mono {g : G} {W : WX} {Dn : Ends} {π π' : List Addr} {H H' : Hp} (e : Ext π H π' H') : ∀ {r : SR}, PostS g W Dn π H r → PostS g W Dn π' H' r
  | .nx _ _, h => fun σ π2 H2 e2 => h σ π2 H2 (e.trans e2)
  | .rt _ _, h => fun v π2 H2 e2 => h v π2 H2 (e.trans e2)
  | .bk _ _, h => fun σ π2 H2 e2 => h σ π2 H2 (e.trans e2)
  | .ct _ _, h => fun σ π2 H2 e2 => h σ π2 H2 (e.trans e2)
  | .ex _ _ _ _, h => fun σ a w π2 H2 e2 => h σ a w π2 H2 (e.trans e2)
  | .bad, h => h
def tS (g : G) (W : WX) (m : MS) : TS := fun Dn σ H => ∃ π ρ S, RelR g π H ρ σ ∧ St' g π H S ∧ PostS g W Dn π H (m ρ S)
abbrev SimS (X : Cx) (g : G) (W : WX) (st : Stmt) (m : MS) : Prop := PS X st (tS g W m)
abbrev SimB (X : Cx) (g : G) (W : WX) (st : List Stmt) (m : MS) : Prop := PSs X st (tS g W m)
def bindS {α : Type} (ma : M α) (k : α → MS) : MS := fun ρ S => match ma ρ S with
  | .ok a S1 => k a ρ S1
  | .ex c w S1 => .ex c w ρ S1
  | .bad => .bad
section
variable {X : Cx} {g : G} {W : WX} {σ : L2.St} {π : List Addr} {H : Hp}
theorem tS_bind {α β : Type} {R : RelT α β} {Dn : Ends} {ma : M α} {k : α → MS} {REST : β → Hp → Prop} {ρ : Rho} {S : Sto} (hr : RelR g π H ρ σ) (hs : St' g π H S) (hp : PostS g W Dn π H (bindS ma k ρ S))
    (hk : ∀ a b π1 S1 H1, Ext π H π1 H1 → RelR g π1 H1 ρ σ → St' g π1 H1 S1 → R g π1 H1 a b → PostS g W Dn π1 H1 (k a ρ S1) → REST b H1) : tG g R W ma σ H REST := by
  refine ⟨π, ρ, S, hr, hs, ?_⟩
  unfold bindS at hp
  cases e : ma ρ S with
  | ok a S1 =>
    rw [e] at hp
    intro b π' H' ex st r
    exact hk a b π' S1 H' ex (hr.ext ex) st r (PostS.mono ex hp)
  | ex c w S1 =>
    rw [e] at hp
    exact fun a wv π' H' ex st r x => hp σ a wv π' H' ex (hr.ext ex) st r x
  | bad =>
    rw [e] at hp
    exact hp
/-! ### blocks -/
def sNil : MS := fun ρ S => .nx ρ S
def sSeq (a b : MS) : MS := fun ρ S => match a ρ S with
  | .nx ρ1 S1 => b ρ1 S1
  | r => r
theorem b_nil : SimB X g W [] sNil := PSs.imp pss_nil fun Dn σ H ⟨π, ρ, S, hr, hs, hp⟩ => hp σ π H (.refl _ _) hr hs
theorem PostS.nxAt {Dn : Ends} {ρ : Rho} {S : Sto} (h : PostS g W Dn π H (.nx ρ S)) (hr : RelR g π H ρ σ) (hs : St' g π H S) : Dn.nx σ H := h σ π H (.refl _ _) hr hs
theorem PostS.rtAt {Dn : Ends} {d : D} {v : V} {S : Sto} (h : PostS g W Dn π H (.rt d S)) (hs : St' g π H S) (hd : Rel g π H d v) : Dn.rt v H := h v π H (.refl _ _) hs hd
theorem tS_seq {a b : MS} {Dn : Ends} {H : Hp} (h : tS g W (sSeq a b) Dn σ H) : tSeq (tS g W a) (tS g W b) Dn σ H := by
  obtain ⟨π, ρ, S, hr, hs, hp⟩ := h
  refine ⟨π, ρ, S, hr, hs, ?_⟩
  unfold sSeq at hp
  cases e : a ρ S with
  | nx ρ1 S1 =>
    rw [e] at hp
    exact fun σ' π' H' ex hr' hs' => ⟨π', ρ1, S1, hr', hs', PostS.mono ex hp⟩
  | rt _ _ => rw [e] at hp; exact hp
  | bk _ _ => rw [e] at hp; exact hp
  | ct _ _ => rw [e] at hp; exact hp
  | ex _ _ _ _ => rw [e] at hp; exact hp
  | bad => rw [e] at hp; exact hp
theorem b_cons {st : Stmt} {rest : List Stmt} {a b : MS} (h1 : SimS X g W st a) (h2 : SimB X g W rest b) : SimB X g W (st :: rest) (sSeq a b) := PSs.imp (pss_cons h1 h2) fun _ _ _ h => tS_seq h
theorem b_one {st : Stmt} {a : MS} (h1 : SimS X g W st a) : SimB X g W [st] a := pss_one h1
/-! ### small statements -/
def sPass : MS := fun ρ S => .nx ρ S
def sBreak : MS := fun ρ S => .bk ρ S
def sCont : MS := fun ρ S => .ct ρ S
def sExpr (m : M D) : MS := bindS m fun _ ρ S => .nx ρ S
def sRet (m : M D) : MS := bindS m fun d _ S => .rt d S
def sRetN : MS := fun _ S => .rt .non S
theorem s_pass {pos : Pos} : SimS X g W (.Pass pos) sPass := PS.imp ps_pass fun Dn σ H ⟨π, ρ, S, hr, hs, hp⟩ => hp.nxAt hr hs
theorem s_break {pos : Pos} : SimS X g W (.Break pos) sBreak := PS.imp ps_break fun Dn σ H ⟨π, ρ, S, hr, hs, hp⟩ => hp σ π H (.refl _ _) hr hs
theorem s_cont {pos : Pos} : SimS X g W (.Continue pos) sCont := PS.imp ps_continue fun Dn σ H ⟨π, ρ, S, hr, hs, hp⟩ => hp σ π H (.refl _ _) hr hs
theorem s_doc {x j pos pos'} : SimS X g W (.Expr (.Constant (.str x) j pos) pos') sPass := PS.imp ps_doc fun Dn σ H ⟨π, ρ, S, hr, hs, hp⟩ => hp.nxAt hr hs
theorem s_expr {e : Expr} {m : M D} {pos : Pos} (h : SimE X g W e m) (hs : swapsWith e none pos.line X.env = pure false := by rfl) : SimS X g W (.Expr e pos) (sExpr m) :=
  PS.imp (ps_expr h hs) fun Dn σ H ⟨π, ρ, S, hr, hs, hp⟩ => tS_bind (R := RV) hr hs hp fun x v π1 S1 H1 e1 hr1 hs1 rx hp1 => hp1.nxAt hr1 hs1
theorem s_ret {e : Expr} {m : M D} {pos : Pos} (h : SimE X g W e m) : SimS X g W (.Return (some e) pos) (sRet m) :=
  PS.imp (ps_ret h) fun Dn σ H ⟨π, ρ, S, hr, hs, hp⟩ => tS_bind (R := RV) hr hs hp fun x v π1 S1 H1 e1 hr1 hs1 rx hp1 => hp1.rtAt hs1 rx
theorem s_retN {pos : Pos} : SimS X g W (.Return none pos) sRetN := PS.imp ps_retN fun Dn σ H ⟨π, ρ, S, hr, hs, hp⟩ => hp.rtAt hs Rel.non
def sIf (c : M Bool) (a b : MS) : MS := bindS c fun k => if k then a else b
theorem s_if {c : Expr} {a b : List Stmt} {mc : M Bool} {ma mb : MS} {pos : Pos} (hc : SimT X g W c mc) (ha : SimB X g W a ma) (hb : SimB X g W b mb) : SimS X g W (.If c a b pos) (sIf mc ma mb) :=
  PS.imp (ps_if hc ha hb) fun Dn σ H ⟨π, ρ, S, hr, hs, hp⟩ => tS_bind (R := RB) hr hs hp fun x b π1 S1 H1 e1 hr1 hs1 rx hp1 => by
    cases (show x = b from rx)
    cases x with
    | true => exact ⟨π1, ρ, S1, hr1, hs1, hp1⟩
    | false => exact ⟨π1, ρ, S1, hr1, hs1, hp1⟩
/-! ### targets -/
inductive Pat where
  | name (i : Nat)
  | tup (ps : List Pat)
mutual
def bindP : Pat → D → Rho → Option Rho
  | .name i, d, ρ => some (ρ.set i (some d))
  | .tup ps, .tup ds, ρ => bindPs ps ds ρ
  | .tup _, _, _ => none
def bindPs : List Pat → List D → Rho → Option Rho
  | [], [], ρ => some ρ
  | p :: ps, d :: ds, ρ => match bindP p d ρ with
    | some ρ1 => bindPs ps ds ρ1
    | none => none
  | _, _, _ => none
end
mutual
def Pat.names : Pat → List Nat
  | .name i => [i]
  | .tup ps => patNames ps
def patNames : List Pat → List Nat
  | [] => []
  | p :: ps => p.names ++ patNames ps
end
/-- the same but at these slots -/
def Off (ns : List Nat) (σ σ1 : L2.St) : Prop := σ1.length = σ.length ∧ ∀ i, i ∉ ns → σ1[i]? = σ[i]?
theorem Off.refl (ns : List Nat) (σ : L2.St) : Off ns σ σ := ⟨rfl, fun _ _ => rfl⟩
theorem Off.trans {ns ms : List Nat} {σ σ1 σ2 : L2.St} (a : Off ns σ σ1) (b : Off ms σ1 σ2) : Off (ns ++ ms) σ σ2 :=
  ⟨b.1.trans a.1, fun i hi => by
    rw [List.mem_append, not_or] at hi
    rw [b.2 i hi.2, a.2 i hi.1]⟩
theorem Off.set {i : Nat} {σ : L2.St} {v : Option V} : Off [i] σ (σ.set i v) := ⟨by simp, fun j hj => by
  rw [List.getElem?_set_ne (fun e => hj (by rw [← e]; simp))]⟩
/-- a target read by a pattern -/
abbrev tP (g : G) (p : Pat) : TG := fun v σ H Q => ∃ π d ρ S, RelR g π H ρ σ ∧ St' g π H S ∧ Rel g π H d v ∧ ∃ ρ1, bindP p d ρ = some ρ1 ∧ ∀ σ1, RelR g π H ρ1 σ1 → Off p.names σ σ1 → Q σ1 H
abbrev tPs (g : G) (ps : List Pat) : TGs := fun vs σ H Q => ∃ π ds ρ S, RelR g π H ρ σ ∧ St' g π H S ∧ Rels g π H ds vs ∧ ∃ ρ1, bindPs ps ds ρ = some ρ1 ∧ ∀ σ1, RelR g π H ρ1 σ1 → Off (patNames ps) σ σ1 → Q σ1 H
abbrev SimP (X : Cx) (g : G) (tg : Expr) (p : Pat) : Prop := PG X tg (tP g p)
abbrev SimPs (X : Cx) (g : G) (tgs : List Expr) (ps : List Pat) : Prop := PGs X tgs (tPs g ps)
theorem PG.imp {e : Expr} {t t' : TG} (h : PG X e t) (i : ∀ v σ H Q, t' v σ H Q → t v σ H Q) : PG X e t' := ⟨fun pins s σ H v u Q I r q => h.run pins s σ H v u Q I r (i v σ H Q q)⟩
theorem PGs.imp {e : List Expr} {t t' : TGs} (h : PGs X e t) (i : ∀ v σ H Q, t' v σ H Q → t v σ H Q) : PGs X e t' := ⟨fun pins s σ H v u Q I r q => h.run pins s σ H v u Q I r (i v σ H Q q)⟩
theorem p_name {i : Nat} {x : Str} {pos : Pos} (hN : X.N.Nodup) (hi : X.N[i]? = some x) (hx : Loc X.env.scope x) (hf : X.fn x = true ∨ X.env.scope.names.lookup x = some .local) : SimP X g (.Name x pos) (.name i) :=
  PG.imp (pg_name hN hi hx hf) fun v σ H Q ⟨π, d, ρ, S, hr, hs, rd, ρ1, e, q⟩ => by
    unfold bindP at e
    cases e
    exact q _ (hr.set rd i) (by unfold Pat.names; exact Off.set)
theorem ps_nil' : SimPs X g [] [] := PGs.imp pgs_nil fun vs σ H Q ⟨π, ds, ρ, S, hr, hs, rd, ρ1, e, q⟩ => by
  cases ds with
  | nil =>
    unfold bindPs at e
    cases e
    unfold Rels at rd
    exact ⟨rd, q _ hr (.refl _ _)⟩
  | cons d ds => simp [bindPs] at e
theorem ps_cons' {e : Expr} {es : List Expr} {p : Pat} {ps : List Pat} (h1 : SimP X g e p) (h2 : SimPs X g es ps) (hs : (assignEach (e :: es) X.env).map (·.2) = assign e X.env :: (assignEach es X.env).map (·.2) := by rfl) : SimPs X g (e :: es) (p :: ps) :=
  PGs.imp (pgs_cons h1 h2 hs) fun vs σ H Q ⟨π, ds, ρ, S, hr, hs, rd, ρ1, e, q⟩ => by
    cases ds with
    | nil => simp [bindPs] at e
    | cons d ds =>
      unfold bindPs at e
      unfold Rels at rd
      obtain ⟨v, r, rfl, r1, r2⟩ := rd
      cases e1 : bindP p d ρ with
      | none => rw [e1] at e; cases e
      | some ρ2 =>
        rw [e1] at e
        exact ⟨v, r, rfl, π, d, ρ, S, hr, hs, r1, ρ2, e1, fun σ1 hr1 o1 => ⟨π, ds, ρ2, S, hr1, hs, r2, ρ1, e, fun σ2 hr2 o2 => q σ2 hr2 (by unfold patNames; exact o1.trans o2)⟩⟩
theorem bindPs_len : ∀ {ps : List Pat} {ds : List D} {ρ ρ1 : Rho}, bindPs ps ds ρ = some ρ1 → ds.length = ps.length
  | [], [], _, _, _ => rfl
  | p :: ps, d :: ds, ρ, ρ1, h => by
    unfold bindPs at h
    cases e : bindP p d ρ with
    | none => rw [e] at h; cases h
    | some ρ2 =>
      rw [e] at h
      simp [bindPs_len h]
  | [], _ :: _, _, _, h => by simp [bindPs] at h
  | _ :: _, [], _, _, h => by simp [bindPs] at h
theorem p_tup (hK : X.K = g.K) {es : List Expr} {k : Nat} {pos : Pos} {ps : List Pat} (hc : X.calm = true) (h : SimPs X g es ps) (hn : (assignEach es X.env).length = ps.length := by rfl) (hst : (assignEach es X.env).findIdx? (·.1) = none := by rfl) :
    SimP X g (.Tuple es k pos) (.tup ps) := PG.imp (pg_tup hc h hn hst) fun v σ H Q ⟨π, d, ρ, S, hr, hs, rd, ρ1, e, q⟩ => by
  cases d with
  | tup ds =>
    obtain ⟨a, vs, rfl, h1, h2⟩ := rd.tup'
    have hl : ds.length = ps.length := bindPs_len (by simpa [bindP] using e)
    rw [hK]
    exact ⟨a, vs, rfl, h1.t, by rw [← h2.length]; exact hl, π, ds, ρ, S, hr, hs, h2, ρ1, by simpa [bindP] using e, fun σ1 hr1 o1 => q σ1 hr1 (by unfold Pat.names; exact o1)⟩
  | _ => simp [bindP] at e
/-! ### stores -/
def sAsg (p : Pat) (m : M D) : MS := bindS m fun d ρ S => match bindP p d ρ with
  | some ρ1 => .nx ρ1 S
  | none => .bad
theorem tS_asg {p : Pat} {m : M D} {Dn : Ends} {H : Hp} (h : tS g W (sAsg p m) Dn σ H) : tAsg (tG g RV W m) (tP g p) Dn σ H := by
  obtain ⟨π, ρ, S, hr, hs, hp⟩ := h
  refine tS_bind (R := RV) hr hs hp fun x v π1 S1 H1 e1 hr1 hs1 rx hp1 => ?_
  cases e : bindP p x ρ with
  | none => rw [e] at hp1; exact hp1.elim
  | some ρ1 =>
    rw [e] at hp1
    exact ⟨π1, x, ρ, S1, hr1, hs1, rx, ρ1, e, fun σ1 hr2 _ => hp1.nxAt hr2 hs1⟩
theorem s_asg {tg e : Expr} {p : Pat} {m : M D} {pos : Pos} (he : SimE X g W e m) (hg : SimP X g tg p) (hs : swapsWithSole [tg] e pos.line X.env = pure false := by rfl) (hw : swappedStores [tg] e X.env = pure none := by rfl)
    (h1 : (assignEach [tg] X.env).map (·.2) = [assign tg X.env] := by rfl) : SimS X g W (.Assign [tg] e pos) (sAsg p m) := PS.imp (ps_asg he hg hs hw h1) fun _ _ _ h => tS_asg h
theorem s_set {i : Nat} {x : Str} {e : Expr} {m : M D} {pos pos' : Pos} (hN : X.N.Nodup) (hi : X.N[i]? = some x) (hx : Loc X.env.scope x) (he : SimE X g W e m) (hf : X.fn x = true ∨ X.env.scope.names.lookup x = some .local)
    (hs : swapsWith e (some (.Name x pos')) pos.line X.env = pure false := by rfl) : SimS X g W (.Assign [.Name x pos'] e pos) (sAsg (.name i) m) :=
  PS.imp (ps_set hN hi hx he hs hf) fun Dn σ H ⟨π, ρ, S, hr, hs, hp⟩ => tS_bind (R := RV) hr hs hp fun x v π1 S1 H1 e1 hr1 hs1 rx hp1 => hp1.nxAt (hr1.set rx i) hs1
/-- a, b = x, y, plain local names -/
def sPar (i j : Nat) (ma : M (List D)) : MS := bindS ma fun ds ρ S => match ds with
  | [d, e] => .nx ((ρ.set i (some d)).set j (some e)) S
  | _ => .bad
theorem s_par {i j : Nat} {x y : Str} {a b : Expr} {ma : M (List D)} {px py pt pos : Pos} {kt k2 pt2} (hc : X.calm = true) (hN : X.N.Nodup) (hi : X.N[i]? = some x) (hj : X.N[j]? = some y) (hij : i ≠ j)
    (hx : X.env.scope.names.lookup x = some .local) (hy : X.env.scope.names.lookup y = some .local) (ha : SimA X g W [a, b] ma)
    (hw : swappedStores [.Tuple [.Name x px, .Name y py] kt pt] (.Tuple [a, b] k2 pt2) X.env = pure (some [x, y]))
    (hs : swapsWithSole [.Tuple [.Name x px, .Name y py] kt pt] (.Tuple [a, b] k2 pt2) pos.line X.env = pure false := by rfl) :
    SimS X g W (.Assign [.Tuple [.Name x px, .Name y py] kt pt] (.Tuple [a, b] k2 pt2) pos) (sPar i j ma) :=
  PS.imp (ps_par hc hN hi hj hij hx hy ha hw hs) fun Dn σ H ⟨π, ρ, S, hr, hs, hp⟩ => tS_bind (R := RVs) hr hs hp fun xs vs π1 S1 H1 e1 hr1 hs1 rx hp1 => by
    split at hp1
    · obtain ⟨v, w, rfl, r1, r2⟩ := rx.two
      exact ⟨v, w, rfl, hp1.nxAt ((hr1.set r1 i).set r2 j) hs1⟩
    · exact hp1.elim
/-- x op= e -/
def sAug (i : Nat) (op : D → D → Sto → ER D) (m : M D) : MS := fun ρ S => match ρ[i]? with
  | some (some x) => bindS m (fun y ρ S1 => match op x y S1 with
    | .ok z S2 => .nx (ρ.set i (some z)) S2
    | _ => .bad) ρ S
  | _ => .bad
def SimIp (g : G) (t : TIp) (op : D → D → Sto → ER D) : Prop := ∀ (W : WX) (σ : L2.St) (π : List Addr) (H : Hp) (S : Sto) (Q : VK) (x y : D) (v w : V),
  St' g π H S → Rel g π H x v → Rel g π H y w → Post g RV W σ π H Q (op x y S) → t v w H Q
theorem s_aug {i : Nat} {x : Str} {e : Expr} {m : M D} {op : Operator} {ti : TIp} {f : D → D → Sto → ER D} {pos pos' : Pos} (hN : X.N.Nodup) (hi : X.N[i]? = some x) (hx : Loc X.env.scope x) (he : SimE X g W e m) (ho : PIp X op ti) (hf' : SimIp g ti f)
    (hf : X.fn x = true ∨ X.env.scope.names.lookup x = some .local) : SimS X g W (.AugAssign (.Name x pos') op e pos) (sAug i f m) :=
  PS.imp (ps_aug hN hi hx he ho hf) fun Dn σ H ⟨π, ρ, S, hr, hs, hp⟩ => by
    unfold sAug at hp
    cases e : ρ[i]? with
    | none => rw [e] at hp; exact hp.elim
    | some o =>
      cases o with
      | none => rw [e] at hp; exact hp.elim
      | some d =>
        rw [e] at hp
        obtain ⟨v, h1, h2⟩ := hr.get e
        refine ⟨v, h1, tS_bind (R := RV) hr hs hp fun y w π1 S1 H1 e1 hr1 hs1 ry hp1 => ?_⟩
        refine hf' W σ π1 H1 S1 _ d y v w hs1 (h2.ext e1) ry ?_
        cases e2 : f d y S1 with
        | ok z S2 =>
          rw [e2] at hp1
          exact fun b π' H' ex st r => hp1 _ π' H' ex ((hr1.ext ex).set r i) st
        | ex _ _ _ => rw [e2] at hp1; exact hp1.elim
        | bad => rw [e2] at hp1; exact hp1.elim
def opIAdd : D → D → Sto → ER D
  | .int i, .int j, S => .ok (.int (i + j)) S
  | .str a, .str b, S => if a.length + b.length ≤ sizeLine then .ok (.str (a ++ b)) S else .bad
  | _, _, _ => .bad
def rIAdd : R2 := fun x y H Q => (rI0 fun i j => .int (i + j)) x y H Q ∨ (∃ i j, x = .str i ∧ y = .str j ∧ i.length + j.length ≤ sizeLine ∧ Q (.str (i ++ j)) H)
theorem iop_iadd : PIp X .Add rIAdd := OpR.or iop_add iop_add_str
theorem sim_iadd : SimIp g rIAdd opIAdd := by
  intro W σ π H S Q x y v w s rx ry h
  unfold opIAdd at h
  split at h
  · rw [rx.int', ry.int']
    exact .inl ⟨_, _, rfl, rfl, Post.pure (R := RV) h s Rel.int⟩
  · split at h
    · rename_i hz
      rw [rx.str', ry.str']
      exact .inr ⟨_, _, rfl, rfl, hz, Post.pure (R := RV) h s Rel.str⟩
    · exact h.elim
  · exact h.elim
theorem iop_isub : PIp X .Sub (rI0 fun i j => .int (i - j)) := iop_sub
theorem sim_isub : SimIp g (rI0 fun i j => .int (i - j)) opSub := sim_sub
/-! ### while: as many turns as it takes -/
def turns (c : M Bool) (b : MS) : Nat → MS
  | 0, _, _ => .bad
  | n + 1, ρ, S => match c ρ S with
    | .ok true S1 => match b ρ S1 with
      | .nx ρ2 S2 => turns c b n ρ2 S2
      | .ct ρ2 S2 => turns c b n ρ2 S2
      | .bk ρ2 S2 => .nx ρ2 S2
      | r => r
    | .ok false S1 => .nx ρ S1
    | .ex k w S1 => .ex k w ρ S1
    | .bad => .bad
theorem turns_more {c : M Bool} {b : MS} : ∀ {n m : Nat} {ρ : Rho} {S : Sto}, turns c b n ρ S ≠ .bad → n ≤ m → turns c b m ρ S = turns c b n ρ S
  | 0, _, _, _, h, _ => (h rfl).elim
  | n + 1, 0, _, _, _, h => absurd h (by omega)
  | n + 1, m + 1, ρ, S, h, hm => by
    unfold turns at h ⊢
    cases e : c ρ S with
    | ok k S1 =>
      rw [e] at h
      cases k with
      | false => rfl
      | true =>
        cases e2 : b ρ S1 with
        | nx ρ2 S2 =>
          simp only [e2] at h ⊢
          exact turns_more h (by omega)
        | ct ρ2 S2 =>
          simp only [e2] at h ⊢
          exact turns_more h (by omega)
        | bk _ _ => simp only [e2]
        | rt _ _ => simp only [e2]
        | ex _ _ _ _ => simp only [e2]
        | bad => simp only [e2]
    | ex _ _ _ => rfl
    | bad => rfl
open Classical in
noncomputable def sWhile (c : M Bool) (b : MS) : MS := fun ρ S => if h : ∃ n, turns c b n ρ S ≠ .bad then turns c b h.choose ρ S else .bad
theorem sWhile_of {c : M Bool} {b : MS} {n : Nat} {ρ : Rho} {S : Sto} {r : SR} (h : turns c b n ρ S = r) (hr : r ≠ .bad) : sWhile c b ρ S = r := by
  have hx : ∃ n, turns c b n ρ S ≠ .bad := ⟨n, by rw [h]; exact hr⟩
  unfold sWhile
  rw [dif_pos hx]
  have h1 := turns_more hx.choose_spec (Nat.le_max_left hx.choose n)
  have h2 := turns_more (c := c) (b := b) (ρ := ρ) (S := S) (by rw [h]; exact hr) (Nat.le_max_right hx.choose n)
  rw [← h1, h2, h]
theorem sWhile_inv {c : M Bool} {b : MS} {ρ : Rho} {S : Sto} (h : sWhile c b ρ S ≠ .bad) : ∃ n, turns c b n ρ S = sWhile c b ρ S := by
  by_cases hx : ∃ n, turns c b n ρ S ≠ .bad
  · exact ⟨hx.choose, by unfold sWhile; rw [dif_pos hx]⟩
  · exact (h (by unfold sWhile; rw [dif_neg hx])).elim
theorem PostS.notbad {Dn : Ends} {r : SR} (h : PostS g W Dn π H r) : r ≠ .bad := fun e => by rw [e] at h; exact h
theorem s_while {c : Expr} {body : List Stmt} {mc : M Bool} {mb : MS} {pos : Pos} (hp : PassesOwn (model X.prog X.w) X.A X.env X.xe) (hc : SimT X g W c mc) (hb : SimB X g W body mb) : SimS X g W (.While c body [] pos) (sWhile mc mb) :=
  PS.imp (ps_while hp hc hb) fun Dn σ H ⟨π, ρ, S, hr, hs, hp⟩ => by
    obtain ⟨n, hn⟩ := sWhile_inv hp.notbad
    rw [← hn] at hp
    refine ⟨fun m σ H => ∃ π ρ S, RelR g π H ρ σ ∧ St' g π H S ∧ PostS g W Dn π H (turns mc mb m ρ S), ⟨n, π, ρ, S, hr, hs, hp⟩, ?_⟩
    rintro m σ H ⟨π, ρ, S, hr, hs, hp⟩
    cases m with
    | zero => exact hp.elim
    | succ m =>
      unfold turns at hp
      refine ⟨π, ρ, S, hr, hs, ?_⟩
      cases e : mc ρ S with
      | ex k w S1 =>
        rw [e] at hp
        exact fun a wv π' H' ex st r x => hp σ a wv π' H' ex (hr.ext ex) st r x
      | bad => rw [e] at hp; exact hp
      | ok k S1 =>
        rw [e] at hp
        intro b π1 H1 e1 hs1 rb
        cases (show k = b from rb)
        have hr1 := hr.ext e1
        cases k with
        | false => exact (PostS.mono e1 hp).nxAt hr1 hs1
        | true =>
          have hp1 := PostS.mono e1 hp
          rw [if_pos rfl]
          refine ⟨fun σ' H' => ∃ π ρ S, RelR g π H' ρ σ' ∧ St' g π H' S ∧ PostS g W Dn π H' (turns mc mb m ρ S), fun σ' H' q => ⟨m, Nat.lt_succ_self m, q⟩, π1, ρ, S1, hr1, hs1, ?_⟩
          cases e2 : mb ρ S1 with
          | nx ρ2 S2 =>
            simp only [e2] at hp1
            exact fun σ' π' H' ex hr' hs' => ⟨π', ρ2, S2, hr', hs', PostS.mono ex hp1⟩
          | ct ρ2 S2 =>
            simp only [e2] at hp1
            exact fun σ' π' H' ex hr' hs' => ⟨π', ρ2, S2, hr', hs', PostS.mono ex hp1⟩
          | bk ρ2 S2 =>
            simp only [e2] at hp1
            exact hp1
          | rt _ _ => simp only [e2] at hp1; exact hp1
          | ex _ _ _ _ => simp only [e2] at hp1; exact hp1
          | bad => simp only [e2] at hp1; exact hp1.elim
/-! ### for -/
/-- what is walked: its items; the list that must stand as it is -/
structure IterD where
  items : List D
  watch : List (Nat × List D)
def IterD.okB (it : IterD) (S : Sto) : Prop := ∀ p ∈ it.watch, S[p.1]? = some (.lst p.2) ∨ S[p.1]? = some (.fro p.2)
structure IsWalk (g : G) (π : List Addr) (H : Hp) (J : It) (it : IterD) : Prop where
  walk : ∃ Gd Y, Walk J it.items.length Gd Y ∧ (∀ π2 H2 S2, Ext π H π2 H2 → St' g π2 H2 S2 → it.okB S2 → Gd H2) ∧
    ∀ (i : Nat) (x : V) π2 H2 H3 S2, i < it.items.length → Ext π H π2 H2 → St' g π2 H2 S2 → it.okB S2 → Y i H2 x H3 → Ext π2 H2 π2 H3 ∧ St' g π2 H3 S2 ∧ ∃ d, it.items[i]? = some d ∧ Rel g π2 H3 d x
abbrev RI : RelT IterD It := fun g π H it J => IsWalk g π H J it
theorem IsWalk.ext {g : G} {π π' : List Addr} {H H' : Hp} {J : It} {it : IterD} (e : Ext π H π' H') (w : IsWalk g π H J it) : IsWalk g π' H' J it := by
  obtain ⟨Gd, Y, h1, h2, h3⟩ := w.walk
  exact ⟨Gd, Y, h1, fun π2 H2 S2 e2 => h2 π2 H2 S2 (e.trans e2), fun i x π2 H2 H3 S2 hi e2 => h3 i x π2 H2 H3 S2 hi (e.trans e2)⟩
instance : RExt RI := ⟨fun e h => IsWalk.ext e h⟩
abbrev SimI (X : Cx) (g : G) (W : WX) (tg e : Expr) (m : M IterD) : Prop := PI X tg e (tG g RI W m)
theorem PI.imp {tg e : Expr} {t t' : TI} (h : L2.PI X tg e t) (i : ∀ σ H Q, t' σ H Q → t σ H Q) : L2.PI X tg e t' := ⟨fun pins s σ H Q I q => h.run pins s σ H Q I (i σ H Q q)⟩
open Classical in
noncomputable def forL (it : IterD) (p : Pat) (body : MS) : List D → MS
  | [], ρ, S => if it.okB S then .nx ρ S else .bad
  | d :: ds, ρ, S => if it.okB S then match bindP p d ρ with
      | none => .bad
      | some ρ1 => match body ρ1 S with
        | .nx ρ2 S2 => forL it p body ds ρ2 S2
        | .ct ρ2 S2 => forL it p body ds ρ2 S2
        | .bk ρ2 S2 => .nx ρ2 S2
        | r => r
    else .bad
noncomputable def sFor (p : Pat) (mi : M IterD) (body : MS) : MS := bindS mi fun it => forL it p body it.items
theorem s_for {tg iter : Expr} {body : List Stmt} {p : Pat} {mi : M IterD} {mb : MS} {pos : Pos} (hp : PassesOwn (model X.prog X.w) X.A X.env X.xe) (hc : X.calm = true) (hi : SimI X g W tg iter mi) (hg : SimP X g tg p) (hb : SimB X g W body mb)
    (hs : ∀ x, foldedSetIterable iter X.env x = pure x := by intro _; rfl) : SimS X g W (.For tg iter body [] pos) (sFor p mi mb) :=
  PS.imp (ps_for hp hc hi hg hb hs) fun Dn σ H ⟨π, ρ, S, hr, hs, hp⟩ => by
    refine tS_bind (R := RI) hr hs hp fun it J π1 S1 H1 e1 hr1 hs1 wk hp1 => ?_
    obtain ⟨Gd, Y, w, hG, hY⟩ := wk.walk
    refine for_it w (fun i σ H => ∃ π ρ S, Ext π1 H1 π H ∧ RelR g π H ρ σ ∧ St' g π H S ∧ PostS g W Dn π H (forL it p mb (it.items.drop i) ρ S)) ⟨π1, ρ, S1, .refl _ _, hr1, hs1, by simpa using hp1⟩ ?_ ?_ ?_
    · rintro i σ H hi ⟨π, ρ, S, ex, hr, hs, hp⟩
      refine hG π H S ex hs ?_
      cases e : it.items.drop i with
      | nil =>
        rw [e] at hp
        unfold forL at hp
        split at hp
        · assumption
        · exact hp.elim
      | cons d ds =>
        rw [e] at hp
        unfold forL at hp
        split at hp
        · assumption
        · exact hp.elim
    · rintro i x σ H H' hi ⟨π, ρ, S, ex, hr, hs, hp⟩ hy
      have ed : it.items.drop i = it.items[i] :: it.items.drop (i + 1) := List.drop_eq_getElem_cons hi
      rw [ed] at hp
      unfold forL at hp
      split at hp
      · rename_i hok
        obtain ⟨ex2, hs2, d, hd, rd⟩ := hY i x π H H' S hi ex hs hok hy
        have e3 : it.items[i] = d := by
          rw [List.getElem?_eq_getElem hi] at hd
          exact Option.some.inj hd
        rw [e3] at hp
        cases e4 : bindP p d ρ with
        | none => rw [e4] at hp; exact hp.elim
        | some ρ1 =>
          rw [e4] at hp
          refine ⟨π, d, ρ, S, hr.ext ex2, hs2, rd, ρ1, e4, fun σ1 hr3 _ => ?_⟩
          refine ⟨π, ρ1, S, hr3, hs2, ?_⟩
          have hp2 := PostS.mono ex2 hp
          cases e5 : mb ρ1 S with
          | nx ρ2 S2 =>
            simp only [e5] at hp2
            exact fun σ' π' H2 e6 hr' hs' => ⟨π', ρ2, S2, (ex.trans ex2).trans e6, hr', hs', PostS.mono e6 hp2⟩
          | ct ρ2 S2 =>
            simp only [e5] at hp2
            exact fun σ' π' H2 e6 hr' hs' => ⟨π', ρ2, S2, (ex.trans ex2).trans e6, hr', hs', PostS.mono e6 hp2⟩
          | bk ρ2 S2 => simp only [e5] at hp2; exact hp2
          | rt _ _ => simp only [e5] at hp2; exact hp2
          | ex _ _ _ _ => simp only [e5] at hp2; exact hp2
          | bad => simp only [e5] at hp2; exact hp2.elim
      · exact hp.elim
    · rintro σ H ⟨π, ρ, S, ex, hr, hs, hp⟩
      rw [List.drop_length] at hp
      unfold forL at hp
      split at hp
      · exact hp.nxAt hr hs
      · exact hp.elim
end
end PI

end
section
set_option Elab.async false
set_option linter.all false
set_option maxRecDepth 100000
set_option maxHeartbeats 2000000
/-! PiIter: what loops and comprehensions walk. -/
namespace PySem
open AutoSeq1 (wpAny_loadPart')
set_option maxHeartbeats 1000000 in
theorem meets_enumerate_newB1 {v : Value} {o : Obj} {H : Heap → Prop} (B : Begins v o H) :
    Meets (Builtin.«enumerate.__new__» ⟨[.type "enumerate", v], []⟩) (fun _ R s => H s.heap ∧
      R (.ok (.ret (.ref (s.heap.push o).objs.size))) { s with heap := (s.heap.push o).push { cls := .type "enumerate", data := .fields #[.none, .bool false, .ref s.heap.objs.size, rawInt 0, .none, .none] } }) :=
  .of_wp fun prog w A R s h => by
    obtain ⟨hp, g, d, tk, os⟩ := s; obtain ⟨h1, h⟩ := h
    have hsub := sub_enumerate
    have q1 : ∀ {A' : Around} {E : Value → Shared → Prop} {Q : Value → Shared → Prop}, Q (.ref hp.objs.size) ⟨hp.push o, g, d, tk, os⟩ → wpAny (model prog w) A' (pyIter v) Q E ⟨hp, g, d, tk, os⟩ :=
      fun q => B.iter prog w _ _ ⟨hp, g, d, tk, os⟩ _ h1 q
    wp_walk using q1
    refine wpAny_stack_any fun st => wpAny_pure ?_
    split
    · rename_i c _ _ _ _ _
      cases (c == Value.type "enumerate")
      · wp_walk using q1
        exact ⟨_, rfl, h⟩
      · wp_walk using q1
        exact ⟨_, rfl, h⟩
    · wp_walk using q1
      exact ⟨_, rfl, h⟩
section
variable {prog : Program} {w : World} {A : Around} {E : Value → Shared → Prop} {s : Shared}
/-- enumerate(v): its two new cells -/
theorem enum_begins1 {a : Addr} {o : Obj} {H : Heap → Prop} {Q : Value → Shared → Prop} (B : Begins (.ref a) o H) (h1 : H s.heap)
    (h : ∀ h', IsEnum h' (s.heap.objs.size + 1) s.heap.objs.size 0 .none → h'.get? s.heap.objs.size = some o → h'.objs.size = s.heap.objs.size + 2 →
      (∀ b o, s.heap.get? b = some o → h'.get? b = some o) → Q (.ref (s.heap.objs.size + 1)) { s with heap := h' }) :
    wpAny (model prog w) A (call (.type "enumerate") [.ref a]) Q E s := by
  refine callType_new F.called_enumerate (by decide) (F.typeCall_enumerate_1 _) (F.newCall_enumerate_1 _) (fun obj => F.args_object_init_2 obj _) F.entry_enumerate_new
    (meets_enumerate_newB1 B) ⟨h1, ?_⟩
  have hz : (s.heap.push o).objs.size = s.heap.objs.size + 1 := Heap.size_push ..
  show _ ∧ _
  rw [hz]
  have he : IsEnum ((s.heap.push o).push { cls := .type "enumerate", data := .fields #[.none, .bool false, .ref s.heap.objs.size, rawInt 0, .none, .none] }) (s.heap.objs.size + 1) s.heap.objs.size 0 .none := by
    have := Heap.get?_push_size (s.heap.push o) (o := { cls := .type "enumerate", data := .fields #[.none, .bool false, .ref s.heap.objs.size, rawInt 0, .none, .none] }) rfl
    rw [hz] at this; exact this
  refine ⟨⟨_, he, rfl⟩, h _ he (Heap.get?_push_of_some _ (Heap.get?_push_size _ B.free)) (by rw [Heap.size_push, hz]) fun b o x => Heap.get?_push_of_some _ (Heap.get?_push_of_some _ x)⟩
end
end PySem
namespace L2
open PySem PySem.Spec PyProof.Rows
/-- the tuple at a, each item in a new pair -/
def IteT (K : PySem.W.Frag) (a : Addr) : It :=
  ⟨fun i H => ∃ (xs : List V) (x : V), SqT K H a xs ∧ xs[i]? = some x, fun i H v H' => ∃ T x, v = .ref T ∧ H T = none ∧ H' = upd H T (.tup [.int (i : Nat), x]) ∧ ∀ xs, SqT K H a xs → xs[i]? = some x, fun i H => ∃ xs : List V, SqT K H a xs ∧ xs.length = i⟩
theorem turn_enumT {P : Program} {w : World} {K : PySem.W.Frag} {elts : List Expr} {kk : Nat} {tpos : Pos} (a e it : Addr) :
    Turn P w K (.Tuple elts kk tpos) (IteT K a) [e, it] e (fun i h => (∃ old, IsEnum h e it ((i : Nat) : Int) old) ∧ h.IsTupleIter it a i ∧ e ≠ it ∧ a ≠ it ∧ a ≠ e) where
  mem := by simp
  obj := fun i h st b hb => by
    obtain ⟨⟨old, he⟩, ⟨o, ho, hc, hd⟩, _⟩ := st
    have e' : b = e ∨ b = it := by simpa using hb
    rcases e' with z | z
    · rw [z]; exact ⟨_, he, fun v q => nomatch q⟩
    · rw [z]; exact ⟨o, ho, fun v q => by rw [hd] at q; cases q⟩
  keep := fun i h h' st k => let ⟨⟨old, he⟩, hi, hne⟩ := st; ⟨⟨old, k e (by simp) _ he⟩, hi.at fun o q => k it (by simp) o q, hne⟩
  item := by
    intro X hP hw hK hc i pins s σ H E I hf st hg
    subst hP hw hK
    obtain ⟨⟨old, he⟩, hit, hne, na1, na2⟩ := st
    obtain ⟨xs, x, hq, hx⟩ := hg
    obtain ⟨its, rv, p, hz⟩ := I.tuple hq
    obtain ⟨u, hu, ru⟩ := rv.get hx
    have hel : e < s.heap.objs.size := Heap.lt_size he
    have hil : it < s.heap.objs.size := by obtain ⟨_, q, _⟩ := hit; exact Heap.lt_size q
    have hiL : i < its.toArray.size := by
      have := (List.getElem?_eq_some_iff.mp hu).1
      simpa using this
    refine wpAny_pyNext_enum_itemD (Draws.tuple (A := X.A.in1) (I.ok.hd hc) it a na1 its.toArray) he ⟨hit, p⟩ hiL hne (by simp [hne, Ne.symm na2]) fun x' h' tk hP ho hst' hT hsz hk => ?_
    have ex : x' = u := by
      have q : its[i]? = some x' := by simpa using hP
      rw [hu] at q
      exact (Option.some.inj q).symm
    subst ex
    refine ⟨_, rfl, wpAny_letOwnedTupleGo_enum (s := { s with heap := h', toks := tk + 1 }) ho fun h'' he' sb => ?_⟩
    have hT2 : h''.get? s.heap.objs.size = some { cls := .type "tuple", data := .seq #[.int i tk, x'] } := (sb.2 _ (Nat.ne_of_gt hel)).trans hT
    have new : ObjOk X.prog X.w (upd H s.heap.objs.size (.tup [.int (i : Nat), x])) h'' s.heap.objs.size (.tup [.int (i : Nat), x]) :=
      ⟨by show 2 ≤ sizeLine; decide, [.int i tk, x'], .cons ⟨_, rfl⟩ (.cons ru .nil), ⟨_, hT2, rfl, _, rfl⟩⟩
    have I1 : Inv X pins σ (upd H s.heap.objs.size (.tup [.int (i : Nat), x])) { s with heap := h'', toks := tk + 1 } :=
      I.turnedNew (ch := [e, it]) (fun b ob hb q => (sb.2 b (fun z => hb (by simp [z]))).trans (hk b ob (fun z => hb (by simp [z])) (fun z => hb (by simp [z])) q)) hf (Nat.le_refl _) new
    refine ⟨.ref s.heap.objs.size, _, I1, rfl, ⟨_, x, rfl, I.hok.fresh (Nat.le_refl _), rfl, fun ys hy => by rw [I.tuple_inj hy hq]; exact hx⟩, ⟨⟨x', ?_⟩, hst'.1.at fun o q => (sb.2 it (Ne.symm hne)).trans q, hne, na1, na2⟩, fun b hb => ?_⟩
    · have e1 : ((i + 1 : Nat) : Int) = (i : Int) + 1 := by omega
      rw [e1]; exact he'
    · have hb' : b < s.heap.objs.size := by
        have e' : b = e ∨ b = it := by simpa using hb
        rcases e' with z | z
        · rw [z]; exact hel
        · rw [z]; exact hil
      rw [upd_ne (Nat.ne_of_lt hb')]
      exact (hf b hb).1
  done := by
    intro X hP hw hK hc i pins s σ H E I hf st hg
    subst hP hw hK
    obtain ⟨⟨old, he⟩, hit, hne, na1, na2⟩ := st
    obtain ⟨xs, hq, hx⟩ := hg
    obtain ⟨its, rv, p, hz⟩ := I.tuple hq
    obtain ⟨f0, f1, f2, f3, f4, f5⟩ := hf it (by simp)
    have hl := rv.length
    have hie : i = its.toArray.size := by simp; omega
    rw [hie] at hit
    exact wpAny_pyNext_enum_endD (Draws.tuple (A := X.A.in1) (I.ok.hd hc) it a na1 its.toArray) (by rw [hie] at he; exact he) ⟨hit, p⟩ fun h' eb => ⟨rfl, I.turned (t' := s.toks) (fun b o hb q => eb b o hb q) f0 f1 f3 f4 f5⟩
  self := fun A i s Q E st h => let ⟨⟨_, he⟩, _⟩ := st; wpAny_pyIter_enum he h
def iEnumA (K : PySem.W.Frag) (ta : TA) : TI := fun σ H R => ta σ H fun vs H1 => (∃ a xs, vs = [.ref a] ∧ SqL K H1 a xs ∧ R (Ite K a) H1) ∨ (∃ a xs, vs = [.ref a] ∧ SqT K H1 a xs ∧ R (IteT K a) H1)
theorem pi_enumA {X : Cx} {e : Expr} {ta : TA} {p pos tpos : Pos} {elts : List Expr} {kk : Nat} (hg : Gl X "enumerate") (hm : X.mg "enumerate" = none) (ha : PA X [e] ta) (hs : starEach [e] X.env = [(false, eval e X.env)] := by rfl) :
    PI X (.Tuple elts kk tpos) (.Call (.Name "enumerate" p) [e] [] pos) (iEnumA X.K ta) := by
  refine ⟨fun pins s σ H R I h => ?_⟩
  refine Call_ (ld_blt I hg hm boot_enumerate (PyProof.Rows.callWith_type1 (thn (ha.run pos pins s σ H _ I h) fun us s1 ⟨vs, H1, I1, r1, q1⟩ => ?_) hs rfl))
  rcases q1 with ⟨a, xs, ex, hq, q⟩ | ⟨a, xs, ex, hq, q⟩
  · subst ex
    cases r1 with
    | cons r rr =>
      cases rr
      cases r
      obtain ⟨its, rv, p', hz⟩ := I1.list hq
      refine call_enumerate_list p'.isList fun h' he hit hsz hk => wpAny_pyIter_enum he ?_
      have I2 : Inv X pins σ H1 { s1 with heap := h' } := I1.kept (t' := s1.toks) hk
      refine ⟨s1.heap.objs.size + 1, [s1.heap.objs.size + 1, s1.heap.objs.size], _, _, H1, rfl, I2, turn_enum a (s1.heap.objs.size + 1) s1.heap.objs.size, ⟨⟨.none, he⟩, hit, Nat.succ_ne_self _⟩, fun b hb => ?_, q⟩
      have e' : b = s1.heap.objs.size + 1 ∨ b = s1.heap.objs.size := by simpa using hb
      have hle : s1.heap.objs.size ≤ b := by
        rcases e' with z | z
        · rw [z]; exact Nat.le_add_right _ _
        · rw [z]; exact Nat.le_refl _
      exact I1.fpOk hle (I1.hok.fresh hle)
  · subst ex
    cases r1 with
    | cons r rr =>
      cases rr
      cases r
      obtain ⟨its, rv, p', hz⟩ := I1.tuple hq
      have hal : a < s1.heap.objs.size := by obtain ⟨_, e1, _⟩ := p'; exact Heap.lt_size e1
      refine enum_begins1 (begins_tuple a its.toArray) p' fun h' he hit hsz hk => wpAny_pyIter_enum he ?_
      have I2 : Inv X pins σ H1 { s1 with heap := h' } := I1.kept (t' := s1.toks) hk
      refine ⟨s1.heap.objs.size + 1, [s1.heap.objs.size + 1, s1.heap.objs.size], _, _, H1, rfl, I2, turn_enumT a (s1.heap.objs.size + 1) s1.heap.objs.size, ⟨⟨.none, he⟩, ⟨_, hit, rfl, rfl⟩, Nat.succ_ne_self _, Nat.ne_of_lt hal, Nat.ne_of_lt (Nat.lt_succ_of_lt hal)⟩, fun b hb => ?_, q⟩
      have e' : b = s1.heap.objs.size + 1 ∨ b = s1.heap.objs.size := by simpa using hb
      have hle : s1.heap.objs.size ≤ b := by
        rcases e' with z | z
        · rw [z]; exact Nat.le_add_right _ _
        · rw [z]; exact Nat.le_refl _
      exact I1.fpOk hle (I1.hok.fresh hle)
theorem walk_enumT {K : PySem.W.Frag} {a : Addr} {xs : List V} : Walk (IteT K a) xs.length (fun H => SqT K H a xs) (fun i H v H' => ∃ T x, v = .ref T ∧ H T = none ∧ H' = upd H T (.tup [.int (i : Nat), x]) ∧ xs[i]? = some x) :=
  ⟨fun i _ hi q => ⟨xs, xs[i], q, by simp [hi]⟩, fun _ q => ⟨xs, q, rfl⟩, fun _ _ _ _ _ q ⟨T, x, h1, h2, h3, h4⟩ => ⟨T, x, h1, h2, h3, h4 xs q⟩⟩
theorem walk_enumL {K : PySem.W.Frag} {a : Addr} {xs : List V} : Walk (Ite K a) xs.length (fun H => SqL K H a xs) (fun i H v H' => ∃ T x, v = .ref T ∧ H T = none ∧ H' = upd H T (.tup [.int (i : Nat), x]) ∧ xs[i]? = some x) :=
  ⟨fun i _ hi q => ⟨xs, xs[i], q, by simp [hi]⟩, fun _ q => ⟨xs, q, Nat.le_refl _⟩, fun _ _ _ _ _ q ⟨T, x, h1, h2, h3, h4⟩ => ⟨T, x, h1, h2, h3, h4 xs q⟩⟩
theorem PI.or {X : Cx} {tg e : Expr} {w w' : TI} (h : PI X tg e w) (h' : PI X tg e w') : PI X tg e (fun σ H R => w σ H R ∨ w' σ H R) := ⟨fun pins s σ H R I q => q.elim (h.run pins s σ H R I) (h'.run pins s σ H R I)⟩
end L2
namespace PI
open PySem PySem.Spec PyProof.Rows L2
section
variable {X : Cx} {g : G} {W : WX} {σ : L2.St} {π : List Addr} {H : Hp} {tg : Expr}
/-! ### a list, a tuple -/
def seqIter : D → Sto → ER IterD
  | .tup xs, S => .ok ⟨xs, []⟩ S
  | .loc n, S => match seqD S (.loc n) with
    | some xs => .ok ⟨xs, [(n, xs)]⟩ S
    | none => .bad
  | _, _ => .bad
def mSeqI (m : M D) : M IterD := bindM m fun d _ S => seqIter d S
/-- the list that is watched stands -/
theorem watch_list {S2 : Sto} {π2 : List Addr} {H2 : Hp} {n : Nat} {xs : List D} {a : Addr} (s : St' g π2 H2 S2) (hn : π2[n]? = some a) (ok : S2[n]? = some (.lst xs) ∨ S2[n]? = some (.fro xs)) : ∃ vs, SqL g.K H2 a vs ∧ Rels g π2 H2 xs vs := by
  rcases ok with e | e
  · obtain ⟨vs, h1, h2⟩ := s.at_ n _ a e hn
    exact ⟨vs, SqL.of h1, h2⟩
  · obtain ⟨vs, h1, _, h2⟩ := s.at_ n _ a e hn
    exact ⟨vs, h1, h2⟩
theorem okB_of {S : Sto} {n : Nat} {xs : List D} (h : seqD S (.loc n) = some xs) : S[n]? = some (.lst xs) ∨ S[n]? = some (.fro xs) := by
  unfold seqD at h
  cases e : S[n]? with
  | none => simp [e] at h
  | some o =>
    cases o with
    | lst ys => simp [e] at h; subst h; exact .inl rfl
    | fro ys => simp [e] at h; subst h; exact .inr rfl
    | dK ys => simp [e] at h
    | froK ys => simp [e] at h
/-- J over the list at a: at each state in which it stands -/
theorem isWalk_list {J : Hp → List V → Prop} {n : Nat} {xs : List D} {a : Addr} (hn : π[n]? = some a) : IsWalk g π H (Itl g.K a) ⟨xs, [(n, xs)]⟩ := by
  refine ⟨fun H => ∃ vs, SqL g.K H a vs ∧ vs.length = xs.length, fun i H v H' => H' = H ∧ ∀ vs, SqL g.K H a vs → vs[i]? = some v, ?_, fun π2 H2 S2 ex s ok => ?_, fun i x π2 H2 H3 S2 hi ex s ok y => ?_⟩
  · exact ⟨fun i H hi ⟨vs, q, hl⟩ => ⟨vs, vs[i]'(by rw [hl]; exact hi), q, by simp⟩, fun H ⟨vs, q, hl⟩ => ⟨vs, q, by rw [hl]; exact Nat.le_refl _⟩, fun i H x H' _ _ y => y⟩
  · obtain ⟨vs, h1, h2⟩ := watch_list s (ex.get hn) (ok (n, xs) (by simp))
    exact ⟨vs, h1, h2.length.symm⟩
  · obtain ⟨rfl, y⟩ := y
    obtain ⟨vs, h1, h2⟩ := watch_list s (ex.get hn) (ok (n, xs) (by simp))
    obtain ⟨d, h3, h4⟩ := h2.getV (y vs h1)
    exact ⟨.refl _ _, s, d, h3, h4⟩
theorem isWalk_tup {xs : List D} {a : Addr} {vs : List V} (h1 : SqU g.K H a vs) (h2 : Rels g π H xs vs) : IsWalk g π H (Itt g.K a) ⟨xs, []⟩ := by
  refine ⟨fun H => SqT g.K H a vs, YAt vs, ?_, fun π2 H2 S2 ex s ok => (ex.sqT h1).t, fun i x π2 H2 H3 S2 hi ex s ok y => ?_⟩
  · have w := walk_tup (K := g.K) (a := a) (xs := vs)
    rw [← h2.length] at w
    exact w
  · obtain ⟨rfl, y⟩ := y
    obtain ⟨d, h3, h4⟩ := (h2.ext ex).getV y
    exact ⟨.refl _ _, s, d, h3, h4⟩
theorem i_seq (hK : X.K = g.K) {e : Expr} {m : M D} (h : SimE X g W e m) : SimI X g W tg e (mSeqI m) := by
  refine PI.imp (L2.PI.or (pi_list h) (pi_tup h)) fun σ H R ⟨π, ρ, S, hr, hs, hp⟩ => ?_
  cases e1 : m ρ S with
  | ex c w S1 =>
    refine .inl ⟨π, ρ, S, hr, hs, ?_⟩
    unfold mSeqI bindM at hp
    rw [e1] at hp ⊢
    exact hp
  | bad =>
    unfold mSeqI bindM at hp
    rw [e1] at hp
    exact hp.elim
  | ok d S1 =>
    have hp0 := hp
    unfold mSeqI bindM at hp0
    rw [e1] at hp0
    have hp1 : Post g RI W σ π H R (seqIter d S1) := hp0
    cases d with
    | tup xs =>
      refine .inr ⟨π, ρ, S, hr, hs, ?_⟩
      rw [e1]
      intro v π1 H1 ex hs1 rx
      obtain ⟨a, vs, rfl, h1, h2⟩ := (show Rel g π1 H1 (.tup xs) v from rx).tup'
      rw [hK]
      exact ⟨a, rfl, ⟨vs, h1.t⟩, (Post.mono ex hp1).pure hs1 (isWalk_tup h1 h2)⟩
    | loc n =>
      refine .inl ⟨π, ρ, S, hr, hs, ?_⟩
      rw [e1]
      intro v π1 H1 ex hs1 rx
      cases e2 : seqD S1 (.loc n) with
      | none => simp only [seqIter, e2] at hp1; exact hp1.elim
      | some xs =>
        simp only [seqIter, e2] at hp1
        obtain ⟨a, hn, rfl⟩ := (show Rel g π1 H1 (.loc n) v from rx).loc'
        obtain ⟨vs, h1, h2⟩ := watch_list hs1 hn (okB_of e2)
        rw [hK]
        exact ⟨a, rfl, ⟨vs, h1⟩, (Post.mono ex hp1).pure hs1 (isWalk_list (J := fun _ _ => True) hn)⟩
    | _ => exact hp1.elim
/-! ### range -/
def rangeD (lo : Int) : Nat → List D
  | 0 => []
  | n + 1 => .int lo :: rangeD (lo + 1) n
theorem rangeD_len : ∀ (lo : Int) (n : Nat), (rangeD lo n).length = n
  | _, 0 => rfl
  | lo, n + 1 => by simp [rangeD, rangeD_len (lo + 1) n]
theorem rangeD_get : ∀ (lo : Int) (n i : Nat), i < n → (rangeD lo n)[i]? = some (.int (lo + i))
  | _, 0, _, h => absurd h (by omega)
  | lo, n + 1, 0, _ => by simp [rangeD]
  | lo, n + 1, i + 1, h => by
    simp only [rangeD, List.getElem?_cons_succ]
    rw [rangeD_get (lo + 1) n i (by omega)]
    congr 2
    omega
def rngOk (i : Int) : Bool := decide (-(2 ^ 62) ≤ i) && decide (i < 2 ^ 62)
def mRange1 (ma : M (List D)) : M IterD := bindM ma fun ds _ S => match ds with
  | [.int j] => if rngOk j then .ok ⟨rangeD 0 j.toNat, []⟩ S else .bad
  | _ => .bad
def mRange2 (ma : M (List D)) : M IterD := bindM ma fun ds _ S => match ds with
  | [.int i, .int j] => if rngOk i && rngOk j then .ok ⟨rangeD i (j - i).toNat, []⟩ S else .bad
  | _ => .bad
theorem isWalk_range {lo : Int} {n : Nat} : IsWalk g π H (Itr lo n) ⟨rangeD lo n, []⟩ := by
  refine ⟨fun _ => True, YFn fun i => .int (lo + i), ?_, fun _ _ _ _ _ _ => trivial, fun i x π2 H2 H3 S2 hi ex s ok y => ?_⟩
  · have w := walk_range (lo := lo) (n := n)
    show Walk _ (rangeD lo n).length _ _
    rw [rangeD_len]
    exact w
  · obtain ⟨rfl, rfl⟩ := y
    have hi' : i < (rangeD lo n).length := hi
    rw [rangeD_len] at hi'
    exact ⟨.refl _ _, s, _, rangeD_get lo n i hi', Rel.int⟩
theorem i_range1 {a : Expr} {ma : M (List D)} {p pos : Pos} (hg : Gl X "range") (hm : X.mg "range" = none) (ha : SimA X g W [a] ma) (hs : starEach [a] X.env = [(false, eval a X.env)] := by rfl) : SimI X g W tg (.Call (.Name "range" p) [a] [] pos) (mRange1 ma) :=
  PI.imp (pi_range1 hg hm ha hs) fun σ H R ⟨π, ρ, S, hr, hs, hp⟩ => tG_bind (R := RVs) hr hs hp fun xs vs π1 S1 H1 e1 hr1 hs1 rx hp1 => by
    split at hp1
    · rename_i j
      split at hp1
      · rename_i hz
        unfold rngOk at hz
        simp only [Bool.and_eq_true, decide_eq_true_eq] at hz
        obtain ⟨v, rfl, r⟩ := rx.one
        rw [r.int']
        exact ⟨j, rfl, hz.1, hz.2, hp1.pure hs1 isWalk_range⟩
      · exact hp1.elim
    · exact hp1.elim
theorem i_range2 {a b : Expr} {ma : M (List D)} {p pos : Pos} (hg : Gl X "range") (hm : X.mg "range" = none) (ha : SimA X g W [a, b] ma) (hs : starEach [a, b] X.env = [(false, eval a X.env), (false, eval b X.env)] := by rfl) (hs2 : starEach [b] X.env = [(false, eval b X.env)] := by rfl) :
    SimI X g W tg (.Call (.Name "range" p) [a, b] [] pos) (mRange2 ma) :=
  PI.imp (pi_range2 hg hm ha hs hs2) fun σ H R ⟨π, ρ, S, hr, hs, hp⟩ => tG_bind (R := RVs) hr hs hp fun xs vs π1 S1 H1 e1 hr1 hs1 rx hp1 => by
    split at hp1
    · rename_i i j
      split at hp1
      · rename_i hz
        unfold rngOk at hz
        simp only [Bool.and_eq_true, decide_eq_true_eq] at hz
        obtain ⟨v, w, rfl, r1, r2⟩ := rx.two
        rw [r1.int', r2.int']
        exact ⟨i, j, rfl, ⟨hz.1.1, hz.1.2, hz.2.1, hz.2.2⟩, hp1.pure hs1 isWalk_range⟩
      · exact hp1.elim
    · exact hp1.elim
/-! ### enumerate -/
def enumD (k : Nat) : List D → List D
  | [] => []
  | d :: ds => .tup [.int (k : Int), d] :: enumD (k + 1) ds
theorem enumD_len : ∀ (k : Nat) (ds : List D), (enumD k ds).length = ds.length
  | _, [] => rfl
  | k, d :: ds => by simp [enumD, enumD_len (k + 1) ds]
theorem enumD_get : ∀ (k : Nat) (ds : List D) (i : Nat) (d : D), ds[i]? = some d → (enumD k ds)[i]? = some (.tup [.int ((k + i : Nat) : Int), d])
  | _, [], _, _, h => by simp at h
  | k, d :: ds, 0, e, h => by simp at h; subst h; simp [enumD]
  | k, d :: ds, i + 1, e, h => by
    simp only [enumD, List.getElem?_cons_succ] at h ⊢
    rw [enumD_get (k + 1) ds i e h]
    congr 4
    omega
/-- the pair of a place and an item, new -/
theorem isWalk_enumL (gk : GOk g) {n : Nat} {xs : List D} {a : Addr} (hn : π[n]? = some a) : IsWalk g π H (Ite g.K a) ⟨enumD 0 xs, [(n, xs)]⟩ := by
  refine ⟨fun H => ∃ vs, SqL g.K H a vs ∧ vs.length = xs.length, fun i H v H' => ∃ T x, v = .ref T ∧ H T = none ∧ H' = upd H T (.tup [.int (i : Nat), x]) ∧ ∀ vs, SqL g.K H a vs → vs[i]? = some x, ?_, fun π2 H2 S2 ex s ok => ?_, fun i x π2 H2 H3 S2 hi ex s ok y => ?_⟩
  · show Walk _ (enumD 0 xs).length _ _
    rw [enumD_len]
    exact ⟨fun i H hi ⟨vs, q, hl⟩ => ⟨vs, vs[i]'(by rw [hl]; exact hi), q, by simp⟩, fun H ⟨vs, q, hl⟩ => ⟨vs, q, by rw [hl]; exact Nat.le_refl _⟩, fun i H x H' _ _ y => y⟩
  · obtain ⟨vs, h1, h2⟩ := watch_list s (ex.get hn) (ok (n, xs) (by simp))
    exact ⟨vs, h1, h2.length.symm⟩
  · obtain ⟨T, y, rfl, hT, rfl, hy⟩ := y
    obtain ⟨vs, h1, h2⟩ := watch_list s (ex.get hn) (ok (n, xs) (by simp))
    obtain ⟨d, h3, h4⟩ := h2.getV (hy vs h1)
    have e2 := Ext.upd_new (π := π2) (o := .tup [.int (i : Nat), y]) hT
    refine ⟨e2, s.new gk hT, _, enumD_get 0 xs i d h3, ?_⟩
    rw [Nat.zero_add]
    exact Rel.tup (.inl upd_same) (.cons Rel.int (.cons (h4.ext e2) .nil))
theorem isWalk_enumT (gk : GOk g) {xs : List D} {a : Addr} {vs : List V} (h1 : SqU g.K H a vs) (h2 : Rels g π H xs vs) : IsWalk g π H (IteT g.K a) ⟨enumD 0 xs, []⟩ := by
  refine ⟨fun H => SqT g.K H a vs, fun i H v H' => ∃ T x, v = .ref T ∧ H T = none ∧ H' = upd H T (.tup [.int (i : Nat), x]) ∧ vs[i]? = some x, ?_, fun π2 H2 S2 ex s ok => (ex.sqT h1).t, fun i x π2 H2 H3 S2 hi ex s ok y => ?_⟩
  · have w := walk_enumT (K := g.K) (a := a) (xs := vs)
    show Walk _ (enumD 0 xs).length _ _
    rw [enumD_len, h2.length]
    exact w
  · obtain ⟨T, y, rfl, hT, rfl, hy⟩ := y
    obtain ⟨d, h3, h4⟩ := (h2.ext ex).getV hy
    have e2 := Ext.upd_new (π := π2) (o := .tup [.int (i : Nat), y]) hT
    refine ⟨e2, s.new gk hT, _, enumD_get 0 xs i d h3, ?_⟩
    rw [Nat.zero_add]
    exact Rel.tup (.inl upd_same) (.cons Rel.int (.cons (h4.ext e2) .nil))
def enumIter : List D → Sto → ER IterD
  | [.tup xs], S => .ok ⟨enumD 0 xs, []⟩ S
  | [.loc n], S => match seqD S (.loc n) with
    | some xs => .ok ⟨enumD 0 xs, [(n, xs)]⟩ S
    | none => .bad
  | _, _ => .bad
def mEnum (ma : M (List D)) : M IterD := bindM ma fun ds _ S => enumIter ds S
theorem i_enum (gk : GOk g) (hK : X.K = g.K) {e : Expr} {ma : M (List D)} {p pos tpos : Pos} {elts : List Expr} {kk : Nat} (hg : Gl X "enumerate") (hm : X.mg "enumerate" = none) (ha : SimA X g W [e] ma) (hs : starEach [e] X.env = [(false, eval e X.env)] := by rfl) :
    SimI X g W (.Tuple elts kk tpos) (.Call (.Name "enumerate" p) [e] [] pos) (mEnum ma) :=
  PI.imp (pi_enumA hg hm ha hs) fun σ H R ⟨π, ρ, S, hr, hs, hp⟩ => tG_bind (R := RVs) hr hs hp fun xs vs π1 S1 H1 e1 hr1 hs1 rx hp1 => by
    rw [hK]
    unfold enumIter at hp1
    split at hp1
    · obtain ⟨v, rfl, r⟩ := rx.one
      obtain ⟨a, vs, rfl, h1, h2⟩ := r.tup'
      exact .inr ⟨a, vs, rfl, h1.t, hp1.pure hs1 (isWalk_enumT gk h1 h2)⟩
    · rename_i n
      obtain ⟨v, rfl, r⟩ := rx.one
      split at hp1
      · rename_i ys e2
        obtain ⟨a, hn, rfl⟩ := r.loc'
        obtain ⟨vs, h1, h2⟩ := watch_list hs1 hn (okB_of e2)
        exact .inl ⟨a, vs, rfl, h1, hp1.pure hs1 (isWalk_enumL gk hn)⟩
      · exact hp1.elim
    · exact hp1.elim
/-! ### comprehensions -/
/-- the loop of a comprehension: the list so far stands at k in the store -/
noncomputable def lcL (it : IterD) (p : Pat) (mt : M Bool) (me : M D) (k : Nat) : List D → Rho → Sto → Option Sto
  | [], _, S => open Classical in if it.okB S then some S else none
  | d :: ds, ρ, S => open Classical in if it.okB S then match bindP p d ρ with
      | none => none
      | some ρ1 => match mt ρ1 S with
        | .ok false S1 => lcL it p mt me k ds ρ S1
        | .ok true S1 => match me ρ1 S1 with
          | .ok y S2 => match S2[k]? with
            | some (.lst acc) => if acc.length < sizeLine then lcL it p mt me k ds ρ (S2.set k (.lst (acc ++ [y]))) else none
            | _ => none
          | _ => none
        | _ => none
    else none
/-- names forgotten -/
def wipeR (ρ : Rho) : List Nat → Rho
  | [] => ρ
  | v :: vs => (wipeR ρ vs).set v none
noncomputable def mLc (p : Pat) (own : List Nat) (mi : M IterD) (mt : M Bool) (me : M D) : M D := bindM mi fun it ρ S => match lcL it p mt me S.length it.items (wipeR ρ own) (S ++ [.lst []]) with
  | some S1 => .ok (.loc S.length) S1
  | none => .bad
theorem RelR.wipe : ∀ {vs : List Nat} {ρ : Rho} {σ : L2.St}, RelR g π H ρ σ → RelR g π H (wipeR ρ vs) (L2.wipe σ vs)
  | [], _, _, h => h
  | v :: vs, ρ, σ, h => (RelR.wipe (vs := vs) h).unset v
theorem wipe_get (σ : L2.St) (i : Nat) : ∀ vs : List Nat, (L2.wipe σ vs)[i]? = if i ∈ vs ∧ i < σ.length then some none else σ[i]?
  | [] => by simp [L2.wipe]
  | v :: vs => by
    unfold L2.wipe
    by_cases e : v = i
    · subst e
      by_cases hl : v < σ.length
      · rw [List.getElem?_set_self (by rw [L2.wipe_length]; exact hl)]
        simp [hl]
      · rw [List.getElem?_eq_none (by rw [List.length_set, L2.wipe_length]; omega)]
        simp [hl]
    · rw [List.getElem?_set_ne e, wipe_get σ i vs]
      simp [Ne.symm e]
theorem wipe_off {ns vs : List Nat} {σ σ2 : L2.St} (h : ∀ i ∈ ns, i ∈ vs) (o : Off ns (L2.wipe σ vs) σ2) : L2.wipe σ2 vs = L2.wipe σ vs := by
  have hl : σ2.length = σ.length := by rw [o.1, L2.wipe_length]
  refine List.ext_getElem? fun i => ?_
  rw [wipe_get, wipe_get, hl]
  by_cases hi : i ∈ vs
  · by_cases hx : i < σ.length
    · simp [hi, hx]
    · rw [if_neg (fun z => hx z.2), if_neg (fun z => hx z.2), List.getElem?_eq_none (by omega), List.getElem?_eq_none (by omega)]
  · simp only [hi, false_and, if_false]
    rw [o.2 i fun z => hi (h i z), wipe_get]
    simp [hi]
abbrev W0 : WX := fun _ _ _ _ => False
theorem lc_rest (gk : GOk g) {vs0 : List Nat} {p : Pat} {mt : M Bool} {me : M D} (hpn : ∀ i ∈ p.names, i ∈ vs0) {it : IterD} {J : It} {π1 : List Addr} {H1 : Hp} {ρ : Rho} {S1 : Sto} {Q : VK} (hr1 : RelR g π1 H1 ρ σ) (hs1 : St' g π1 H1 S1) (wk : IsWalk g π1 H1 J it)
    (hp1 : Post g RV W σ π1 H1 Q (match lcL it p mt me S1.length it.items (wipeR ρ vs0) (S1 ++ [.lst []]) with
      | some S2 => .ok (.loc S1.length) S2
      | none => .bad)) : ∀ D, H1 D = none → ∃ W' : Nat → Nat → Hp → Prop, (∃ m, W' 0 m (upd H1 D (.lst []))) ∧ ∀ i m H, W' i m H →
      (J.stop i H ∧ Q (.ref D) H) ∨ (J.go i H ∧ ∃ Nx : Hp → Prop, (∀ H', Nx H' → ∃ m', m' < m ∧ W' (i + 1) m' H') ∧ ∀ x H', J.yld i H x H' → tP g p x (L2.wipe σ vs0) H' fun σ2 H2 => L2.wipe σ2 vs0 = L2.wipe σ vs0 ∧ tG g RB W0 mt σ2 H2 fun b H3 =>
        if b = true then tG g RV W0 me σ2 H3 fun y H4 => ∃ acc, H4 D = some (.lst acc) ∧ acc.length < sizeLine ∧ Nx (upd H4 D (.lst (acc ++ [y]))) else Nx H3) := by
  intro Dd hD
  obtain ⟨Gd, Y, w, hG, hY⟩ := wk.walk
  have exD : Ext π1 H1 (π1 ++ [Dd]) (upd H1 Dd (.lst [])) := Ext.push hD
  have hsD : St' g (π1 ++ [Dd]) (upd H1 Dd (.lst [])) (S1 ++ [.lst []]) := hs1.push gk hD ⟨[], upd_same, .nil⟩
  have hk0 : (π1 ++ [Dd])[S1.length]? = some Dd := by
    rw [← hs1.len, List.getElem?_append_right (Nat.le_refl _)]
    simp
  let fin : List Addr → Hp → Option Sto → Prop := fun π H o => Post g RV W σ π H Q (match o with
    | some S2 => .ok (.loc S1.length) S2
    | none => .bad)
  refine lc_it w (fun i H => ∃ π S, Ext (π1 ++ [Dd]) (upd H1 Dd (.lst [])) π H ∧ St' g π H S ∧ fin π H (lcL it p mt me S1.length (it.items.drop i) (wipeR ρ vs0) S)) ⟨π1 ++ [Dd], _, .refl _ _, hsD, ?_⟩ ?_ ?_ ?_
  · rw [List.drop_zero]
    exact Post.mono exD hp1
  · rintro i H hi ⟨π, S, ex, hs, hf⟩
    refine hG π H S (exD.trans ex) hs ?_
    cases e : it.items.drop i with
    | nil =>
      rw [e] at hf
      simp only [fin, lcL] at hf
      by_cases q : it.okB S
      · exact q
      · rw [if_neg q] at hf
        exact hf.elim
    | cons d ds =>
      rw [e] at hf
      simp only [fin, lcL] at hf
      by_cases q : it.okB S
      · exact q
      · rw [if_neg q] at hf
        exact hf.elim
  · rintro i x H H' hi ⟨π, S, ex, hs, hf⟩ hy
    have ed : it.items.drop i = it.items[i] :: it.items.drop (i + 1) := List.drop_eq_getElem_cons hi
    rw [ed] at hf
    simp only [fin, lcL] at hf
    by_cases hok : it.okB S
    · rw [if_pos hok] at hf
      obtain ⟨ex2, hs2, d, hd, rd⟩ := hY i x π H H' S hi (exD.trans ex) hs hok hy
      have e3 : it.items[i] = d := by
        rw [List.getElem?_eq_getElem hi] at hd
        exact Option.some.inj hd
      rw [e3] at hf
      have hrw : RelR g π H' (wipeR ρ vs0) (L2.wipe σ vs0) := (((hr1.ext exD).ext ex).ext ex2).wipe
      cases e4 : bindP p d (wipeR ρ vs0) with
      | none => rw [e4] at hf; exact hf.elim
      | some ρ1 =>
        rw [e4] at hf
        refine ⟨π, d, _, S, hrw, hs2, rd, ρ1, e4, fun σ1 hr3 off => ⟨wipe_off hpn off, ?_⟩⟩
        have hf2 := Post.mono ex2 hf
        refine ⟨π, ρ1, S, hr3, hs2, ?_⟩
        cases e5 : mt ρ1 S with
        | ex _ _ _ => simp only [e5] at hf2; exact hf2.elim
        | bad => simp only [e5] at hf2; exact hf2.elim
        | ok b S2 =>
          simp only [e5] at hf2
          intro b' π2 H2 ex3 hs3 rb
          cases (show b = b' from rb)
          have hf3 := Post.mono ex3 hf2
          cases b with
          | false =>
            rw [if_neg Bool.false_ne_true]
            exact ⟨π2, S2, (ex.trans ex2).trans ex3, hs3, hf3⟩
          | true =>
            rw [if_pos rfl]
            refine ⟨π2, ρ1, S2, hr3.ext ex3, hs3, ?_⟩
            cases e6 : me ρ1 S2 with
            | ex _ _ _ => simp only [e6] at hf3; exact hf3.elim
            | bad => simp only [e6] at hf3; exact hf3.elim
            | ok y S3 =>
              simp only [e6] at hf3
              intro v π3 H3 ex4 hs4 ry
              have hf4 := Post.mono ex4 hf3
              have exA := ((ex.trans ex2).trans ex3).trans ex4
              cases e7 : S3[S1.length]? with
              | none => simp only [e7] at hf4; exact hf4.elim
              | some o =>
                cases o with
                | fro _ => simp only [e7] at hf4; exact hf4.elim
                | dK _ => simp only [e7] at hf4; exact hf4.elim
                | froK _ => simp only [e7] at hf4; exact hf4.elim
                | lst acc =>
                  simp only [e7] at hf4
                  obtain ⟨vs, h1, h2⟩ := hs4.at_ _ _ _ e7 (exA.get hk0)
                  by_cases hz : acc.length < sizeLine
                  · rw [if_pos hz] at hf4
                    refine ⟨vs, h1, by rw [← h2.length]; exact hz, π3, S3.set S1.length (.lst (acc ++ [y])), ?_, ?_, ?_⟩
                    · exact exA.trans (Ext.upd_mut h1 (fun z => z))
                    · exact hs4.put gk (exA.get hk0) h1 (fun z => z) (fun ps z => by cases z) ⟨vs ++ [v], upd_same, (h2.snoc ry).ext (Ext.upd_mut h1 (fun z => z))⟩
                    · exact Post.mono (Ext.upd_mut h1 (fun z => z)) hf4
                  · rw [if_neg hz] at hf4
                    exact hf4.elim
    · rw [if_neg hok] at hf
      exact hf.elim
  · rintro H ⟨π, S, ex, hs, hf⟩
    rw [List.drop_length] at hf
    simp only [fin, lcL] at hf
    by_cases hok : it.okB S
    · rw [if_pos hok] at hf
      exact Post.pure (R := RV) hf hs (Rel.loc (ex.get hk0))
    · rw [if_neg hok] at hf
      exact hf.elim
theorem tLc_imp (gk : GOk g) {vs0 : List Nat} {p : Pat} {mi : M IterD} {mt : M Bool} {me : M D} (hpn : ∀ i ∈ p.names, i ∈ vs0) {H : Hp} {Q : VK} (h : tG g RV W (mLc p vs0 mi mt me) σ H Q) :
    tLc (tG g RI W mi) (tP g p) (tG g RB W0 mt) (tG g RV W0 me) vs0 σ H Q := by
  obtain ⟨π, ρ, S, hr, hst, hp⟩ := h
  exact tG_bind (R := RI) hr hst hp fun it J π1 S1 H1 e1 hr1 hs1 wk hp1 => lc_rest gk hpn hr1 hs1 wk hp1
theorem s_lc (gk : GOk g) {elt tg iter : Expr} {ifs : List Expr} {scope : Scope} {own : List (Str × Nat)} {pos : Pos} {p : Pat} {mi : M IterD} {mt : M Bool} {me : M D} (hc : X.calm = true) (hN : X.N.Nodup) (hi : SimI X g W tg iter mi) (ok : BlkOk X.N X.env.scope scope own)
    (hpn : ∀ i ∈ p.names, i ∈ own.map (·.2))
    (hg : ∀ (s : Shared) (H : Hp) (C : Addr) (cl : List (Str × Addr)) (fp : List Addr), SimP (X.blk s H scope (compEnvC scope cl C X.env) fp) g tg p)
    (ht : ∀ (s : Shared) (H : Hp) (C : Addr) (cl : List (Str × Addr)) (fp : List Addr), PTs (X.blk s H scope (compEnvC scope cl C X.env) fp) ifs (tG g RB W0 mt))
    (he : ∀ (s : Shared) (H : Hp) (C : Addr) (cl : List (Str × Addr)) (fp : List Addr), SimE (X.blk s H scope (compEnvC scope cl C X.env) fp) g W0 elt me) (hs : ∀ x, foldedSetIterable iter X.env x = pure x := by intro _; rfl) :
    SimE X g W (.ListComp elt [⟨tg, iter, ifs, 0⟩] scope pos) (mLc p (own.map (·.2)) mi mt me) :=
  PE.imp (pe_lc hc hN hi ok hg ht he hs) fun σ H Q h => tLc_imp gk hpn h
theorem s_setLc (gk : GOk g) {i : Nat} {y : Str} {py : Pos} {elt tg iter : Expr} {ifs : List Expr} {scope : Scope} {own : List (Str × Nat)} {pos spos : Pos} {p : Pat} {mi : M IterD} {mt : M Bool} {me : M D} (hc : X.calm = true) (hN : X.N.Nodup) (hy : X.N[i]? = some y) (hyl : X.env.scope.names.lookup y = some .local)
    (hsw : swapsWith (.ListComp elt [⟨tg, iter, ifs, 0⟩] scope pos) (some (.Name y py)) spos.line X.env = pure true) (hi : SimI X g W tg iter mi) (ok : BlkOk X.N X.env.scope scope own)
    (hpn : ∀ i ∈ p.names, i ∈ own.map (·.2))
    (hg : ∀ (s : Shared) (H : Hp) (C : Addr) (cl : List (Str × Addr)) (fp : List Addr), SimP (X.blk s H scope (compEnvC scope cl C X.env) fp) g tg p)
    (ht : ∀ (s : Shared) (H : Hp) (C : Addr) (cl : List (Str × Addr)) (fp : List Addr), PTs (X.blk s H scope (compEnvC scope cl C X.env) fp) ifs (tG g RB W0 mt))
    (he : ∀ (s : Shared) (H : Hp) (C : Addr) (cl : List (Str × Addr)) (fp : List Addr), SimE (X.blk s H scope (compEnvC scope cl C X.env) fp) g W0 elt me) (hs : ∀ x, foldedSetIterable iter X.env x = pure x := by intro _; rfl) :
    SimS X g W (.Assign [.Name y py] (.ListComp elt [⟨tg, iter, ifs, 0⟩] scope pos) spos) (sAsg (.name i) (mLc p (own.map (·.2)) mi mt me)) := by
  refine PS.imp (ps_setLc hc hN hy hyl hsw hi ok hg ht he hs) fun Dn σ H h => ?_
  have h2 := tS_asg h
  show tLc _ _ _ _ _ σ H fun x H1 => gName i x σ H1 Dn.nx
  refine tLc_imp gk hpn ?_
  obtain ⟨π, ρ, S, hr, hs, hp⟩ := h
  refine tS_bind (R := RV) hr hs hp fun x v π1 S1 H1 e1 hr1 hs1 rx hp1 => ?_
  exact hp1.nxAt (hr1.set rx i) hs1
/-- the tests of a comprehension: none, one -/
def mYes : M Bool := pureM true
theorem ts_nil : PTs X [] (tG g RB W mYes) := ⟨fun pins s σ H Q I ⟨π, ρ, S, hr, hs, hp⟩ => pts_nil.run pins s σ H Q I (Post.pure (R := RB) hp hs rfl)⟩
theorem ts_one {c : Expr} {m : M Bool} (h : SimT X g W c m) : PTs X [c] (tG g RB W m) := pts_one h
end
end PI

end
section
set_option Elab.async false
set_option linter.all false
set_option maxRecDepth 100000
set_option maxHeartbeats 2000000
/-! PiFn: what a def promises, calls of defs. -/
namespace PI
open PySem PySem.Spec PyProof.Rows L2
abbrev Fn := List D → Sto → ER D
def spOf (g : G) (n : Nat) (f : Fn) : Sp := fun vs H Q E => vs.length = n ∧ ∃ π S ds, St' g π H S ∧ Rels g π H ds vs ∧ Post g RV (fun c d _ H' => E c d H') [] π H Q (f ds S)
/-- a body's reading, run at its arguments -/
def runB (n : Nat) (m : MS) : Fn := fun ds S => match m (ds.map some ++ List.replicate (n - ds.length) none) S with
  | .nx _ S1 => .ok .non S1
  | .rt d S1 => .ok d S1
  | .ex c w _ S1 => .ex c w S1
  | .bk _ _ => .bad
  | .ct _ _ => .bad
  | .bad => .bad
/-- a def of the text, read by f -/
structure DefOk (P : Program) (w : World) (mg : Str → Option Value) (base : Heap) (g : G) (k : Nat) (x : Str) (n : Nat) (f : Fn) : Prop where
  ex : ∃ fa fd ps, mg x = some (.ref fa) ∧ FnOk P w g.K mg base (L2N.CX P w) k fa fd ps (spOf g n f) ∧ PySem.W.keepIn g.K (.ref fa) = true ∧ Binds g.K fd ps []
theorem DefOk.mono {P : Program} {w : World} {mg : Str → Option Value} {base : Heap} {g : G} {j k : Nat} {x : Str} {n : Nat} {f : Fn} (d : DefOk P w mg base g j x n f) (h : j ≤ k) : DefOk P w mg base g k x n f := by
  obtain ⟨fa, fd, ps, h1, h2, h3, h4⟩ := d.ex
  exact ⟨fa, fd, ps, h1, h2.mono h, h3, h4⟩
theorem takesN0 {X : Cx} : L2N.Takes X W0 := fun _ _ x => by
  obtain ⟨_, _, _, _, _, _, _, _, _, _, _, _, _, _, _, _, z⟩ := x
  exact z.elim
section
variable {P : Program} {w : World} {mg : Str → Option Value} {base : Heap} {g : G}
/-- what a body may use -/
structure BodyX (X : Cx) (k : Nat) (W : WX) : Prop where
  hr : Room k X.A
  tk : L2N.Takes X W
  po : PassesOwn (model X.prog X.w) X.A X.env X.xe
theorem post_run {m : MS} {N : List Str} {ds : List D} {vs : List V} {S : Sto} {π : List Addr} {H : Hp} {Q : VK} {E : XK} (hs : St' g π H S) (hd : Rels g π H ds vs) (hp : Post g RV (fun c d _ H' => E c d H') [] π H Q (runB N.length m ds S)) :
    tS g (fun c d _ H' => E c d H') m { nx := fun _ H' => Q .non H', rt := Q } (L2.start N vs) H := by
  refine ⟨π, ds.map some ++ List.replicate (N.length - ds.length) none, S, ?_, hs, ?_⟩
  · unfold L2.start
    rw [hd.length]
    exact RelR.start hd
  · unfold runB at hp
    split at hp
    · rename_i ρ S1 e
      rw [e]
      exact fun σ' π' H' ex _ st => hp .non π' H' ex st Rel.non
    · rename_i d S1 e
      rw [e]
      exact fun v π' H' ex st r => hp v π' H' ex st r
    · rename_i c w' ρ S1 e
      rw [e]
      exact fun σ' a wv π' H' ex _ st r x => hp a wv π' H' ex st r x
    · exact hp.elim
    · exact hp.elim
    · exact hp.elim
/-- a def by its body's reading -/
theorem def_rd {k : Nat} {x qual : Str} {params : Arguments} {body : List Stmt} {scope : Scope} {fa : Addr} {fd : FuncData} {N ps : List Str} {m : MS} (F : FunD g.K x qual params body scope [] [] fa fd) (hm : mg x = some (.ref fa)) (Sc : FnScope N ps scope)
    (hbn : ∀ (kV doc pm : Value) (an : Option Addr) (cdv ct : Value) (us : List Value), us.length = ps.length → bindArgs (PySem.W.fnOf x qual params body scope .none kV doc pm an cdv ct) ⟨us, []⟩ = pure (ps.zip us))
    (hb : ∀ (cdv : Value) (A : Around) (outer : List Env) (s : Shared) (H : Hp) (E : XK), BodyX (cxOf (L2N.CX P w) P w g.K mg base N qual scope fa cdv A outer s H E) k (fun c d _ H' => E c d H') →
      SimB (cxOf (L2N.CX P w) P w g.K mg base N qual scope fa cdv A outer s H E) g (fun c d _ H' => E c d H') body m) : DefOk P w mg base g (k + 1) x ps.length (runB N.length m) := by
  refine ⟨fa, fd, ps, hm, F.ok Sc (fun vs H Q E h => h.1) fun cdv A outer s H vs Q E hr h => ?_, F.kp, F.bindsN hbn⟩
  obtain ⟨hl, π, S, ds, hs, hd, hp⟩ := h
  refine ⟨_, hb cdv A outer s H E ⟨hr, L2N.takes_of rfl rfl rfl rfl, passes_of rfl⟩, ?_⟩
  exact post_run hs hd hp
/-- a def that calls itself: by levels -/
theorem def_rec {j : Nat} {x qual : Str} {params : Arguments} {body : List Stmt} {scope : Scope} {fa : Addr} {fd : FuncData} {N ps : List Str} {m : Fn → MS} (F : FunD g.K x qual params body scope [] [] fa fd) (hm : mg x = some (.ref fa)) (Sc : FnScope N ps scope)
    (hbn : ∀ (kV doc pm : Value) (an : Option Addr) (cdv ct : Value) (us : List Value), us.length = ps.length → bindArgs (PySem.W.fnOf x qual params body scope .none kV doc pm an cdv ct) ⟨us, []⟩ = pure (ps.zip us))
    (hb : ∀ (k : Nat) (f : Fn), j ≤ k → DefOk P w mg base g k x ps.length f → ∀ (cdv : Value) (A : Around) (outer : List Env) (s : Shared) (H : Hp) (E : XK), BodyX (cxOf (L2N.CX P w) P w g.K mg base N qual scope fa cdv A outer s H E) k (fun c d _ H' => E c d H') →
      SimB (cxOf (L2N.CX P w) P w g.K mg base N qual scope fa cdv A outer s H E) g (fun c d _ H' => E c d H') body (m f)) :
    ∀ n : Nat, DefOk P w mg base g (j + n) x ps.length (Nat.rec (fun _ _ => .bad) (fun _ f => runB N.length (m f)) n) := by
  intro n
  induction n with
  | zero =>
    have F0 := F
    obtain ⟨oc, od, dV, kV, doc, pm, an, cdv, ct, osl, e, lk, hcd, _, _⟩ := F0.ex
    refine ⟨fa, fd, ps, hm, ⟨fun vs H Q E h => h.1, fun A outer s H args us vs Q E hr he hb hv h => ?_⟩, F.kp, F.bindsN hbn⟩
    obtain ⟨_, _, _, _, _, _, hp⟩ := h
    exact (show False from hp).elim
  | succ n ih => exact def_rd F hm Sc hbn fun cdv A outer s H E bx => hb (j + n) _ (Nat.le_add_right _ _) ih cdv A outer s H E bx
end
def mCallF (n : Nat) (f : Fn) (ma : M (List D)) : M D := bindM ma fun xs _ S => if xs.length = n then f xs S else .bad
section
variable {X : Cx} {g : G} {W : WX}
theorem tG_callF {n : Nat} {f : Fn} {ma : M (List D)} {σ : L2.St} {H : Hp} {Q : VK} (h : tG g RV W (mCallF n f ma) σ H Q) : tCallS (spOf g n f) (WE W) (tG g RVs W ma) σ H Q := by
  obtain ⟨π, ρ, S, hr, hs, hp⟩ := h
  refine tG_bind (R := RVs) hr hs hp fun xs vs π1 S1 H1 e1 hr1 hs1 rx hp1 => ?_
  split at hp1
  · rename_i hn
    refine ⟨rx.length.symm.trans hn, π1, S1, xs, hs1, rx, ?_⟩
    cases e : f xs S1 with
    | ok a S2 => rw [e] at hp1; exact hp1
    | ex c w S2 => rw [e] at hp1; exact hp1
    | bad => rw [e] at hp1; exact hp1
  · exact hp1.elim
theorem s_call {k n : Nat} {f : Fn} {x : Str} {e : Expr} {es : List Expr} {ma : M (List D)} {p pos : Pos} (Dx : DefOk X.prog X.w X.mg X.base g k x n f) (hK : X.K = g.K) (hr : Room k X.A) (tk : L2N.Takes X W) (hg : Gl X x) (ha : SimA X g W (e :: es) ma)
    (hdb : (x == ("__debug__" : Str)) = false := by decide) (he : starEach (e :: es) X.env = (false, eval e X.env) :: starEach es X.env := by rfl) (hpl : (backTo pos (starEach es X.env)).any (·.1) = false := by rfl) :
    SimE X g W (.Call (.Name x p) (e :: es) [] pos) (mCallF n f ma) := by
  obtain ⟨fa, fd, ps, h1, h2, h3, h4⟩ := Dx.ex
  rw [← hK] at h2 h3 h4
  exact PE.imp (pe_callS h2 hr hg h1 h3 h4 (fun σ => L2N.passAt tk σ) ha hdb he hpl) fun σ H Q h => tG_callF h
end
end PI

end
section
set_option Elab.async false
set_option linter.all false
set_option maxRecDepth 100000
set_option maxHeartbeats 2000000
/-! PiMore: chains, isinstance, list methods, stores at places, dicts, keyword calls, constants. -/
namespace PI
open PySem PySem.Spec PyProof.Rows L2
section
variable {X : Cx} {g : G} {W : WX}
/-! ### a op b op' c -/
theorem tG_chain {r r' : R2} {f f' : D → D → Sto → ER D} {ma mb mc : M D} (hf : SimOp g r f) (hf' : SimOp g r' f') {σ : L2.St} {H : Hp} {Q : VK} (h : tG g RV W (mChain f f' ma mb mc) σ H Q) : tChain r r' (tG g RV W ma) (tG g RV W mb) (tG g RV W mc) σ H Q := by
  obtain ⟨π, ρ, S, hr, hs, hp⟩ := h
  refine tG_bind (R := RV) hr hs hp fun x v π1 S1 H1 e1 hr1 hs1 rx hp1 => ?_
  refine tG_bind (R := RV) hr1 hs1 hp1 fun y w π2 S2 H2 e2 hr2 hs2 ry hp2 => ?_
  refine hf W σ π2 H2 S2 _ x y v w hs2 (rx.ext e2) ry ?_
  unfold bindM at hp2
  cases e : f x y S2 with
  | bad => simp only [e] at hp2; exact hp2.elim
  | ex c w' S3 => simp only [e] at hp2; exact hp2
  | ok z S3 =>
    simp only [e] at hp2
    intro u π3 H3 e3 hs3 rz
    have hp3 := Post.mono e3 hp2
    cases z with
    | bl k =>
      refine ⟨k, Rel.bl' rz, ?_⟩
      cases k with
      | false => exact Post.pure (R := RV) hp3 hs3 Rel.bl
      | true =>
        rw [if_pos rfl]
        have hp5 : Post g RV W σ π3 H3 Q (bindM mc (fun w _ S => f' y w S) ρ S3) := hp3
        exact tG_bind (R := RV) ((hr2.ext e3)) hs3 hp5 fun c w' π4 S4 H4 e4 hr4 hs4 rc hp4 => hf' W σ π4 H4 S4 Q y c w w' hs4 ((ry.ext e3).ext e4) rc hp4
    | _ => exact hp3.elim
theorem s_chain {op op' : CmpOp} {r r' : R2} {f f' : D → D → Sto → ER D} {a b c : Expr} {ma mb mc : M D} {pos : Pos} (ho : OpR X (compareOp op) r) (hf : SimOp g r f) (ho' : OpR X (compareOp op') r') (hf' : SimOp g r' f') (ha : SimE X g W a ma) (hb : SimE X g W b mb) (hc : SimE X g W c mc)
    (hm : lastMarks [op, op'] [b, c] = false := by with_unfolding_all rfl) : SimE X g W (.Compare a [op, op'] [b, c] pos) (mChain f f' ma mb mc) := PE.imp (pe_chain ho ho' ha hb hc hm) fun _ _ _ h => tG_chain hf hf' h
theorem tG_test' {m : M D} {t : TE} {σ : L2.St} {H : Hp} {Q : Bool → Hp → Prop} (h : ∀ Q, tG g RV W m σ H Q → t σ H Q) (q : tG g RB W (mTest m) σ H Q) : L2.tTest t σ H Q := h _ (tG_test q)
theorem st_chain {op op' : CmpOp} {r r' : R2} {f f' : D → D → Sto → ER D} {a b c : Expr} {ma mb mc : M D} {pos : Pos} (ho : OpR X (compareOp op) r) (hf : SimOp g r f) (ho' : OpR X (compareOp op') r') (hf' : SimOp g r' f') (ha : SimE X g W a ma) (hb : SimE X g W b mb) (hc : SimE X g W c mc)
    (hm : lastMarks [op, op'] [b, c] = false := by with_unfolding_all rfl) : SimT X g W (.Compare a [op, op'] [b, c] pos) (mTest (mChain f f' ma mb mc)) := PT.imp (pt_chain ho ho' ha hb hc hm) fun σ H Q h => tG_test' (fun Q h => tG_chain hf hf' h) h
theorem st_cmp {op : CmpOp} {r : R2} {f : D → D → Sto → ER D} {a b : Expr} {ma mb : M D} {pos : Pos} (ho : OpR X (compareOp op) r) (hf : SimOp g r f) (ha : SimE X g W a ma) (hb : SimE X g W b mb) (hm : behindInMarks op b = false) :
    SimT X g W (.Compare a [op] [b] pos) (mTest (mOp f ma mb)) := PT.imp (pt_cmpR ho ha hb hm) fun σ H Q h => tG_test' (fun Q h => tG_op hf h) h
/-! ### constants of the module -/
theorem s_glob {x : Str} {d : D} {v : V} {u : Value} {pos : Pos} (hg : Gl X x) (hm : X.mg x = some u) (r : RelV v u) (hv : scalD d = some v) (hd : (x == ("__debug__" : Str)) = false := by decide) : SimE X g W (.Name x pos) (pureM d) := s_con (pe_glob hg hm r hd) hv
/-! ### isinstance(x, T) -/
theorem pe_tyN {T : String} {x : Str} {pos : Pos} (hg : Gl X x) (hm : X.mg x = none) (hv : bootBuiltins x = some (.type T)) (hn : x ≠ "__name__" := by decide) (hd : (x == ("__debug__" : Str)) = false := by decide) : PE X (.Name x pos) (tC (.ty T)) :=
  ⟨fun _ _ _ H _ I h => ld_blt I hg hm hv ⟨.ty T, H, I, rfl, h⟩ hn hd⟩
theorem tyD_ok {π : List Addr} {H : Hp} {S : Sto} {d : D} {v : V} {t : String} (s : St' g π H S) (h : tyD S d = some t) (r : Rel g π H d v) : TyX g.K H v (.type t) := by
  cases d with
  | non => cases h; rw [r.non']; exact .base .non
  | bl b => cases h; rw [r.bl']; exact .base (.bl b)
  | int b => cases h; rw [r.int']; exact .base (.int b)
  | str b => cases h; rw [r.str']; exact .base (.str b)
  | tup xs =>
    cases h
    obtain ⟨a, vs, rfl, h1, _⟩ := r.tup'
    rcases h1 with h1 | ⟨o, its, n, h1, h2, _⟩
    · exact .base (.tup h1)
    · exact .kTuple h1 h2
  | loc n =>
    unfold tyD at h
    cases e : S[n]? with
    | none => simp [e] at h
    | some o =>
      obtain ⟨a, rfl, _, ro⟩ := s.obj e r
      cases o with
      | lst xs =>
        simp [e] at h; subst h
        obtain ⟨vs, h1, _⟩ := ro
        exact .base (.lst h1)
      | fro xs =>
        simp [e] at h; subst h
        obtain ⟨vs, _, ⟨o, h1⟩, _⟩ := ro
        exact .base (.frz h1)
      | dK xs =>
        simp [e] at h; subst h
        obtain ⟨vs, h1, _⟩ := ro
        exact .base (.dK h1)
      | froK xs => simp [e] at h
  | fn a => cases h
def mIsTy (T : String) (m : M D) : M D := bindM m fun d _ S => match (tyD S d).bind fun t => kitB t T with
  | some b => .ok (.bl b) S
  | none => .bad
theorem s_isTy (hK : X.K = g.K) {T : String} {xs : Str} {e : Expr} {m : M D} {p p2 pos : Pos} (hg : Gl X "isinstance") (hm : X.mg "isinstance" = none) (hgT : Gl X xs) (hmT : X.mg xs = none) (hv : bootBuiltins xs = some (.type T)) (he : SimE X g W e m) (hn : xs ≠ "__name__" := by decide) (hdb : (xs == ("__debug__" : Str)) = false := by decide)
    (hs : starEach (e :: [.Name xs p2]) X.env = (false, eval e X.env) :: starEach [.Name xs p2] X.env := by rfl) : SimE X g W (.Call (.Name "isinstance" p) [e, .Name xs p2] [] pos) (mIsTy T m) := by
  have hb : bootBuiltins "isinstance" = some (.builtin "isinstance") := by decide +kernel
  refine PE.imp (pe_callB call_isi hg hm hb (pa_cons he (pa_cons (pe_tyN hgT hmT hv hn hdb) pa_nil (by rfl)) hs) (by decide) (by decide) hs (by rfl)) fun σ H Q ⟨π, ρ, S, hr, hst, hp⟩ => ?_
  refine tG_bind (R := RV) hr hst hp fun x v π1 S1 H1 e1 hr1 hs1 rx hp1 => ?_
  cases e2 : tyD S1 x with
  | none => simp [e2] at hp1; exact hp1.elim
  | some t =>
    cases e3 : kitB t T with
    | none => simp [e2, e3] at hp1; exact hp1.elim
    | some b =>
      simp only [e2, Option.bind_some, e3] at hp1
      show rIsi X.K [v, .ty T] H1 Q
      rw [hK]
      exact ⟨v, .ty T, .type t, .type T, b, rfl, .ty T, tyD_ok hs1 e2 rx, kit_ty e3, Post.pure (R := RV) hp1 hs1 Rel.bl⟩
/-! ### xs.append(y) -/
def opAppend : D → D → Sto → ER D
  | .loc n, y, S => match S[n]? with
    | some (.lst xs) => if xs.length < sizeLine then .ok .non (S.set n (.lst (xs ++ [y]))) else .bad
    | _ => .bad
  | _, _, _ => .bad
/-- o.m(e): o first, then e, then the work; o is a list or dict that stays one -/
def isLstD (S : Sto) : D → Bool
  | .loc n => match S[n]? with
    | some (.lst _) => true
    | some (.fro _) => true
    | _ => false
  | _ => false
def mAppend (mo me : M D) : M D := bindM mo fun x => fun ρ S => if isLstD S x then bindM me (fun y _ S => opAppend x y S) ρ S else .bad
theorem s_append (gk : GOk g) (hK : X.K = g.K) {o e : Expr} {mo me : M D} {apos cpos : Pos} (ho : SimE X g W o mo) (he : SimE X g W e me)
    (hbase : attributeBase o "append" X.env (eval o X.env) = eval o X.env := by rfl)
    (hfew : ((backTo cpos (starEach [e] X.env)).all (fun x => !x.1) && (backToKw cpos (keywordEach [] X.env)).all (fun x => x.1.isSome)
      && decide ([e].length + ([] : List Keyword).length + (if ([] : List Keyword).isEmpty then 0 else 1) < 30)) = true := by rfl)
    (hline : (apos.endLine == cpos.line) = true := by rfl) (hs : starEach [e] X.env = (false, eval e X.env) :: starEach [] X.env := by rfl) (hplain : (backTo cpos (starEach [] X.env)).any (·.1) = false := by rfl) :
    SimE X g W (.Call (.Attribute o "append" apos) [e] [] cpos) (mAppend mo me) := by
  refine PE.imp (pe_bm PySem.F.plainAttrs_list PySem.F.slot_list_append PySem.F.type_list_append mt_append ho (pa_cons he pa_nil hs) hbase hfew hline hs hplain) fun σ H Q ⟨π, ρ, S, hr, hst, hp⟩ => ?_
  refine tG_bind (R := RV) hr hst hp fun x v π1 S1 H1 e1 hr1 hs1 rx hp1 => ?_
  split at hp1
  · rename_i hl
    refine ⟨?_, ?_⟩
    · rw [hK]
      cases x with
      | loc n =>
        unfold isLstD at hl
        cases e2 : S1[n]? with
        | none => simp [e2] at hl
        | some o =>
          obtain ⟨a, rfl, _, ro⟩ := hs1.obj e2 rx
          cases o with
          | lst xs => obtain ⟨vs, h1, _⟩ := ro; exact .inl ⟨rfl, vs, SqL.of h1⟩
          | fro xs => obtain ⟨vs, h1, _⟩ := ro; exact .inl ⟨rfl, vs, h1⟩
          | dK xs => simp [e2] at hl
          | froK xs => simp [e2] at hl
      | _ => simp [isLstD] at hl
    · refine tG_bind (R := RV) hr1 hs1 hp1 fun y w π2 S2 H2 e2 hr2 hs2 ry hp2 => ?_
      unfold opAppend at hp2
      split at hp2
      · split at hp2
        · rename_i n y S' xs e3
          split at hp2
          · rename_i hz
            obtain ⟨a, rfl, hn, vs, h1, h2⟩ := hs2.obj e3 (rx.ext e2)
            refine ⟨a, vs, w, rfl, rfl, h1, by rw [← h2.length]; exact hz, ?_⟩
            have ex : Ext π2 H2 π2 (upd H2 a (.lst (vs ++ [w]))) := Ext.upd_mut h1 (fun z => z)
            exact hp2 .non π2 _ ex (hs2.put gk hn h1 (fun z => z) (fun ps z => by cases z) ⟨_, upd_same, (h2.snoc ry).ext ex⟩) Rel.non
          · exact hp2.elim
        · exact hp2.elim
      · exact hp2.elim
  · exact hp1.elim
/-! ### o[i] = e -/
def opSetIx (o i v : D) (S : Sto) : Option Sto := match o, i with
  | .loc n, .int k => match S[n]? with
    | some (.lst xs) => match L2.ixN xs.length k with
      | some j => some (S.set n (.lst (xs.set j v)))
      | none => none
    | _ => none
  | _, _ => none
def sSetIx (mo mi me : M D) : MS := bindS me fun v => bindS mo fun o => bindS mi fun i ρ S => match opSetIx o i v S with
  | some S1 => .nx ρ S1
  | none => .bad
theorem s_setIx (gk : GOk g) {o i e : Expr} {mo mi me : M D} {pos tpos : Pos} (ho : SimE X g W o mo) (hi : SimE X g W i mi) (he : SimE X g W e me)
    (ha : ∀ v, assign (.Subscript o i tpos) X.env v = (do
      let ov ← holding [v] (eval o X.env)
      let iv ← holding [v, ov] (eval i X.env)
      standAt tpos
      holding [v, ov, iv] (setItem ov iv v)
      release [v, ov, iv] []) := by intro _; rfl)
    (hs : swapsWithSole [.Subscript o i tpos] e pos.line X.env = pure false := by rfl) (hw : swappedStores [.Subscript o i tpos] e X.env = pure none := by rfl)
    (h1 : (assignEach [.Subscript o i tpos] X.env).map (·.2) = [assign (.Subscript o i tpos) X.env] := by rfl) : SimS X g W (.Assign [.Subscript o i tpos] e pos) (sSetIx mo mi me) := by
  refine PS.imp (ps_asg he (pg_sub ho hi set_list ha) hs hw h1) fun Dn σ H ⟨π, ρ, S, hr, hst, hp⟩ => ?_
  refine tS_bind (R := RV) hr hst hp fun v v' π1 S1 H1 e1 hr1 hs1 rv hp1 => ?_
  refine tS_bind (R := RV) hr1 hs1 hp1 fun o o' π2 S2 H2 e2 hr2 hs2 ro hp2 => ?_
  refine tS_bind (R := RV) hr2 hs2 hp2 fun i i' π3 S3 H3 e3 hr3 hs3 ri hp3 => ?_
  unfold opSetIx at hp3
  cases o with
  | loc n =>
    cases i with
    | int k =>
      cases e4 : S3[n]? with
      | none => simp only [e4] at hp3; exact hp3.elim
      | some oo =>
        cases oo with
        | lst xs =>
          cases e5 : L2.ixN xs.length k with
          | none => simp only [e4, e5] at hp3; exact hp3.elim
          | some j =>
            simp only [e4, e5] at hp3
            obtain ⟨a, rfl, hn, vs, h1, h2⟩ := hs3.obj e4 (Rel.ext e3 ro)
            rw [Rel.int' ri]
            refine ⟨a, vs, k, j, rfl, rfl, h1, by rw [← h2.length]; exact e5, ?_⟩
            have ex : Ext π3 H3 π3 (upd H3 a (.lst (vs.set j v'))) := Ext.upd_mut h1 (fun z => z)
            have rv3 : Rel g π3 H3 v v' := Rel.ext e3 (Rel.ext e2 rv)
            exact (PostS.mono ex hp3).nxAt (hr3.ext ex) (hs3.put gk hn h1 (fun z => z) (fun ps z => by cases z) ⟨_, upd_same, (h2.set rv3 j).ext ex⟩)
        | fro _ => simp only [e4] at hp3; exact hp3.elim
        | dK _ => simp only [e4] at hp3; exact hp3.elim
        | froK _ => simp only [e4] at hp3; exact hp3.elim
    | _ => exact hp3.elim
  | _ => exact hp3.elim
/-! ### dicts, keys ints and texts -/
def keyD : D → Option Key
  | .int i => some (.inl i)
  | .str s => some (.inr s)
  | _ => none
def kD : Key → D
  | .inl i => .int i
  | .inr s => .str s
theorem keyD_ok {π : List Addr} {H : Hp} {d : D} {v : V} {k : Key} (h : keyD d = some k) (r : Rel g π H d v) : v = kV k := by
  cases d with
  | int i => cases h; exact r.int'
  | str i => cases h; exact r.str'
  | _ => cases h
theorem kD_rel {π : List Addr} {H : Hp} (k : Key) : Rel g π H (kD k) (kV k) := by
  cases k with
  | inl i => exact Rel.int
  | inr i => exact Rel.str
def getK (kvs : List (Key × D)) (k : Key) : Option D := (kvs.find? fun kv => decide (kv.1 = k)).map (·.2)
def setK (kvs : List (Key × D)) (k : Key) (v : D) : List (Key × D) :=
  if (kvs.any fun kv => decide (kv.1 = k)) = true then kvs.map (fun kv => if kv.1 = k then (kv.1, v) else kv) else kvs ++ [(k, v)]
theorem RelK.length {π : List Addr} {H : Hp} : ∀ {kvs : List (Key × D)} {vs : List (Key × V)}, RelK g π H kvs vs → kvs.length = vs.length
  | [], _, h => by unfold RelK at h; subst h; rfl
  | x :: xs, _, h => by
    unfold RelK at h
    obtain ⟨v, r, rfl, _, h3⟩ := h
    simp [RelK.length h3]
theorem RelK.find {π : List Addr} {H : Hp} {k : Key} : ∀ {kvs : List (Key × D)} {vs : List (Key × V)}, RelK g π H kvs vs →
    (∀ d, getK kvs k = some d → ∃ v, valV vs k = some v ∧ Rel g π H d v) ∧ (getK kvs k).isSome = (valV vs k).isSome ∧ (kvs.any fun kv => decide (kv.1 = k)) = (vs.any fun kv => decide (kv.1 = k))
  | [], _, h => by unfold RelK at h; subst h; exact ⟨fun d z => by simp [getK] at z, rfl, rfl⟩
  | x :: xs, _, h => by
    unfold RelK at h
    obtain ⟨v, r, rfl, h2, h3⟩ := h
    obtain ⟨i1, i2, i3⟩ := RelK.find (k := k) h3
    by_cases e : x.1 = k
    · refine ⟨fun d z => ⟨v, ?_, ?_⟩, ?_, ?_⟩
      · simp [valV, e]
      · simp [getK, e] at z; subst z; exact h2
      · simp [getK, valV, e]
      · simp [e]
    · have e1 : getK (x :: xs) k = getK xs k := by simp [getK, e]
      have e2 : valV ((x.1, v) :: r) k = valV r k := by simp [valV, e]
      rw [e1, e2]
      refine ⟨i1, i2, ?_⟩
      simp only [List.any_cons, e, decide_false, Bool.false_or]
      exact i3
theorem RelK.mapSet {π : List Addr} {H : Hp} {k : Key} {d : D} {v : V} (hd : Rel g π H d v) : ∀ {kvs : List (Key × D)} {vs : List (Key × V)}, RelK g π H kvs vs →
    RelK g π H (kvs.map (fun kv => if kv.1 = k then (kv.1, d) else kv)) (vs.map (fun kv => if kv.1 = k then (kv.1, v) else kv))
  | [], _, h => by unfold RelK at h; subst h; simp; unfold RelK; rfl
  | x :: xs, _, h => by
    unfold RelK at h
    obtain ⟨v', r, rfl, h2, h3⟩ := h
    have ih := RelK.mapSet (k := k) hd h3
    simp only [List.map_cons]
    unfold RelK
    by_cases e : x.1 = k
    · exact ⟨v, _, by simp [e], by simpa [e] using hd, ih⟩
    · exact ⟨v', _, by simp [e], by simpa [e] using h2, ih⟩
theorem RelK.snoc {π : List Addr} {H : Hp} {k : Key} {d : D} {v : V} (hd : Rel g π H d v) : ∀ {kvs : List (Key × D)} {vs : List (Key × V)}, RelK g π H kvs vs → RelK g π H (kvs ++ [(k, d)]) (vs ++ [(k, v)])
  | [], _, h => by
    unfold RelK at h; subst h
    simp only [List.nil_append]
    unfold RelK
    exact ⟨v, [], rfl, hd, by unfold RelK; rfl⟩
  | x :: xs, _, h => by
    unfold RelK at h
    obtain ⟨v', r, rfl, h2, h3⟩ := h
    simp only [List.cons_append]
    unfold RelK
    exact ⟨v', _, rfl, h2, RelK.snoc hd h3⟩
theorem RelK.put {π : List Addr} {H : Hp} {k : Key} {d : D} {v : V} (hd : Rel g π H d v) {kvs : List (Key × D)} {vs : List (Key × V)} (h : RelK g π H kvs vs) : RelK g π H (setK kvs k d) (putK vs k v) := by
  unfold setK putK
  rw [(RelK.find (k := k) h).2.2]
  split
  · exact h.mapSet hd
  · exact h.snoc hd
theorem RelK.get {π : List Addr} {H : Hp} : ∀ {kvs : List (Key × D)} {vs : List (Key × V)} {i : Nat} {k : Key} {v : V}, RelK g π H kvs vs → vs[i]? = some (k, v) → ∃ d, kvs[i]? = some (k, d) ∧ Rel g π H d v
  | [], _, _, _, _, h, e => by unfold RelK at h; subst h; simp at e
  | x :: xs, _, 0, k, v, h, e => by
    unfold RelK at h
    obtain ⟨v', r, rfl, h2, h3⟩ := h
    simp at e
    obtain ⟨e1, e2⟩ := e
    subst e1 e2
    exact ⟨x.2, by simp, h2⟩
  | x :: xs, _, i + 1, k, v, h, e => by
    unfold RelK at h
    obtain ⟨v', r, rfl, h2, h3⟩ := h
    obtain ⟨d, h4, h5⟩ := RelK.get (i := i) h3 (by simpa using e)
    exact ⟨d, by simpa using h4, h5⟩
def mDict0 : M D := fun _ S => newO (.dK []) S
theorem s_dict0 (gk : GOk g) {pos : Pos} : SimE X g W (.Dict [] [] pos) mDict0 := PE.imp pe_dnewK fun σ H Q ⟨π, ρ, S, hr, hs, hp⟩ p hp0 => post_new gk hs hp0 hp ⟨[], upd_same, by unfold RelK; rfl⟩
/-- the dict at a value, the key -/
def dictD (S : Sto) : D → Option (List (Key × D))
  | .loc n => match S[n]? with
    | some (.dK kvs) => some kvs
    | some (.froK kvs) => some kvs
    | _ => none
  | _ => none
theorem dictD_ok {π : List Addr} {H : Hp} {S : Sto} (s : St' g π H S) {d : D} {v : V} {kvs : List (Key × D)} (h : dictD S d = some kvs) (r : Rel g π H d v) : ∃ a vs, v = .ref a ∧ Rd H a (.dK vs) ∧ RelK g π H kvs vs := by
  cases d with
  | loc n =>
    unfold dictD at h
    cases e : S[n]? with
    | none => simp [e] at h
    | some o =>
      obtain ⟨a, rfl, _, ro⟩ := s.obj e r
      cases o with
      | dK xs =>
        simp [e] at h; subst h
        obtain ⟨vs, h1, h2⟩ := ro
        exact ⟨a, vs, rfl, .inl h1, h2⟩
      | froK xs =>
        simp [e] at h; subst h
        obtain ⟨vs, o, h1, h2⟩ := ro
        exact ⟨a, vs, rfl, .inr ⟨o, h1⟩, h2⟩
      | lst xs => simp [e] at h
      | fro xs => simp [e] at h
  | _ => simp [dictD] at h
def opDGet (x y : D) (S : Sto) : ER D := match dictD S x, keyD y with
  | some kvs, some k => match getK kvs k with
    | some d => .ok d S
    | none => .bad
  | _, _ => .bad
def opDIn (y x : D) (S : Sto) : ER D := match dictD S x, keyD y with
  | some kvs, some k => .ok (.bl (getK kvs k).isSome) S
  | _, _ => .bad
def opDNotIn (y x : D) (S : Sto) : ER D := match dictD S x, keyD y with
  | some kvs, some k => .ok (.bl (!(getK kvs k).isSome)) S
  | _, _ => .bad
theorem room_units {k : Nat} {A : Around} (r : Room k A) : A.units + 1 < cLine := by have := r.units; omega
theorem s_dget {o i : Expr} {mo mi : M D} {pos : Pos} (hu : X.A.units + 1 < cLine) (ho : SimE X g W o mo) (hi : SimE X g W i mi) (hs : NoSl i) : SimE X g W (.Subscript o i pos) (mOp opDGet mo mi) := by
  refine PE.imp (pe_dget hu ho hi hs) fun σ H Q ⟨π, ρ, S, hr, hst, hp⟩ => ?_
  refine tG_bind (R := RV) hr hst hp fun x v π1 S1 H1 e1 hr1 hs1 rx hp1 => ?_
  refine tG_bind (R := RV) hr1 hs1 hp1 fun y w π2 S2 H2 e2 hr2 hs2 ry hp2 => ?_
  unfold opDGet at hp2
  split at hp2
  · rename_i kvs k e3 e4
    split at hp2
    · rename_i d e5
      obtain ⟨a, vs, rfl, h1, h2⟩ := dictD_ok hs2 e3 (Rel.ext e2 rx)
      obtain ⟨u, h3, h4⟩ := (RelK.find (k := k) h2).1 d e5
      exact ⟨a, u, rfl, .inl ⟨vs, k, h1, keyD_ok e4 ry, h3.symm⟩, Post.pure (R := RV) hp2 hs2 h4⟩
    · exact hp2.elim
  · exact hp2.elim
theorem s_ixD (hK : X.K = g.K) {a b : Expr} {ma mb : M D} {pos : Pos} (hu : X.A.units + 1 < cLine) (ha : SimE X g W a ma) (hb : SimE X g W b mb) (hs : NoSl b) : SimE X g W (.Subscript a b pos) (mOp opDGet ma mb) := s_dget hu ha hb hs
theorem din_ok {neg : Bool} {i o : Expr} {mi mo : M D} {f : D → D → Sto → ER D} (hf : ∀ y x S, f y x S = match dictD S x, keyD y with
    | some kvs, some k => .ok (.bl (if neg then !(getK kvs k).isSome else (getK kvs k).isSome)) S
    | _, _ => .bad) {σ : L2.St} {H : Hp} {Q : VK} (h : tG g RV W (mOp f mi mo) σ H Q) : tG g RV W mi σ H fun y H1 => tG g RV W mo σ H1 fun x H2 => ∃ a o, x = .ref a ∧ DGet H2 a y o ∧ Q (.bl (if neg then !o.isSome else o.isSome)) H2 := by
  obtain ⟨π, ρ, S, hr, hst, hp⟩ := h
  refine tG_bind (R := RV) hr hst hp fun y w π1 S1 H1 e1 hr1 hs1 ry hp1 => ?_
  refine tG_bind (R := RV) hr1 hs1 hp1 fun x v π2 S2 H2 e2 hr2 hs2 rx hp2 => ?_
  rw [hf] at hp2
  split at hp2
  · rename_i kvs k e3 e4
    obtain ⟨a, vs, rfl, h1, h2⟩ := dictD_ok hs2 e3 rx
    obtain ⟨_, h3, _⟩ := RelK.find (k := k) h2
    refine ⟨a, valV vs k, rfl, .inl ⟨vs, k, h1, keyD_ok e4 (Rel.ext e2 ry), rfl⟩, ?_⟩
    rw [← h3]
    exact Post.pure (R := RV) hp2 hs2 Rel.bl
  · exact hp2.elim
theorem s_din {i o : Expr} {mi mo : M D} {pos : Pos} (hu : X.A.units + 1 < cLine) (hi : SimE X g W i mi) (ho : SimE X g W o mo) (h1 : behindInMarks .In o = false := by rfl) : SimE X g W (.Compare i [.In] [o] pos) (mOp opDIn mi mo) :=
  PE.imp (pe_cmp (pc_din hu hi ho) h1) fun σ H Q h => din_ok (neg := false) (i := i) (o := o) (f := opDIn) (fun _ _ _ => rfl) h
theorem s_dnotin {i o : Expr} {mi mo : M D} {pos : Pos} (hu : X.A.units + 1 < cLine) (hi : SimE X g W i mi) (ho : SimE X g W o mo) (h1 : behindInMarks .NotIn o = false := by rfl) : SimE X g W (.Compare i [.NotIn] [o] pos) (mOp opDNotIn mi mo) :=
  PE.imp (pe_cmp (pc_dnotin hu hi ho) h1) fun σ H Q h => din_ok (neg := true) (i := i) (o := o) (f := opDNotIn) (fun _ _ _ => rfl) h
theorem st_din {i o : Expr} {mi mo : M D} {pos : Pos} (hu : X.A.units + 1 < cLine) (hi : SimE X g W i mi) (ho : SimE X g W o mo) (h1 : behindInMarks .In o = false := by rfl) : SimT X g W (.Compare i [.In] [o] pos) (mTest (mOp opDIn mi mo)) :=
  PT.imp (pt_cmp (pc_din hu hi ho) h1) fun σ H Q h => tG_test' (fun Q h => din_ok (neg := false) (i := i) (o := o) (f := opDIn) (fun _ _ _ => rfl) h) h
theorem st_dnotin {i o : Expr} {mi mo : M D} {pos : Pos} (hu : X.A.units + 1 < cLine) (hi : SimE X g W i mi) (ho : SimE X g W o mo) (h1 : behindInMarks .NotIn o = false := by rfl) : SimT X g W (.Compare i [.NotIn] [o] pos) (mTest (mOp opDNotIn mi mo)) :=
  PT.imp (pt_cmp (pc_dnotin hu hi ho) h1) fun σ H Q h => tG_test' (fun Q h => din_ok (neg := true) (i := i) (o := o) (f := opDNotIn) (fun _ _ _ => rfl) h) h
def opDPut (x y v : D) (S : Sto) : Option Sto := match x, keyD y with
  | .loc n, some k => match S[n]? with
    | some (.dK kvs) => if kvs.length < sizeLine then some (S.set n (.dK (setK kvs k v))) else none
    | _ => none
  | _, _ => none
def sDPut (mo mi me : M D) : MS := bindS me fun v => bindS mo fun o => bindS mi fun i ρ S => match opDPut o i v S with
  | some S1 => .nx ρ S1
  | none => .bad
theorem s_dput (gk : GOk g) {o i e : Expr} {mo mi me : M D} {pos tpos : Pos} (hu : X.A.units + 1 < cLine) (ho : SimE X g W o mo) (hi : SimE X g W i mi) (he : SimE X g W e me)
    (hs : swapsWith e (some (.Subscript o i tpos)) pos.line X.env = pure false := by rfl) : SimS X g W (.Assign [.Subscript o i tpos] e pos) (sDPut mo mi me) := by
  refine PS.imp (ps_dput hu ho hi he hs) fun Dn σ H ⟨π, ρ, S, hr, hst, hp⟩ => ?_
  refine tS_bind (R := RV) hr hst hp fun v v' π1 S1 H1 e1 hr1 hs1 rv hp1 => ?_
  refine tS_bind (R := RV) hr1 hs1 hp1 fun o o' π2 S2 H2 e2 hr2 hs2 ro hp2 => ?_
  refine tS_bind (R := RV) hr2 hs2 hp2 fun i i' π3 S3 H3 e3 hr3 hs3 ri hp3 => ?_
  unfold opDPut at hp3
  cases o with
  | loc n =>
    cases e6 : keyD i with
    | none => simp only [e6] at hp3; exact hp3.elim
    | some k =>
      simp only [e6] at hp3
      cases e4 : S3[n]? with
      | none => simp only [e4] at hp3; exact hp3.elim
      | some oo =>
        cases oo with
        | dK kvs =>
          simp only [e4] at hp3
          by_cases hz : kvs.length < sizeLine
          · rw [if_pos hz] at hp3
            obtain ⟨a, rfl, hn, vs, h1, h2⟩ := hs3.obj e4 (Rel.ext e3 ro)
            have rv3 : Rel g π3 H3 v v' := Rel.ext e3 (Rel.ext e2 rv)
            have ex : Ext π3 H3 π3 (upd H3 a (.dK (putK vs k v'))) := Ext.upd_mut h1 (fun z => z)
            refine ⟨a, _, rfl, .inl ⟨vs, k, h1, keyD_ok e6 ri, by rw [← RelK.length h2]; exact hz, rfl⟩, ?_⟩
            exact (PostS.mono ex hp3).nxAt (hr3.ext ex) (hs3.put gk hn h1 (fun z => z) (fun ps z => by cases z) ⟨_, upd_same, (RelK.put rv3 h2).ext ex⟩)
          · rw [if_neg hz] at hp3
            exact hp3.elim
        | lst _ => simp only [e4] at hp3; exact hp3.elim
        | fro _ => simp only [e4] at hp3; exact hp3.elim
        | froK _ => simp only [e4] at hp3; exact hp3.elim
  | _ => exact hp3.elim
end
end PI

end
section
set_option Elab.async false
set_option linter.all false
set_option maxRecDepth 100000
set_option maxHeartbeats 2000000
/-! PiInit: an own exception's __init__ that says super().__init__() and keeps its one argument. -/
namespace PI
open PySem PySem.Spec PyProof.Rows L2 NdefX
abbrev iN : List Str := ["self", "what", "__class__"]
abbrev iP : List Str := ["self", "what"]
abbrev iF : List Str := ["__class__"]
/-- what the class at C must have: D holds the __init__ -/
structure SupOf (K : PySem.W.Frag) (C D : Addr) : Prop where
  oex : OexC K C
  sub : PySem.W.mroIn K C (.ref D) = some true
  sup : PySem.W.ks_superIn K C D "__init__" = some (some (.builtin "ValueError.__init__"))
  ve : PySem.W.subIn K (.ref C) (.type "ValueError") = some true
  wh : PySem.W.findIn K (.ref C) "what" = some none
/-- the written __init__ -/
structure SupI (P : Program) (K : PySem.W.Frag) (mg : Str → Option Value) (fI D : Addr) (fd : FuncData) (F : NF) : Prop where
  lk : ∃ oc od osl doc pm ctv, K.lookup fI = some ⟨oc, od, .func fd, osl⟩ ∧ fd = F.fd doc pm ctv
  sc : NScope iN iP iF F.scope
  sup : F.scope.names.lookup ("super" : Str) = some .globalImplicit
  par : ∃ ar, (F.params.posonlyargs ++ F.params.args).head? = some ar ∧ ar.arg = "self"
  hb : ∀ (doc pm ctv : Value) (us : List Value), us.length = 2 → bindArgs (F.fd doc pm ctv) ⟨us, []⟩ = pure (iP.zip us)
  hcd : PySem.W.codeIn K (.ref F.c) F.qual = true
  code : ∃ ccl cdd vs ccs file tf, K.lookup F.c = some ⟨ccl, cdd, .fields vs, ccs⟩ ∧ vs[2]? = some (.str file tf) ∧ ((P.main.file : Str) == file) = true
  cell : ∃ cc cl cld csl, F.cl = [(("__class__" : Str), cc)] ∧ K.lookup cc = some ⟨cl, cld, .cell (some (.ref D)), csl⟩
  cls : ∃ cd, PySem.W.clsIn K D = some cd
  g1 : mg "super" = none
  top : (P.main.scope.names.lookup ("super" : Str)).isSome = false
  st : PySem.W.nsIn K PySem.cStatics "thirdparty.any" = some none
  kp : PySem.W.keepIn K (.ref fI) = true
def spI (K : PySem.W.Frag) (D : Addr) : Sp := fun vs H Q E => ∃ a w C, vs = [.ref a, w] ∧ SupOf K C D ∧ H a = some (exo a C none) ∧ ∀ dx, H dx = none → dx ≠ a → Q .non (upd (upd H dx (exd dx [("what", w)])) a (exo a C (some dx)))
theorem upd_self {H : Hp} {a : Addr} {o : HO} (e : H a = some o) : upd H a o = H := by
  funext b
  by_cases hb : b = a
  · rw [hb, upd_same, e]
  · rw [upd_ne hb]
section
variable {P : Program} {w : World} {K : PySem.W.Frag} {mg : Str → Option Value} {base : Heap} {fI D : Addr} {fd : FuncData} {F : NF}
theorem init_ok {CX : CXT} {k : Nat} (T : SupI P K mg fI D fd F) {p0 p1 p2 p3 p4 p5 p6 p7 p8 : Pos}
    (hbody : F.body = [.Expr (.Call (.Attribute (.Call (.Name "super" p0) [] [] p1) "__init__" p2) [] [] p3) p4, .Assign [.Attribute (.Name "self" p5) "what" p6] (.Name "what" p7) p8])
    (hev : ∃ pl : Env → Sem Bool, ∀ env : Env, eval (.Call (.Attribute (.Call (.Name "super" p0) [] [] p1) "__init__" p2) [] [] p3) env = (do
      let ov ← attributeBase (.Call (.Name "super" p0) [] [] p1) "__init__" env (eval (.Call (.Name "super" p0) [] [] p1) env)
      standAt p2.atName
      let (f, first) ← holding [ov] (getMethod ov "__init__" (pl env))
      callWith p3 f first (backTo p3 (starEach [] env)) [])) :
    FnOk P w K mg base CX (k + 1) fI fd iP (spI K D) := by
  refine ⟨fun vs H Q E h => ?_, fun A outer s H args us vs Q E hr e0 hbd r hsp => ?_⟩
  · obtain ⟨a, w, C, rfl, _⟩ := h
    rfl
  obtain ⟨a, wv, C, rfl, SO, ha, hq⟩ := hsp
  obtain ⟨oc, od, osl, doc, pm, ctv, lk, rfl⟩ := T.lk
  obtain ⟨ar, hp, har⟩ := T.par
  obtain ⟨ccl, cdd, cvs, ccs, file, tf, lkc, hvs, hfile⟩ := T.code
  obtain ⟨cc, cl, cld, csl, hcl, lkcc⟩ := T.cell
  obtain ⟨cdD, hD⟩ := T.cls
  obtain ⟨pl, hev⟩ := hev
  obtain ⟨u1, u2, rfl, r1, r2⟩ := vals2 r
  obtain rfl : u1 = Value.ref a := r1
  have KX : K.In s.heap := e0.mod.kin.keeps fun b o e => (e0.bs b o e).1
  have lim : s.heap.NoLimit := e0.mod.nolimit.keeps fun b o e => (e0.bs b o e).1
  have hcn : H cc = none := (e0.bs cc _ (e0.mod.kin _ _ lkcc)).2
  have CA : CellsAt F.cl iF [some (V.ref D)] s.heap H := by
    rw [hcl]
    refine ⟨rfl, fun y c e => ?_, fun x y c e1 e2 => ?_, fun i y e => ?_⟩
    · have e3 : c = cc := by
        by_cases hy : y = ("__class__" : Str)
        · subst hy; simpa using e.symm
        · simp [List.lookup, show (y == ("__class__" : Str)) = false by simpa using hy] at e
      subst e3
      exact ⟨hcn, _, ⟨_, KX _ _ lkcc, rfl⟩⟩
    · have h1 : ∀ {z : Str}, List.lookup z [(("__class__" : Str), cc)] = some c → z = ("__class__" : Str) := fun {z} e => by
        by_cases hy : z = ("__class__" : Str)
        · exact hy
        · simp [List.lookup, show (z == ("__class__" : Str)) = false by simpa using hy] at e
      rw [h1 e1, h1 e2]
    · cases i with
      | zero =>
        simp at e
        subst e
        exact ⟨cc, by simp, fun v e => by
          simp at e
          subst e
          exact ⟨.ref D, rfl, ⟨_, KX _ _ lkcc, rfl⟩⟩⟩
      | succ i => simp at e
  refine PySem.ks_codeAny_call_defAt hr.depth (KX _ _ lk) rfl lim (PySem.W.codeRec_of KX T.hcd) rfl hbd T.sc.nocell (fun ⟨n, _⟩ hy => T.sc.par n (List.of_mem_zip hy).1) (fun h₀ hns kp => ?_) T.sc.co T.sc.gen T.sc.kind
  have I : Inv (ncx CX P w K mg base iN F fI A outer s H E) [] (startF iN [.ref a, wv] [some (.ref D)]) H { s with heap := h₀, toks := s.toks + (iP.zip [Value.ref a, u2]).length } := inv_startN T.sc hr.hd e0 rfl (.cons rfl (.cons r2 .nil)) CA hns kp
  have hself : F.scope.names.lookup ("self" : Str) = some .local := T.sc.par _ (by simp)
  have hwhat : F.scope.names.lookup ("what" : Str) = some .local := T.sc.par _ (by simp)
  have hkc : F.scope.names.lookup ("__class__" : Str) = some .free := T.sc.frk _ (by simp)
  obtain ⟨t1, hax⟩ := exo_at e0.hok ha
  have K0 : K.In h₀ := KX.keeps kp
  have hax0 := kp _ _ hax
  obtain ⟨oD, hD1, hD2⟩ : ∃ oD, h₀.get? D = some oD ∧ oD.data = .cls cdD := by
    unfold PySem.W.clsIn at hD
    split at hD
    · rename_i c d cd' sl ho
      cases hD
      exact ⟨_, K0 _ _ ho, rfl⟩
    · cases hD
  obtain ⟨nm, qn, N, bs, bm, sn, sub, ab, col, dd, k0, k1, k2, k3, k5, hC, hbm⟩ := SO.oex.cls
  have hcC : PySem.W.clsIn K C = some { name := nm, bases := bs, mro := .ref C :: bm, ns := N, qualname := qn, hasDict := true, slotNames := sn, subclasses := sub, abstract := ab, collection := col, hasDel := false } := by unfold PySem.W.clsIn; rw [hC] <;> rfl
  have hsi := SO.sup
  unfold PySem.W.ks_superIn at hsi
  rw [hcC] at hsi
  show _root_.PySem.wpAt (model P w) (A.deeper (envF F fI s.heap.objs.size)) (.func F.body (envF F fI s.heap.objs.size)) (execs F.body (envF F fI s.heap.objs.size)) _ _ _
  have hb2 : execs F.body (envF F fI s.heap.objs.size) = execs [.Expr (.Call (.Attribute (.Call (.Name "super" p0) [] [] p1) "__init__" p2) [] [] p3) p4, .Assign [.Attribute (.Name "self" p5) "what" p6] (.Name "what" p7) p8] (envF F fI s.heap.objs.size) := by rw [hbody]
  rw [hb2]
  obtain ⟨mb, b1, b2⟩ := I.mod.blt
  refine PySem.ks_wpAt_execs_cons (PySem.ks_wpAt_Expr_any (PySem.ks_wpAt_MethodCall (PySem.ks_wpAt_super_base (env := envF F fI s.heap.objs.size) T.sup hkc (by decide) rfl (kp _ _ (KX _ _ lk)) rfl hp rfl (K0 _ _ lkc) rfl hvs hfile T.top ?_) (hev _)) (by simp [interactive, T.sc.kind]) (by rfl))
  refine PySem.W.ks_loadName_global (env := envF F fI s.heap.objs.size) T.sc.kind T.sup (Calls.loadGlobal_builtin (I.mod.glob.keeps I.bk) T.g1 (b1.keeps I.bk) ((b2 _ (by decide)).trans (by decide +kernel)) ⟨rfl, ?_⟩)
  refine wpAny_loadName_free (env := envF F fI s.heap.objs.size) T.sc.kind hkc (by show F.cl.lookup _ = _; rw [hcl]; rfl) ⟨_, K0 _ _ lkcc, rfl⟩ ?_
  rw [har]
  refine wpAny_loadName_local (env := envF F fI s.heap.objs.size) T.sc.kind hself hns (v := .ref a) (by rfl) ?_
  refine PySem.ks_wpAny_isType_cls hD1 hD2 ⟨rfl, ?_⟩
  refine PySem.ks_wpAny_call_super hD1 hD2 hax0 rfl (fun c e => by cases e) (PySem.W.looks_mroIn K0 SO.sub) (fun h1 e1 kk1 => ?_)
  have K1 : K.In h1 := K0.keeps kk1
  have ia : PySem.W.InstAt h1 a _ C none := ⟨kk1 _ _ hax0, rfl, rfl, trivial⟩
  refine PySem.W.kxs_getMethod PySem.W.kxs_ValueError e1 (PySem.W.looks_opaque K1 T.st) (l₀ := .ref C :: bm) (fun A Q E s k q => wpAny_bind ((PySem.W.looks_clsIn K1 hcC) A _ E s k (wpAny_pure q))) rfl K1 hsi (ia.type.andThen (PySem.W.looks_subIn K1 SO.ve)) (PySem.W.ks_ne K1 ia hcC) (by decide) ?_
  have hmw := Heap.get?_push_size h1 (o := PySem.W.kxs_mw "ValueError.__init__" a) rfl
  refine PySem.W.kxs_callWith (i := "ValueError.__init__") (x := a) rfl (evalArgs_empty ⟨hmw, ?_⟩)
  have hCm := Heap.get?_push_of_some (PySem.W.kxs_mw "ValueError.__init__" a) (K1 _ _ hC)
  have ham := Heap.get?_push_of_some (PySem.W.kxs_mw "ValueError.__init__" a) (kk1 _ _ hax0)
  show wpAny _ _ (call (.ref h1.objs.size) []) _ _ _
  refine wpAny_call (codeAny_of_tree ?_)
  show wpAny _ _ (callAny (.ref h1.objs.size) ⟨[], []⟩) _ _ _
  simp only [callAny]
  refine wpAny_bind (wpAny_load hmw ?_)
  simp only [PySem.W.kxs_mw, show (Value.type "method-wrapper" == Value.type "method" || Value.type "method-wrapper" == Value.type "builtin_function_or_method" || Value.type "method-wrapper" == Value.type "method-wrapper") = true by decide, if_true]
  refine PySem.W.KFB.if_so (by decide) ?_
  refine wpAny_bind (PySem.W.check_bound_init PySem.F.excBase_ValueError.toExcCallFacts hCm ham rfl ?_)
  refine wpAny_bind (wpAny_pure (wpAny_pure ?_))
  refine ⟨plainId_quiet PySem.F.excBase_ValueError.init.plain _, codeAny_builtin PySem.F.excBase_ValueError.initEntry ?_⟩
  refine PySem.W.exc_init_tree (cls := .ref C) (t0 := t1) (dv := none) (c2 := .none) (c3 := .none) (b4 := .bool false) ham (Nat.zero_le _) fun h3 k3' e3 _ => ?_
  have I1 : Inv (ncx CX P w K mg base iN F fI A outer s H E) [] (startF iN [.ref a, wv] [some (.ref D)]) H { s with heap := h1, toks := s.toks + (iP.zip [Value.ref a, u2]).length } := I.kept (t' := s.toks + (iP.zip [Value.ref a, u2]).length) kk1
  have I2 : Inv (ncx CX P w K mg base iN F fI A outer s H E) [] (startF iN [.ref a, wv] [some (.ref D)]) H { s with heap := h1.push (PySem.W.kxs_mw "ValueError.__init__" a), toks := s.toks + (iP.zip [Value.ref a, u2]).length + 1 } := I1.kept (t' := s.toks + (iP.zip [Value.ref a, u2]).length + 1) fun b o e => Heap.get?_push_of_some _ e
  have I3 := I2.write (t' := s.toks + (iP.zip [Value.ref a, u2]).length + 1) (x := a) (e := a) (o := exo a C none) (by rw [ha]; exact True.intro) (.inl rfl) k3' ⟨_, e3⟩ (exo_ok e3)
  rw [upd_self ha] at I3
  show _root_.PySem.wpAt (model P w) (A.deeper (envF F fI s.heap.objs.size)) _ (execs [.Assign [.Attribute (.Name "self" p5) "what" p6] (.Name "what" p7) p8] (envF F fI s.heap.objs.size)) _ _ _
  refine PySem.ks_wpAt_execs_cons (wpAt_of_wpAny ?_)
  have hs2 : PS (ncx CX P w K mg base iN F fI A outer s H E) (.Assign [.Attribute (.Name "self" p5) "what" p6] (.Name "what" p7) p8) _ := ps_ost (pe_var (i := 0) rfl (.inl hself)) (pe_var (i := 1) rfl (.inl hwhat)) (by rfl)
  refine wpAny_mono (hs2.run [] _ _ H { nx := fun _ H' => Q .non H', rt := fun _ _ => False } I3 ⟨wv, rfl, .ref a, rfl, a, C, rfl, SO.oex, SO.wh, .inl ⟨ha, fun dx n ne => hq dx n ne⟩⟩) (fun fl s' hs => ?_) (fun e s' he => he)
  cases fl with
  | next =>
    obtain ⟨σ', H', J, q⟩ := hs
    exact wpAt_of_wpAny (wpAny_execs_nil ⟨.non, H', J.os, J.bare, J.base, J.hok, rfl, q⟩)
  | ret u =>
    obtain ⟨_, _, _, _, _, q⟩ := hs
    exact q.elim
  | brk =>
    obtain ⟨_, _, _, q⟩ := hs
    exact False.elim q
  | cont =>
    obtain ⟨_, _, _, q⟩ := hs
    exact False.elim q
end
end PI

end
section
set_option Elab.async false
set_option linter.all false
set_option maxRecDepth 100000
set_option maxHeartbeats 2000000
/-! PiRaise: raise C(e), C an own exception that keeps its one argument. -/
namespace PI
open PySem PySem.Spec PyProof.Rows L2 NdefX
structure ExcOk (P : Program) (w : World) (mg : Str → Option Value) (base : Heap) (g : G) (k : Nat) (x : Str) (c : Nat) : Prop where
  ex : ∃ fI fd D, SupOf g.K (g.C c) D ∧ PySem.W.findIn g.K (.ref (g.C c)) "__init__" = some (some (.ref fI)) ∧ PySem.W.typeIn g.K (.ref fI) = some (.type "function") ∧ FnOk P w g.K mg base (L2N.CX P w) k fI fd iP (spI g.K D) ∧ Binds g.K fd iP [] ∧ mg x = some (.ref (g.C c))
def tMkS (C : Addr) (ta : TA) : L2.St → Hp → XK → Prop := fun σ H Q => ta σ H fun vs H1 => ∃ w, vs = [w] ∧ ∀ d, H1 d = none → Q (.ref C) (some d) (upd H1 d (.xd [("what", w)]))
section
variable {X : Cx} {g : G} {W : WX}
theorem pmk_sup {k : Nat} {x : Str} {C D fI : Addr} {fd : FuncData} {e : Expr} {ta : TA} {p pos : Pos} (SO : SupOf X.K C D) (iC : PySem.W.findIn X.K (.ref C) "__init__" = some (some (.ref fI))) (tI : PySem.W.typeIn X.K (.ref fI) = some (.type "function"))
    (F1 : FnOk X.prog X.w X.K X.mg X.base (L2N.CX X.prog X.w) k fI fd iP (spI X.K D)) (hr : Room (k + 1) X.A) (hb : Binds X.K fd iP []) (hg : Gl X x) (hm : X.mg x = some (.ref C)) (ha : PA X [e] ta)
    (hdb : (x == ("__debug__" : Str)) = false := by decide) (he : starEach [e] X.env = (false, eval e X.env) :: starEach [] X.env := by rfl) (hpl : (backTo pos (starEach [] X.env)).any (·.1) = false := by rfl) :
    L2N.PMk X (.Call (.Name x p) [e] [] pos) (tMkS C ta) := by
  intro pins s σ H Q I h
  have T := SO.oex
  obtain ⟨nm, q, N, bs, bm, sn, sub, ab, col, dd, k0, k1, k2, k3, k5, hC, hbm⟩ := T.cls
  refine wpAny_Call_Name_kw (ld_glob I hg hm ?_ hdb)
  refine PySem.W.callWith_K (h₀ := X.base) I.ok.mod.kin T.kC (thn (ha.run pos pins s σ H _ I h) fun us s1 ⟨vs, H1, I1, r1, wv, hvs, q1⟩ => ⟨I1.kIn, ?_⟩) he hpl
  subst hvs
  show wpAny _ _ (call (.ref C) us) _ _ _
  obtain ⟨hp, gs, dr, tk, os⟩ := s1
  have hsz : hp.objs.size ≤ hp.objs.size + 1 := Nat.le_succ _
  have hn : H1 (hp.objs.size + 1) = none := I1.hok.fresh hsz
  have kk : ∀ b o, hp.get? b = some o → ((hp.push (PySem.W.kdv_tup us)).push (PySem.HandSPX.excO C hp.objs.size)).get? b = some o := fun b o z => Heap.get?_push_of_some _ (Heap.get?_push_of_some _ z)
  have hget : ((hp.push (PySem.W.kdv_tup us)).push (PySem.HandSPX.excO C hp.objs.size)).get? (hp.objs.size + 1) = some (PySem.HandSPX.excO C hp.objs.size) := by heap_get
  have I2 : Inv X pins σ (upd H1 (hp.objs.size + 1) (exo (hp.objs.size + 1) C none)) ⟨(hp.push (PySem.W.kdv_tup us)).push (PySem.HandSPX.excO C hp.objs.size), gs, dr, tk, os⟩ :=
    I1.laid (t' := tk) (a := hp.objs.size + 1) (o := exo (hp.objs.size + 1) C none) (h' := (hp.push (PySem.W.kdv_tup us)).push (PySem.HandSPX.excO C hp.objs.size)) kk hsz (exo_ok hget)
  have r2 : Vals [V.ref (hp.objs.size + 1), wv] (Value.ref (hp.objs.size + 1) :: us) := .cons rfl r1
  have hl : (Value.ref (hp.objs.size + 1) :: us ++ []).length = iP.length := by
    rw [List.append_nil, ← Paired.length r2]
    rfl
  have hus : us.length ≤ sizeLine := by
    rw [← Paired.length r1, sizeLine_eq]
    show (1 : Nat) ≤ 16777216
    decide
  have b2 := hb _ (Value.ref (hp.objs.size + 1) :: us) I2.kIn hl
  rw [List.append_nil] at b2
  have hsp : spI X.K D [V.ref (hp.objs.size + 1), wv] (upd H1 (hp.objs.size + 1) (exo (hp.objs.size + 1) C none)) (fun v H2 => v = .non ∧ ∃ d, H1 d = none ∧ d ≠ hp.objs.size + 1 ∧ H2 = upd (upd (upd H1 (hp.objs.size + 1) (exo (hp.objs.size + 1) C none)) d (exd d [("what", wv)])) (hp.objs.size + 1) (exo (hp.objs.size + 1) C (some d))) (fun _ _ _ => False) :=
    ⟨_, wv, C, rfl, SO, upd_same, fun dx n ne => ⟨rfl, dx, by rw [upd_ne ne] at n; exact n, ne, rfl⟩⟩
  refine wpAny_call (PySem.HandSPX.call_own PySem.F.excBase_ValueError (fun Y => PySem.HandSPX.refsVE_contains Y bm hbm) (I1.kIn _ _ hC) (PySem.W.looks_findIn I1.kIn iC) (fun self => PySem.W.bind_fn I1.kIn self tI) hus
    (codeAny_mono (F1.run _ X.stack _ _ ⟨Value.ref (hp.objs.size + 1) :: us, []⟩ (Value.ref (hp.objs.size + 1) :: us) _ _ (fun _ _ _ => False) (hr.make C us []) (I2.env0.make C us []) b2 r2 hsp) fun r s' hq' => ?_))
  cases r with
  | error er =>
    obtain ⟨_, _, _, _, _, _, _, _, _, _, _, _, z⟩ := hq'
    exact z.elim
  | ok fl =>
    cases fl with
    | ret u =>
      obtain ⟨v, H2, os2, bare2, un2, hok2, rv, ev, d, hd1, hda, eH⟩ := hq'
      subst ev
      obtain ⟨h2, g2, d2, t2, os'⟩ := s'
      have ea : H2 (hp.objs.size + 1) = some (exo (hp.objs.size + 1) C (some d)) := by rw [eH, upd_same]
      have ed : H2 d = some (exd d [("what", wv)]) := by rw [eH, upd_ne hda, upd_same]
      obtain ⟨t0, G, J, kG, ge, hoe, na⟩ := mk_end0 (d2 := d2) (t2 := t2) I1 hsz kk un2 hok2 os2 bare2 ea ed hd1
      have e3 : upd (del H2 (hp.objs.size + 1)) d (.xd [("what", wv)]) = upd H1 d (.xd [("what", wv)]) := by
        funext b
        by_cases hb : b = d
        · rw [hb, upd_same, upd_same]
        · rw [upd_ne hb, upd_ne hb]
          by_cases hb2 : b = hp.objs.size + 1
          · rw [hb2, del_same, hn]
          · rw [del_ne hb2, eH, upd_ne hb2, upd_ne hb, upd_ne hb2]
      rw [e3] at J na
      refine ⟨rv, ?_⟩
      exact ⟨hp.objs.size + 1, _, _, ⟨G, g2, d2, t2, os'⟩, _, .ref C, some d, rfl, J, kG, ge, hoe, ⟨rfl, rfl, fun vs hv => by cases hv; rfl⟩, rfl, rfl, na, rfl, bare2, raises_own T.exC T.tyC, q1 d hd1⟩
    | next => exact False.elim hq'
    | brk => exact False.elim hq'
    | cont => exact False.elim hq'
def sRaise (c : Nat) (me : M D) : MS := bindS me fun w ρ S => .ex c w ρ S
theorem s_raise (gk : GOk g) {k c : Nat} {x : Str} {e : Expr} {me : M D} {p cp pos : Pos} (Ex : ExcOk X.prog X.w X.mg X.base g k x c) (hK : X.K = g.K) (hc : X.calm = true) (hr : Room (k + 1) X.A) (tk : L2N.Takes X W) (hg : Gl X x) (he : SimE X g W e me)
    (hdb : (x == ("__debug__" : Str)) = false := by decide) (hs : starEach [e] X.env = (false, eval e X.env) :: starEach [] X.env := by rfl) (hpl : (backTo cp (starEach [] X.env)).any (·.1) = false := by rfl) :
    SimS X g W (.Raise (some (.Call (.Name x p) [e] [] cp)) none pos) (sRaise c me) := by
  obtain ⟨fI, fd, D, h1, h2, h3, h4, h5, h6⟩ := Ex.ex
  rw [← hK] at h1 h2 h3 h4 h5
  refine PS.imp (L2N.ps_raise hc tk (pmk_sup h1 h2 h3 h4 hr h5 hg h6 (pa_cons he pa_nil hs) hdb hs hpl)) fun Dn σ H ⟨π, ρ, S, hr, hst, hp⟩ => ?_
  refine tS_bind (R := RV) hr hst hp fun x v π1 S1 H1 e1 hr1 hs1 rx hp1 => ?_
  refine ⟨v, rfl, fun d hd => ?_⟩
  have ex := Ext.upd_new (π := π1) (o := .xd [("what", v)]) hd
  exact hp1 σ d v π1 _ ex (hr1.ext ex) (hs1.new gk hd) (Rel.ext ex rx) upd_same
end
end PI

end
section
set_option Elab.async false
set_option linter.all false
set_option maxRecDepth 100000
set_option maxHeartbeats 2000000
/-! PiHot: a comprehension over a list while an exception is handled. -/
namespace HotL
open PySem PySem.Spec PyProof.Rows L2 L2H HotX
section
variable {prog : Program} {w : World} {A : Around} {E : Value → Shared → Prop} {s : Shared}
theorem next_list_end_hot {it l x1 : Addr} {i : Nat} {items : Array Value} {Q : Option Value → Shared → Prop} (hot : HotAt A x1 s.heap) (hne : x1 ≠ it)
    (hit : s.heap.IsListIter it l i) (hl : s.heap.IsList l items) (hx : items[i]? = none) (hQ : ∀ h', Heap.ExtBut it s.heap h' → Q none { s with heap := h' }) : wpAny (model prog w) A (pyNext (.ref it)) Q E s := by
  obtain ⟨o, ho, hc, hd⟩ := id hit
  obtain ⟨ol, hol, _, nl, hdl⟩ := hl
  obtain ⟨hh, o1, vs1, h1, d1, c1⟩ := hot
  unfold pyNext
  refine wpAny_bind (wpAny_attempt (wpAny_callSpecial?_slot (name := Str.ofString "__next__") hit.typeIs slot_listiter_next
    (wpAny_call_entry slot_listiter_next hit.typeIs entry_listiter_next ?_ (args_listiter_next _))))
  show wpAny _ _ (field (.ref it) 0 >>= _) _ _ s
  refine wpAny_bind (wpAny_field ho hd (x := .ref l) rfl ?_)
  show wpAny _ _ (if (Value.ref l == Value.none) = true then _ else _) _ _ s
  rw [if_neg (show ¬ ((Value.ref l == Value.none) = true) from Bool.false_ne_true)]
  show wpAny _ _ (field (.ref it) 1 >>= _) _ _ s
  refine wpAny_bind (wpAny_field ho hd (x := .int i 0) rfl ?_)
  show wpAny _ _ (seqItems? (.ref l) >>= _) _ _ s
  refine wpAny_bind (wpAny_seqItems hol hdl ?_)
  simp only [Int.toNat_natCast, hx]
  refine wpAny_bind (wpAny_rule (wpAny_bind (wpAny_setField ho hd (by simp) ?_)))
  show wpAny _ _ (newExc (.type "StopIteration") [] >>= _) _ _ _
  refine wpAny_bind ?_
  simp only [newExc, newTuple]
  refine wpAny_bind (wpAny_newObj_type ?_ (by size_fits))
  refine wpAny_bind (m := firstArgMember _ _) (wpAny_of_eq (a := Value.none) (by first | rfl | (simp only [firstArgMember]; rfl)) ?_)
  refine wpAny_newObj_type ?_ (by size_fits)
  have h2 := (Heap.get?_update_other (h := s.heap) (a := it) (Obj.mapFields (·.setIfInBounds 0 Value.none)) (Ne.symm hne)).trans h1
  refine raiseNew_hot ⟨hh, o1, vs1, Heap.get?_push_of_some _ (Heap.get?_push_of_some _ h2), d1, c1⟩ (Nat.ne_of_lt (Heap.lt_size (Heap.get?_push_of_some _ h2))) (Heap.get?_push_size _ rfl) rfl (by first | (simp; done) | (simp; omega) | (simp only [Array.size_append]; simp; omega)) ?_
  refine wpAny_bind (wpAny_isInstance (T := "StopIteration") (b := true) ⟨_, Heap.get?_update_self _ (Heap.get?_push_size _ rfl) rfl, rfl⟩ isSubtype_stop ?_)
  refine wpAny_pure (hQ _ fun b o hb e => ?_)
  have e2 := (Heap.get?_update_other (h := s.heap) (a := it) (Obj.mapFields (·.setIfInBounds 0 Value.none)) (Ne.symm hb)).trans e
  rw [Heap.get?_update_other _ _ (Nat.ne_of_gt (Heap.lt_size (Heap.get?_push_of_some _ e2)))]
  exact Heap.get?_push_of_some _ (Heap.get?_push_of_some _ e2)
end
section
variable {X : Cx}
theorem item_list {tg : Expr} {a it : Addr} {i : Nat} {pins : List (Addr × Obj)} {s : Shared} {σ : L2.St} {H : Hp} {E : Value → Shared → Prop} (I : Inv X pins σ H s) (hf : FpOk X pins H it) (st : s.heap.IsListIter it a i) (hg : (Itl X.K a).go i H) :
    wpAny (model X.prog X.w) X.A (pyNext (.ref it)) (fun r s1 => ∃ u, r = some u ∧ wpAny (model X.prog X.w) X.A (letOwnedTupleGo tg (.ref it) u) (fun _ s2 => ∃ x H', Inv X pins σ H' s2 ∧ RelV x u ∧ (Itl X.K a).yld i H x H' ∧ s2.heap.IsListIter it a (i + 1) ∧ H' it = none) E s1) E s := by
  obtain ⟨xs, x, hq, hx⟩ := hg
  obtain ⟨its, rv, p, hz⟩ := I.list hq
  obtain ⟨u, hu, ru⟩ := rv.get hx
  obtain ⟨f0, f1, f2, f3, f4, f5⟩ := hf
  refine wpAny_pyNext_list_item st p.isList (x := u) (by simpa using hu) fun h' st' sb => ?_
  have I1 : Inv X pins σ H { s with heap := h' } := I.turned (t' := s.toks) (fun b o hb e => (sb.2 b hb).trans e) f0 f1 f3 f4 f5
  obtain ⟨o, e, c, d⟩ := id st'
  exact ⟨u, rfl, go_of (s := { s with heap := h' }) e c d (by decide) ⟨x, H, I1, ru, ⟨rfl, fun ys hy => by rw [I.list_inj hy hq]; exact hx⟩, st', f0⟩⟩
theorem done_list_hot {a it x1 : Addr} {i : Nat} {pins : List (Addr × Obj)} {s : Shared} {σ : L2.St} {H : Hp} {E : Value → Shared → Prop} (hot : HotAt X.A x1 s.heap) (hne : x1 ≠ it) (I : Inv X pins σ H s) (hf : FpOk X pins H it) (st : s.heap.IsListIter it a i) (hg : (Itl X.K a).stop i H) :
    wpAny (model X.prog X.w) X.A (pyNext (.ref it)) (fun r s1 => r = none ∧ Inv X pins σ H s1) E s := by
  obtain ⟨xs, hq, hx⟩ := hg
  obtain ⟨its, rv, p, hz⟩ := I.list hq
  obtain ⟨f0, f1, f2, f3, f4, f5⟩ := hf
  have hl := rv.length
  exact next_list_end_hot hot hne st p.isList (by simp; omega) fun h' eb => ⟨rfl, I.turned (t' := s.toks) (fun b o hb e => eb b o hb e) f0 f1 f3 f4 f5⟩
theorem lc_hot {elt tg iter : Expr} {ifs : List Expr} {scope : Scope} {own : List (Str × Nat)} {pos : Pos} {tl : TE} {g : TG} {tt : TT} {te : TE} (hc : HotC X) (hN : X.N.Nodup) (hi : PE X iter tl) (ok : BlkOk X.N X.env.scope scope own)
    (hg : ∀ (s : Shared) (H : Hp) (C : Addr) (cl : List (Str × Addr)) (fp : List Addr), PG (X.blk s H scope (compEnvC scope cl C X.env) fp) tg g) (ht : ∀ (s : Shared) (H : Hp) (C : Addr) (cl : List (Str × Addr)) (fp : List Addr), PTs (X.blk s H scope (compEnvC scope cl C X.env) fp) ifs tt)
    (he : ∀ (s : Shared) (H : Hp) (C : Addr) (cl : List (Str × Addr)) (fp : List Addr), PE (X.blk s H scope (compEnvC scope cl C X.env) fp) elt te) (hs : ∀ x, foldedSetIterable iter X.env x = pure x := by intro _; rfl) :
    PE X (.ListComp elt [⟨tg, iter, ifs, 0⟩] scope pos) (tLc (iList X.K tl) g tt te (own.map (·.2))) := by
  refine ⟨fun pins s σ H Q I h => ?_⟩
  rw [eval_ListComp]
  have hfree : ∀ y ∈ scope.names, y.2 = .free → ∃ c, X.env.cells.lookup y.1 = some c := fun y hy e => by
    rcases ok.free y hy e with k | k
    · exact I.ok.has _ (.inl k)
    · exact I.ok.has _ (.inr k)
  obtain ⟨pn, ⟨hh, v1, ev1, cv1⟩, hpn⟩ := hc
  refine wpAny_comprehension_free (use := none) rfl hs (closure_ok hfree) ok.kind (fun y hy e => by rw [ok.uniq y hy, e])
    (thn (hi.run pins s σ H _ I h) fun xv s1 ⟨xV, H1, I1, rX, a, eX, ⟨xs0, hq0⟩, q⟩ => ?_)
  subst eX
  cases rX
  obtain ⟨its0, rv0, p0, hz0⟩ := I1.list hq0
  refine wpAny_pyIter_list p0.isList ?_
  generalize hit : s1.heap.objs.size = it
  generalize hs2 : ({ s1 with heap := s1.heap.push { cls := .type "list_iterator", data := .fields #[.ref a, .int 0 0] } } : Shared) = s2
  have e2h : s2.heap = s1.heap.push { cls := .type "list_iterator", data := .fields #[.ref a, .int 0 0] } := by rw [← hs2]
  have I2 : Inv X pins σ H1 s2 := by rw [← hs2]; exact I1.kept (t' := s1.toks) fun b o e => Heap.get?_push_of_some _ e
  have fit : FpOk X pins H1 it := by rw [← hit]; exact I1.fpOk (Nat.le_refl _) (I1.hok.fresh (Nat.le_refl _))
  have st2 : s2.heap.IsListIter it a 0 := by rw [← hit, e2h]; exact ⟨_, Heap.get?_push_size _ rfl, rfl, rfl⟩
  refine wpAny_newObj_type (newEnv_comp ?_) (by show 0 ≤ sizeLine; decide)
  generalize hD : s2.heap.objs.size = D
  have hDn : H1 D = none := I2.hok.fresh (Nat.le_of_eq hD)
  obtain ⟨W, ⟨m0, w0⟩, turn⟩ := q D hDn
  generalize hs3 : ({ s2 with heap := s2.heap.push { cls := .type "list", data := .seq ([] : List Value).toArray } } : Shared) = s3
  have I3 : Inv X pins σ (upd H1 D (.lst [])) s3 := by
    rw [← hs3]
    refine I2.laid (t' := s2.toks) (fun b o e => Heap.get?_push_of_some _ e) (Nat.le_of_eq hD) ⟨Nat.zero_le _, [], 0, .nil, ?_⟩
    rw [← hD]
    exact Heap.get?_push_size _ rfl
  have h3 : s3.heap = s2.heap.push { cls := .type "list", data := .seq ([] : List Value).toArray } := by rw [← hs3]
  have szI : it < s2.heap.objs.size := by obtain ⟨o, e, _⟩ := st2; exact Heap.lt_size e
  have f3 : ∀ b ∈ [it], FpOk X pins (upd H1 D (.lst [])) b ∧ b < s3.heap.objs.size := fun b hb => by
    obtain rfl : b = it := by simpa using hb
    refine ⟨⟨?_, fit.2⟩, by rw [h3, Heap.size_push]; exact Nat.lt_succ_of_lt szI⟩
    rw [upd_ne (by rw [← hD]; exact Nat.ne_of_lt szI)]
    exact fit.1
  have st3 : s3.heap.IsListIter it a 0 := st2.at fun o e => by rw [h3]; exact Heap.get?_push_of_some _ e
  have I4 := block_start I3 ok hN f3
  have pg := hg s3 (upd H1 D (.lst [])) s3.heap.objs.size (cellsFrom (s3.heap.objs.size + 1) scope.names (cloFrom X.env.cells scope.names [])) [it]
  have pt := ht s3 (upd H1 D (.lst [])) s3.heap.objs.size (cellsFrom (s3.heap.objs.size + 1) scope.names (cloFrom X.env.cells scope.names [])) [it]
  have pe := he s3 (upd H1 D (.lst [])) s3.heap.objs.size (cellsFrom (s3.heap.objs.size + 1) scope.names (cloFrom X.env.cells scope.names [])) [it]
  show codeAny _ _ (.compStart (.ListComp elt [⟨tg, iter, ifs, 0⟩] scope pos) 0 (.ref it) (.ref D) (compEnvC scope (cellsFrom (s3.heap.objs.size + 1) scope.names (cloFrom X.env.cells scope.names [])) s3.heap.objs.size X.env)) (compPost (model X.prog X.w) X.A X.xe none (EP X pins σ Q) (.ref D) s3.heap.objs.size) { s3 with heap := pushCells (s3.heap.push { cls := .type "dict", data := .dict #[] }) scope.names }
  have nfp : (upd H1 D (.lst [])) it = none := (f3 it (by simp)).1.1
  have pinX := I3.pin pn (List.mem_append_left _ hpn)
  have nst : pn.1 ∉ frs X.stack := fun hm => (List.mem_cons.mp (I3.stkSub pn.1 hm)).elim pinX.2.2.1 pinX.2.2.2.1
  have nit : pn.1 ≠ it := fit.2.2.2.2.2 pn (List.mem_append_left _ hpn)
  have eCL : (compEnvC scope (cellsFrom (s3.heap.objs.size + 1) scope.names (cloFrom X.env.cells scope.names [])) s3.heap.objs.size X.env).locals = s3.heap.objs.size := rfl
  generalize hce : compEnvC scope (cellsFrom (s3.heap.objs.size + 1) scope.names (cloFrom X.env.cells scope.names [])) s3.heap.objs.size X.env = ce at I4 pg pt pe eCL ⊢
  generalize hH3 : upd H1 D (.lst []) = H3 at I3 I4 pg pt pe w0 nfp f3 pinX
  generalize hs4 : ({ s3 with heap := pushCells (s3.heap.push { cls := .type "dict", data := .dict #[] }) scope.names } : Shared) = s4 at I4 ⊢
  have st4 : s4.heap.IsListIter it a 0 := st3.at fun o e => by rw [← hs4]; exact pushCells_keeps _ _ _ _ (Heap.get?_push_of_some _ e)
  have stat : ∀ {σ' : L2.St} {H' : Hp} {s' : Shared}, Inv (X.blk s3 H3 scope ce [it]) [] σ' H' s' → H' it = none → FpOk (X.blk s3 H3 scope ce [it]) [] H' it := fun {σ' H' s'} I' hn =>
    ⟨hn, (I'.ok.exf it (by simp)).1, I'.ok.exfs it (by simp), .inl (by simp), fun x c e => (I'.ok.exf it (by simp)).2 x c e, fun p hp => absurd (show p ∈ ([] : List (Addr × Obj)) ++ [] from hp) (by simp)⟩
  have loop : codeAny (model X.prog X.w) X.A (.compLoop (.ListComp elt [⟨tg, iter, ifs, 0⟩] scope pos) 0 (.ref it) (.ref D) ce) (compPost (model X.prog X.w) X.A X.xe none (EP X pins σ Q) (.ref D) s3.heap.objs.size) s4 := by
    refine compLoop_any (fun n s' => ∃ i H', Inv (X.blk s3 H3 scope ce [it]) [] (L2.wipe σ (own.map (·.2))) H' s' ∧ s'.heap.IsListIter it a i ∧ H' it = none ∧ W i n H') ?_ m0 ⟨0, H3, I4, st4, nfp, w0⟩
    rintro n s5 ⟨i, H5, I5, st5, n5, w5⟩
    have hot5 : HotAt X.A pn.1 s5.heap := ⟨hh, pn.2, v1, I5.base.keep _ _ pinX.1 pinX.2.1 nst (by simpa using nit), ev1, cv1⟩
    rcases turn i n H5 w5 with ⟨stop, qq⟩ | ⟨go, Nx, hNx, step⟩
    · have td := done_list_hot (X := X.blk s3 H3 scope ce [it]) (E := fun _ _ => False) hot5 nit I5 (stat I5 n5) st5 stop
      refine thnF td fun r s6 ⟨hr, I6⟩ => ?_
      subst hr
      have I7 : Inv X pins σ H5 s6 := I3.call' (ch := [it]) I6.os I6.base I6.hok I6.bare fun b hb => ⟨(f3 b hb).1.2.2.2.1, (f3 b hb).1.2.1, (f3 b hb).1.2.2.2.2.1, (f3 b hb).1.2.2.2.2.2⟩
      have nC : H5 s3.heap.objs.size = none := by
        have z : H5 ce.locals = none := I6.free
        rw [eCL] at z
        exact z
      obtain ⟨m, hn, _⟩ := I6.loc
      have hn : s6.heap.Ns ce.locals m := hn
      rw [eCL] at hn
      refine ⟨m, hn, fun h'' sb => ?_⟩
      obtain ⟨f0, f1, f2, f3', f4, f5⟩ := I3.fpOk (Nat.le_refl _) nC
      exact ⟨.ref D, H5, I7.turned (t' := s6.toks) (fun b o hb e => (sb.2 b hb).trans e) f0 f1 f3' f4 f5, rfl, qq⟩
    · have ti := item_list (X := X.blk s3 H3 scope ce [it]) (tg := tg) (E := fun _ _ => False) I5 (stat I5 n5) st5 go
      refine thnF ti fun r s6 ⟨u, hr, h6⟩ => ?_
      subst hr
      refine thnF h6 fun _ s7 ⟨x, H7, I7, r7, y7, st7, n7⟩ => ?_
      have ob7 : ∀ b ∈ [it], ∃ o, s7.heap.get? b = some o ∧ ∀ v, o.data ≠ .cell v := fun b hb => by
        obtain rfl : b = it := by simpa using hb
        obtain ⟨o, e, c, d⟩ := st7
        exact ⟨o, e, fun v z => by rw [d] at z; cases z⟩
      have I7' := I7.pinned (fun b hb => by
        obtain rfl : b = it := by simpa using hb
        exact stat I7 n7) ob7
      refine thnF (pg.run _ s7 _ H7 x u _ I7' r7 (step x H7 y7)) fun _ s8 ⟨σ8, H8, I8, hw8, q8⟩ => ?_
      refine thnF (pt.run _ s8 σ8 H8 _ I8 q8) fun b s9 ⟨H9, I9, q9⟩ => ?_
      have fin : ∀ {s' : Shared} {H' : Hp}, Inv (X.blk s3 H3 scope ce [it]) ([] ++ pinsAt [it] s7.heap) σ8 H' s' → Nx H' → ∃ m, m < n ∧ ∃ i H', Inv (X.blk s3 H3 scope ce [it]) [] (L2.wipe σ (own.map (·.2))) H' s' ∧ s'.heap.IsListIter it a i ∧ H' it = none ∧ W i m H' := fun {s' H'} I' nx => by
        obtain ⟨m', hm, w'⟩ := hNx H' nx
        have pin' : ∀ o, s7.heap.get? it = some o → s'.heap.get? it = some o ∧ H' it = none := fun o e =>
          let z := I'.pin (it, o) (List.mem_append_right _ (List.mem_append_right _ (mem_pinsAt (by simp) e)))
          ⟨z.1, z.2.1⟩
        have hl : (L2.wipe σ (own.map (·.2))).length = σ8.length := by rw [← hw8, L2.wipe_length]
        refine ⟨m', hm, i + 1, H', (I'.unpinned (pins := [])).weak hl (fun j v e => ?_), st7.at fun o e => (pin' o e).1, ?_, w'⟩
        · rw [← hw8] at e
          exact (L2.wipe_some e).1
        · obtain ⟨o, e, _⟩ := ob7 it (by simp)
          exact (pin' o e).2
      cases b with
      | false =>
        simp only [Bool.false_eq_true, if_false] at q9 ⊢
        exact fin I9 q9
      | true =>
        simp only [if_true] at q9 ⊢
        refine thnF (pe.run _ s9 σ8 H9 _ I9 q9) fun z s10 ⟨yv, H10, I10, r10, acc, hD10, hz10, nx⟩ => ?_
        exact app_ok (X := X.blk s3 H3 scope ce [it]) I10 hD10 hz10 r10 fun s11 I11 => fin I11 nx
  exact codeAny_compStart_list loop (wpAny_pyIter_listiter st4 loop)
end
end HotL

end
section
set_option Elab.async false
set_option linter.all false
set_option maxRecDepth 100000
set_option maxHeartbeats 4000000
/-! PiIsE: isinstance of a caught own exception that has a dict of its own. -/
namespace PySem.W
open PySem PySem.Spec PySem.Calls PyProof.Rows
section
variable {prog : Program} {w : World} {A : Around} {E : Value → Shared → Prop} {s : Shared} {K : Frag} {x D : Addr} {ox : Obj}
theorem findObj_dataG {C : Addr} {od : Option Obj} {name : Str} {a g : Value} (hc : (clsIn K C).isSome = true) (ha : findIn K (.ref C) name = some (some a)) (hg : specialIn K a "__get__" = some (some g)) (ht : takesIn K a = some true) : findObj K C od name = some (.bind g a) := by
  obtain ⟨cd, hc⟩ := Option.isSome_iff_exists.mp hc
  unfold findObj
  rw [hc, Option.bind_some, ha, Option.bind_some]
  simp [hg, ht]
theorem kin_classG {od : Option Obj} {Q : Option Value → Shared → Prop} (hga : findIn K (.ref D) "__getattribute__" = some (some (.builtin "BaseException.__getattribute__"))) (hgt : findIn K (.ref D) "__getattr__" = some none) (hsub : subIn K (.ref D) (.type "BaseException") = some true)
    (hdct : hasDictIn K D = true) (ha : findIn K (.ref D) "__class__" = some (some (.builtin "object.__class__")))
    (hn : specialIn K (.builtin "object.__class__") "__get__" = some (some (.builtin "getset_descriptor.__get__"))) (htk : takesIn K (.builtin "object.__class__") = some true) (hm : mroIn K D (.type "object") = some true)
    (X : K.In s.heap) (I : InstAt s.heap x ox D od) (h : Q (some (.ref D)) { s with toks := s.toks + 1 }) : wpAny (model prog w) A (getAttr? (.ref x) "__class__") Q E s := by
  have hf : findObj K D od "__class__" = some (.bind (.builtin "getset_descriptor.__get__") (.builtin "object.__class__")) := findObj_dataG (by obtain ⟨cd, hc, _⟩ := any_some hdct; rw [hc]; rfl) ha hn htk
  obtain ⟨hp, g, d, t, os⟩ := s
  have L0 := I.type (M := model prog w)
  have L1 := looks_findIn (M := model prog w) X hga
  have L2 := looks_findIn (M := model prog w) X hgt
  have L3 := looks_find (M := model prog w) X I hf
  have sub : Looks (model prog w) hp (isInstance (.ref x) (.type "BaseException")) true := L0.andThen (looks_subIn X hsub)
  have hx0 : (false && onTheHeap (Value.builtin "BaseException.__getattribute__")) = false := rfl
  have hx2 : (Value.builtin "BaseException.__getattribute__" == Value.builtin "object.__getattribute__") = false := by decide +kernel
  have hx1 : (onTheHeap (Value.ref D) && Value.builtin "BaseException.__getattribute__" == Value.builtin "object.__getattribute__") = false := by rw [hx2]; rfl
  unfold getAttr? getAttrBy? getAttrBy
  refine wpAny_bind (wpAny_mkText (wpAny_bind (wpAny_attempt (wpAny_holding (wpAny_bind (L0.at (wpAny_bind (L1.at ?_))))))))
  show wpAny _ _ (if (onTheHeap (Value.ref D) && Value.builtin "BaseException.__getattribute__" == Value.builtin "object.__getattribute__") = true then _ else _) _ _ _
  rw [hx1, if_neg Bool.false_ne_true]
  unfold getAttrByItsOwn hookBefore
  refine wpAny_bind ?_
  rw [if_pos (show onTheHeap (Value.ref D) = true from rfl)]
  refine L2.at ?_
  refine wpAny_bind (wpAny_attempt (wpAny_holding ?_))
  unfold callGetattribute
  rw [hx0, if_neg Bool.false_ne_true]
  unfold boundAndCalled
  rw [PySem.F.excAttr_ValueError.ga.bind (.ref x)]
  refine wpAny_bind (wpAny_pure ?_)
  show wpAny _ _ (call (.builtin "BaseException.__getattribute__") [.ref x, .str "__class__" t]) _ _ _
  refine wpAny_call (codeAny_call_builtin PySem.F.excAttr_ValueError.ga.plain PySem.F.entry_bexc_ga ?_)
  refine @check_slot (model prog w) _ _ ⟨hp, g, d, t + 1, os⟩ "BaseException.__getattribute__" "BaseException" "__getattribute__" (.ref x) [.str "__class__" t] [] _ (by decide +kernel) (by decide +kernel) sub (PySem.F.args_bexc_ga (.ref x) (.str "__class__" t)) ?_
  unfold Builtin.«object.__getattribute__»
  refine wpAny_bind (wpAny_of_eq (a := ((Value.ref x : Value), [Value.str "__class__" t])) (by first | rfl | (simp only [slotArgs]; rfl)) ?_)
  refine wpAny_bind (wpAny_pure (wpAny_bind (L0.at (wpAny_bind (L3.at ?_)))))
  show wpAny _ _ (holding [Value.builtin "object.__class__"] (call (.builtin "getset_descriptor.__get__") [.builtin "object.__class__", .ref x, .ref D]) >>= ret) _ _ _
  refine wpAny_bind (wpAny_holding (wpAny_call (class_get (s := ⟨hp, g, d, t + 1, os⟩) (ox := ox) (od := od) X I hm ?_)))
  refine wpAny_pure ?_
  show wpAny _ _ (handedOut (.ref D)) _ _ _
  rw [handedOut_of (v := .ref D) rfl]
  first
    | exact wpAny_pure (wpAny_pure h)
    | exact wpAny_pure h
    | exact wpAny_pure (wpAny_bind (wpAny_pure (wpAny_pure h)))
theorem kitx_excG {od : Option Obj} (hga : findIn K (.ref D) "__getattribute__" = some (some (.builtin "BaseException.__getattribute__"))) (hgt : findIn K (.ref D) "__getattr__" = some none) (hsub : subIn K (.ref D) (.type "BaseException") = some true) (hdct : hasDictIn K D = true) (ha : findIn K (.ref D) "__class__" = some (some (.builtin "object.__class__")))
    (hn : specialIn K (.builtin "object.__class__") "__get__" = some (some (.builtin "getset_descriptor.__get__"))) (htk : takesIn K (.builtin "object.__class__") = some true) (hm : mroIn K D (.type "object") = some true) :
    KitX K (.ref x) (.ref D) (fun h => InstAt h x ox D od) where
  ty := fun _ _ _ I => I.type
  it := fun _ _ X _ => by
    obtain ⟨cdD, hcD, _⟩ := any_some hdct
    unfold clsIn at hcD
    split at hcD
    · rename_i c' d' cd' sl' ho
      intro A' Q' E' s' k q
      unfold isType loadHead
      exact wpAny_bind (wpAny_loadPart (k _ _ (X _ _ ho)) (wpAny_pure q))
    · cases hcD
  ne := fun h tp dd its n sl X htp => by
    obtain ⟨cdD, hcD, _⟩ := any_some hdct
    refine Bool.eq_false_iff.mpr fun q => ?_
    have e : D = tp := Value.ref.inj (beq_iff_eq.mp q)
    subst e
    unfold clsIn at hcD
    split at hcD
    · rename_i c' d' cd' sl' ho
      have z := (X _ _ ho).symm.trans htp
      cases z
    · cases hcD
  ca := fun X I k => kin_classG hga hgt hsub hdct ha hn htk hm X I k
end
end PySem.W
namespace PI
open PySem PySem.Spec PyProof.Rows L2
theorem call_isX {X : Cx} {a D dx : Addr} {oe : Obj} (C : ExcC X.K D) (hp : (a, oe) ∈ X.pn) (hc : oe.cls = .ref D) (hd : oe.dict = some dx) (hf : ∃ vs, oe.data = .fields vs) :
    CallR X (.builtin "isinstance") (fun xs H Q => ∃ (c : V) (cv : Value) (b : Bool), xs = [.ref a, c] ∧ (∀ u, RelV c u → u = cv) ∧ PySem.W.kitOne X.K (.ref D) cv = some b ∧ (∃ fs, H dx = some (.xd fs)) ∧ Q (.bl b) H) := by
  intro pins s σ H xs us Q I r h
  obtain ⟨c, cv, b, rfl, hcv, e, ⟨fs, hx⟩, q⟩ := h
  cases r with
  | cons rx rr =>
    cases rr with
    | cons rt rr =>
      cases rr
      cases rx
      have ec := hcv _ rt
      subst ec
      obtain ⟨hget, _⟩ := I.pin (a, oe) (List.mem_append.mpr (.inl hp))
      obtain ⟨vs, hv⟩ := hf
      obtain ⟨mA, ⟨od, es, ep, hod, _⟩, _⟩ := I.hok dx _ hx
      have J : PySem.W.InstAt s.heap a oe D (some od) := by
        obtain ⟨oc, odd, oda, osl⟩ := oe
        dsimp only at hc hd hv
        subst hc hd hv
        exact ⟨hget, rfl, rfl, hod⟩
      exact PySem.W.kia_one (PySem.W.kitx_excG C.hg C.hk C.hs C.hd C.ha C.hn C.ht C.hm) I.kIn J e (fun z => nomatch z) fun tk => ⟨.bl b, H, I.kept (t' := tk) fun _ _ z => z, rfl, q⟩
end PI

end
section
set_option Elab.async false
set_option linter.all false
set_option maxRecDepth 100000
set_option maxHeartbeats 2000000
/-! PiLive: lambdas without parameters that are handed to defs of the text. -/
namespace PI
open PySem PySem.Spec PyProof.Rows L2 LamX
/-! ### another glue -/
mutual
theorem Rel.chg {g g' : G} (e : g.K = g'.K) {π : List Addr} {H : Hp} : ∀ {d : D} {v : V}, Rel g π H d v → Rel g' π H d v
  | .non, _, h => by unfold Rel at h ⊢; exact h
  | .bl _, _, h => by unfold Rel at h ⊢; exact h
  | .int _, _, h => by unfold Rel at h ⊢; exact h
  | .str _, _, h => by unfold Rel at h ⊢; exact h
  | .fn _, _, h => by unfold Rel at h ⊢; exact h
  | .loc _, _, h => by unfold Rel at h ⊢; exact h
  | .tup xs, _, h => by
    unfold Rel at h ⊢
    obtain ⟨a, vs, h1, h2, h3⟩ := h
    exact ⟨a, vs, h1, e ▸ h2, Rels.chg e h3⟩
theorem Rels.chg {g g' : G} (e : g.K = g'.K) {π : List Addr} {H : Hp} : ∀ {d : List D} {v : List V}, Rels g π H d v → Rels g' π H d v
  | [], _, h => by unfold Rels at h ⊢; exact h
  | x :: xs, _, h => by
    unfold Rels at h ⊢
    obtain ⟨v, r, h1, h2, h3⟩ := h
    exact ⟨v, r, h1, Rel.chg e h2, Rels.chg e h3⟩
end
theorem RelK.chg {g g' : G} (e : g.K = g'.K) {π : List Addr} {H : Hp} : ∀ {d : List (Key × D)} {v : List (Key × V)}, RelK g π H d v → RelK g' π H d v
  | [], _, h => by unfold RelK at h ⊢; exact h
  | x :: xs, _, h => by
    unfold RelK at h ⊢
    obtain ⟨v, r, h1, h2, h3⟩ := h
    exact ⟨v, r, h1, h2.chg e, RelK.chg e h3⟩
theorem RelR.chg {g g' : G} (e : g.K = g'.K) {π : List Addr} {H : Hp} : ∀ {ρ : Rho} {σ : L2.St}, RelR g π H ρ σ → RelR g' π H ρ σ
  | [], _, h => by unfold RelR at h ⊢; exact h
  | x :: xs, _, h => by
    unfold RelR at h ⊢
    obtain ⟨v, r, h1, h2, h3⟩ := h
    exact ⟨v, r, h1, fun d hd => (h2 d hd).imp fun w hw => ⟨hw.1, hw.2.chg e⟩, RelR.chg e h3⟩
theorem St'.chg {g g' : G} (e : g.K = g'.K) {π : List Addr} {H : Hp} {S : Sto} (s : St' g π H S) (ht : g'.T H) (hb : ∃ more, π = g'.B ++ more) : St' g' π H S := by
  refine ⟨s.len, s.nd, fun n o a h1 h2 => ?_, ht, hb⟩
  have r := s.at_ n o a h1 h2
  cases o with
  | lst xs =>
    obtain ⟨vs, e1, e2⟩ := r
    exact ⟨vs, e1, e2.chg e⟩
  | fro xs =>
    obtain ⟨vs, e1, ⟨o, e2⟩, e3⟩ := r
    exact ⟨vs, e ▸ e1, ⟨o, e2⟩, e3.chg e⟩
  | dK kvs =>
    obtain ⟨vs, e1, e2⟩ := r
    exact ⟨vs, e1, e2.chg e⟩
  | froK kvs =>
    obtain ⟨vs, o, e1, e2⟩ := r
    exact ⟨vs, o, e1, e2.chg e⟩
/-- what stood at (π0, H0) stands -/
def liveG (g : G) (π0 : List Addr) (H0 : Hp) : G := { g with B := π0, T := fun H => g.T H ∧ ∀ b o, H0 b = some o → immut o → H b = some o }
theorem liveG_ok {g : G} {π0 : List Addr} {H0 : Hp} (gk : GOk g) : GOk (liveG g π0 H0) := by
  refine ⟨fun H p o ⟨h1, h2⟩ hp => ⟨gk.newT _ _ _ h1 hp, fun b u hb hi => ?_⟩, fun H p o u ⟨h1, h2⟩ hp hu ht => ⟨gk.mutT _ _ _ _ h1 hp hu ht, fun b v hb hi => ?_⟩⟩
  · rw [upd_ne (ne_of_none (h2 b u hb hi) hp)]
    exact h2 b u hb hi
  · rw [upd_ne (fun z => ?_)]
    · exact h2 b v hb hi
    · have e := h2 b v hb hi
      rw [z, hp] at e
      cases e
      exact hu hi
theorem live_in {g : G} {π π0 : List Addr} {H H0 : Hp} {S : Sto} (s : St' g π H S) (e : Ext π0 H0 π H) : St' (liveG g π0 H0) π H S := St'.chg (g := g) (g' := liveG g π0 H0) rfl s ⟨s.tab, e.keep⟩ e.pre
theorem live_out {g : G} {π π0 : List Addr} {H H0 : Hp} {S : Sto} (hb : ∃ more, π0 = g.B ++ more) (s : St' (liveG g π0 H0) π H S) : St' g π H S ∧ Ext π0 H0 π H := by
  refine ⟨St'.chg (g := liveG g π0 H0) (g' := g) rfl s s.tab.1 ?_, ⟨s.pre, s.tab.2⟩⟩
  obtain ⟨m1, e1⟩ := hb
  obtain ⟨m2, e2⟩ := s.pre
  exact ⟨m1 ++ m2, by rw [e2]; show π0 ++ m2 = _; rw [e1, List.append_assoc]⟩
/-- from the callee's wish to the caller's -/
theorem post_live {g : G} {π π0 : List Addr} {H H0 : Hp} {W : WX} {σ : L2.St} {Q : VK} (ex0 : Ext π0 H0 π H) : ∀ {r : ER D}, Post (liveG g π0 H0) RV W σ π H Q r → Post g RV W σ π H Q r
  | .ok a S, h => fun b π' H' ex st r => h b π' H' ex (live_in st (ex0.trans ex)) (Rel.chg (g := g) (g' := liveG g π0 H0) rfl r)
  | .ex c w S, h => fun a wv π' H' ex st r x => h a wv π' H' ex (live_in st (ex0.trans ex)) (Rel.chg (g := g) (g' := liveG g π0 H0) rfl r) x
  | .bad, h => h
/-- the other way -/
theorem post_live' {g : G} {π π0 : List Addr} {H H0 : Hp} {W : WX} {σ : L2.St} {Q : VK} (hb : ∃ more, π0 = g.B ++ more) : ∀ {r : ER D}, Post g RV W σ π H Q r → Post (liveG g π0 H0) RV W σ π H Q r
  | .ok a S, h => fun b π' H' ex st r => h b π' H' ex (live_out hb st).1 (Rel.chg (g := liveG g π0 H0) (g' := g) rfl r)
  | .ex c w S, h => fun a wv π' H' ex st r x => h a wv π' H' ex (live_out hb st).1 (Rel.chg (g := liveG g π0 H0) (g' := g) rfl r) x
  | .bad, h => h
/-! ### a lambda that runs -/
def Runs (P : Program) (w : World) (mg : Str → Option Value) (base : Heap) (g : G) (k : Nat) (f : Addr) (lam : Sto → ER D) (fs : List Addr) (s0 : Shared) (π0 : List Addr) (H0 : Hp) : Prop :=
  ∀ (A : Around) (outer : List Env) (s1 : Shared) (H1 : Hp) (Q : VK) (E : XK) (π : List Addr) (S : Sto), Room k A → Env0 P w g.K mg base A outer s1 H1 → Un fs [] H0 H1 s0.heap s1.heap → Ext π0 H0 π H1 → St' g π H1 S →
    Post g RV (fun c d _ H' => E c d H') [] π H1 Q (lam S) →
    PySem.W.FnAt f s1.heap ∧ codeAny (model P w) A (.call (.ref f) ⟨[], []⟩) (CR (L2N.CX P w) outer P w H1 s1 Q E) s1
/-- frames laid later don't touch what stood -/
theorem un_deep {fs fs' : List Addr} {H H1 H2 : Hp} {h h1 h2 : Heap} (a : Un fs [] H H1 h h1) (b : Un fs' [] H1 H2 h1 h2) (hf : ∀ x o, h.get? x = some o → x ∈ fs' → x ∈ fs) : Un fs [] H H2 h h2 where
  keep := fun c ob q n hc hx => b.keep c ob (a.keep c ob q n hc hx) (a.free c ob q n hx) (fun z => hc (hf c ob q z)) hx
  slot := fun c ob q n hc hx => by
    obtain ⟨sl, e1⟩ := a.slot c ob q n hc hx
    obtain ⟨sl2, e2⟩ := b.any e1 (a.free c ob q n hx) hx
    exact ⟨sl2, e2⟩
  free := fun c ob q n hx => by
    obtain ⟨sl, e1⟩ := a.any q n hx
    exact b.free c _ e1 (a.free c ob q n hx) hx
  there := fun c ob q hx => by
    obtain ⟨o1, e1⟩ := a.there c ob q hx
    exact b.there c o1 e1 hx
  tups := fun c xs q => b.tups c xs (a.tups c xs q)
  frzs := fun c o u q => b.frzs c o u (a.frzs c o u q)
  tbls := fun c ps q => by
    obtain ⟨m1, e1⟩ := a.tbls c ps q
    obtain ⟨m2, e2⟩ := b.tbls c _ e1
    exact ⟨m1 ++ m2, by rw [e2, Array.append_assoc]⟩
/-- in every state of the context the lambda runs -/
def LiveX (X : Cx) (g0 g : G) (k : Nat) (f : Addr) (lam : Sto → ER D) : Prop := ∀ (pins : List (Addr × Obj)) (σ : L2.St) (H : Hp) (s : Shared) (π : List Addr) (S : Sto), Inv X pins σ H s → St' g π H S → Runs X.prog X.w X.mg X.base g0 k f lam (frs X.stack) s π H
theorem live_of {X : Cx} {g0 : G} {k : Nat} {f : Addr} {lam : Sto → ER D} {π0 : List Addr} (hb : ∃ more, π0 = g0.B ++ more) (hex : X.ex = []) (hs : X.stack = X.env :: X.outer) (hfr : X.env.frame = some X.env.locals)
    (R : Runs X.prog X.w X.mg X.base g0 k f lam X.fs X.s_0 π0 X.H_0) : LiveX X g0 (liveG g0 π0 X.H_0) k f lam := by
  intro pins σ H s π S I st A outer s1 H1 Q E π1 S1 hr e0 un ex st1 hp
  have ub := I.base
  rw [hex] at ub
  refine R A outer s1 H1 Q E π1 S1 hr e0 (un_deep ub un fun x o hx hm => ?_) ((live_out hb st).2.trans ex) st1 hp
  rcases List.mem_cons.mp (I.stkSub x hm) with z | z
  · have h1 := Heap.lt_size hx
    have h2 := I.ok.above
    rw [z] at h1
    exact absurd (Nat.lt_of_lt_of_le h1 h2) (Nat.lt_irrefl _)
  · exact z
section
variable {X : Cx} {g0 g : G} {W : WX}
/-- x(), x a local that holds the lambda -/
def mAct (i : Nat) (f : Addr) (lam : Sto → ER D) : M D := fun ρ S => match ρ[i]? with
  | some (some (.fn a)) => if a = f then lam S else .bad
  | _ => .bad
theorem s_act {k i : Nat} {f : Addr} {lam : Sto → ER D} {π0 : List Addr} {x : Str} {p1 p2 : Pos} (hgb : ∃ more, π0 = g0.B ++ more) (hK : X.K = g0.K) (L : LiveX X g0 (liveG g0 π0 X.H_0) k f lam) (hr : Room k X.A) (tk : L2N.Takes X W) (hN : X.N[i]? = some x) (hv : Vis X.env.scope x)
    (hd : (x == ("__debug__" : Str)) = false := by decide) (hcd : (x == ("__classdict__" : Str)) = false := by decide) : SimE X (liveG g0 π0 X.H_0) W (.Call (.Name x p1) [] [] p2) (mAct i f lam) := by
  refine ⟨fun pins s σ H Q I h => ?_⟩
  obtain ⟨π, ρ, S, hrr, hs, hp⟩ := h
  unfold mAct at hp
  cases e : ρ[i]? with
  | none => rw [e] at hp; exact hp.elim
  | some o =>
    cases o with
    | none => rw [e] at hp; exact hp.elim
    | some d =>
      rw [e] at hp
      obtain ⟨v, h1, h2⟩ := hrr.get e
      cases d with
      | fn a =>
        by_cases ha : a = f
        · subst ha
          simp only [if_true] at hp
          unfold Rel at h2
          subst h2
          refine wpAny_Call_Name_kw (thn ((pe_var (pos := p1) (i := i) hN hv hd hcd).run pins s σ H (fun v H1 => v = .ref a ∧ H1 = H) I ⟨.ref a, h1, rfl, rfl⟩) fun u s1 ⟨v, H1, I1, r1, q1⟩ => ?_)
          obtain ⟨ev, eH⟩ := q1
          subst ev
          rw [eH] at I1
          obtain rfl : u = Value.ref a := r1
          have st := live_out hgb hs
          have hp2 := post_live st.2 hp
          have hp3 : Post g0 RV (fun c d _ H' => W c d σ H') [] π H Q (lam S) := by
            cases e2 : lam S with
            | ok b S2 => rw [e2] at hp2; exact hp2
            | ex c w S2 => rw [e2] at hp2; exact hp2
            | bad => rw [e2] at hp2; exact hp2
          have e0 := I1.env0
          rw [hK] at e0
          obtain ⟨rf, rc⟩ := L pins σ H s1 π S I1 hs X.A X.stack s1 H Q (fun c d H' => W c d σ H') π S hr e0 Un.refl (.refl _ _) st.1 hp3
          refine PySem.W.callWith_F0 rf ?_
          refine wpAny_call (codeAny_mono rc fun r s' hq => ?_)
          cases r with
          | error er => exact L2N.passAt tk σ pins H s1 er s' I1 hq
          | ok fl =>
            cases fl with
            | ret u => exact I1.after hq
            | next => exact False.elim hq
            | brk => exact False.elim hq
            | cont => exact False.elim hq
        · simp only [ha, if_false] at hp
          exact hp.elim
      | _ => exact hp.elim
end
/-! ### defs that get a lambda -/
structure LDef (P : Program) (w : World) (mg : Str → Option Value) (base : Heap) (g : G) (k kl : Nat) (x : Str) (n : Nat) (F : (Sto → ER D) → Fn) : Prop where
  ex : ∃ fa fd ps, mg x = some (.ref fa) ∧ PySem.W.keepIn g.K (.ref fa) = true ∧ Binds g.K fd ps [] ∧ ps.length = n + 1 ∧
    ∀ (A : Around) (outer : List Env) (s : Shared) (H : Hp) (args : Args) (us : List Value) (vs : List V) (Q : VK) (E : XK) (f : Addr) (lam : Sto → ER D) (π : List Addr) (S : Sto) (ds : List D), Room k A → Env0 P w g.K mg base A outer s H →
      BindsTo s fd args (ps.zip us) → Vals (.ref f :: vs) us → vs.length = n → Runs P w mg base g kl f lam (frs outer) s π H → St' g π H S → Rels g π H ds vs → Post g RV (fun c d _ H' => E c d H') [] π H Q (F lam ds S) →
      codeAny (model P w) A (.call (.ref fa) args) (CR (L2N.CX P w) outer P w H s Q E) s
section
variable {P : Program} {w : World} {mg : Str → Option Value} {base : Heap} {g : G}
theorem ldef_rd (gk : GOk g) {k kl n : Nat} {x qual : Str} {params : Arguments} {body : List Stmt} {scope : Scope} {fa : Addr} {fd : FuncData} {N ps : List Str} {m : Addr → (Sto → ER D) → MS} {F : (Sto → ER D) → Fn} (FD : FunD g.K x qual params body scope [] [] fa fd) (hm : mg x = some (.ref fa)) (Sc : FnScope N ps scope) (hps : ps.length = n + 1)
    (hbn : ∀ (kV doc pm : Value) (an : Option Addr) (cdv ct : Value) (us : List Value), us.length = ps.length → bindArgs (PySem.W.fnOf x qual params body scope .none kV doc pm an cdv ct) ⟨us, []⟩ = pure (ps.zip us))
    (hF : ∀ f lam ds S, ds.length = n → runB N.length (m f lam) (.fn f :: ds) S = F lam ds S)
    (hb : ∀ (cdv : Value) (A : Around) (outer : List Env) (s : Shared) (H : Hp) (E : XK) (π : List Addr) (f : Addr) (lam : Sto → ER D), (∃ more, π = g.B ++ more) → BodyX (cxOf (L2N.CX P w) P w g.K mg base N qual scope fa cdv A outer s H E) k (fun c d _ H' => E c d H') →
      LiveX (cxOf (L2N.CX P w) P w g.K mg base N qual scope fa cdv A outer s H E) g (liveG g π H) kl f lam →
      SimB (cxOf (L2N.CX P w) P w g.K mg base N qual scope fa cdv A outer s H E) (liveG g π H) (fun c d _ H' => E c d H') body (m f lam)) : LDef P w mg base g (k + 1) kl x n F := by
  refine ⟨fa, fd, ps, hm, FD.kp, FD.bindsN hbn, hps, fun A outer s H args us vs Q E f lam π S ds hr e0 hbd r hl R st hd hp => ?_⟩
  obtain ⟨oc, od, dV, kV, doc, pm, an, cdv, ct, osl, rfl, lk, hcd, _, _⟩ := FD.ex
  refine run_ofS (N := N) lk hcd Sc hr e0 hbd r (by rw [hps]; simp [hl]) fun hr' => ?_
  have L : LiveX (cxOf (L2N.CX P w) P w g.K mg base N qual scope fa cdv A outer s H E) g (liveG g π H) kl f lam := live_of (X := cxOf (L2N.CX P w) P w g.K mg base N qual scope fa cdv A outer s H E) st.pre rfl rfl rfl R
  refine ⟨_, hb cdv A outer s H E π f lam st.pre ⟨hr', L2N.takes_of rfl rfl rfl rfl, passes_of rfl⟩ L, ?_⟩
  refine post_run (ds := .fn f :: ds) (S := S) (π := π) (live_in st (.refl _ _)) (.cons (by unfold Rel; rfl) (Rels.chg (g := g) (g' := liveG g π H) rfl hd)) ?_
  rw [hF _ _ _ _ (by rw [hd.length]; exact hl)]
  exact post_live' st.pre hp
end
section
variable {X : Cx} {g0 : G} {W : WX}
/-- g(x, ..), x the local that holds the lambda -/
def mCallLive (i : Nat) (f : Addr) (lam : Sto → ER D) (n : Nat) (F : (Sto → ER D) → Fn) (ma : M (List D)) : M D := fun ρ S => match ρ[i]? with
  | some (some (.fn a)) => if a = f then bindM ma (fun ds _ S => if ds.length = n then F lam ds S else .bad) ρ S else .bad
  | _ => .bad
theorem s_callLive {k kl i n : Nat} {f : Addr} {lam : Sto → ER D} {π0 : List Addr} {F : (Sto → ER D) → Fn} {x y : Str} {es : List Expr} {ma : M (List D)} {p p1 pos : Pos} (hgb : ∃ more, π0 = g0.B ++ more) (hK : X.K = g0.K) (L : LiveX X g0 (liveG g0 π0 X.H_0) kl f lam) (Dx : LDef X.prog X.w X.mg X.base g0 k kl x n F)
    (hr : Room k X.A) (tk : L2N.Takes X W) (hg : Gl X x) (hN : X.N[i]? = some y) (hv : Vis X.env.scope y) (ha : SimA X (liveG g0 π0 X.H_0) W es ma)
    (hdb : (x == ("__debug__" : Str)) = false := by decide) (hd : (y == ("__debug__" : Str)) = false := by decide) (hcd : (y == ("__classdict__" : Str)) = false := by decide)
    (he : starEach (.Name y p1 :: es) X.env = (false, eval (.Name y p1) X.env) :: starEach es X.env := by rfl) (hpl : (backTo pos (starEach es X.env)).any (·.1) = false := by rfl) :
    SimE X (liveG g0 π0 X.H_0) W (.Call (.Name x p) (.Name y p1 :: es) [] pos) (mCallLive i f lam n F ma) := by
  refine ⟨fun pins s σ H Q I h => ?_⟩
  obtain ⟨fa, fd, ps, h1, h2, h3, h4, h5⟩ := Dx.ex
  obtain ⟨π, ρ, S, hrr, hs, hp⟩ := h
  unfold mCallLive at hp
  cases e : ρ[i]? with
  | none => rw [e] at hp; exact hp.elim
  | some o =>
    cases o with
    | none => rw [e] at hp; exact hp.elim
    | some d =>
      rw [e] at hp
      obtain ⟨v, hv1, hv2⟩ := hrr.get e
      cases d with
      | fn a =>
        by_cases hae : a = f
        · subst hae
          simp only [if_true] at hp
          unfold Rel at hv2
          subst hv2
          refine wpAny_Call_Name_kw (ld_glob I hg h1 ?_ hdb)
          rw [← hK] at h2 h3
          refine PySem.W.callWith_K (h₀ := X.base) I.ok.mod.kin h2 (thn ((pa_cons (pe_var (pos := p1) (i := i) hN hv hd hcd) ha he).run pos pins s σ H (fun vs H1 => ∃ ws, vs = .ref a :: ws ∧ ∃ π1 S1 ds, St' (liveG g0 π0 X.H_0) π1 H1 S1 ∧ Rels (liveG g0 π0 X.H_0) π1 H1 ds ws ∧ ds.length = n ∧ Post (liveG g0 π0 X.H_0) RV W σ π1 H1 Q (F lam ds S1)) I ?_) fun us s1 ⟨vs, H1, I1, r1, q1⟩ => ⟨I1.kIn, ?_⟩) he hpl
          · refine ⟨.ref a, hv1, ?_⟩
            refine tG_bind (R := RVs) hrr hs hp fun xs vs π1 S1 H1 e1 hr1 hs1 rx hp1 => ?_
            split at hp1
            · rename_i hl
              exact ⟨vs, rfl, π1, S1, xs, hs1, rx, hl, hp1⟩
            · exact hp1.elim
          · obtain ⟨ws, rfl, π1, S1, ds, hs1, rx, hl, hp1⟩ := q1
            have st := live_out hgb hs1
            have hp2 := post_live st.2 hp1
            have hp3 : Post g0 RV (fun c d _ H' => W c d σ H') [] π1 H1 Q (F lam ds S1) := by
              cases e2 : F lam ds S1 with
              | ok b S2 => rw [e2] at hp2; exact hp2
              | ex c w S2 => rw [e2] at hp2; exact hp2
              | bad => rw [e2] at hp2; exact hp2
            have e0 := I1.env0
            rw [hK] at e0
            have lws : ws.length = n := by rw [← rx.length]; exact hl
            have lus : us.length = ps.length := by rw [← Paired.length r1, h4]; simp [lws]
            have bb := h3 s1 us I1.kIn (by rw [List.append_nil]; exact lus)
            rw [List.append_nil] at bb
            have rc := h5 X.A X.stack s1 H1 ⟨us, []⟩ us ws Q (fun c d H' => W c d σ H') a lam π1 S1 ds hr e0 bb r1 lws (L pins σ H1 s1 π1 S1 I1 hs1) st.1 (Rels.chg (g := liveG g0 π0 X.H_0) (g' := g0) rfl rx) hp3
            refine wpAny_call (codeAny_mono rc fun r s' hq => ?_)
            cases r with
            | error er => exact L2N.passAt tk σ pins H1 s1 er s' I1 hq
            | ok fl =>
              cases fl with
              | ret u => exact I1.after hq
              | next => exact False.elim hq
              | brk => exact False.elim hq
              | cont => exact False.elim hq
        · simp only [hae, if_false] at hp
          exact hp.elim
      | _ => exact hp.elim
end
/-! ### a lambda as the first argument -/
section
variable {X : Cx} {pins : List (Addr × Obj)} {σ : L2.St} {H : Hp} {s : Shared}
theorem lam_make3 {T : List (Addr × Str)} {c P : Addr} {params : Arguments} {body : Expr} {scope : Scope} {pos : Pos} {E : Value → Shared → Prop} {Q : Value → Shared → Prop} (I : Inv X pins σ H s) (TB : TabB X.base X.mg c P) (hcode : X.env.code = .ref c)
    (hm : (P, X.env.qual ++ "<lambda>") ∈ T) (hu : ∀ p ∈ T, p.1 = P → p.2 = X.env.qual ++ "<lambda>") (hT : Tabs T H) (hdef : defaultsOf params X.env = ([], [])) (hfree : ∀ y ∈ scope.names, y.2 = .free → ∃ c, X.env.cells.lookup y.1 = some c)
    (h : ∀ (f c' : Addr) (pm ctv : Value) (H1 : Hp) (s' : Shared), Inv X pins σ H1 s' → ExtN H H1 → Tabs T H1 →
      s'.heap.get? f = some (PySem.W.kla_obj "<lambda>" (X.env.qual ++ "<lambda>") params body scope (cloFrom X.env.cells scope.names []) pm c' ctv) → H1 f = none → f ∉ frs X.stack → s.heap.objs.size ≤ f → H1 c' = some (CodeO c' (X.env.qual ++ "<lambda>")) → Q (.ref f) s') :
    wpAny (model X.prog X.w) X.A (eval (.Lambda params body scope pos) X.env) Q E s := by
  obtain ⟨ps, hP, ht, ha⟩ := hT _ hm
  refine PySem.W.kla_eval hdef ?_
  have bP : s.heap.BuiltinsAt X.mg P := TB.bm.keeps I.bk
  have hP' : s.heap.get? P = some { cls := .none, data := .fields ps } := I.hok P _ hP
  have nofr : ∀ f, s.heap.objs.size ≤ f → f ∉ frs X.stack := fun f hf z => by
    rcases List.mem_cons.mp (I.stkSub _ z) with e | e
    · have h1 := I.lt
      rw [← e] at h1
      exact Nat.lt_irrefl _ (Nat.lt_of_lt_of_le h1 hf)
    · exact I.nofs hf e
  cases hc : codeAmong pos ps.toList with
  | none =>
    refine PySem.W.kla_makeFunction (mg := X.mg) (c := c) (P := P) (ps := ps) (closure_ok hfree) I.ok.glob (I.mod.glob.keeps I.bk) hcode (TB.code.keeps I.bk) hP' ht hc TB.gP bP fun c' ctv h' tk hx hge hlt hrec htb => ?_
    obtain ⟨c2, oc, vs, t, e2, hoc, hd, hv⟩ := hrec
    cases e2
    have hsz : s.heap.objs.size ≤ h'.objs.size := Nat.le_trans hge (Nat.le_of_lt hlt)
    have nC : H c' = none := I.hok.fresh hge
    have I1 := inv_table (t' := tk) (more := #[rawInt pos.line, rawInt pos.col, .ref c']) (h' := h'.push (PySem.W.kla_obj "<lambda>" (X.env.qual ++ "<lambda>") params body scope (cloFrom X.env.cells scope.names []) ((X.mg "__name__").getD .none) c' ctv)) I hP
      (fun b o hb e => Heap.get?_push_of_some _ (hx b o hb e)) (Heap.get?_push_of_some _ htb) hge ⟨oc, vs, t, Heap.get?_push_of_some _ hoc, hd, hv⟩
    have hE : ExtN H (upd (upd H P (.tbl (ps ++ #[rawInt pos.line, rawInt pos.col, .ref c']))) c' (CodeO c' (X.env.qual ++ "<lambda>"))) := fun b o e n => by
      rw [upd_ne (ne_of_none e nC), upd_ne (fun z => n ps (Option.some.inj (e.symm.trans (by rw [z]; exact hP))))]
      exact e
    have eL : (ps ++ #[rawInt pos.line, rawInt pos.col, .ref c']).toList = ps.toList ++ [rawInt pos.line, rawInt pos.col, .ref c'] := by simp
    refine h h'.objs.size c' ((X.mg "__name__").getD .none) ctv _ _ I1 hE (fun p hp => ?_) (Heap.get?_push_size _ rfl) ?_ (nofr _ hsz) hsz upd_same
    · by_cases hb : p.1 = P
      · rw [hu p hp hb, hb]
        refine ⟨_, by rw [upd_ne (ne_of_none hP nC), upd_same], by rw [eL]; exact PySem.TriplesOk_snoc _ _ _ _ ht, fun p' cv hcv => ?_⟩
        rw [eL] at hcv
        rcases among_app _ ht hcv with z | z
        · obtain ⟨c0, e1, e2⟩ := ha p' cv z
          exact ⟨c0, e1, hE _ _ e2 codeO_ne⟩
        · exact ⟨c', z, upd_same⟩
      · obtain ⟨ps', a1, a2, a3⟩ := hT p hp
        refine ⟨ps', by rw [upd_ne (ne_of_none a1 nC), upd_ne hb]; exact a1, a2, fun p' cv hcv => ?_⟩
        obtain ⟨c0, e1, e2⟩ := a3 p' cv hcv
        exact ⟨c0, e1, hE _ _ e2 codeO_ne⟩
    · have n1 : h'.objs.size ≠ c' := Nat.ne_of_gt hlt
      have n2 : h'.objs.size ≠ P := Nat.ne_of_gt (Nat.lt_of_lt_of_le (Heap.lt_size hP') hsz)
      rw [upd_ne n1, upd_ne n2]
      exact I.hok.fresh hsz
  | some cv =>
    obtain ⟨c', e, hco⟩ := ha pos cv hc
    subst e
    refine PySem.W.kla_makeFunctionHit (mg := X.mg) (c := c) (P := P) (ps := ps) (closure_ok hfree) I.ok.glob (I.mod.glob.keeps I.bk) hcode (TB.code.keeps I.bk) hP' ht hc bP fun ctv h' tk hx hsz => ?_
    have I1 : Inv X pins σ H { s with heap := h'.push (PySem.W.kla_obj "<lambda>" (X.env.qual ++ "<lambda>") params body scope (cloFrom X.env.cells scope.names []) ((X.mg "__name__").getD .none) c' ctv), toks := tk } := I.kept fun b o e => Heap.get?_push_of_some _ (hx b o e)
    exact h h'.objs.size c' ((X.mg "__name__").getD .none) ctv H _ I1 (ExtN.refl H) hT (Heap.get?_push_size _ rfl) (I.hok.fresh hsz) (nofr _ hsz) hsz hco
end
end PI

end
section
set_option Elab.async false
set_option linter.all false
set_option maxRecDepth 100000
set_option maxHeartbeats 2000000
/-! PiLam: a lambda as the first argument. -/
namespace PI
open PySem PySem.Spec PyProof.Rows L2 LamX
def lamN (X : Cx) (A : Around) (outer : List Env) (s : Shared) (H : Hp) (E : XK) (scope : Scope) (f c' : Addr) : Cx :=
  (lamCx X A outer s H E scope f c').wish fun e s' => wpAny (model X.prog X.w) (A.deeper (lamEnv X scope s.heap.objs.size f c')) (leaving (lamEnv X scope s.heap.objs.size f c') e) (fun _ s'' => L2N.CX X.prog X.w outer H s E e s'') (fun e' s'' => L2N.CX X.prog X.w outer H s E e' s'') s'
/-- what the tables of code objects must be -/
structure LamT (X : Cx) (g : G) (T : List (Addr × Str)) : Prop where
  tabs : ∀ H, g.T H → Tabs T H
  step : ∀ H H1, g.T H → ExtN H H1 → Tabs T H1 → g.T H1
  own : ∃ c P, TabB X.base X.mg c P ∧ X.env.code = .ref c ∧ (P, X.env.qual ++ "<lambda>") ∈ T ∧ ∀ p ∈ T, p.1 = P → p.2 = X.env.qual ++ "<lambda>"
theorem immut_tbl {o : HO} (h : immut o) : ∀ ps, o ≠ .tbl ps := fun ps z => by rw [z] at h; exact h
theorem ext_of_extN {π : List Addr} {H H1 : Hp} (e : ExtN H H1) : Ext π H π H1 := ⟨⟨[], by simp⟩, fun b o h i => e b o h (immut_tbl i)⟩
theorem st_extN {g : G} {π : List Addr} {H H1 : Hp} {S : Sto} (s : St' g π H S) (e : ExtN H H1) (t : g.T H → g.T H1) : St' g π H1 S :=
  s.ext_new (ext_of_extN e) (fun n o a vs h1 h2 h3 _ => e a vs h3 (fun ps z => by
    have r := s.at_ n o a h1 h2
    rw [z] at h3
    cases o with
    | lst xs => obtain ⟨ys, e1, _⟩ := r; rw [h3] at e1; cases e1
    | fro xs => obtain ⟨ys, _, ⟨o, e1⟩, _⟩ := r; rw [h3] at e1; cases e1
    | dK xs => obtain ⟨ys, e1, _⟩ := r; rw [h3] at e1; cases e1
    | froK xs => obtain ⟨ys, o, e1, _⟩ := r; rw [h3] at e1; cases e1)) t
def mCallLam (n : Nat) (F : (Sto → ER D) → Fn) (mb : M D) (ma : M (List D)) : M D := bindM ma fun ds ρ S => if ds.length = n then F (fun S' => mb ρ S') ds S else .bad
section
variable {X : Cx} {g : G} {W : WX}
theorem lam_runs {pins : List (Addr × Obj)} {σ : L2.St} {H2 : Hp} {s2 : Shared} {kl : Nat} {f c' : Addr} {pm ctv : Value} {params : Arguments} {body : Expr} {scope : Scope} {mb : M D} {π2 : List Addr} {ρ : Rho} (hK : X.K = g.K) (I : Inv X pins σ H2 s2) (L : LamS X.env.scope scope)
    (hf : s2.heap.get? f = some (PySem.W.kla_obj "<lambda>" (X.env.qual ++ "<lambda>") params body scope (cloFrom X.env.cells scope.names []) pm c' ctv)) (hfn : H2 f = none) (hfr : f ∉ frs X.stack) (hco : H2 c' = some (CodeO c' (X.env.qual ++ "<lambda>")))
    (hbind : ∀ (q : Str) (cl : List (Str × Addr)) (pm cv ctv : Value), bindArgs (PySem.W.kla_fn "<lambda>" q params body scope cl pm cv ctv) ⟨[], []⟩ = pure [])
    (hbody : ∀ (A : Around) (outer : List Env) (s : Shared) (H : Hp) (E : XK) (f c' : Addr), BodyX (lamN X A outer s H E scope f c') kl (fun c d _ H' => E c d H') → SimE (lamN X A outer s H E scope f c') g (fun c d _ H' => E c d H') body mb)
    (hr : RelR g π2 H2 ρ σ) : Runs X.prog X.w X.mg X.base g (kl + 1) f (fun S => mb ρ S) (frs X.stack) s2 π2 H2 := by
  intro A outer s1 H1 Q E π S hrm e0 un ex st hp
  have of1 := un.keep f _ hf hfn hfr (by simp)
  have hc : H1 c' = some (CodeO c' (X.env.qual ++ "<lambda>")) := ex.keep c' _ hco trivial
  obtain ⟨⟨oc, vs, t, hoc, hdc, hvc⟩, _, _⟩ := e0.hok c' _ hc
  refine ⟨⟨_, _, _, _, of1⟩, ?_⟩
  refine PySem.W.kla_callFunE hrm.depth of1 rfl L.co L.gen rfl ⟨c', oc, vs, t, rfl, hoc, hdc, hvc⟩ ?_
  rw [hbind]
  have lim : s1.heap.NoLimit := e0.mod.nolimit.keeps fun b o e => (e0.bs b o e).1
  refine wpAny_pure (wpAny_newFunctionEnv (fun y hy => (L.own y hy).2) (fun y hy => absurd hy (by simp)) (fun h₁ hns hsb => ⟨lim.fresh _ hsb, ?_⟩) L.kind)
  show codeAny _ _ (.expr body (lamEnv X scope s1.heap.objs.size f c')) _ _
  have kp : ∀ b o, s1.heap.get? b = some o → h₁.get? b = some o := fun b o e => hsb.extBut b o (Nat.ne_of_lt (Heap.lt_size e)) (Heap.get?_push_of_some _ e)
  rw [← hK] at e0
  have J0 : Inv (lamCx X A outer s1 H1 E scope f c') [] σ H1 { s1 with heap := h₁, toks := s1.toks + ([] : List (Str × Value)).length } := lam_start2 I L e0 hrm.hd un hns kp
  have J : Inv (lamN X A outer s1 H1 E scope f c') [] σ H1 { s1 with heap := h₁, toks := s1.toks + ([] : List (Str × Value)).length } := J0.wish _
  have bx : BodyX (lamN X A outer s1 H1 E scope f c') kl (fun c d _ H' => E c d H') := ⟨hrm.deeper _, L2N.takes_of rfl rfl rfl rfl, passes_of rfl⟩
  have hp2 : Post g RV (fun c d _ H' => E c d H') σ π H1 Q (mb ρ S) := by
    cases e2 : mb ρ S with
    | ok b S2 => simp only [e2] at hp; exact hp
    | ex c w S2 => simp only [e2] at hp; exact hp
    | bad => simp only [e2] at hp; exact hp
  refine PySem.W.kla_codeExpr (wpAny_mono ((hbody A outer s1 H1 E f c' bx).run [] _ σ H1 Q J ⟨π, ρ, S, hr.ext ex, st, hp2⟩) (fun v s' hq => ?_) fun e s' hq => hq)
  obtain ⟨w', H', J', rv, q⟩ := hq
  exact ⟨w', H', J'.os, J'.bare, J'.base, J'.hok, rv, q⟩
theorem s_callLam {k kl n : Nat} {F : (Sto → ER D) → Fn} {mb : M D} {ma : M (List D)} {T : List (Addr × Str)} {x : Str} {params : Arguments} {body : Expr} {scope : Scope} {es : List Expr} {p lpos pos : Pos} (Dx : LDef X.prog X.w X.mg X.base g k (kl + 1) x n F) (hK : X.K = g.K) (LT : LamT X g T) (hr : Room k X.A) (tk : L2N.Takes X W) (hg : Gl X x)
    (L : LamS X.env.scope scope) (hdef : defaultsOf params X.env = ([], [])) (hbind : ∀ (q : Str) (cl : List (Str × Addr)) (pm cv ctv : Value), bindArgs (PySem.W.kla_fn "<lambda>" q params body scope cl pm cv ctv) ⟨[], []⟩ = pure [])
    (hbody : ∀ (A : Around) (outer : List Env) (s : Shared) (H : Hp) (E : XK) (f c' : Addr), BodyX (lamN X A outer s H E scope f c') kl (fun c d _ H' => E c d H') → SimE (lamN X A outer s H E scope f c') g (fun c d _ H' => E c d H') body mb) (ha : SimA X g W es ma)
    (hdb : (x == ("__debug__" : Str)) = false := by decide)
    (he : starEach (.Lambda params body scope lpos :: es) X.env = (false, eval (.Lambda params body scope lpos) X.env) :: starEach es X.env := by rfl) (hpl : (backTo pos (starEach es X.env)).any (·.1) = false := by rfl) :
    SimE X g W (.Call (.Name x p) (.Lambda params body scope lpos :: es) [] pos) (mCallLam n F mb ma) := by
  refine ⟨fun pins s σ H Q I h => ?_⟩
  obtain ⟨fa, fd, ps, h1, h2, h3, h4, h5⟩ := Dx.ex
  obtain ⟨π, ρ, S, hrr, hs, hp⟩ := h
  obtain ⟨c, P, TB, hcode, hmT, hu⟩ := LT.own
  refine wpAny_Call_Name_kw (ld_glob I hg h1 ?_ hdb)
  rw [← hK] at h2 h3
  refine PySem.W.callWith_K (h₀ := X.base) I.ok.mod.kin h2 ?_ he hpl
  rw [he]
  show wpAny _ _ (spliced ((false, eval (.Lambda params body scope lpos) X.env) :: backTo pos (starEach es X.env))) _ _ s
  refine Calls.spliced_cons (lam_make3 I TB hcode hmT hu (LT.tabs H hs.tab) hdef (L.has I.ok) fun f c' pm' ctv H1 s' I1 eN T1 hf hfn hfr hge hco => ?_)
  have exN : Ext π H π H1 := ext_of_extN eN
  have hs1 := st_extN hs eN fun t => LT.step H H1 t eN T1
  have fpk : ∀ b ∈ [f], FpOk X pins H1 b := fun b hb => by
    obtain rfl : b = f := by simpa using hb
    exact I.fpOk hge hfn
  have obk : ∀ b ∈ [f], ∃ o, s'.heap.get? b = some o ∧ ∀ v, o.data ≠ .cell v := fun b hb => by
    obtain rfl : b = f := by simpa using hb
    exact ⟨_, hf, fun v z => by cases z⟩
  have I1p := I1.pinned fpk obk
  refine thn (ha.run pos _ s' σ H1 (fun vs H2 => ∃ π2 S2 ds, Ext π H1 π2 H2 ∧ St' g π2 H2 S2 ∧ Rels g π2 H2 ds vs ∧ ds.length = n ∧ Post g RV W σ π2 H2 Q (F (fun S' => mb ρ S') ds S2)) I1p ?_) fun us s2 ⟨vs, H2, I2, r2, π2, S2, ds, ex2, hs2, rx, hl, hp2⟩ => ?_
  · refine ⟨π, ρ, S, hrr.ext exN, hs1, ?_⟩
    have hp1 := Post.mono exN hp
    unfold mCallLam bindM at hp1
    cases e : ma ρ S with
    | ok ds S2 =>
      rw [e] at hp1
      intro vs π2 H2 ex2 hs2 rx
      have hp2 := Post.mono ex2 hp1
      by_cases hl : ds.length = n
      · simp only [hl, if_true] at hp2
        exact ⟨π2, S2, ds, ex2, hs2, rx, hl, hp2⟩
      · simp only [hl, if_false] at hp2
        exact hp2.elim
    | ex c w S2 =>
      rw [e] at hp1
      exact hp1
    | bad =>
      rw [e] at hp1
      exact hp1
  · have z := I2.pin (f, _) (List.mem_append_right _ (List.mem_append_right _ (mem_pinsAt (by simp) hf)))
    refine ⟨I2.kIn, ?_⟩
    have rl : Vals (V.ref f :: vs) (Value.ref f :: us) := .cons rfl r2
    have lvs : vs.length = n := by rw [← rx.length]; exact hl
    have lus : (Value.ref f :: us).length = ps.length := by rw [← Paired.length rl, h4]; simp [lvs]
    have bb := h3 s2 (Value.ref f :: us) I2.kIn (by rw [List.append_nil]; exact lus)
    rw [List.append_nil] at bb
    have e0 := I2.env0
    rw [hK] at e0
    have R := lam_runs (kl := kl) (π2 := π2) (ρ := ρ) (mb := mb) (g := g) hK I2 L z.1 z.2.1 hfr (ex2.keep c' _ hco trivial) hbind hbody ((hrr.ext exN).ext ex2)
    have hp3 : Post g RV (fun c d _ H' => W c d σ H') [] π2 H2 Q (F (fun S' => mb ρ S') ds S2) := by
      cases e2 : F (fun S' => mb ρ S') ds S2 with
      | ok b S3 => rw [e2] at hp2; exact hp2
      | ex c w S3 => rw [e2] at hp2; exact hp2
      | bad => rw [e2] at hp2; exact hp2
    have rc := h5 X.A X.stack s2 H2 ⟨.ref f :: us, []⟩ (.ref f :: us) vs Q (fun c d H' => W c d σ H') f _ π2 S2 ds hr e0 bb rl lvs R hs2 rx hp3
    refine wpAny_call (codeAny_mono rc fun r s3 hq => ?_)
    cases r with
    | error er => exact L2N.passAt tk σ _ H2 s2 er s3 I2 hq
    | ok fl =>
      cases fl with
      | ret u =>
        obtain ⟨v, H3, I3, rv, q⟩ := I2.after (Q := Q) hq
        exact ⟨v, H3, I3.unpinned, rv, q⟩
      | next => exact False.elim hq
      | brk => exact False.elim hq
      | cont => exact False.elim hq
end
end PI

end
section
set_option Elab.async false
set_option linter.all false
set_option maxRecDepth 100000
set_option maxHeartbeats 2000000
/-! PiHeard: try .. except X as e, and what stands in such a suite. -/
namespace PI
open PySem PySem.Spec PyProof.Rows L2 L2H
section
variable {P : Program} {w : World} {mg : Str → Option Value} {base : Heap} {g : G}
/-! ### defs called while p's exception is handled -/
structure HDef (P : Program) (w : World) (mg : Str → Option Value) (base : Heap) (g : G) (k : Nat) (p : Addr × Obj) (x : Str) (n : Nat) (f : Fn) : Prop where
  ex : ∃ fa fd ps, mg x = some (.ref fa) ∧ PySem.W.keepIn g.K (.ref fa) = true ∧ Binds g.K fd ps [] ∧ ps.length = n ∧
    ∀ (A : Around) (outer : List Env) (s : Shared) (H : Hp) (args : Args) (us : List Value) (vs : List V) (Q : VK) (E : XK), RoomH k A → Hot1 A p → PinOk outer H s p → Env0 P w g.K mg base A outer s H → BindsTo s fd args (ps.zip us) → Vals vs us → spOf g n f vs H Q E →
      codeAny (model P w) A (.call (.ref fa) args) (CR (L2N.CX P w) outer P w H s Q E) s
structure BodyH (X : Cx) (k : Nat) (W : WX) (p : Addr × Obj) : Prop where
  hr : RoomH k X.A
  tk : L2N.Takes X W
  hot : Hot1 X.A p
  hp : p ∈ X.pn
theorem hdef_rd {k : Nat} {pp : Addr × Obj} {x qual : Str} {params : Arguments} {body : List Stmt} {scope : Scope} {fa : Addr} {fd : FuncData} {N ps : List Str} {m : MS} (F : FunD g.K x qual params body scope [] [] fa fd) (hm : mg x = some (.ref fa)) (Sc : FnScope N ps scope)
    (hbn : ∀ (kV doc pm : Value) (an : Option Addr) (cdv ct : Value) (us : List Value), us.length = ps.length → bindArgs (PySem.W.fnOf x qual params body scope .none kV doc pm an cdv ct) ⟨us, []⟩ = pure (ps.zip us))
    (hb : ∀ (cdv : Value) (A : Around) (outer : List Env) (s : Shared) (H : Hp) (E : XK), BodyH (cxH (L2N.CX P w) P w g.K mg base N qual scope fa cdv A outer s H E pp) k (fun c d _ H' => E c d H') pp →
      SimB (cxH (L2N.CX P w) P w g.K mg base N qual scope fa cdv A outer s H E pp) g (fun c d _ H' => E c d H') body m) : HDef P w mg base g (k + 1) pp x ps.length (runB N.length m) := by
  have F0 := F
  obtain ⟨oc, od, dV, kV, doc, pm, an, cdv, ct, osl, rfl, lk, hcd, _, _⟩ := F.ex
  refine ⟨fa, _, ps, hm, F0.kp, F0.bindsN hbn, rfl, fun A outer s H args us vs Q E hr hot hpin e0 hbd r hsp => ?_⟩
  obtain ⟨hl, π, S, ds, hs, hd, hp⟩ := hsp
  have KX : g.K.In s.heap := e0.mod.kin.keeps fun b o e => (e0.bs b o e).1
  have lim : s.heap.NoLimit := e0.mod.nolimit.keeps fun b o e => (e0.bs b o e).1
  have hkind : ∀ y ∈ ps.zip us, scope.names.lookup y.1 = some .local ∨ (scope.names.lookup y.1 = some .cell ∧ ((cellsFrom (s.heap.objs.size + 1) scope.names []).lookup y.1).isSome = true) := fun ⟨n, v⟩ hy => by
    rcases Sc.par n (List.of_mem_zip hy).1 with q | q
    · exact .inl q
    · exact .inr ⟨q, PySem.W.cellsFrom_some _ _ _ (.inl q)⟩
  refine codeAny_call_function hr.depth (KX _ _ lk) rfl Sc.co Sc.gen rfl (PySem.W.codeRec_of KX hcd) (hbd _ _ _ _ ?_)
  refine wpAny_newFunctionEnv_cells Sc.kind hkind fun env he s1 x => ?_
  subst he
  refine ⟨lim.keeps x.toInCall.keep, codeAny_func ?_⟩
  have I : Inv (cxH (L2N.CX P w) P w g.K mg base N qual scope fa cdv A outer s H E pp) [] (L2.start N vs) H s1 := inv_startH Sc hpin e0 hl r x
  have bx : BodyH (cxH (L2N.CX P w) P w g.K mg base N qual scope fa cdv A outer s H E pp) k (fun c d _ H' => E c d H') pp := ⟨hr.deeper _, L2N.takes_of rfl rfl rfl rfl, hot, List.mem_singleton.mpr rfl⟩
  refine wpAny_mono ((hb cdv A outer s H E bx).run [] s1 (L2.start N vs) H _ I (post_run hs hd hp)) (fun fl s' hs => ?_) fun e s' hs => hs
  have fin : ∀ {σ' : L2.St} {H' : Hp} {v : V} {u : Value}, Inv (cxH (L2N.CX P w) P w g.K mg base N qual scope fa cdv A outer s H E pp) [] σ' H' s' → RelV v u → Q v H' → CE outer P w H s Q u s' :=
    fun {σ' H' v u} J rv q => ⟨v, H', J.os, J.bare, J.base, J.hok, rv, q⟩
  cases fl with
  | ret u =>
    obtain ⟨v, σ', H', J, rv, q⟩ := hs
    exact fin J rv q
  | next =>
    obtain ⟨σ', H', J, q⟩ := hs
    exact fin (v := V.non) (u := Value.none) J rfl q
  | brk =>
    obtain ⟨_, _, _, q⟩ := hs
    exact False.elim q
  | cont =>
    obtain ⟨_, _, _, q⟩ := hs
    exact False.elim q
end
section
variable {X : Cx} {g : G} {W : WX}
theorem s_callP {k n : Nat} {pp : Addr × Obj} {f : Fn} {x : Str} {e : Expr} {es : List Expr} {ma : M (List D)} {p pos : Pos} (Dx : HDef X.prog X.w X.mg X.base g k pp x n f) (hK : X.K = g.K) (hr : RoomH k X.A) (hot : Hot1 X.A pp) (hpn : pp ∈ X.pn) (tk : L2N.Takes X W) (hg : Gl X x) (ha : SimA X g W (e :: es) ma)
    (hdb : (x == ("__debug__" : Str)) = false := by decide) (he : starEach (e :: es) X.env = (false, eval e X.env) :: starEach es X.env := by rfl) (hpl : (backTo pos (starEach es X.env)).any (·.1) = false := by rfl) :
    SimE X g W (.Call (.Name x p) (e :: es) [] pos) (mCallF n f ma) := by
  obtain ⟨fa, fd, ps, h1, h2, h3, h4, h5⟩ := Dx.ex
  rw [← hK] at h2 h3 h5
  refine ⟨fun pins s σ H Q I h => ?_⟩
  have h' := tG_callF h
  refine wpAny_Call_Name_kw (ld_glob I hg h1 ?_ hdb)
  refine PySem.W.callWith_K (h₀ := X.base) I.ok.mod.kin h2 (thn (ha.run pos pins s σ H _ I h') fun us s1 ⟨vs, H1, I1, r, q⟩ => ⟨I1.kIn, ?_⟩) he hpl
  have hl : us.length = ps.length := by rw [← Paired.length r, h4]; exact q.1
  have b := h3 s1 us I1.kIn (by rw [List.append_nil]; exact hl)
  rw [List.append_nil] at b
  have P1 := I1.pin pp (List.mem_append_left _ hpn)
  have hpin : PinOk X.stack H1 s1 pp := ⟨P1.1, P1.2.1, fun hm => (List.mem_cons.mp (I1.stkSub pp.1 hm)).elim P1.2.2.1 P1.2.2.2.1, P1.2.2.2.2⟩
  refine wpAny_call (codeAny_mono (h5 X.A X.stack s1 H1 ⟨us, []⟩ us vs Q (WE W σ) hr hot hpin I1.env0 b r q) fun r s' hq => ?_)
  cases r with
  | error er => exact L2N.passAt tk σ pins H1 s1 er s' I1 hq
  | ok fl =>
    cases fl with
    | ret u => exact I1.after hq
    | next => exact False.elim hq
    | brk => exact False.elim hq
    | cont => exact False.elim hq
/-! ### isinstance(e, C), e the caught exception -/
def mIsE (i : Nat) (a : Addr) (b : Bool) : M D := fun ρ S => match ρ[i]? with
  | some (some (.fn a')) => if a' = a then .ok (.bl b) S else .bad
  | _ => .bad
theorem s_isE {i : Nat} {a D0 C1 dx : Addr} {oe : Obj} {y n : Str} {b : Bool} {q q1 q2 pos : Pos} (hK : X.K = g.K) (C : ExcC g.K D0) (hp : (a, oe) ∈ X.pn) (hc : oe.cls = .ref D0) (hd : oe.dict = some dx) (hf : ∃ vs, oe.data = .fields vs) (hT : ∀ H, g.T H → ∃ fs, H dx = some (.xd fs))
    (hk : PySem.W.kitOne g.K (.ref D0) (.ref C1) = some b) (hg : Gl X "isinstance") (hm : X.mg "isinstance" = none) (hN : X.N[i]? = some y) (hv : Vis X.env.scope y) (hgn : Gl X n) (hmn : X.mg n = some (.ref C1))
    (hy : (y == ("__debug__" : Str)) = false := by decide) (hy2 : (y == ("__classdict__" : Str)) = false := by decide) (hn : (n == ("__debug__" : Str)) = false := by decide) : SimE X g W (.Call (.Name "isinstance" q) [.Name y q1, .Name n q2] [] pos) (mIsE i a b) := by
  have hb : bootBuiltins "isinstance" = some (.builtin "isinstance") := by decide +kernel
  rw [← hK] at C hk
  refine PE.imp (pe_callB (call_isX C hp hc hd hf) hg hm hb (pa_cons (pe_var hN hv hy hy2) (pa_cons (pe_glob (v := .ref C1) (u := .ref C1) hgn hmn rfl hn) pa_nil (by rfl)) (by rfl)) (by decide) (by decide) (by rfl) (by rfl)) fun σ H Q ⟨π, ρ, S, hr, hst, hp⟩ => ?_
  unfold mIsE at hp
  cases e : ρ[i]? with
  | none => rw [e] at hp; exact hp.elim
  | some o =>
    cases o with
    | none => rw [e] at hp; exact hp.elim
    | some d =>
      rw [e] at hp
      obtain ⟨v, hv1, hv2⟩ := hr.get e
      cases d with
      | fn a' =>
        by_cases ha : a' = a
        · subst ha
          simp only [if_true] at hp
          unfold Rel at hv2
          subst hv2
          exact ⟨.ref a', hv1, .ref C1, .ref C1, b, rfl, fun u hu => hu, hk, hT H hst.tab, Post.pure (R := RV) hp hst Rel.bl⟩
        · simp only [ha, if_false] at hp
          exact hp.elim
      | _ => exact hp.elim
/-! ### sep.join(xs) -/
def strsD : List D → Option (List Str)
  | [] => some []
  | .str s :: r => (strsD r).map (s :: ·)
  | _ :: _ => none
theorem strsD_map : ∀ ns : List Str, strsD (ns.map D.str) = some ns
  | [] => rfl
  | n :: ns => by simp [strsD, strsD_map ns]
theorem strsD_eq : ∀ {ds : List D} {ns : List Str}, strsD ds = some ns → ds = ns.map D.str
  | [], ns, h => by cases h; rfl
  | d :: ds, ns, h => by
    cases d with
    | str i =>
      cases e : strsD ds with
      | none => simp [strsD, e] at h
      | some ms =>
        simp [strsD, e] at h
        subst h
        rw [strsD_eq e]
        rfl
    | _ => simp [strsD] at h
theorem Rels.strs_inv {π : List Addr} {H : Hp} : ∀ {ns : List Str} {vs : List V}, Rels g π H (ns.map D.str) vs → vs = ns.map V.str
  | [], vs, h => by simp only [List.map_nil] at h ⊢; unfold Rels at h; exact h
  | n :: ns, vs, h => by
    simp only [List.map_cons] at h ⊢
    unfold Rels at h
    obtain ⟨v, r, rfl, h2, h3⟩ := h
    unfold Rel at h2
    rw [h2, Rels.strs_inv h3]
def opJoin (x y : D) (S : Sto) : ER D := match x, (seqD S y).bind strsD with
  | .str a, some ys => if (ys.map (·.length)).sum + ys.length * a.length ≤ 16777216 then .ok (.str (Txt.join a ys)) S else .bad
  | _, _ => .bad
def isStrD : D → Bool
  | .str _ => true
  | _ => false
def mJoin (mo me : M D) : M D := bindM mo fun x => fun ρ S => if isStrD x then bindM me (fun y _ S => opJoin x y S) ρ S else .bad
theorem s_join (hK : X.K = g.K) {o e : Expr} {mo me : M D} {apos cpos : Pos} (ho : SimE X g W o mo) (he : SimE X g W e me)
    (hbase : attributeBase o "join" X.env (eval o X.env) = eval o X.env := by rfl)
    (hfew : ((backTo cpos (starEach [e] X.env)).all (fun x => !x.1) && (backToKw cpos (keywordEach [] X.env)).all (fun x => x.1.isSome)
      && decide ([e].length + ([] : List Keyword).length + (if ([] : List Keyword).isEmpty then 0 else 1) < 30)) = true := by rfl)
    (hline : (apos.endLine == cpos.line) = true := by rfl) (hs : starEach [e] X.env = (false, eval e X.env) :: starEach [] X.env := by rfl) (hplain : (backTo cpos (starEach [] X.env)).any (·.1) = false := by rfl) :
    SimE X g W (.Call (.Attribute o "join" apos) [e] [] cpos) (mJoin mo me) := by
  refine PE.imp (pe_bm PySem.F.plainAttrs_str PySem.F.slot_str_join PySem.F.type_str_join mt_join ho (pa_cons he pa_nil hs) hbase hfew hline hs hplain) fun σ H Q ⟨π, ρ, S, hr, hst, hp⟩ => ?_
  refine tG_bind (R := RV) hr hst hp fun x v π1 S1 H1 e1 hr1 hs1 rx hp1 => ?_
  cases x with
  | str a =>
    rw [Rel.str' rx]
    refine ⟨rfl, ?_⟩
    have hp1' : Post g RV W σ π1 H1 Q (bindM me (fun y _ S => opJoin (.str a) y S) ρ S1) := hp1
    refine tG_bind (R := RV) hr1 hs1 hp1' fun y w π2 S2 H2 e2 hr2 hs2 ry hp2 => ?_
    unfold opJoin at hp2
    cases e3 : seqD S2 y with
    | none => simp only [e3] at hp2; exact hp2.elim
    | some xs =>
      cases e4 : strsD xs with
      | none => simp only [e3, Option.bind_some, e4] at hp2; exact hp2.elim
      | some ys =>
        simp only [e3, Option.bind_some, e4] at hp2
        by_cases hz : (ys.map (·.length)).sum + ys.length * a.length ≤ 16777216
        · rw [if_pos hz] at hp2
          have e5 := strsD_eq e4
          subst e5
          obtain ⟨p, vs, rfl, r2, r3⟩ := seqD_ok hs2 e3 ry
          rw [r2.strs_inv] at r3
          rw [hK]
          exact ⟨a, p, ys, rfl, rfl, r3.imp (·.1) (·.1.t), hz, Post.pure (R := RV) hp2 hs2 Rel.str⟩
        · rw [if_neg hz] at hp2
          exact hp2.elim
  | _ => exact hp1.elim
/-! ### e.what -/
def mWhat (i : Nat) (a : Addr) (w : D) : M D := fun ρ S => match ρ[i]? with
  | some (some (.fn a')) => if a' = a then .ok w S else .bad
  | _ => .bad
theorem s_what {i : Nat} {a C0 dx : Addr} {oe : Obj} {pn : List (Addr × Obj)} {y : Str} {wd : D} {wv : V} {π1 : List Addr} {H1 : Hp} {q pos : Pos} (hK : X.K = g.K) (T : XfC g.K C0) (hno : PySem.W.findIn g.K (.ref C0) "what" = some none) (hz : Zc (.ref C0) (some dx) oe) (hf : ∃ vs, oe.data = .fields vs)
    (hw : Rel g π1 H1 wd wv) (hx : H1 dx = some (.xd [("what", wv)])) (hN : X.N[i]? = some y) (hv : Vis X.env.scope y) (hgb : ∃ more, π1 = g.B ++ more)
    (hy : (y == ("__debug__" : Str)) = false := by decide) (hy2 : (y == ("__classdict__" : Str)) = false := by decide) (hb : attributeBase (.Name y q) "what" X.env (eval (.Name y q) X.env) = eval (.Name y q) X.env := by rfl) :
    SimE (X.suite a ((a, oe) :: pn)) (liveG g π1 H1) W (.Attribute (.Name y q) "what" pos) (mWhat i a wd) := by
  rw [← hK] at T hno
  refine PE.imp (pe_xf T hno hz hf (pe_var hN hv hy hy2) hb) fun σ H Q ⟨π, ρ, S, hr, hst, hp⟩ => ?_
  unfold mWhat at hp
  cases e : ρ[i]? with
  | none => rw [e] at hp; exact hp.elim
  | some o =>
    cases o with
    | none => rw [e] at hp; exact hp.elim
    | some d =>
      rw [e] at hp
      obtain ⟨v, hv1, hv2⟩ := hr.get e
      cases d with
      | fn a' =>
        by_cases ha : a' = a
        · subst ha
          simp only [if_true] at hp
          unfold Rel at hv2
          subst hv2
          have st := live_out hgb hst
          exact ⟨.ref a', hv1, rfl, rfl, dx, _, wv, rfl, st.2.keep _ _ hx trivial, by simp [List.lookup], Post.pure (R := RV) hp hst (Rel.chg (g := g) (g' := liveG g π1 H1) rfl (hw.ext st.2))⟩
        · simp only [ha, if_false] at hp
          exact hp.elim
      | _ => exact hp.elim
end
end PI

end
section
set_option Elab.async false
set_option linter.all false
set_option maxRecDepth 100000
set_option maxHeartbeats 2000000
/-! PiTry: a comprehension in an except suite; try .. except X as e. -/
namespace PI
open PySem PySem.Spec PyProof.Rows L2 L2H
section
variable {X : Cx} {g : G} {W : WX}
def mSeqL (m : M D) : M IterD := bindM m fun d _ S => match d with
  | .loc n => seqIter (.loc n) S
  | _ => .bad
theorem iList_of {m : M D} {σ : L2.St} {H : Hp} {R : It → Hp → Prop} (h : tG g RI W (mSeqL m) σ H R) : iList g.K (tG g RV W m) σ H R := by
  obtain ⟨π, ρ, S, hr, hs, hp⟩ := h
  refine tG_bind (R := RV) hr hs hp fun d v π1 S1 H1 e1 hr1 hs1 rx hp1 => ?_
  cases d with
  | loc n =>
    cases e2 : seqD S1 (.loc n) with
    | none => simp only [seqIter, e2] at hp1; exact hp1.elim
    | some xs =>
      simp only [seqIter, e2] at hp1
      obtain ⟨a, hn, rfl⟩ := (show Rel g π1 H1 (.loc n) v from rx).loc'
      obtain ⟨vs, h1, h2⟩ := watch_list hs1 hn (okB_of e2)
      exact ⟨a, rfl, ⟨vs, h1⟩, hp1.pure hs1 (isWalk_list (J := fun _ _ => True) hn)⟩
  | _ => exact hp1.elim
theorem s_lcHot (gk : GOk g) (hK : X.K = g.K) {elt tg iter : Expr} {ifs : List Expr} {scope : Scope} {own : List (Str × Nat)} {pos : Pos} {p : Pat} {m : M D} {mt : M Bool} {me : M D} (hc : HotC X) (hN : X.N.Nodup) (hi : SimE X g W iter m) (ok : BlkOk X.N X.env.scope scope own)
    (hpn : ∀ i ∈ p.names, i ∈ own.map (·.2))
    (hg : ∀ (s : Shared) (H : Hp) (C : Addr) (cl : List (Str × Addr)) (fp : List Addr), SimP (X.blk s H scope (compEnvC scope cl C X.env) fp) g tg p)
    (ht : ∀ (s : Shared) (H : Hp) (C : Addr) (cl : List (Str × Addr)) (fp : List Addr), PTs (X.blk s H scope (compEnvC scope cl C X.env) fp) ifs (tG g RB W0 mt))
    (he : ∀ (s : Shared) (H : Hp) (C : Addr) (cl : List (Str × Addr)) (fp : List Addr), SimE (X.blk s H scope (compEnvC scope cl C X.env) fp) g W0 elt me) (hs : ∀ x, foldedSetIterable iter X.env x = pure x := by intro _; rfl) :
    SimE X g W (.ListComp elt [⟨tg, iter, ifs, 0⟩] scope pos) (mLc p (own.map (·.2)) (mSeqL m) mt me) := by
  refine PE.imp (HotL.lc_hot hc hN hi ok hg ht he hs) fun σ H Q h => ?_
  rw [hK]
  exact iList_of (tLc_imp gk hpn h)
/-! ### try: body, except X as n: suite -/
/-- behind the suite the name at i is gone -/
def afterH (i : Nat) : SR → SR
  | .nx ρ S => .nx (ρ.set i none) S
  | .bk ρ S => .bk (ρ.set i none) S
  | .ct ρ S => .ct (ρ.set i none) S
  | .rt d S => .rt d S
  | .ex _ _ _ _ => .bad
  | .bad => .bad
def sTry (i n : Nat) (known : Nat → Bool) (mb : MS) (hs : Nat → D → MS) : MS := fun ρ S => match mb ρ S with
  | .ex c w ρ1 S1 => if known c = true ∧ ρ1.length = n then hs c w ρ1 S1 else .bad
  | r => r
theorem postS_live {π0 : List Addr} {H0 : Hp} {Dn : Ends} {π : List Addr} {H : Hp} (hb : ∃ more, π0 = g.B ++ more) : ∀ {r : SR}, PostS g W Dn π H r → PostS (liveG g π0 H0) W Dn π H r
  | .nx ρ S, h => fun σ' π' H' ex r st => h σ' π' H' ex (RelR.chg (g := liveG g π0 H0) (g' := g) rfl r) (live_out hb st).1
  | .bk ρ S, h => fun σ' π' H' ex r st => h σ' π' H' ex (RelR.chg (g := liveG g π0 H0) (g' := g) rfl r) (live_out hb st).1
  | .ct ρ S, h => fun σ' π' H' ex r st => h σ' π' H' ex (RelR.chg (g := liveG g π0 H0) (g' := g) rfl r) (live_out hb st).1
  | .rt d S, h => fun v π' H' ex st r => h v π' H' ex (live_out hb st).1 (Rel.chg (g := liveG g π0 H0) (g' := g) rfl r)
  | .ex c w ρ S, h => fun σ' a wv π' H' ex r st rw x => h σ' a wv π' H' ex (RelR.chg (g := liveG g π0 H0) (g' := g) rfl r) (live_out hb st).1 (Rel.chg (g := liveG g π0 H0) (g' := g) rfl rw) x
  | .bad, h => h
theorem afterH_post {i : Nat} {Dn : Ends} {π : List Addr} {H : Hp} : ∀ {r : SR}, PostS g W Dn π H (afterH i r) →
    PostS g W0 { nx := fun σ' H' => Dn.nx (σ'.set i none) H', rt := Dn.rt, bk := fun σ' H' => Dn.bk (σ'.set i none) H', ct := fun σ' H' => Dn.ct (σ'.set i none) H' } π H r
  | .nx ρ S, h => fun σ' π' H' ex r st => h _ π' H' ex (r.unset i) st
  | .bk ρ S, h => fun σ' π' H' ex r st => h _ π' H' ex (r.unset i) st
  | .ct ρ S, h => fun σ' π' H' ex r st => h _ π' H' ex (r.unset i) st
  | .rt d S, h => h
  | .ex _ _ _ _, h => h.elim
  | .bad, h => h.elim
theorem live_tr {g0 : G} {k : Nat} {f : Addr} {lam : Sto → ER D} {pn : List (Addr × Obj)} {xe : Value → Shared → Prop} (hp : X.pn = []) (L : LiveX X g0 g k f lam) : LiveX (X.tr pn xe) g0 g k f lam := by
  intro pins σ H s π S I st
  have ok := I.ok
  exact L pins σ H s π S ⟨⟨ok.mod, ok.kind, ok.glob, ok.blt, ok.above, ok.inj, ok.has, ok.cab, ok.hd, ok.frames, ok.stk, ok.exf, ok.bs, ok.bsz, ok.noex, ok.exfs, ok.funs, ok.frf⟩,
    I.os, I.bare, I.base, I.loc, I.cell, I.free, I.freeC, fun p hp2 => I.pin p (by rw [hp] at hp2; exact List.mem_append_right _ hp2), I.hok, I.len⟩ st
/-- what the suite is read at -/
def tsT (g : G) (known : Nat → Bool) (hsA : Addr → Nat → D → MS) (a : Addr) (cls : Value) (d : Option Addr) : TS := fun Dn σ H => ∃ c π ρ S w wv dx, cls = .ref (g.C c) ∧ known c = true ∧ d = some dx ∧ H dx = some (.xd [("what", wv)]) ∧ Rel g π H w wv ∧ RelR g π H ρ σ ∧ St' g π H S ∧ PostS g W0 Dn π H (hsA a c w ρ S)
theorem s_try {i nn : Nat} {known : Nat → Bool} {mb : MS} {hs : Nat → D → MS} {hsA : Addr → Nat → D → MS} {x n : Str} {RA : Addr} {body suite : List Stmt} {b₀ : Stmt} {np pos pos' : Pos} (hst : X.stack = X.env :: X.outer) (hf : X.env.frame = some X.env.locals) (hK : X.K = g.K) (hN : X.N.Nodup) (hi : X.N[i]? = some n) (hln : X.env.kindOf n = some .local) (hc : Names X x (.ref RA)) (tk : L2N.Takes X W)
    (hb : ∀ (W' : WX) (pn : List (Addr × Obj)) (xe : Value → Shared → Prop), L2N.Takes (X.tr pn xe) W' → PassesOwn (model X.prog X.w) X.A X.env xe → SimB (X.tr pn xe) g W' body mb)
    (hk : ∀ c, known c = true → PySem.W.exmOne g.K (.ref (g.C c)) (.ref RA) = some true)
    (hsu : ∀ (a : Addr) (oe : Obj) (c : Nat) (dx : Addr) (pn : List (Addr × Obj)) (π1 : List Addr) (H1 : Hp) (wd : D) (wv : V), known c = true → L2N.Zn (.ref (g.C c)) (some dx) oe → (∃ vs, oe.data = .fields vs) → Rel g π1 H1 wd wv → H1 dx = some (.xd [("what", wv)]) → (∃ more, π1 = g.B ++ more) →
      SimB (X.suite a ((a, oe) :: pn)) (liveG g π1 H1) W0 (b₀ :: suite) (hsA a c wd))
    (hH : ∀ a c w ρ S, known c = true → ρ.length = nn → afterH i (hsA a c w (ρ.set i (some (.fn a))) S) = hs c w ρ S) :
    SimS X g W (.Try body [.ExceptHandler (some (.Name x np)) (some n) (b₀ :: suite) pos'] [] [] pos) (sTry i nn known mb hs) := by
  refine PS.imp (L2N.ps_try_as (tb := fun W' => tS g W' mb) (ts := tsT g known hsA) hst hf hN hi hln hc tk hb fun a oe cls d pn hz hfl => ?_) fun Dn σ H ⟨π, ρ, S, hr, hs1, hp⟩ => ?_
  · refine ⟨fun pins s σ H Dn I h => ?_⟩
    obtain ⟨c, π, ρ, S, w, wv, dx, rfl, hkc, rfl, hx, rw, rr, st, hp⟩ := h
    exact (hsu a oe c dx pn π H w wv hkc hz hfl rw hx st.pre).run pins s σ H Dn I ⟨π, ρ, S, RelR.chg (g := g) (g' := liveG g π H) rfl rr, live_in st (.refl _ _), postS_live st.pre hp⟩
  · refine ⟨π, ρ, S, hr, hs1, ?_⟩
    unfold sTry at hp
    cases e : mb ρ S with
    | nx ρ1 S1 => rw [e] at hp; exact hp
    | bk ρ1 S1 => rw [e] at hp; exact hp
    | ct ρ1 S1 => rw [e] at hp; exact hp
    | rt d S1 => rw [e] at hp; exact hp
    | bad => rw [e] at hp; exact hp.elim
    | ex c w ρ1 S1 =>
      rw [e] at hp
      by_cases hkn : known c = true ∧ ρ1.length = nn
      · obtain ⟨hkc, hln⟩ := hkn
        simp only [hkc, hln, and_self, if_true] at hp
        intro σ' a wv π' H' ex rr st rw hx
        refine ⟨true, by rw [hK]; exact hk c hkc, fun _ a' ha' => ?_, fun z => by cases z⟩
        refine ⟨c, π', ρ1.set i (some (.fn a')), S1, w, wv, a, rfl, hkc, rfl, hx, rw, rr.set (by unfold Rel; rfl) i, st, afterH_post (W := W) ?_⟩
        rw [hH a' c w ρ1 S1 hkc hln]
        exact PostS.mono ex hp
      · simp only [hkn, if_false] at hp
        exact hp.elim
end
end PI

end
section
set_option Elab.async false
set_option linter.all false
set_option maxRecDepth 100000
set_option maxHeartbeats 2000000
namespace PI
open PySem PySem.Spec PyProof.Rows L2 He NdefX
structure ExcF (K : PySem.W.Frag) (C D fI : Addr) : Prop where
  sup : SupOf K C D
  init : PySem.W.findIn K (.ref C) "__init__" = some (some (.ref fI))
  fn : PySem.W.typeIn K (.ref fI) = some (.type "function")
  isC : ExcC K C
  xf : XfC K C
  exm : PySem.W.exmOne K (.ref C) (.ref D) = some true
theorem excB_ok {K : PySem.W.Frag} {C D fI : Addr} (h : excB K C D fI = true) (h0 : excB0 K fI = true) : ExcF K C D fI := by
  obtain ⟨a1, h⟩ := ba h
  obtain ⟨a2, h⟩ := ba h
  obtain ⟨a3, h⟩ := ba h
  obtain ⟨a4, h⟩ := ba h
  obtain ⟨a5, h⟩ := ba h
  obtain ⟨a6, h⟩ := ba h
  obtain ⟨a7, h⟩ := ba h
  obtain ⟨a8, h⟩ := ba h
  obtain ⟨a9, h⟩ := ba h
  obtain ⟨a10, h⟩ := ba h
  obtain ⟨a11, h⟩ := ba h
  obtain ⟨a12, h⟩ := ba h
  obtain ⟨a13, h⟩ := ba h
  obtain ⟨a14, h⟩ := ba h
  obtain ⟨a15, a16⟩ := ba h
  obtain ⟨b1, h0⟩ := ba h0
  obtain ⟨b2, b3⟩ := ba h0
  exact ⟨⟨⟨oexB_ok a1, eqO_ok a2, of_decide_eq_true a3, of_decide_eq_true a4, a5⟩, of_decide_eq_true a6, of_decide_eq_true a7, of_decide_eq_true a8, eqO_ok a9⟩, eqO_ok a10, of_decide_eq_true b3,
    ⟨eqO_ok a11, eqO_ok a12, of_decide_eq_true a3, a13, eqO_ok a14, of_decide_eq_true b1, of_decide_eq_true b2, of_decide_eq_true a15⟩, ⟨eqO_ok a11, eqO_ok a12, of_decide_eq_true a3, a13⟩, of_decide_eq_true a16⟩
theorem initB_ok {P : Program} {K : PySem.W.Frag} {mg : Str → Option Value} {a D : Addr} {name qual : Str} {params : Arguments} {body : List Stmt} {scope : Scope} (h : initB K P.main.file a D = true) (e : fnI K a = some (name, qual, params, .stmts body, scope, mainGlobals, [("__class__" : Str)], builtinsNs))
    (sc : NScope iN iP iF scope) (hsup : scope.names.lookup ("super" : Str) = some .globalImplicit) (hpar : ∃ ar, (params.posonlyargs ++ params.args).head? = some ar ∧ ar.arg = "self")
    (hb : ∀ (cl : List (Str × Addr)) (doc pm cv ctv : Value) (us : List Value), us.length = 2 → bindArgs (PySem.W.fnX name qual params body scope cl .none .none doc pm none cv ctv) ⟨us, []⟩ = pure (iP.zip us))
    (g1 : mg "super" = none) (htop : (P.main.scope.names.lookup ("super" : Str)).isSome = false) : ∃ fd F, SupI P K mg a D fd F ∧ F.body = body := by
  obtain ⟨h1, h2⟩ := ba h
  obtain ⟨h3, h4⟩ := ba h2
  obtain ⟨h5, h6⟩ := ba h4
  unfold fnI at e
  split at h1
  · rename_i oc od fd osl lk
    rw [lk] at e
    split at h1
    · rename_i c cn cc e1 e2 e3 e4 e5
      obtain ⟨c1, c2⟩ := ba h1
      obtain ⟨c3, c4⟩ := ba c2
      obtain ⟨n1, n2, n3, n4, n5, n6, n7, n8, n9, n10, n11, n12, n13, n14, n15⟩ := fd
      dsimp only at e1 e2 e3 e4 e5
      subst e1 e2 e3 e4 e5
      simp only [Option.some.injEq, Prod.mk.injEq, List.map_cons, List.map_nil, List.cons.injEq, and_true] at e
      obtain ⟨f1, f2, f3, f4, f5, f6, f7, f8⟩ := e
      subst f1 f2 f3 f4 f5 f6 f7 f8
      split at c3
      · rename_i q1 q2 vs q3 lkc
        split at c3
        · rename_i f tf hvs
          split at c4
          · rename_i r1 r2 D' r3 lkcc
            have eD := of_decide_eq_true c4
            subst eD
            obtain ⟨cd, hcd⟩ := Option.isSome_iff_exists.mp h3
            refine ⟨_, ⟨n1, n2, n3, body, n5, [(("__class__" : Str), cc)], c⟩, ⟨⟨oc, od, osl, n10, n11, _, lk, rfl⟩, sc, hsup, hpar, fun doc pm ctv us hl => hb _ doc pm _ ctv us hl, c1, ⟨q1, q2, vs, q3, f, tf, lkc, hvs, c3⟩, ⟨cc, r1, r2, r3, rfl, lkcc⟩, ⟨cd, hcd⟩, g1, htop, of_decide_eq_true h5, h6⟩, rfl⟩
          · cases c4
        · cases c3
      · cases c3
    · cases h1
  · cases h1
end PI

end
section
set_option Elab.async false
set_option linter.all false
set_option maxRecDepth 100000
set_option maxHeartbeats 2000000
/-! PiRules: a comprehension over a dict's items, three names at once, a call by keywords. -/
namespace PI
open PySem PySem.Spec PyProof.Rows L2
section
variable {X : Cx} {g : G} {W : WX}
/-! ### [.. for k, v in d.items() ..] -/
def itemsD (kvs : List (Key × D)) : List D := kvs.map fun kv => .tup [kD kv.1, kv.2]
theorem itemsD_get {kvs : List (Key × D)} {i : Nat} {k : Key} {d : D} (h : kvs[i]? = some (k, d)) : (itemsD kvs)[i]? = some (.tup [kD k, d]) := by
  unfold itemsD
  rw [List.getElem?_map, h]
  rfl
theorem isWalk_items (gk : GOk g) {π : List Addr} {H : Hp} {a : Addr} {o : Obj} {kvs : List (Key × D)} {vs : List (Key × V)} (h1 : H a = some (.frz o (.dK vs))) (h2 : RelK g π H kvs vs) : IsWalk g π H (Iti a o vs) ⟨itemsD kvs, []⟩ := by
  have hl : (itemsD kvs).length = vs.length := by unfold itemsD; rw [List.length_map]; exact RelK.length h2
  refine ⟨fun H => H a = some (.frz o (.dK vs)), fun i H x H' => ∃ T k v, vs[i]? = some (k, v) ∧ x = .ref T ∧ H T = none ∧ H' = upd H T (.tup [kV k, v]), ⟨fun i H hi q => ⟨q, by rw [← hl]; exact hi⟩, fun H q => ⟨q, by rw [← hl]; exact Nat.le_refl _⟩, fun i H x H' _ _ y => y⟩,
    fun π2 H2 S2 ex s ok => ex.keep _ _ h1 trivial, fun i x π2 H2 H3 S2 hi ex s ok y => ?_⟩
  obtain ⟨T, k, v, hkv, rfl, hT, rfl⟩ := y
  obtain ⟨d, hd, rd⟩ := RelK.get (h2.ext ex) hkv
  have e2 := Ext.upd_new (π := π2) (o := .tup [kV k, v]) hT
  exact ⟨e2, s.new gk hT, _, itemsD_get hd, Rel.tup (.inl upd_same) (.cons (kD_rel k) (.cons (Rel.ext e2 rd) .nil))⟩
theorem extW_thaw {π : List Addr} {H : Hp} {a : Addr} {o : Obj} {u v : HO} (h : H a = some (.frz o u)) : ExtW π H π (upd H a v) := ⟨⟨[], by simp⟩, fun b xs hb => by
  rw [upd_ne (fun z => by rw [z, h] at hb; cases hb)]
  exact hb⟩
/-- a locked dict is let go -/
theorem St'.thaw {π : List Addr} {H : Hp} {S : Sto} {n : Nat} {a : Addr} {o : Obj} {kvs : List (Key × D)} {vs : List (Key × V)} (s : St' g π H S) (hn : π[n]? = some a) (hS : S[n]? = some (.froK kvs)) (hp : H a = some (.frz o (.dK vs))) (ht : g.T (upd H a (.dK vs))) :
    St' g π (upd H a (.dK vs)) (S.set n (.dK kvs)) := by
  have ew : ExtW π H π (upd H a (.dK vs)) := extW_thaw hp
  refine ⟨by simp [s.len], s.nd, fun m o2 b h1 h2 => ?_, ht, s.pre⟩
  by_cases hm : m = n
  · subst hm
    have hl : m < S.length := by
      have := (List.getElem?_eq_some_iff.mp h1).1
      simpa using this
    rw [List.getElem?_set_self hl] at h1
    rw [hn] at h2
    cases h1; cases h2
    obtain ⟨vs', o', e1, e2⟩ := s.at_ m _ a hS hn
    rw [hp] at e1
    cases e1
    exact ⟨vs, upd_same, e2.extW ew⟩
  · rw [List.getElem?_set_ne (Ne.symm hm)] at h1
    have r := s.at_ m o2 b h1 h2
    have ab : b ≠ a := fun z => hm (by
      rw [z] at h2
      exact (List.getElem?_inj (List.getElem?_eq_some_iff.mp h2).1 s.nd).mp (h2.trans hn.symm))
    cases o2 with
    | lst xs =>
      obtain ⟨vs, e1, e2⟩ := r
      exact ⟨vs, by rw [upd_ne ab]; exact e1, e2.extW ew⟩
    | fro xs =>
      obtain ⟨ws, e1, ⟨u, e2⟩, e3⟩ := r
      have e4 : upd H a (.dK vs) b = some (.frz u (.lst ws)) := by rw [upd_ne ab]; exact e2
      exact ⟨ws, .inl (.inr ⟨u, e4⟩), ⟨u, e4⟩, e3.extW ew⟩
    | dK kvs =>
      obtain ⟨vs, e1, e2⟩ := r
      exact ⟨vs, by rw [upd_ne ab]; exact e1, e2.extW ew⟩
    | froK kvs =>
      obtain ⟨vs, u, e1, e2⟩ := r
      exact ⟨vs, u, by rw [upd_ne ab]; exact e1, e2.extW ew⟩
noncomputable def mLcD (i : Nat) (p : Pat) (own : List Nat) (mt : M Bool) (me : M D) : M D := fun ρ S => match ρ[i]? with
  | some (some (.loc n)) => (match S[n]? with
    | some (.dK kvs) => (match lcL ⟨itemsD kvs, []⟩ p mt me S.length (itemsD kvs) (wipeR ρ own) ((S.set n (.froK kvs)) ++ [.lst []]) with
      | some S1 => (match S1[n]? with
        | some (.froK kvs') => .ok (.loc S.length) (S1.set n (.dK kvs'))
        | _ => .bad)
      | none => .bad)
    | _ => .bad)
  | _ => .bad
theorem s_lcItems (gk : GOk g) (hth : ∀ H p ob vs u, g.T H → H p = some (.frz ob (.dK vs)) → g.T (upd H p u)) {i : Nat} {x : Str} {q apos cpos : Pos} {elt : Expr} {elts : List Expr} {kk : Nat} {tpos : Pos} {ifs : List Expr} {scope : Scope} {own : List (Str × Nat)} {pos : Pos} {p : Pat} {mt : M Bool} {me : M D} (hc : X.calm = true) (hN : X.N.Nodup)
    (hi : X.N[i]? = some x) (hv : Vis X.env.scope x) (ok : BlkOk X.N X.env.scope scope own) (hpn : ∀ i ∈ p.names, i ∈ own.map (·.2))
    (hg : ∀ (s : Shared) (H : Hp) (C : Addr) (cl : List (Str × Addr)) (fp : List Addr), SimP (X.blk s H scope (compEnvC scope cl C X.env) fp) g (.Tuple elts kk tpos) p)
    (ht : ∀ (s : Shared) (H : Hp) (C : Addr) (cl : List (Str × Addr)) (fp : List Addr), PTs (X.blk s H scope (compEnvC scope cl C X.env) fp) ifs (tG g RB W0 mt))
    (he : ∀ (s : Shared) (H : Hp) (C : Addr) (cl : List (Str × Addr)) (fp : List Addr), SimE (X.blk s H scope (compEnvC scope cl C X.env) fp) g W0 elt me)
    (hd : (x == ("__debug__" : Str)) = false := by decide) (hcd : (x == ("__classdict__" : Str)) = false := by decide)
    (hs : ∀ x', foldedSetIterable (.Call (.Attribute (.Name x q) "items" apos) [] [] cpos) X.env x' = pure x' := by intro _; rfl)
    (hbase : attributeBase (.Name x q) "items" X.env (eval (.Name x q) X.env) = eval (.Name x q) X.env := by rfl) (hline : (apos.endLine == cpos.line) = true := by rfl) :
    SimE X g W (.ListComp elt [⟨.Tuple elts kk tpos, .Call (.Attribute (.Name x q) "items" apos) [] [] cpos, ifs, 0⟩] scope pos) (mLcD i p (own.map (·.2)) mt me) := by
  refine PE.imp (pe_lock (pe_lc hc hN (pi_items (pe_var hi hv hd hcd) hbase hline) ok hg ht he hs)) fun σ H Q ⟨π, ρ, S, hr, hst, hp⟩ => ?_
  unfold mLcD at hp
  cases e1 : ρ[i]? with
  | none => simp only [e1] at hp; exact hp.elim
  | some oo =>
    cases oo with
    | none => simp only [e1] at hp; exact hp.elim
    | some d =>
      simp only [e1] at hp
      obtain ⟨v, hv1, hv2⟩ := hr.get e1
      cases d with
      | loc n =>
        cases e2 : S[n]? with
        | none => simp only [e2] at hp; exact hp.elim
        | some ob =>
          cases ob with
          | dK kvs =>
            simp only [e2] at hp
            obtain ⟨a, rfl, hn, vs, h1, h2⟩ := hst.obj e2 hv2
            refine ⟨a, .dK vs, h1, trivial, fun od => ?_⟩
            have exL : Ext π H π (upd H a (.frz od (.dK vs))) := Ext.upd_mut h1 (fun z => z)
            have hsL : St' g π (upd H a (.frz od (.dK vs))) (S.set n (.froK kvs)) := hst.put gk hn h1 (fun z => z) (fun ps z => by cases z) ⟨vs, od, upd_same, h2.ext exL⟩
            refine ⟨.ref a, hv1, a, od, vs, rfl, upd_same, ?_⟩
            refine lc_rest gk hpn (S1 := S.set n (.froK kvs)) (it := ⟨itemsD kvs, []⟩) (W := W) (mt := mt) (me := me) (Q := fun v H' => H' a = some (.frz od (.dK vs)) ∧ Q v (upd H' a (.dK vs))) (hr.ext exL) hsL (isWalk_items gk upd_same (h2.ext exL)) ?_
            have el : (S.set n (.froK kvs)).length = S.length := by simp
            rw [el]
            cases e3 : lcL ⟨itemsD kvs, []⟩ p mt me S.length (itemsD kvs) (wipeR ρ (own.map (·.2))) ((S.set n (.froK kvs)) ++ [.lst []]) with
            | none => simp only [e3] at hp; exact hp.elim
            | some S1 =>
              simp only [e3] at hp
              cases e4 : S1[n]? with
              | none => simp only [e4] at hp; exact hp.elim
              | some ob2 =>
                cases ob2 with
                | froK kvs' =>
                  simp only [e4] at hp
                  intro b π' H' ex st r
                  have hfr : H' a = some (.frz od (.dK vs)) := ex.keep _ _ upd_same trivial
                  have hn' := ex.get hn
                  refine ⟨hfr, hp b π' _ ⟨ex.pre, fun c u hc hu => ?_⟩ (st.thaw hn' e4 hfr (hth _ _ _ _ _ st.tab hfr)) (Rel.extW (extW_thaw hfr) r)⟩
                  have ca : c ≠ a := fun z => by
                    rw [z, h1] at hc
                    cases hc
                    exact hu
                  rw [upd_ne ca]
                  exact ex.keep c u (by rw [upd_ne ca]; exact hc) hu
                | lst _ => simp only [e4] at hp; exact hp.elim
                | fro _ => simp only [e4] at hp; exact hp.elim
                | dK _ => simp only [e4] at hp; exact hp.elim
          | lst _ => simp only [e2] at hp; exact hp.elim
          | fro _ => simp only [e2] at hp; exact hp.elim
          | froK _ => simp only [e2] at hp; exact hp.elim
      | _ => exact hp.elim
/-! ### a, b, c = x, y, z -/
theorem Rels.three {π : List Addr} {H : Hp} {d e f : D} {vs : List V} (h : Rels g π H [d, e, f] vs) : ∃ v w u, vs = [v, w, u] ∧ Rel g π H d v ∧ Rel g π H e w ∧ Rel g π H f u := by
  unfold Rels at h
  obtain ⟨v, r, rfl, h1, h2⟩ := h
  obtain ⟨w, u, rfl, h3, h4⟩ := h2.two
  exact ⟨v, w, u, rfl, h1, h3, h4⟩
def sPar3 (i j l : Nat) (ma : M (List D)) : MS := bindS ma fun ds ρ S => match ds with
  | [d, e, f] => .nx (((ρ.set i (some d)).set j (some e)).set l (some f)) S
  | _ => .bad
theorem s_par3 {i j l : Nat} {x y z : Str} {a b c : Expr} {ma : M (List D)} {px py pz pt pos : Pos} {kt k2 pt2} (hc : X.calm = true) (hN : X.N.Nodup) (hi : X.N[i]? = some x) (hj : X.N[j]? = some y) (hl : X.N[l]? = some z) (hij : i ≠ j) (hil : i ≠ l) (hjl : j ≠ l)
    (hx : X.env.scope.names.lookup x = some .local) (hy : X.env.scope.names.lookup y = some .local) (hz : X.env.scope.names.lookup z = some .local) (ha : SimA X g W [a, b, c] ma)
    (hw : swappedStores [.Tuple [.Name x px, .Name y py, .Name z pz] kt pt] (.Tuple [a, b, c] k2 pt2) X.env = pure (some [x, y, z]))
    (hs : swapsWithSole [.Tuple [.Name x px, .Name y py, .Name z pz] kt pt] (.Tuple [a, b, c] k2 pt2) pos.line X.env = pure false := by rfl) :
    SimS X g W (.Assign [.Tuple [.Name x px, .Name y py, .Name z pz] kt pt] (.Tuple [a, b, c] k2 pt2) pos) (sPar3 i j l ma) :=
  PS.imp (ps_par3 hc hN hi hj hl hij hil hjl hx hy hz ha hw hs) fun Dn σ H ⟨π, ρ, S, hr, hs, hp⟩ => tS_bind (R := RVs) hr hs hp fun xs vs π1 S1 H1 e1 hr1 hs1 rx hp1 => by
    split at hp1
    · obtain ⟨v, w, u, rfl, r1, r2, r3⟩ := rx.three
      exact ⟨v, w, u, rfl, hp1.nxAt (((hr1.set r1 i).set r2 j).set r3 l) hs1⟩
    · exact hp1.elim
/-! ### f(k = e, ..), keywords alone -/
abbrev SimK (X : Cx) (g : G) (W : WX) (kws : List Keyword) (m : M (List D)) : Prop := PK X kws (tG g RVs W m)
theorem PK.imp {e : List Keyword} {t t' : TA} (h : PK X e t) (i : ∀ σ H Q, t' σ H Q → t σ H Q) : PK X e t' := ⟨fun p pins s σ H Q I q => h.run p pins s σ H Q I (i σ H Q q)⟩
theorem sk_nil : SimK X g W [] mNil := PK.imp pk_nil fun σ H Q ⟨π, ρ, S, hr, hs, hp⟩ => Post.pure (R := RVs) hp hs Rels.nil
theorem sk_cons {nm : Option Str} {e : Expr} {kpos : Pos} {kws : List Keyword} {m : M D} {r : M (List D)} (he : SimE X g W e m) (hr : SimK X g W kws r) : SimK X g W (⟨nm, e, kpos⟩ :: kws) (mCons m r) :=
  PK.imp (pk_cons he hr) fun σ H Q ⟨π, ρ, S, hr, hs, hp⟩ => tG_bind (R := RV) hr hs hp fun x v π1 S1 H1 e1 hr1 hs1 rx hp1 =>
    tG_bind (R := RVs) hr1 hs1 hp1 fun xs vs π2 S2 H2 e2 hr2 hs2 rxs hp2 => Post.pure (R := RVs) hp2 hs2 (Rels.cons (rx.ext e2) rxs)
/-- the keywords' values in the parameters' order -/
def mCallK (n : Nat) (f : Fn) (pm : List D → List D) (ma : M (List D)) : M D := bindM ma fun xs _ S => if xs.length = n then f (pm xs) S else .bad
structure DefOkK (P : Program) (w : World) (mg : Str → Option Value) (base : Heap) (g : G) (k : Nat) (x : Str) (n : Nat) (f : Fn) (ks : List Str) (pm : {α : Type} → List α → List α) : Prop where
  ex : ∃ fa fd ps, mg x = some (.ref fa) ∧ FnOk P w g.K mg base (L2N.CX P w) k fa fd ps (spOf g n f) ∧ PySem.W.keepIn g.K (.ref fa) = true ∧ ∀ (s : Shared) (ws : List Value), ws.length = ks.length → BindsTo s fd ⟨[], ks.zip ws⟩ (ps.zip (pm ws))
  rel : ∀ {g : G} {π : List Addr} {H : Hp} {ds : List D} {vs : List V}, ds.length = ks.length → Rels g π H ds vs → Rels g π H (pm ds) (pm vs)
  val : ∀ {vs : List V} {us : List Value}, vs.length = ks.length → Vals vs us → Vals (pm vs) (pm us)
  len : ks.length = n
  len2 : ∀ {α : Type} {l : List α}, l.length = n → (pm l).length = n
theorem s_callK0 {k n : Nat} {f : Fn} {ks : List Str} {pm : {α : Type} → List α → List α} {x : Str} {kws : List Keyword} {ma : M (List D)} {p pos : Pos} (Dx : DefOkK X.prog X.w X.mg X.base g k x n f ks pm) (hK : X.K = g.K) (hr : Room k X.A) (tk : L2N.Takes X W) (hg : Gl X x) (ha : SimK X g W kws ma)
    (hall : (backToKw pos (keywordEach kws X.env)).all (·.1.isSome) = true := by rfl) (hks : (backToKw pos (keywordEach kws X.env)).filterMap (·.1) = ks := by rfl) (hdb : (x == ("__debug__" : Str)) = false := by decide)
    (hpl : ((backTo pos (starEach [] X.env)).any (·.1) || (backToKw pos (keywordEach kws X.env)).any (·.1.isNone)) = false := by rfl) : SimE X g W (.Call (.Name x p) [] kws pos) (mCallK n f pm ma) := by
  obtain ⟨fa, fd, ps, h1, h2, h3, h4⟩ := Dx.ex
  rw [← hK] at h2 h3
  refine ⟨fun pins s σ H Q I h => ?_⟩
  obtain ⟨π, ρ, S, hrr, hs, hp⟩ := h
  have h' := tG_bind (R := RVs) (REST := fun vs H1 => vs.length = n ∧ ∃ π1 S1 ds, St' g π1 H1 S1 ∧ Rels g π1 H1 ds vs ∧ ds.length = n ∧ Post g RV W σ π1 H1 Q (f (pm ds) S1)) hrr hs hp fun xs vs π1 S1 H1 e1 hr1 hs1 rx hp1 => by
    by_cases hl : xs.length = n
    · simp only [hl, if_true] at hp1
      exact ⟨by rw [← rx.length]; exact hl, π1, S1, xs, hs1, rx, hl, hp1⟩
    · simp only [hl, if_false] at hp1
      exact hp1.elim
  refine wpAny_Call_Name_kw (ld_glob I hg h1 ?_ hdb)
  refine PySem.W.callWith_KW0 (h₀ := X.base) I.ok.mod.kin h3 hall (thn (ha.run pos pins s σ H _ I h') fun us s1 ⟨vs, H1, I1, r, lv, π1, S1, ds, hs1, rx, hl, hp1⟩ => ⟨I1.kIn, ?_⟩) hpl
  rw [hks]
  have lk : vs.length = ks.length := by rw [lv, Dx.len]
  have lu : us.length = ks.length := by rw [← Paired.length r]; exact lk
  have hsp : spOf g n f (pm vs) H1 Q (WE W σ) := by
    refine ⟨Dx.len2 lv, π1, S1, pm ds, hs1, Dx.rel (by rw [hl, Dx.len]) rx, ?_⟩
    cases e : f (pm ds) S1 with
    | ok a S2 => rw [e] at hp1; exact hp1
    | ex c w S2 => rw [e] at hp1; exact hp1
    | bad => rw [e] at hp1; exact hp1
  refine wpAny_call (codeAny_mono (h2.run X.A X.stack s1 H1 ⟨[], ks.zip us⟩ (pm us) (pm vs) Q (WE W σ) hr I1.env0 (h4 s1 us lu) (Dx.val lk r) hsp) fun r s' hq => ?_)
  cases r with
  | error er => exact L2N.passAt tk σ pins H1 s1 er s' I1 hq
  | ok fl =>
    cases fl with
    | ret u => exact I1.after hq
    | next => exact False.elim hq
    | brk => exact False.elim hq
    | cont => exact False.elim hq
end
section
variable {X : Cx} {g : G} {W : WX}
/-! ### the comprehensions once more, the slots of the own names told apart -/
theorem s_lcX (gk : GOk g) {elt tg iter : Expr} {ifs : List Expr} {scope : Scope} {ix : List Nat} {pos : Pos} {p : Pat} {mi : M IterD} {mt : M Bool} {me : M D} (own : List (Str × Nat)) (hix : own.map (·.2) = ix) (hc : X.calm = true) (hN : X.N.Nodup) (hi : SimI X g W tg iter mi) (ok : BlkOk X.N X.env.scope scope own)
    (hpn : ∀ i ∈ p.names, i ∈ ix)
    (hg : ∀ (s : Shared) (H : Hp) (C : Addr) (cl : List (Str × Addr)) (fp : List Addr), SimP (X.blk s H scope (compEnvC scope cl C X.env) fp) g tg p)
    (ht : ∀ (s : Shared) (H : Hp) (C : Addr) (cl : List (Str × Addr)) (fp : List Addr), PTs (X.blk s H scope (compEnvC scope cl C X.env) fp) ifs (tG g RB W0 mt))
    (he : ∀ (s : Shared) (H : Hp) (C : Addr) (cl : List (Str × Addr)) (fp : List Addr), SimE (X.blk s H scope (compEnvC scope cl C X.env) fp) g W0 elt me) (hs : ∀ x, foldedSetIterable iter X.env x = pure x := by intro _; rfl) :
    SimE X g W (.ListComp elt [⟨tg, iter, ifs, 0⟩] scope pos) (mLc p ix mi mt me) := by
  subst hix
  exact s_lc gk hc hN hi ok hpn hg ht he hs
theorem s_setLcX (gk : GOk g) {i : Nat} {y : Str} {py : Pos} {elt tg iter : Expr} {ifs : List Expr} {scope : Scope} {ix : List Nat} {pos spos : Pos} {p : Pat} {mi : M IterD} {mt : M Bool} {me : M D} (own : List (Str × Nat)) (hix : own.map (·.2) = ix) (hc : X.calm = true) (hN : X.N.Nodup) (hy : X.N[i]? = some y) (hyl : X.env.scope.names.lookup y = some .local)
    (hsw : swapsWith (.ListComp elt [⟨tg, iter, ifs, 0⟩] scope pos) (some (.Name y py)) spos.line X.env = pure true) (hi : SimI X g W tg iter mi) (ok : BlkOk X.N X.env.scope scope own)
    (hpn : ∀ i ∈ p.names, i ∈ ix)
    (hg : ∀ (s : Shared) (H : Hp) (C : Addr) (cl : List (Str × Addr)) (fp : List Addr), SimP (X.blk s H scope (compEnvC scope cl C X.env) fp) g tg p)
    (ht : ∀ (s : Shared) (H : Hp) (C : Addr) (cl : List (Str × Addr)) (fp : List Addr), PTs (X.blk s H scope (compEnvC scope cl C X.env) fp) ifs (tG g RB W0 mt))
    (he : ∀ (s : Shared) (H : Hp) (C : Addr) (cl : List (Str × Addr)) (fp : List Addr), SimE (X.blk s H scope (compEnvC scope cl C X.env) fp) g W0 elt me) (hs : ∀ x, foldedSetIterable iter X.env x = pure x := by intro _; rfl) :
    SimS X g W (.Assign [.Name y py] (.ListComp elt [⟨tg, iter, ifs, 0⟩] scope pos) spos) (sAsg (.name i) (mLc p ix mi mt me)) := by
  subst hix
  exact s_setLc gk hc hN hy hyl hsw hi ok hpn hg ht he hs
theorem s_lcItemsX (gk : GOk g) (hth : ∀ H p ob vs u, g.T H → H p = some (.frz ob (.dK vs)) → g.T (upd H p u)) {i : Nat} {x : Str} {q apos cpos : Pos} {elt : Expr} {elts : List Expr} {kk : Nat} {tpos : Pos} {ifs : List Expr} {scope : Scope} {ix : List Nat} {pos : Pos} {p : Pat} {mt : M Bool} {me : M D} (own : List (Str × Nat)) (hix : own.map (·.2) = ix) (hc : X.calm = true) (hN : X.N.Nodup)
    (hi : X.N[i]? = some x) (hv : Vis X.env.scope x) (ok : BlkOk X.N X.env.scope scope own) (hpn : ∀ i ∈ p.names, i ∈ ix)
    (hg : ∀ (s : Shared) (H : Hp) (C : Addr) (cl : List (Str × Addr)) (fp : List Addr), SimP (X.blk s H scope (compEnvC scope cl C X.env) fp) g (.Tuple elts kk tpos) p)
    (ht : ∀ (s : Shared) (H : Hp) (C : Addr) (cl : List (Str × Addr)) (fp : List Addr), PTs (X.blk s H scope (compEnvC scope cl C X.env) fp) ifs (tG g RB W0 mt))
    (he : ∀ (s : Shared) (H : Hp) (C : Addr) (cl : List (Str × Addr)) (fp : List Addr), SimE (X.blk s H scope (compEnvC scope cl C X.env) fp) g W0 elt me)
    (hd : (x == ("__debug__" : Str)) = false := by decide) (hcd : (x == ("__classdict__" : Str)) = false := by decide)
    (hs : ∀ x', foldedSetIterable (.Call (.Attribute (.Name x q) "items" apos) [] [] cpos) X.env x' = pure x' := by intro _; rfl)
    (hbase : attributeBase (.Name x q) "items" X.env (eval (.Name x q) X.env) = eval (.Name x q) X.env := by rfl) (hline : (apos.endLine == cpos.line) = true := by rfl) :
    SimE X g W (.ListComp elt [⟨.Tuple elts kk tpos, .Call (.Attribute (.Name x q) "items" apos) [] [] cpos, ifs, 0⟩] scope pos) (mLcD i p ix mt me) := by
  subst hix
  exact s_lcItems gk hth hc hN hi hv ok hpn hg ht he hd hcd hs hbase hline
theorem s_lcHotX (gk : GOk g) (hK : X.K = g.K) {elt tg iter : Expr} {ifs : List Expr} {scope : Scope} {ix : List Nat} {pos : Pos} {p : Pat} {m : M D} {mt : M Bool} {me : M D} (own : List (Str × Nat)) (hix : own.map (·.2) = ix) (hc : L2H.HotC X) (hN : X.N.Nodup) (hi : SimE X g W iter m) (ok : BlkOk X.N X.env.scope scope own)
    (hpn : ∀ i ∈ p.names, i ∈ ix)
    (hg : ∀ (s : Shared) (H : Hp) (C : Addr) (cl : List (Str × Addr)) (fp : List Addr), SimP (X.blk s H scope (compEnvC scope cl C X.env) fp) g tg p)
    (ht : ∀ (s : Shared) (H : Hp) (C : Addr) (cl : List (Str × Addr)) (fp : List Addr), PTs (X.blk s H scope (compEnvC scope cl C X.env) fp) ifs (tG g RB W0 mt))
    (he : ∀ (s : Shared) (H : Hp) (C : Addr) (cl : List (Str × Addr)) (fp : List Addr), SimE (X.blk s H scope (compEnvC scope cl C X.env) fp) g W0 elt me) (hs : ∀ x, foldedSetIterable iter X.env x = pure x := by intro _; rfl) :
    SimE X g W (.ListComp elt [⟨tg, iter, ifs, 0⟩] scope pos) (mLc p ix (mSeqL m) mt me) := by
  subst hix
  exact s_lcHot gk hK hc hN hi ok hpn hg ht he hs
end
/-! ### rows of names and truths, those that are true -/
def rowD (r : Str × Bool) : D := .tup [.str r.1, .bl r.2]
def rowT : M Bool := mTest (mOp opIx (mVar 2) (pureM (.int 1)))
def rowE : M D := mOp opIx (mVar 2) (pureM (.int 0))
theorem rowT_at {x y z : Option D} {r : Str × Bool} {S : Sto} : rowT [x, y, some (rowD r)] S = .ok r.2 S := by
  simp [rowT, mTest, mOp, bindM, mVar, pureM, opIx, rowD, seqD, L2.atI, L2.ixN]
theorem rowE_at {x y z : Option D} {r : Str × Bool} {S : Sto} : rowE [x, y, some (rowD r)] S = .ok (.str r.1) S := by
  simp [rowE, mOp, bindM, mVar, pureM, opIx, rowD, seqD, L2.atI, L2.ixN]
theorem lc_rows {k k2 : Nat} {all : List D} {x y z : Option D} (hk : k ≠ k2) : ∀ (l : List (Str × Bool)) (acc : List D) (S : Sto), S[k]? = some (.lst all) → S[k2]? = some (.lst acc) → acc.length + l.length ≤ sizeLine →
    lcL ⟨all, [(k, all)]⟩ (.name 2) rowT rowE k2 (l.map rowD) [x, y, z] S = some (S.set k2 (.lst (acc ++ (l.filter (·.2)).map fun r => .str r.1)))
  | [], acc, S, h1, h2, h3 => by
    have ok : IterD.okB ⟨all, [(k, all)]⟩ S := fun p hp => by
      simp at hp
      subst hp
      exact .inl h1
    have e : S.set k2 (.lst acc) = S := by
      refine List.ext_getElem? fun i => ?_
      by_cases hi : i = k2
      · subst hi
        rw [List.getElem?_set_self (List.getElem?_eq_some_iff.mp h2).1, h2]
      · rw [List.getElem?_set_ne (Ne.symm hi)]
    simp only [List.map_nil, lcL, if_pos ok, List.filter_nil, List.append_nil, e]
  | r :: l, acc, S, h1, h2, h3 => by
    have ok : IterD.okB ⟨all, [(k, all)]⟩ S := fun p hp => by
      simp at hp
      subst hp
      exact .inl h1
    have l2 := (List.getElem?_eq_some_iff.mp h2).1
    simp only [List.length_cons] at h3
    simp only [List.map_cons, lcL, if_pos ok, bindP, List.set_cons_succ, List.set_cons_zero, rowT_at (z := z)]
    cases hb : r.2 with
    | false =>
      simp only
      rw [lc_rows hk l acc S h1 h2 (by omega), List.filter_cons_of_neg (by simp [hb])]
    | true =>
      simp only [rowE_at (z := z), h2]
      rw [if_pos (by omega)]
      rw [lc_rows (x := x) (y := y) (z := z) (all := all) hk l (acc ++ [D.str r.1]) (S.set k2 (.lst (acc ++ [D.str r.1]))) (by rw [List.getElem?_set_ne (Ne.symm hk)]; exact h1) (by rw [List.getElem?_set_self l2]) (by simp; omega), List.set_set, List.filter_cons_of_pos (by simp [hb])]
      simp
section
variable {P : Program} {w : World} {mg : Str → Option Value} {base : Heap} {g : G}
/-- a def by its body's reading, called by keywords alone -/
theorem def_rdK {k n : Nat} {x qual : Str} {params : Arguments} {body : List Stmt} {scope : Scope} {fa : Addr} {fd : FuncData} {N ps : List Str} {m : MS} {ks : List Str} {pm : {α : Type} → List α → List α} (F : FunD g.K x qual params body scope [] [] fa fd) (hm : mg x = some (.ref fa)) (Sc : FnScope N ps scope) (hps : ps.length = n)
    (hbn : ∀ (kV doc pmv : Value) (an : Option Addr) (cdv ct : Value) (ws : List Value), ws.length = ks.length → bindArgs (PySem.W.fnOf x qual params body scope .none kV doc pmv an cdv ct) ⟨[], ks.zip ws⟩ = pure (ps.zip (pm ws)))
    (rel : ∀ {g : G} {π : List Addr} {H : Hp} {ds : List D} {vs : List V}, ds.length = ks.length → Rels g π H ds vs → Rels g π H (pm ds) (pm vs))
    (val : ∀ {vs : List V} {us : List Value}, vs.length = ks.length → Vals vs us → Vals (pm vs) (pm us)) (len : ks.length = n) (len2 : ∀ {α : Type} {l : List α}, l.length = n → (pm l).length = n)
    (hb : ∀ (cdv : Value) (A : Around) (outer : List Env) (s : Shared) (H : Hp) (E : XK), BodyX (cxOf (L2N.CX P w) P w g.K mg base N qual scope fa cdv A outer s H E) k (fun c d _ H' => E c d H') →
      SimB (cxOf (L2N.CX P w) P w g.K mg base N qual scope fa cdv A outer s H E) g (fun c d _ H' => E c d H') body m) : DefOkK P w mg base g (k + 1) x n (runB N.length m) ks pm := by
  have F0 := F
  refine ⟨⟨fa, fd, ps, hm, ?_, F.kp, fun s ws hl => ?_⟩, rel, val, len, len2⟩
  · rw [← hps]
    refine F.ok Sc (fun vs H Q E h => h.1) fun cdv A outer s H vs Q E hr h => ?_
    obtain ⟨hl, π, S, ds, hs, hd, hp⟩ := h
    exact ⟨_, hb cdv A outer s H E ⟨hr, L2N.takes_of rfl rfl rfl rfl, passes_of rfl⟩, post_run hs hd hp⟩
  · obtain ⟨oc, od, dV, kV, doc, pmv, an, cdv, ct, osl, rfl, lk, hcd, hD, hK⟩ := F0.ex
    rcases hD with ⟨_, rfl⟩ | ⟨e, _⟩
    · exact .of_eq (hbn kV doc pmv an cdv ct ws hl)
    · exact absurd rfl e
/-- a def that makes lambdas: its code object is known -/
theorem fn_rd {k : Nat} {x qual : Str} {params : Arguments} {body : List Stmt} {scope : Scope} {fa : Addr} {fd : FuncData} {N ps : List Str} {m : MS} (F : FunD g.K x qual params body scope [] [] fa fd) (Sc : FnScope N ps scope)
    (hb : ∀ (cdv : Value) (A : Around) (outer : List Env) (s : Shared) (H : Hp) (E : XK), BodyX (cxOf (L2N.CX P w) P w g.K mg base N qual scope fa cdv A outer s H E) k (fun c d _ H' => E c d H') →
      SimB (cxOf (L2N.CX P w) P w g.K mg base N qual scope fa cdv A outer s H E) g (fun c d _ H' => E c d H') body m) : FnOk P w g.K mg base (L2N.CX P w) (k + 1) fa fd ps (spOf g ps.length (runB N.length m)) := by
  refine F.ok Sc (fun vs H Q E h => h.1) fun cdv A outer s H vs Q E hr h => ?_
  obtain ⟨hl, π, S, ds, hs, hd, hp⟩ := h
  exact ⟨_, hb cdv A outer s H E ⟨hr, L2N.takes_of rfl rfl rfl rfl, passes_of rfl⟩, post_run hs hd hp⟩
/-! ### the end -/
theorem tabs_mut {T : List (Addr × Str)} {H : Hp} {p : Addr} {o u : HO} (t : LamX.Tabs T H) (hp : H p = some u) (h1 : ∀ ps, u ≠ .tbl ps) (h2 : ∀ c q, u ≠ LamX.CodeO c q) : LamX.Tabs T (upd H p o) := fun x hx => by
  obtain ⟨ps, e1, e2, e3⟩ := t x hx
  refine ⟨ps, ?_, e2, fun pos cv hc => ?_⟩
  · rw [upd_ne (fun z => ?_)]
    · exact e1
    · rw [z, hp] at e1
      exact h1 ps (Option.some.inj e1)
  · obtain ⟨c, e4, e5⟩ := e3 pos cv hc
    refine ⟨c, e4, ?_⟩
    rw [upd_ne (fun z => ?_)]
    · exact e5
    · rw [z, hp] at e5
      exact h2 _ _ (Option.some.inj e5)
theorem tabs_gok {K : PySem.W.Frag} {C : Nat → Addr} {T : List (Addr × Str)} : GOk ⟨K, C, LamX.Tabs T, []⟩ :=
  ⟨fun H p o t hp => LamX.Tabs.ext t fun b u hb => by rw [upd_ne (ne_of_none hb hp)]; exact hb, fun H p o u t hp hu ht => tabs_mut t hp ht fun c q z => hu (by rw [z]; trivial)⟩
theorem tabs_thaw {T : List (Addr × Str)} : ∀ (H : Hp) (p : Addr) (ob : Obj) (vs : List (Key × V)) (u : HO), LamX.Tabs T H → H p = some (.frz ob (.dK vs)) → LamX.Tabs T (upd H p u) := fun H p ob vs u t hp =>
  tabs_mut t hp (fun ps z => by cases z) fun c q z => by cases z
theorem code_of {K : PySem.W.Frag} {x qual : Str} {params : Arguments} {body : List Stmt} {scope : Scope} {fd : FuncData} {dvs : List V} {kws : List (Str × V)} (F : FunD K x qual params body scope dvs kws (He.ga K x) fd) :
    ∀ oc od fd' osl, K.lookup (He.ga K x) = some ⟨oc, od, .func fd', osl⟩ → fd'.code = .ref (He.codeOf K (x, none)) := fun oc od fd' osl lk => by
  obtain ⟨oc2, od2, dV, kV, doc, pm, an, cdv, ct, osl2, rfl, lk2, hcd, _, _⟩ := F.ex
  rw [lk] at lk2
  cases lk2
  obtain ⟨c, e⟩ := He.codeIn_ref hcd
  have e2 : He.codeOf K (x, none) = c := He.codeOf_eq lk e
  rw [e2]
  exact e
theorem noL_sql {K : PySem.W.Frag} (h : K.all (fun q => match q.2.cls with | .type t => !(t == ("list" : Str)) | _ => true) = true) {H : Hp} {a : Addr} {xs : List V} (hS : SqL K H a xs) : Rd H a (.lst xs) := by
  rcases hS with hS | ⟨o, its, n, lk, hc, _⟩
  · exact hS
  · have h1 := List.all_eq_true.mp h _ (He.lookup_mem lk)
    rw [hc] at h1
    exact absurd h1 (by decide)
theorem rels_ints {g : G} {π : List Addr} {H : Hp} : ∀ ns : List Int, Rels g π H (ns.map D.int) (ns.map V.int)
  | [] => .nil
  | _ :: l => .cons (by unfold Rel; rfl) (rels_ints l)
/-- the script as the mirror sees it -/
theorem script_in {K : PySem.W.Frag} {C : Nat → Addr} {T : Hp → Prop} {f : Fn} {a : Addr} {ns : List Int} {H : Hp} (ht : T H) (hS : SqL K H a (ns.map V.int)) (hR : Rd H a (.lst (ns.map V.int)))
    (hf : ∀ S, (S[0]? = some (.lst (ns.map D.int)) ∨ S[0]? = some (.fro (ns.map D.int))) → ∃ S', f [.loc 0] S = .ok (.bl true) S') : spOf ⟨K, C, T, []⟩ 1 f [.ref a] H (fun v _ => v = .bl true) fun _ _ _ => False := by
  have rl : ∀ π : List Addr, Rels ⟨K, C, T, []⟩ π H (ns.map D.int) (ns.map V.int) := fun π => rels_ints ns
  refine ⟨rfl, [a], ?_⟩
  rcases hR with h1 | ⟨o, h1⟩
  · obtain ⟨S', e⟩ := hf [.lst (ns.map D.int)] (.inl rfl)
    refine ⟨[.lst (ns.map D.int)], [.loc 0], ⟨rfl, (by simp), fun n ob b e1 e2 => ?_, ht, ⟨[a], rfl⟩⟩, .cons (by unfold Rel; exact ⟨a, rfl, rfl⟩) .nil, ?_⟩
    · cases n with
      | zero => cases e1; cases e2; exact ⟨_, h1, rl _⟩
      | succ n => simp at e1
    · rw [e]
      intro v π' H' _ _ r
      exact r
  · obtain ⟨S', e⟩ := hf [.fro (ns.map D.int)] (.inr rfl)
    refine ⟨[.fro (ns.map D.int)], [.loc 0], ⟨rfl, (by simp), fun n ob b e1 e2 => ?_, ht, ⟨[a], rfl⟩⟩, .cons (by unfold Rel; exact ⟨a, rfl, rfl⟩) .nil, ?_⟩
    · cases n with
      | zero => cases e1; cases e2; exact ⟨_, hS, ⟨o, h1⟩, rl _⟩
      | succ n => simp at e1
    · rw [e]
      intro v π' H' _ _ r
      exact r
theorem def_rdL {k : Nat} {c : Addr} {x qual : Str} {params : Arguments} {body : List Stmt} {scope : Scope} {fa : Addr} {fd : FuncData} {N ps : List Str} {m : MS} (F : FunD g.K x qual params body scope [] [] fa fd) (hcode : ∀ oc od fd' osl, g.K.lookup fa = some ⟨oc, od, .func fd', osl⟩ → fd'.code = .ref c) (hm : mg x = some (.ref fa)) (Sc : FnScope N ps scope)
    (hbn : ∀ (kV doc pm : Value) (an : Option Addr) (cdv ct : Value) (us : List Value), us.length = ps.length → bindArgs (PySem.W.fnOf x qual params body scope .none kV doc pm an cdv ct) ⟨us, []⟩ = pure (ps.zip us))
    (hb : ∀ (A : Around) (outer : List Env) (s : Shared) (H : Hp) (E : XK), BodyX (cxOf (L2N.CX P w) P w g.K mg base N qual scope fa (.ref c) A outer s H E) k (fun c d _ H' => E c d H') →
      SimB (cxOf (L2N.CX P w) P w g.K mg base N qual scope fa (.ref c) A outer s H E) g (fun c d _ H' => E c d H') body m) : DefOk P w mg base g (k + 1) x ps.length (runB N.length m) := by
  have F0 := F
  obtain ⟨oc, od, dV, kV, doc, pm, an, cdv, ct, osl, rfl, lk, hcd, _, _⟩ := F.ex
  have ec : cdv = .ref c := hcode _ _ _ _ lk
  subst ec
  refine ⟨fa, _, ps, hm, fn_of lk hcd Sc (fun vs H Q E h => h.1) fun A outer s H vs Q E hr h => ?_, F0.kp, F0.bindsN hbn⟩
  obtain ⟨hl, π, S, ds, hs, hd, hp⟩ := h
  exact ⟨_, hb A outer s H E ⟨hr, L2N.takes_of rfl rfl rfl rfl, passes_of rfl⟩, post_run hs hd hp⟩
end
def rho0 (n : Nat) (ds : List D) : Rho := ds.map some ++ List.replicate (n - ds.length) none
theorem runB_ret {n : Nat} {m : M D} {ds : List D} {S : Sto} : runB n (sRet m) ds S = m (rho0 n ds) S := by
  unfold runB sRet bindS rho0
  cases m (ds.map some ++ List.replicate (n - ds.length) none) S <;> rfl
end PI

end
section
set_option Elab.async false
set_option linter.all false
set_option maxRecDepth 100000
set_option maxHeartbeats 2000000
/-! the readings of the defs, each kept by its text -/
namespace LawT
open PySem PySem.Spec PyProof.Rows L2 PI LamX
def raL : List Nat := [2, 4]
structure LawF (w : World) (mg : Str → Option Value) (base : Heap) (K : PySem.W.Frag) (C : Nat → Addr) : Prop where
  f_bool : mg "bool" = none
  f_enumerate : mg "enumerate" = none
  f_int : mg "int" = none
  f_isinstance : mg "isinstance" = none
  f_len : mg "len" = none
  f_list : mg "list" = none
  f_max : mg "max" = none
  f_min : mg "min" = none
  f_range : mg "range" = none
  f_sorted : mg "sorted" = none
  f_str : mg "str" = none
  f_sum : mg "sum" = none
  f_super : mg "super" = none
  f_tuple : mg "tuple" = none
  c_LEAST_RING : ∃ t, mg "LEAST_RING" = some (.int 3 t)
  c_MOST_RING : ∃ t, mg "MOST_RING" = some (.int 200 t)
  d_is_whole : ∃ fa fd, FunD K "is_whole" "is_whole" (defArgs s_is_whole) (defBody s_is_whole) (defScope s_is_whole) [] [] fa fd ∧ mg "is_whole" = some (.ref fa)
  d_is_from : ∃ fa fd, FunD K "is_from" "is_from" (defArgs s_is_from) (defBody s_is_from) (defScope s_is_from) [] [] fa fd ∧ mg "is_from" = some (.ref fa)
  d_is_count : ∃ fa fd, FunD K "is_count" "is_count" (defArgs s_is_count) (defBody s_is_count) (defScope s_is_count) [] [] fa fd ∧ mg "is_count" = some (.ref fa)
  d_wrong_votes : ∃ fa fd, FunD K "wrong_votes" "wrong_votes" (defArgs s_wrong_votes) (defBody s_wrong_votes) (defScope s_wrong_votes) [] [] fa fd ∧ mg "wrong_votes" = some (.ref fa)
  d_check_votes : ∃ fa fd, FunD K "check_votes" "check_votes" (defArgs s_check_votes) (defBody s_check_votes) (defScope s_check_votes) [] [] fa fd ∧ mg "check_votes" = some (.ref fa)
  d_check_need : ∃ fa fd, FunD K "check_need" "check_need" (defArgs s_check_need) (defBody s_check_need) (defScope s_check_need) [] [] fa fd ∧ mg "check_need" = some (.ref fa)
  d_check_ring : ∃ fa fd, FunD K "check_ring" "check_ring" (defArgs s_check_ring) (defBody s_check_ring) (defScope s_check_ring) [] [] fa fd ∧ mg "check_ring" = some (.ref fa)
  d_step : ∃ fa fd, FunD K "step" "step" (defArgs s_step) (defBody s_step) (defScope s_step) [] [] fa fd ∧ mg "step" = some (.ref fa)
  d_walk_of : ∃ fa fd, FunD K "walk_of" "walk_of" (defArgs s_walk_of) (defBody s_walk_of) (defScope s_walk_of) [] [] fa fd ∧ mg "walk_of" = some (.ref fa)
  d_steps : ∃ fa fd, FunD K "steps" "steps" (defArgs s_steps) (defBody s_steps) (defScope s_steps) [] [] fa fd ∧ mg "steps" = some (.ref fa)
  d_crew_round : ∃ fa fd, FunD K "crew_round" "crew_round" (defArgs s_crew_round) (defBody s_crew_round) (defScope s_crew_round) [] [] fa fd ∧ mg "crew_round" = some (.ref fa)
  d_ring_crew : ∃ fa fd, FunD K "ring_crew" "ring_crew" (defArgs s_ring_crew) (defBody s_ring_crew) (defScope s_ring_crew) [] [] fa fd ∧ mg "ring_crew" = some (.ref fa)
  d_law_is_whole : ∃ fa fd, FunD K "_law_is_whole" "_law_is_whole" (defArgs s_law_is_whole) (defBody s_law_is_whole) (defScope s_law_is_whole) [] [] fa fd ∧ mg "_law_is_whole" = some (.ref fa)
  d_law_same : ∃ fa fd, FunD K "_law_same" "_law_same" (defArgs s_law_same) (defBody s_law_same) (defScope s_law_same) [] [] fa fd ∧ mg "_law_same" = some (.ref fa)
  d_law_classes : ∃ fa fd, FunD K "_law_classes" "_law_classes" (defArgs s_law_classes) (defBody s_law_classes) (defScope s_law_classes) [] [] fa fd ∧ mg "_law_classes" = some (.ref fa)
  d_law_heard : ∃ fa fd, FunD K "_law_heard" "_law_heard" (defArgs s_law_heard) (defBody s_law_heard) (defScope s_law_heard) [] [] fa fd ∧ mg "_law_heard" = some (.ref fa)
  d_law_tells : ∃ fa fd, FunD K "_law_tells" "_law_tells" (defArgs s_law_tells) (defBody s_law_tells) (defScope s_law_tells) [] [] fa fd ∧ mg "_law_tells" = some (.ref fa)
  d_law_meets : ∃ fa fd, FunD K "_law_meets" "_law_meets" (defArgs s_law_meets) (defBody s_law_meets) (defScope s_law_meets) [] [] fa fd ∧ mg "_law_meets" = some (.ref fa)
  d_law_pool : ∃ fa fd, FunD K "_law_pool" "_law_pool" (defArgs s_law_pool) (defBody s_law_pool) (defScope s_law_pool) [] [] fa fd ∧ mg "_law_pool" = some (.ref fa)
  d_law_take : ∃ fa fd, FunD K "_law_take" "_law_take" (defArgs s_law_take) (defBody s_law_take) (defScope s_law_take) [] [] fa fd ∧ mg "_law_take" = some (.ref fa)
  d_law_one : ∃ fa fd, FunD K "_law_one" "_law_one" (defArgs s_law_one) (defBody s_law_one) (defScope s_law_one) [] [] fa fd ∧ mg "_law_one" = some (.ref fa)
  d_law_steps : ∃ fa fd, FunD K "_law_steps" "_law_steps" (defArgs s_law_steps) (defBody s_law_steps) (defScope s_law_steps) [] [] fa fd ∧ mg "_law_steps" = some (.ref fa)
  d_law_walk : ∃ fa fd, FunD K "_law_walk" "_law_walk" (defArgs s_law_walk) (defBody s_law_walk) (defScope s_law_walk) [] [] fa fd ∧ mg "_law_walk" = some (.ref fa)
  d_law_ring_crew_size : ∃ fa fd, FunD K "_law_ring_crew_size" "_law_ring_crew_size" (defArgs s_law_ring_crew_size) (defBody s_law_ring_crew_size) (defScope s_law_ring_crew_size) [] [] fa fd ∧ mg "_law_ring_crew_size" = some (.ref fa)
  d_law_drawn_round : ∃ fa fd, FunD K "_law_drawn_round" "_law_drawn_round" (defArgs s_law_drawn_round) (defBody s_law_drawn_round) (defScope s_law_drawn_round) [] [] fa fd ∧ mg "_law_drawn_round" = some (.ref fa)
  d_law_is_round_crew : ∃ fa fd, FunD K "_law_is_round_crew" "_law_is_round_crew" (defArgs s_law_is_round_crew) (defBody s_law_is_round_crew) (defScope s_law_is_round_crew) [] [] fa fd ∧ mg "_law_is_round_crew" = some (.ref fa)
  d_law_round_refusal : ∃ fa fd, FunD K "_law_round_refusal" "_law_round_refusal" (defArgs s_law_round_refusal) (defBody s_law_round_refusal) (defScope s_law_round_refusal) [] [] fa fd ∧ mg "_law_round_refusal" = some (.ref fa)
  d_law_asked : ∃ fa fd, FunD K "_law_asked" "_law_asked" (defArgs s_law_asked) (defBody s_law_asked) (defScope s_law_asked) [] [] fa fd ∧ mg "_law_asked" = some (.ref fa)
  d_law_odd_votes : ∃ fa fd, FunD K "_law_odd_votes" "_law_odd_votes" (defArgs s_law_odd_votes) (defBody s_law_odd_votes) (defScope s_law_odd_votes) [] [] fa fd ∧ mg "_law_odd_votes" = some (.ref fa)
  d_law : ∃ fa fd, FunD K "law" "law" (defArgs s_law) (defBody s_law) (defScope s_law) [] [] fa fd ∧ mg "law" = some (.ref fa)
  x_BadVotes : ∃ fI fd D, SupOf K (C 2) D ∧ PySem.W.findIn K (.ref (C 2)) "__init__" = some (some (.ref fI)) ∧ PySem.W.typeIn K (.ref fI) = some (.type "function") ∧ FnOk Pg w K mg base (L2N.CX Pg w) 1 fI fd iP (spI K D) ∧ Binds K fd iP [] ∧ mg "BadVotes" = some (.ref (C 2))
  x_BadNeed : ∃ fI fd D, SupOf K (C 4) D ∧ PySem.W.findIn K (.ref (C 4)) "__init__" = some (some (.ref fI)) ∧ PySem.W.typeIn K (.ref fI) = some (.type "function") ∧ FnOk Pg w K mg base (L2N.CX Pg w) 1 fI fd iP (spI K D) ∧ Binds K fd iP [] ∧ mg "BadNeed" = some (.ref (C 4))
  cls : ∀ k, k < 62 → mg (clN.getD k "") = some (.ref (C k))
  exc : ∀ c, c ∈ raL → ∃ fI, ExcF K (C c) (C 0) fI
  kit : ∀ c, c ∈ raL → ∀ k, 0 < k → k < 62 → PySem.W.kitOne K (.ref (C c)) (.ref (C k)) = some (decide (c = k))
/-- what the makers of lambdas ask -/
structure LTab (mg : Str → Option Value) (base : Heap) (g : G) (T : List (Addr × Str)) : Prop where
  tabs : ∀ H, g.T H → Tabs T H
  step : ∀ H H1, g.T H → ExtN H H1 → Tabs T H1 → g.T H1
  o_law_asked : ∃ c P, TabB base mg c P ∧ (P, ("_law_asked.<locals>.<lambda>" : Str)) ∈ T ∧ (∀ p ∈ T, p.1 = P → p.2 = ("_law_asked.<locals>.<lambda>" : Str)) ∧ ∀ fa, mg "_law_asked" = some (.ref fa) → ∀ oc od fd' osl, g.K.lookup fa = some ⟨oc, od, .func fd', osl⟩ → fd'.code = .ref c

/-! ### is_whole -/
abbrev N_is_whole : List Str := ["thing"]
abbrev A_is_whole : List Str := ["thing"]
theorem sc_is_whole : FnScope N_is_whole A_is_whole (defScope s_is_whole) := ⟨rfl, rfl, rfl, by decide +kernel, rfl, by decide +kernel, by decide +kernel⟩
noncomputable def m_is_whole : MS := sRet (mAndV (mIsTy "int" (mVar 0)) (mNotV (mIsTy "bool" (mVar 0))))
noncomputable def f_is_whole : Fn := runB 1 m_is_whole
theorem ok_is_whole {w : World} {mg : Str → Option Value} {base : Heap} {g : G} (Y : LawF w mg base g.K g.C) (gk : GOk g) : DefOk Pg w mg base g 1 "is_whole" 1 f_is_whole := by
  obtain ⟨fa, fd, FD, hm⟩ := Y.d_is_whole
  refine def_rd (N := N_is_whole) (ps := A_is_whole) (m := m_is_whole) FD hm sc_is_whole (fun _ _ _ _ _ _ us hl => match us, hl with | [_], _ => rfl) fun cdv A outer s H E bx => ?_
  exact b_one (s_ret (s_and (s_isTy rfl rfl Y.f_isinstance rfl Y.f_int (by decide +kernel) (s_var (i := 0) rfl (.inl rfl))) (s_one (s_not (s_isTy rfl rfl Y.f_isinstance rfl Y.f_bool (by decide +kernel) (s_var (i := 0) rfl (.inl rfl)))))))
/-! ### is_from -/
abbrev N_is_from : List Str := ["thing", "least"]
abbrev A_is_from : List Str := ["thing", "least"]
theorem sc_is_from : FnScope N_is_from A_is_from (defScope s_is_from) := ⟨rfl, rfl, rfl, by decide +kernel, rfl, by decide +kernel, by decide +kernel⟩
noncomputable def m_is_from : MS := sRet (mAndV (mCallF 1 f_is_whole (mCons (mVar 0) mNil)) (mOp opGe (mVar 0) (mVar 1)))
noncomputable def f_is_from : Fn := runB 2 m_is_from
theorem ok_is_from {w : World} {mg : Str → Option Value} {base : Heap} {g : G} (Y : LawF w mg base g.K g.C) (gk : GOk g) : DefOk Pg w mg base g 2 "is_from" 2 f_is_from := by
  obtain ⟨fa, fd, FD, hm⟩ := Y.d_is_from
  refine def_rd (N := N_is_from) (ps := A_is_from) (m := m_is_from) FD hm sc_is_from (fun _ _ _ _ _ _ us hl => match us, hl with | [_, _], _ => rfl) fun cdv A outer s H E bx => ?_
  exact b_one (s_ret (s_and (s_call (ok_is_whole Y gk) rfl (bx.hr.mono (by decide)) bx.tk rfl (sa_cons (s_var (i := 0) rfl (.inl rfl)) sa_nil)) (s_one (s_cmp op_ge sim_ge (s_var (i := 0) rfl (.inl rfl)) (s_var (i := 1) rfl (.inl rfl)) (by rfl)))))
/-! ### is_count -/
abbrev N_is_count : List Str := ["thing"]
abbrev A_is_count : List Str := ["thing"]
theorem sc_is_count : FnScope N_is_count A_is_count (defScope s_is_count) := ⟨rfl, rfl, rfl, by decide +kernel, rfl, by decide +kernel, by decide +kernel⟩
noncomputable def m_is_count : MS := sRet (mCallF 2 f_is_from (mCons (mVar 0) (mCons (pureM (.int 0)) mNil)))
noncomputable def f_is_count : Fn := runB 1 m_is_count
theorem ok_is_count {w : World} {mg : Str → Option Value} {base : Heap} {g : G} (Y : LawF w mg base g.K g.C) (gk : GOk g) : DefOk Pg w mg base g 3 "is_count" 1 f_is_count := by
  obtain ⟨fa, fd, FD, hm⟩ := Y.d_is_count
  refine def_rd (N := N_is_count) (ps := A_is_count) (m := m_is_count) FD hm sc_is_count (fun _ _ _ _ _ _ us hl => match us, hl with | [_], _ => rfl) fun cdv A outer s H E bx => ?_
  exact b_one (s_ret (s_call (ok_is_from Y gk) rfl (bx.hr.mono (by decide)) bx.tk rfl (sa_cons (s_var (i := 0) rfl (.inl rfl)) (sa_cons s_int sa_nil))))
/-! ### wrong_votes -/
abbrev N_wrong_votes : List Str := ["votes", "place", "one"]
abbrev A_wrong_votes : List Str := ["votes"]
theorem sc_wrong_votes : FnScope N_wrong_votes A_wrong_votes (defScope s_wrong_votes) := ⟨rfl, rfl, rfl, by decide +kernel, rfl, by decide +kernel, by decide +kernel⟩
noncomputable def m_wrong_votes : MS := sSeq (sFor (.tup [.name 1, .name 2]) (mEnum (mCons (mVar 0) mNil)) (sIf (mNotT (mTest (mCallF 1 f_is_count (mCons (mVar 2) mNil)))) (sRet (mVar 1)) sNil)) (sRet (pureM .non))
noncomputable def f_wrong_votes : Fn := runB 3 m_wrong_votes
theorem ok_wrong_votes {w : World} {mg : Str → Option Value} {base : Heap} {g : G} (Y : LawF w mg base g.K g.C) (gk : GOk g) : DefOk Pg w mg base g 4 "wrong_votes" 1 f_wrong_votes := by
  obtain ⟨fa, fd, FD, hm⟩ := Y.d_wrong_votes
  refine def_rd (N := N_wrong_votes) (ps := A_wrong_votes) (m := m_wrong_votes) FD hm sc_wrong_votes (fun _ _ _ _ _ _ us hl => match us, hl with | [_], _ => rfl) fun cdv A outer s H E bx => ?_
  exact b_cons (s_for bx.po rfl (i_enum gk rfl rfl Y.f_enumerate (sa_cons (s_var (i := 0) rfl (.inl rfl)) sa_nil)) (p_tup rfl rfl (ps_cons' (p_name (i := 1) sc_wrong_votes.nd rfl (.inl rfl) (.inl rfl)) (ps_cons' (p_name (i := 2) sc_wrong_votes.nd rfl (.inl rfl) (.inl rfl)) (ps_nil')))) (b_one (s_if (st_not (st_val (s_call (ok_is_count Y gk) rfl (bx.hr.mono (by decide)) bx.tk rfl (sa_cons (s_var (i := 2) rfl (.inl rfl)) sa_nil)))) (b_one (s_ret (s_var (i := 1) rfl (.inl rfl)))) b_nil)))
      (b_one (s_ret s_non))
/-! ### check_votes -/
abbrev N_check_votes : List Str := ["votes", "place"]
abbrev A_check_votes : List Str := ["votes"]
theorem sc_check_votes : FnScope N_check_votes A_check_votes (defScope s_check_votes) := ⟨rfl, rfl, rfl, by decide +kernel, rfl, by decide +kernel, by decide +kernel⟩
noncomputable def m_check_votes : MS := sSeq (sIf (mNotT (mTest (mIsTy "tuple" (mVar 0)))) (sRaise 2 (mNeg (pureM (.int 1)))) sNil) (sSeq (sAsg (.name 1) (mCallF 1 f_wrong_votes (mCons (mVar 0) mNil))) (sIf (mTest (mOp opIsNot (mVar 1) (pureM .non))) (sRaise 2 (mVar 1)) sNil))
noncomputable def f_check_votes : Fn := runB 2 m_check_votes
theorem ok_check_votes {w : World} {mg : Str → Option Value} {base : Heap} {g : G} (Y : LawF w mg base g.K g.C) (gk : GOk g) : DefOk Pg w mg base g 5 "check_votes" 1 f_check_votes := by
  obtain ⟨fa, fd, FD, hm⟩ := Y.d_check_votes
  refine def_rd (N := N_check_votes) (ps := A_check_votes) (m := m_check_votes) FD hm sc_check_votes (fun _ _ _ _ _ _ us hl => match us, hl with | [_], _ => rfl) fun cdv A outer s H E bx => ?_
  exact b_cons (s_if (st_not (st_val (s_isTy rfl rfl Y.f_isinstance rfl Y.f_tuple (by decide +kernel) (s_var (i := 0) rfl (.inl rfl))))) (b_one (s_raise gk ⟨Y.x_BadVotes⟩ rfl rfl (bx.hr.mono (by decide)) bx.tk rfl (s_neg s_int))) b_nil)
      (b_cons (s_set (i := 1) sc_check_votes.nd rfl (.inl rfl) (s_call (ok_wrong_votes Y gk) rfl (bx.hr.mono (by decide)) bx.tk rfl (sa_cons (s_var (i := 0) rfl (.inl rfl)) sa_nil)) (.inl rfl))
      (b_one (s_if (st_cmp op_isNotAll sim_isNot (s_var (i := 1) rfl (.inl rfl)) s_non (by rfl)) (b_one (s_raise gk ⟨Y.x_BadVotes⟩ rfl rfl (bx.hr.mono (by decide)) bx.tk rfl (s_var (i := 1) rfl (.inl rfl)))) b_nil)))
/-! ### check_need -/
abbrev N_check_need : List Str := ["need"]
abbrev A_check_need : List Str := ["need"]
theorem sc_check_need : FnScope N_check_need A_check_need (defScope s_check_need) := ⟨rfl, rfl, rfl, by decide +kernel, rfl, by decide +kernel, by decide +kernel⟩
noncomputable def m_check_need : MS := sIf (mNotT (mTest (mCallF 2 f_is_from (mCons (mVar 0) (mCons (pureM (.int 1)) mNil))))) (sRaise 4 (mVar 0)) sNil
noncomputable def f_check_need : Fn := runB 1 m_check_need
theorem ok_check_need {w : World} {mg : Str → Option Value} {base : Heap} {g : G} (Y : LawF w mg base g.K g.C) (gk : GOk g) : DefOk Pg w mg base g 3 "check_need" 1 f_check_need := by
  obtain ⟨fa, fd, FD, hm⟩ := Y.d_check_need
  refine def_rd (N := N_check_need) (ps := A_check_need) (m := m_check_need) FD hm sc_check_need (fun _ _ _ _ _ _ us hl => match us, hl with | [_], _ => rfl) fun cdv A outer s H E bx => ?_
  exact b_one (s_if (st_not (st_val (s_call (ok_is_from Y gk) rfl (bx.hr.mono (by decide)) bx.tk rfl (sa_cons (s_var (i := 0) rfl (.inl rfl)) (sa_cons s_int sa_nil))))) (b_one (s_raise gk ⟨Y.x_BadNeed⟩ rfl rfl (bx.hr.mono (by decide)) bx.tk rfl (s_var (i := 0) rfl (.inl rfl)))) b_nil)
/-! ### check_ring -/
abbrev N_check_ring : List Str := ["votes", "need"]
abbrev A_check_ring : List Str := ["votes", "need"]
theorem sc_check_ring : FnScope N_check_ring A_check_ring (defScope s_check_ring) := ⟨rfl, rfl, rfl, by decide +kernel, rfl, by decide +kernel, by decide +kernel⟩
noncomputable def m_check_ring : MS := sSeq (sIf (mOrT (mNotT (mTest (mIsTy "tuple" (mVar 0)))) (mNotT (mTest (mChain opLe opLe (pureM (.int 3)) (mCall fLen (mCons (mVar 0) mNil)) (pureM (.int 200)))))) (sRaise 2 (mNeg (pureM (.int 1)))) sNil) (sSeq (sExpr (mCallF 1 f_check_votes (mCons (mVar 0) mNil))) (sExpr (mCallF 1 f_check_need (mCons (mVar 1) mNil))))
noncomputable def f_check_ring : Fn := runB 2 m_check_ring
theorem ok_check_ring {w : World} {mg : Str → Option Value} {base : Heap} {g : G} (Y : LawF w mg base g.K g.C) (gk : GOk g) : DefOk Pg w mg base g 6 "check_ring" 2 f_check_ring := by
  obtain ⟨fa, fd, FD, hm⟩ := Y.d_check_ring
  obtain ⟨_, c_LEAST_RING⟩ := Y.c_LEAST_RING
  obtain ⟨_, c_MOST_RING⟩ := Y.c_MOST_RING
  refine def_rd (N := N_check_ring) (ps := A_check_ring) (m := m_check_ring) FD hm sc_check_ring (fun _ _ _ _ _ _ us hl => match us, hl with | [_, _], _ => rfl) fun cdv A outer s H E bx => ?_
  exact b_cons (s_if (sw_pt (sw_or (st_not (st_val (s_isTy rfl rfl Y.f_isinstance rfl Y.f_tuple (by decide +kernel) (s_var (i := 0) rfl (.inl rfl))))) (sw_or1 (st_not (st_chain op_le sim_le op_le sim_le (s_glob (d := .int 3) (v := .int 3) rfl c_LEAST_RING ⟨_, rfl⟩ rfl) (s_callB call_len sim_len rfl Y.f_len (by decide +kernel) (sa_cons (s_var (i := 0) rfl (.inl rfl)) sa_nil)) (s_glob (d := .int 200) (v := .int 200) rfl c_MOST_RING ⟨_, rfl⟩ rfl)))))) (b_one (s_raise gk ⟨Y.x_BadVotes⟩ rfl rfl (bx.hr.mono (by decide)) bx.tk rfl (s_neg s_int))) b_nil)
      (b_cons (s_expr (s_call (ok_check_votes Y gk) rfl (bx.hr.mono (by decide)) bx.tk rfl (sa_cons (s_var (i := 0) rfl (.inl rfl)) sa_nil)))
      (b_one (s_expr (s_call (ok_check_need Y gk) rfl (bx.hr.mono (by decide)) bx.tk rfl (sa_cons (s_var (i := 1) rfl (.inl rfl)) sa_nil)))))
/-! ### step -/
abbrev N_step : List Str := ["votes", "need", "i", "held", "told"]
abbrev A_step : List Str := ["votes", "need", "i"]
theorem sc_step : FnScope N_step A_step (defScope s_step) := ⟨rfl, rfl, rfl, by decide +kernel, rfl, by decide +kernel, by decide +kernel⟩
noncomputable def m_step : MS := sSeq (sAsg (.name 3) (pureM (.int 0))) (sSeq (sAsg (.name 4) (mVar 2)) (sSeq (sWhile (mTest (mOp opLt (mVar 3) (mVar 1))) (sSeq (sAug 3 opIAdd (mOp opIx (mVar 0) (mOp opMod (mVar 4) (mCall fLen (mCons (mVar 0) mNil))))) (sAug 4 opIAdd (pureM (.int 1))))) (sRet (mVar 4))))
noncomputable def f_step : Fn := runB 5 m_step
theorem ok_step {w : World} {mg : Str → Option Value} {base : Heap} {g : G} (Y : LawF w mg base g.K g.C) (gk : GOk g) : DefOk Pg w mg base g 1 "step" 3 f_step := by
  obtain ⟨fa, fd, FD, hm⟩ := Y.d_step
  refine def_rd (N := N_step) (ps := A_step) (m := m_step) FD hm sc_step (fun _ _ _ _ _ _ us hl => match us, hl with | [_, _, _], _ => rfl) fun cdv A outer s H E bx => ?_
  exact b_cons (s_set (i := 3) sc_step.nd rfl (.inl rfl) s_int (.inl rfl))
      (b_cons (s_set (i := 4) sc_step.nd rfl (.inl rfl) (s_var (i := 2) rfl (.inl rfl)) (.inl rfl))
      (b_cons (s_while bx.po (st_cmp op_ltAll sim_lt (s_var (i := 3) rfl (.inl rfl)) (s_var (i := 1) rfl (.inl rfl)) (by rfl)) (b_cons (s_aug (i := 3) sc_step.nd rfl (.inl rfl) (s_ix rfl (s_var (i := 0) rfl (.inl rfl)) (s_op op_modN sim_mod (s_var (i := 4) rfl (.inl rfl)) (s_callB call_len sim_len rfl Y.f_len (by decide +kernel) (sa_cons (s_var (i := 0) rfl (.inl rfl)) sa_nil))) (fun _ _ => rfl)) iop_iadd sim_iadd (.inl rfl))
      (b_one (s_aug (i := 4) sc_step.nd rfl (.inl rfl) s_int iop_iadd sim_iadd (.inl rfl)))))
      (b_one (s_ret (s_var (i := 4) rfl (.inl rfl))))))
/-! ### walk_of -/
abbrev N_walk_of : List Str := ["votes", "need", "many", "met", "place", "first", "starts", "host", "at"]
abbrev A_walk_of : List Str := ["votes", "need"]
theorem sc_walk_of : FnScope N_walk_of A_walk_of (defScope s_walk_of) := ⟨rfl, rfl, rfl, by decide +kernel, rfl, by decide +kernel, by decide +kernel⟩
noncomputable def m_walk_of : MS := sSeq (sIf (mTest (mOp opLt (mCall fSum (mCons (mVar 0) mNil)) (mVar 1))) (sRet (pureM .non)) sNil) (sSeq (sAsg (.name 2) (mCall fLen (mCons (mVar 0) mNil))) (sSeq (sAsg (.name 3) mDict0) (sSeq (sAsg (.name 4) (pureM (.int 0))) (sSeq (sWhile (mTest (mOp opDNotIn (mOp opMod (mVar 4) (mVar 2)) (mVar 3))) (sSeq (sDPut (mVar 3) (mOp opMod (mVar 4) (mVar 2)) (mVar 4)) (sAsg (.name 4) (mCallF 3 f_step (mCons (mVar 0) (mCons (mVar 1) (mCons (mVar 4) mNil))))))) (sSeq (sAsg (.name 5) (mOp opDGet (mVar 3) (mOp opMod (mVar 4) (mVar 2)))) (sSeq (sAsg (.name 6) (mCall fSorted (mCons (mLcD 3 (.tup [.name 7, .name 8]) [7, 8] (mTest (mOp opGe (mVar 8) (mVar 5))) (mVar 7)) mNil))) (sRet (mTup (mCons (mCall fTuple (mCons (mVar 6) mNil)) (mCons (mOp opFdiv (mOp opSub (mVar 4) (mVar 5)) (mVar 2)) mNil))))))))))
noncomputable def f_walk_of : Fn := runB 9 m_walk_of
theorem ok_walk_of {w : World} {mg : Str → Option Value} {base : Heap} {g : G} (Y : LawF w mg base g.K g.C) (gk : GOk g) (th : ∀ H p ob vs u, g.T H → H p = some (.frz ob (.dK vs)) → g.T (upd H p u)) : DefOk Pg w mg base g 2 "walk_of" 2 f_walk_of := by
  obtain ⟨fa, fd, FD, hm⟩ := Y.d_walk_of
  refine def_rd (N := N_walk_of) (ps := A_walk_of) (m := m_walk_of) FD hm sc_walk_of (fun _ _ _ _ _ _ us hl => match us, hl with | [_, _], _ => rfl) fun cdv A outer s H E bx => ?_
  exact b_cons (s_if (st_cmp op_ltAll sim_lt (s_callB (cr_sumAll rfl) sim_sum rfl Y.f_sum (by decide +kernel) (sa_cons (s_var (i := 0) rfl (.inl rfl)) sa_nil)) (s_var (i := 1) rfl (.inl rfl)) (by rfl)) (b_one (s_ret s_non)) b_nil)
      (b_cons (s_set (i := 2) sc_walk_of.nd rfl (.inl rfl) (s_callB call_len sim_len rfl Y.f_len (by decide +kernel) (sa_cons (s_var (i := 0) rfl (.inl rfl)) sa_nil)) (.inl rfl))
      (b_cons (s_set (i := 3) sc_walk_of.nd rfl (.inl rfl) (s_dict0 gk) (.inl rfl))
      (b_cons (s_set (i := 4) sc_walk_of.nd rfl (.inl rfl) s_int (.inl rfl))
      (b_cons (s_while bx.po (st_dnotin (room_units bx.hr) (s_op op_modN sim_mod (s_var (i := 4) rfl (.inl rfl)) (s_var (i := 2) rfl (.inl rfl))) (s_var (i := 3) rfl (.inl rfl))) (b_cons (s_dput gk (room_units bx.hr) (s_var (i := 3) rfl (.inl rfl)) (s_op op_modN sim_mod (s_var (i := 4) rfl (.inl rfl)) (s_var (i := 2) rfl (.inl rfl))) (s_var (i := 4) rfl (.inl rfl)))
      (b_one (s_set (i := 4) sc_walk_of.nd rfl (.inl rfl) (s_call (ok_step Y gk) rfl (bx.hr.mono (by decide)) bx.tk rfl (sa_cons (s_var (i := 0) rfl (.inl rfl)) (sa_cons (s_var (i := 1) rfl (.inl rfl)) (sa_cons (s_var (i := 4) rfl (.inl rfl)) sa_nil)))) (.inl rfl)))))
      (b_cons (s_set (i := 5) sc_walk_of.nd rfl (.inr rfl) (s_dget (room_units bx.hr) (s_var (i := 3) rfl (.inl rfl)) (s_op op_modN sim_mod (s_var (i := 4) rfl (.inl rfl)) (s_var (i := 2) rfl (.inl rfl))) (fun _ _ => rfl)) (.inl rfl))
      (b_cons (s_set (i := 6) sc_walk_of.nd rfl (.inl rfl) (s_callB cr_sortedI (sim_sorted gk) rfl Y.f_sorted (by decide +kernel) (sa_cons (s_lcItemsX gk th (i := 3) [(("host" : Str), 7), (("at" : Str), 8)] rfl rfl sc_walk_of.nd rfl (.inl rfl) (blkOk_by (N := N_walk_of) (sc := defScope s_walk_of) (own := [(("host" : Str), 7), (("at" : Str), 8)]) (by decide +kernel)) (by simp [Pat.names, patNames]) (fun _ _ _ _ _ => p_tup rfl rfl (ps_cons' (p_name (i := 7) sc_walk_of.nd rfl (.inl rfl) (.inr rfl)) (ps_cons' (p_name (i := 8) sc_walk_of.nd rfl (.inl rfl) (.inr rfl)) (ps_nil')))) (fun _ _ _ _ _ => ts_one (st_cmp op_ge sim_ge (s_var (i := 8) rfl (.inl rfl)) (s_var (i := 5) rfl (by first | exact .inr (.inl rfl) | exact .inr (.inr rfl))) (by rfl))) (fun _ _ _ _ _ => s_var (i := 7) rfl (.inl rfl))) sa_nil)) (.inl rfl))
      (b_one (s_ret (s_tup gk (sa_cons (s_callTy call_tuple_of (sim_tuple gk) rfl Y.f_tuple (by decide +kernel) (sa_cons (s_var (i := 6) rfl (.inl rfl)) sa_nil)) (sa_cons (s_op op_fdivAll sim_fdiv (s_op op_sub sim_sub (s_var (i := 4) rfl (.inl rfl)) (s_var (i := 5) rfl (.inr (.inl rfl)))) (s_var (i := 2) rfl (.inl rfl))) sa_nil)))))))))))
/-! ### steps -/
abbrev N_steps : List Str := ["votes", "need", "begin", "starts", "rounds", "found", "end", "_"]
abbrev A_steps : List Str := ["votes", "need", "begin"]
theorem sc_steps : FnScope N_steps A_steps (defScope s_steps) := ⟨rfl, rfl, rfl, by decide +kernel, rfl, by decide +kernel, by decide +kernel⟩
noncomputable def m_steps : MS := sSeq (sAsg (.tup [.name 3, .name 4]) (mCallF 2 f_walk_of (mCons (mVar 0) (mCons (mVar 1) mNil)))) (sSeq (sAsg (.name 5) (mLst mNil)) (sSeq (sAsg (.name 6) (mVar 2)) (sSeq (sFor (.name 7) (mRange1 (mCons (mOp opFdiv (mOp opSub (mOp opAdd (mCall fLen (mCons (mVar 3) mNil)) (mVar 4)) (pureM (.int 1))) (mVar 4)) mNil)) (sSeq (sAsg (.name 6) (mCallF 3 f_step (mCons (mVar 0) (mCons (mVar 1) (mCons (mVar 6) mNil))))) (sExpr (mAppend (mVar 5) (mOp opMod (mOp opSub (mVar 6) (pureM (.int 1))) (mCall fLen (mCons (mVar 0) mNil))))))) (sRet (mCall fTuple (mCons (mCall fSorted (mCons (mVar 5) mNil)) mNil))))))
noncomputable def f_steps : Fn := runB 8 m_steps
theorem ok_steps {w : World} {mg : Str → Option Value} {base : Heap} {g : G} (Y : LawF w mg base g.K g.C) (gk : GOk g) (th : ∀ H p ob vs u, g.T H → H p = some (.frz ob (.dK vs)) → g.T (upd H p u)) : DefOk Pg w mg base g 3 "steps" 3 f_steps := by
  obtain ⟨fa, fd, FD, hm⟩ := Y.d_steps
  refine def_rd (N := N_steps) (ps := A_steps) (m := m_steps) FD hm sc_steps (fun _ _ _ _ _ _ us hl => match us, hl with | [_, _, _], _ => rfl) fun cdv A outer s H E bx => ?_
  exact b_cons (s_asg (s_call (ok_walk_of Y gk th) rfl (bx.hr.mono (by decide)) bx.tk rfl (sa_cons (s_var (i := 0) rfl (.inl rfl)) (sa_cons (s_var (i := 1) rfl (.inl rfl)) sa_nil))) (p_tup rfl rfl (ps_cons' (p_name (i := 3) sc_steps.nd rfl (.inl rfl) (.inl rfl)) (ps_cons' (p_name (i := 4) sc_steps.nd rfl (.inl rfl) (.inl rfl)) (ps_nil')))))
      (b_cons (s_set (i := 5) sc_steps.nd rfl (.inl rfl) (s_lst gk sa_nil) (.inl rfl))
      (b_cons (s_set (i := 6) sc_steps.nd rfl (.inl rfl) (s_var (i := 2) rfl (.inl rfl)) (.inl rfl))
      (b_cons (s_for bx.po rfl (i_range1 rfl Y.f_range (sa_cons (s_op op_fdivAll sim_fdiv (s_op op_sub sim_sub (s_op op_addAll (sim_add gk) (s_callB call_len sim_len rfl Y.f_len (by decide +kernel) (sa_cons (s_var (i := 3) rfl (.inl rfl)) sa_nil)) (s_var (i := 4) rfl (.inl rfl))) s_int) (s_var (i := 4) rfl (.inl rfl))) sa_nil)) (p_name (i := 7) sc_steps.nd rfl (.inl rfl) (.inl rfl)) (b_cons (s_set (i := 6) sc_steps.nd rfl (.inl rfl) (s_call (ok_step Y gk) rfl (bx.hr.mono (by decide)) bx.tk rfl (sa_cons (s_var (i := 0) rfl (.inl rfl)) (sa_cons (s_var (i := 1) rfl (.inl rfl)) (sa_cons (s_var (i := 6) rfl (.inl rfl)) sa_nil)))) (.inl rfl))
      (b_one (s_expr (s_append gk rfl (s_var (i := 5) rfl (.inl rfl)) (s_op op_modN sim_mod (s_op op_sub sim_sub (s_var (i := 6) rfl (.inl rfl)) s_int) (s_callB call_len sim_len rfl Y.f_len (by decide +kernel) (sa_cons (s_var (i := 0) rfl (.inl rfl)) sa_nil))))))))
      (b_one (s_ret (s_callTy call_tuple_of (sim_tuple gk) rfl Y.f_tuple (by decide +kernel) (sa_cons (s_callB cr_sortedI (sim_sorted gk) rfl Y.f_sorted (by decide +kernel) (sa_cons (s_var (i := 5) rfl (.inl rfl)) sa_nil)) sa_nil)))))))
/-! ### crew_round -/
abbrev N_crew_round : List Str := ["votes", "need", "told"]
abbrev A_crew_round : List Str := ["votes", "need"]
theorem sc_crew_round : FnScope N_crew_round A_crew_round (defScope s_crew_round) := ⟨rfl, rfl, rfl, by decide +kernel, rfl, by decide +kernel, by decide +kernel⟩
noncomputable def m_crew_round : MS := sSeq (sAsg (.name 2) (mCallF 2 f_walk_of (mCons (mVar 0) (mCons (mVar 1) mNil)))) (sRet (mIf (mTest (mOp opIs (mVar 2) (pureM .non))) (mTup mNil) (mCallF 3 f_steps (mCons (mVar 0) (mCons (mVar 1) (mCons (mOp opIx (mOp opIx (mVar 2) (pureM (.int 0))) (pureM (.int 0))) mNil))))))
noncomputable def f_crew_round : Fn := runB 3 m_crew_round
theorem ok_crew_round {w : World} {mg : Str → Option Value} {base : Heap} {g : G} (Y : LawF w mg base g.K g.C) (gk : GOk g) (th : ∀ H p ob vs u, g.T H → H p = some (.frz ob (.dK vs)) → g.T (upd H p u)) : DefOk Pg w mg base g 4 "crew_round" 2 f_crew_round := by
  obtain ⟨fa, fd, FD, hm⟩ := Y.d_crew_round
  refine def_rd (N := N_crew_round) (ps := A_crew_round) (m := m_crew_round) FD hm sc_crew_round (fun _ _ _ _ _ _ us hl => match us, hl with | [_, _], _ => rfl) fun cdv A outer s H E bx => ?_
  exact b_cons (s_set (i := 2) sc_crew_round.nd rfl (.inl rfl) (s_call (ok_walk_of Y gk th) rfl (bx.hr.mono (by decide)) bx.tk rfl (sa_cons (s_var (i := 0) rfl (.inl rfl)) (sa_cons (s_var (i := 1) rfl (.inl rfl)) sa_nil))) (.inl rfl))
      (b_one (s_ret (s_ifExp (st_cmp op_isAll sim_is (s_var (i := 2) rfl (.inl rfl)) s_non (by rfl)) (s_tup gk sa_nil) (s_call (ok_steps Y gk th) rfl (bx.hr.mono (by decide)) bx.tk rfl (sa_cons (s_var (i := 0) rfl (.inl rfl)) (sa_cons (s_var (i := 1) rfl (.inl rfl)) (sa_cons (s_ix rfl (s_ix rfl (s_var (i := 2) rfl (.inl rfl)) s_int (fun _ _ => rfl)) s_int (fun _ _ => rfl)) sa_nil)))))))
/-! ### ring_crew -/
abbrev N_ring_crew : List Str := ["votes", "need"]
abbrev A_ring_crew : List Str := ["votes", "need"]
theorem sc_ring_crew : FnScope N_ring_crew A_ring_crew (defScope s_ring_crew) := ⟨rfl, rfl, rfl, by decide +kernel, rfl, by decide +kernel, by decide +kernel⟩
noncomputable def m_ring_crew : MS := sSeq (sExpr (mCallF 2 f_check_ring (mCons (mVar 0) (mCons (mVar 1) mNil)))) (sRet (mCallF 2 f_crew_round (mCons (mVar 0) (mCons (mVar 1) mNil))))
noncomputable def f_ring_crew : Fn := runB 2 m_ring_crew
theorem ok_ring_crew {w : World} {mg : Str → Option Value} {base : Heap} {g : G} (Y : LawF w mg base g.K g.C) (gk : GOk g) (th : ∀ H p ob vs u, g.T H → H p = some (.frz ob (.dK vs)) → g.T (upd H p u)) : DefOk Pg w mg base g 7 "ring_crew" 2 f_ring_crew := by
  obtain ⟨fa, fd, FD, hm⟩ := Y.d_ring_crew
  refine def_rd (N := N_ring_crew) (ps := A_ring_crew) (m := m_ring_crew) FD hm sc_ring_crew (fun _ _ _ _ _ _ us hl => match us, hl with | [_, _], _ => rfl) fun cdv A outer s H E bx => ?_
  exact b_cons (s_expr (s_call (ok_check_ring Y gk) rfl (bx.hr.mono (by decide)) bx.tk rfl (sa_cons (s_var (i := 0) rfl (.inl rfl)) (sa_cons (s_var (i := 1) rfl (.inl rfl)) sa_nil))))
      (b_one (s_ret (s_call (ok_crew_round Y gk th) rfl (bx.hr.mono (by decide)) bx.tk rfl (sa_cons (s_var (i := 0) rfl (.inl rfl)) (sa_cons (s_var (i := 1) rfl (.inl rfl)) sa_nil)))))
def pm_ring_crew {α : Type} : List α → List α
  | [k_0, k_1] => [k_1, k_0]
  | l => l
theorem pmr_ring_crew {g : G} {π : List Addr} {H : Hp} {ds : List D} {vs : List V} (h : ds.length = 2) (r : Rels g π H ds vs) : Rels g π H (pm_ring_crew ds) (pm_ring_crew vs) := by
  match ds, h with
  | [k_0, k_1], _ =>
    obtain ⟨v, w, rfl, r1, r2⟩ := r.two
    exact .cons r2 (.cons r1 .nil)
theorem pmv_ring_crew {vs : List V} {us : List Value} (h : vs.length = 2) (r : Vals vs us) : Vals (pm_ring_crew vs) (pm_ring_crew us) := by
  match vs, us, h, r with
  | [a, b], [c, d], _, .cons r1 (.cons r2 .nil) => exact .cons r2 (.cons r1 .nil)
theorem okK_ring_crew {w : World} {mg : Str → Option Value} {base : Heap} {g : G} (Y : LawF w mg base g.K g.C) (gk : GOk g) (th : ∀ H p ob vs u, g.T H → H p = some (.frz ob (.dK vs)) → g.T (upd H p u)) : DefOkK Pg w mg base g 7 "ring_crew" 2 f_ring_crew ["need", "votes"] pm_ring_crew := by
  obtain ⟨fa, fd, FD, hm⟩ := Y.d_ring_crew
  refine def_rdK (N := N_ring_crew) (ps := A_ring_crew) (m := m_ring_crew) FD hm sc_ring_crew rfl (fun _ _ _ _ _ _ ws hl => match ws, hl with | [_, _], _ => rfl) (fun h r => pmr_ring_crew h r) (fun h r => pmv_ring_crew h r) rfl (fun {α l} h => match l, h with | [_, _], _ => rfl) fun cdv A outer s H E bx => ?_
  exact b_cons (s_expr (s_call (ok_check_ring Y gk) rfl (bx.hr.mono (by decide)) bx.tk rfl (sa_cons (s_var (i := 0) rfl (.inl rfl)) (sa_cons (s_var (i := 1) rfl (.inl rfl)) sa_nil))))
      (b_one (s_ret (s_call (ok_crew_round Y gk th) rfl (bx.hr.mono (by decide)) bx.tk rfl (sa_cons (s_var (i := 0) rfl (.inl rfl)) (sa_cons (s_var (i := 1) rfl (.inl rfl)) sa_nil)))))
/-! ### _law_is_whole -/
abbrev N_law_is_whole : List Str := ["thing"]
abbrev A_law_is_whole : List Str := ["thing"]
theorem sc_law_is_whole : FnScope N_law_is_whole A_law_is_whole (defScope s_law_is_whole) := ⟨rfl, rfl, rfl, by decide +kernel, rfl, by decide +kernel, by decide +kernel⟩
noncomputable def m_law_is_whole : MS := sRet (mAndV (mIsTy "int" (mVar 0)) (mNotV (mIsTy "bool" (mVar 0))))
noncomputable def f_law_is_whole : Fn := runB 1 m_law_is_whole
theorem ok_law_is_whole {w : World} {mg : Str → Option Value} {base : Heap} {g : G} (Y : LawF w mg base g.K g.C) (gk : GOk g) : DefOk Pg w mg base g 1 "_law_is_whole" 1 f_law_is_whole := by
  obtain ⟨fa, fd, FD, hm⟩ := Y.d_law_is_whole
  refine def_rd (N := N_law_is_whole) (ps := A_law_is_whole) (m := m_law_is_whole) FD hm sc_law_is_whole (fun _ _ _ _ _ _ us hl => match us, hl with | [_], _ => rfl) fun cdv A outer s H E bx => ?_
  exact b_one (s_ret (s_and (s_isTy rfl rfl Y.f_isinstance rfl Y.f_int (by decide +kernel) (s_var (i := 0) rfl (.inl rfl))) (s_one (s_not (s_isTy rfl rfl Y.f_isinstance rfl Y.f_bool (by decide +kernel) (s_var (i := 0) rfl (.inl rfl)))))))
/-! ### _law_same -/
abbrev N_law_same : List Str := ["told", "due", "at"]
abbrev A_law_same : List Str := ["told", "due"]
theorem sc_law_same : FnScope N_law_same A_law_same (defScope s_law_same) := ⟨rfl, rfl, rfl, by decide +kernel, rfl, by decide +kernel, by decide +kernel⟩
noncomputable def m_law_same (f : Fn) : MS := sSeq (sIf (mTest (mOp opIs (mVar 1) (pureM .non))) (sRet (mOp opIs (mVar 0) (pureM .non))) sNil) (sSeq (sIf (mTest (mIsTy "bool" (mVar 1))) (sRet (mIf (mTest (mVar 1)) (mOp opIs (mVar 0) (pureM (.bl true))) (mOp opIs (mVar 0) (pureM (.bl false))))) sNil) (sSeq (sIf (mTest (mIsTy "int" (mVar 1))) (sRet (mAndV (mCallF 1 f_law_is_whole (mCons (mVar 0) mNil)) (mOp opEq (mVar 0) (mVar 1)))) sNil) (sSeq (sIf (mTest (mIsTy "str" (mVar 1))) (sRet (mAndV (mIsTy "str" (mVar 0)) (mOp opEq (mVar 0) (mVar 1)))) sNil) (sSeq (sIf (mAndT (mTest (mIsTy "tuple" (mVar 1))) (mNotT (mTest (mIsTy "tuple" (mVar 0))))) (sRet (pureM (.bl false))) sNil) (sSeq (sIf (mAndT (mTest (mIsTy "list" (mVar 1))) (mNotT (mTest (mIsTy "list" (mVar 0))))) (sRet (pureM (.bl false))) sNil) (sSeq (sIf (mTest (mOp opNe (mCall fLen (mCons (mVar 0) mNil)) (mCall fLen (mCons (mVar 1) mNil)))) (sRet (pureM (.bl false))) sNil) (sSeq (sFor (.name 2) (mRange1 (mCons (mCall fLen (mCons (mVar 1) mNil)) mNil)) (sIf (mNotT (mTest (mCallF 2 f (mCons (mOp opIx (mVar 0) (mVar 2)) (mCons (mOp opIx (mVar 1) (mVar 2)) mNil))))) (sRet (pureM (.bl false))) sNil)) (sRet (pureM (.bl true))))))))))
noncomputable def g_law_same (n : Nat) : Fn := Nat.rec (fun _ _ => .bad) (fun _ f => runB 3 (m_law_same f)) n
noncomputable def f_law_same : Fn := g_law_same 8
theorem ok_law_same {w : World} {mg : Str → Option Value} {base : Heap} {g : G} (Y : LawF w mg base g.K g.C) (gk : GOk g) : DefOk Pg w mg base g 9 "_law_same" 2 f_law_same := by
  obtain ⟨fa, fd, FD, hm⟩ := Y.d_law_same
  exact def_rec (j := 1) (N := N_law_same) (ps := A_law_same) (m := m_law_same) FD hm sc_law_same (fun _ _ _ _ _ _ us hl => match us, hl with | [_, _], _ => rfl) (fun k f hk Dx cdv A outer s H E bx0 => by
    have bx := bx0
    exact b_cons (s_if (st_cmp op_isAll sim_is (s_var (i := 1) rfl (.inl rfl)) s_non (by rfl)) (b_one (s_ret (s_cmp op_isAll sim_is (s_var (i := 0) rfl (.inl rfl)) s_non (by rfl)))) b_nil)
      (b_cons (s_if (st_val (s_isTy rfl rfl Y.f_isinstance rfl Y.f_bool (by decide +kernel) (s_var (i := 1) rfl (.inl rfl)))) (b_one (s_ret (s_ifExp (st_val (s_var (i := 1) rfl (.inl rfl))) (s_cmp op_isAll sim_is (s_var (i := 0) rfl (.inl rfl)) s_bl (by rfl)) (s_cmp op_isAll sim_is (s_var (i := 0) rfl (.inl rfl)) s_bl (by rfl))))) b_nil)
      (b_cons (s_if (st_val (s_isTy rfl rfl Y.f_isinstance rfl Y.f_int (by decide +kernel) (s_var (i := 1) rfl (.inl rfl)))) (b_one (s_ret (s_and (s_call (ok_law_is_whole Y gk) rfl (bx.hr.mono (Nat.le_trans (by decide) hk)) bx.tk rfl (sa_cons (s_var (i := 0) rfl (.inl rfl)) sa_nil)) (s_one (s_cmp (op_eqD bx.hr.units) sim_eq (s_var (i := 0) rfl (.inl rfl)) (s_var (i := 1) rfl (.inl rfl)) (by rfl)))))) b_nil)
      (b_cons (s_if (st_val (s_isTy rfl rfl Y.f_isinstance rfl Y.f_str (by decide +kernel) (s_var (i := 1) rfl (.inl rfl)))) (b_one (s_ret (s_and (s_isTy rfl rfl Y.f_isinstance rfl Y.f_str (by decide +kernel) (s_var (i := 0) rfl (.inl rfl))) (s_one (s_cmp (op_eqD bx.hr.units) sim_eq (s_var (i := 0) rfl (.inl rfl)) (s_var (i := 1) rfl (.inl rfl)) (by rfl)))))) b_nil)
      (b_cons (s_if (sw_pt (sw_and (st_val (s_isTy rfl rfl Y.f_isinstance rfl Y.f_tuple (by decide +kernel) (s_var (i := 1) rfl (.inl rfl)))) (sw_and1 (st_not (st_val (s_isTy rfl rfl Y.f_isinstance rfl Y.f_tuple (by decide +kernel) (s_var (i := 0) rfl (.inl rfl)))))))) (b_one (s_ret s_bl)) b_nil)
      (b_cons (s_if (sw_pt (sw_and (st_val (s_isTy rfl rfl Y.f_isinstance rfl Y.f_list (by decide +kernel) (s_var (i := 1) rfl (.inl rfl)))) (sw_and1 (st_not (st_val (s_isTy rfl rfl Y.f_isinstance rfl Y.f_list (by decide +kernel) (s_var (i := 0) rfl (.inl rfl)))))))) (b_one (s_ret s_bl)) b_nil)
      (b_cons (s_if (st_cmp (op_neD bx.hr.units) sim_ne (s_callB call_len sim_len rfl Y.f_len (by decide +kernel) (sa_cons (s_var (i := 0) rfl (.inl rfl)) sa_nil)) (s_callB call_len sim_len rfl Y.f_len (by decide +kernel) (sa_cons (s_var (i := 1) rfl (.inl rfl)) sa_nil)) (by rfl)) (b_one (s_ret s_bl)) b_nil)
      (b_cons (s_for bx.po rfl (i_range1 rfl Y.f_range (sa_cons (s_callB call_len sim_len rfl Y.f_len (by decide +kernel) (sa_cons (s_var (i := 1) rfl (.inl rfl)) sa_nil)) sa_nil)) (p_name (i := 2) sc_law_same.nd rfl (.inl rfl) (.inl rfl)) (b_one (s_if (st_not (st_val (s_call Dx rfl bx.hr bx.tk rfl (sa_cons (s_ix rfl (s_var (i := 0) rfl (.inl rfl)) (s_var (i := 2) rfl (.inl rfl)) (fun _ _ => rfl)) (sa_cons (s_ix rfl (s_var (i := 1) rfl (.inl rfl)) (s_var (i := 2) rfl (.inl rfl)) (fun _ _ => rfl)) sa_nil))))) (b_one (s_ret s_bl)) b_nil)))
      (b_one (s_ret s_bl)))))))))) 8
/-! ### _law_classes, _law_heard -/
abbrev N_law_classes : List Str := ["error"]
theorem sc_law_classes : FnScope N_law_classes N_law_classes (defScope s_law_classes) := ⟨rfl, rfl, rfl, by decide +kernel, rfl, by decide +kernel, by decide +kernel⟩
def clR0 : List (Str × Nat) := [(Str.ofString "BadNet", 1), (Str.ofString "BadVotes", 2), (Str.ofString "BadLinks", 3), (Str.ofString "BadNeed", 4), (Str.ofString "BadHost", 5), (Str.ofString "BadLot", 6), (Str.ofString "BadOrder", 7), (Str.ofString "BadBlock", 8), (Str.ofString "BadWhich", 9), (Str.ofString "BadSeam", 10), (Str.ofString "BadTimes", 11), (Str.ofString "BadRule", 12), (Str.ofString "BadLog", 13), (Str.ofString "BadHouse", 14), (Str.ofString "BadMoments", 15), (Str.ofString "BadKey", 16), (Str.ofString "BadValue", 17), (Str.ofString "BadMany", 18), (Str.ofString "BadPairs", 19), (Str.ofString "BadLetters", 20), (Str.ofString "BadName", 21), (Str.ofString "BadNumber", 22), (Str.ofString "BadPlace", 23), (Str.ofString "BadEdition", 24), (Str.ofString "BadRestores", 25), (Str.ofString "BadRecord", 26), (Str.ofString "BadEntry", 27), (Str.ofString "BadStory", 28), (Str.ofString "BadText", 29), (Str.ofString "WrongWord", 30), (Str.ofString "WrongLine", 31), (Str.ofString "Same", 32), (Str.ofString "Already", 33), (Str.ofString "NoLink", 34), (Str.ofString "Unlike", 35)]
def clR1 : List (Str × Nat) := [(Str.ofString "NotWorking", 36), (Str.ofString "Unruled", 37), (Str.ofString "NoRule", 38), (Str.ofString "Down", 39), (Str.ofString "Blank", 40), (Str.ofString "NotDown", 41), (Str.ofString "NotBlank", 42), (Str.ofString "NotOpen", 43), (Str.ofString "NotCommanding", 44), (Str.ofString "NotSettled", 45), (Str.ofString "NotSealed", 46), (Str.ofString "NotLet", 47), (Str.ofString "Harmful", 48), (Str.ofString "NoLetter", 49), (Str.ofString "NothingToUndo", 50), (Str.ofString "NothingToRedo", 51), (Str.ofString "TooMany", 52), (Str.ofString "BadScale", 53), (Str.ofString "Wild", 54), (Str.ofString "BadGap", 55), (Str.ofString "BadWish", 56), (Str.ofString "BadWishes", 57), (Str.ofString "BadAnswers", 58), (Str.ofString "NoVotes", 59), (Str.ofString "NotMeeting", 60), (Str.ofString "Promised", 61)]
def clR : List (Str × Nat) := clR0 ++ clR1
def rowsOf (c : Nat) : List (Str × Bool) := clR.map fun r => (r.1, decide (c = r.2))
def mRows (a : Addr) (c : Nat) : List (Str × Nat) → M (List D)
  | [] => mNil
  | r :: l => mCons (mTup (mCons (pureM (.str r.1)) (mCons (mIsE 0 a (decide (c = r.2))) mNil))) (mRows a c l)
def m_law_classes (a : Addr) (c : Nat) : MS := sRet (mLst (mRows a c clR))
theorem mRows_eq (a : Addr) (c : Nat) : mRows a c clR = mCons (mTup (mCons (pureM (.str "BadNet")) (mCons (mIsE 0 a (decide (c = 1))) mNil))) (mCons (mTup (mCons (pureM (.str "BadVotes")) (mCons (mIsE 0 a (decide (c = 2))) mNil))) (mCons (mTup (mCons (pureM (.str "BadLinks")) (mCons (mIsE 0 a (decide (c = 3))) mNil))) (mCons (mTup (mCons (pureM (.str "BadNeed")) (mCons (mIsE 0 a (decide (c = 4))) mNil))) (mCons (mTup (mCons (pureM (.str "BadHost")) (mCons (mIsE 0 a (decide (c = 5))) mNil))) (mCons (mTup (mCons (pureM (.str "BadLot")) (mCons (mIsE 0 a (decide (c = 6))) mNil))) (mCons (mTup (mCons (pureM (.str "BadOrder")) (mCons (mIsE 0 a (decide (c = 7))) mNil))) (mCons (mTup (mCons (pureM (.str "BadBlock")) (mCons (mIsE 0 a (decide (c = 8))) mNil))) (mCons (mTup (mCons (pureM (.str "BadWhich")) (mCons (mIsE 0 a (decide (c = 9))) mNil))) (mCons (mTup (mCons (pureM (.str "BadSeam")) (mCons (mIsE 0 a (decide (c = 10))) mNil))) (mCons (mTup (mCons (pureM (.str "BadTimes")) (mCons (mIsE 0 a (decide (c = 11))) mNil))) (mCons (mTup (mCons (pureM (.str "BadRule")) (mCons (mIsE 0 a (decide (c = 12))) mNil))) (mCons (mTup (mCons (pureM (.str "BadLog")) (mCons (mIsE 0 a (decide (c = 13))) mNil))) (mCons (mTup (mCons (pureM (.str "BadHouse")) (mCons (mIsE 0 a (decide (c = 14))) mNil))) (mCons (mTup (mCons (pureM (.str "BadMoments")) (mCons (mIsE 0 a (decide (c = 15))) mNil))) (mCons (mTup (mCons (pureM (.str "BadKey")) (mCons (mIsE 0 a (decide (c = 16))) mNil))) (mCons (mTup (mCons (pureM (.str "BadValue")) (mCons (mIsE 0 a (decide (c = 17))) mNil))) (mCons (mTup (mCons (pureM (.str "BadMany")) (mCons (mIsE 0 a (decide (c = 18))) mNil))) (mCons (mTup (mCons (pureM (.str "BadPairs")) (mCons (mIsE 0 a (decide (c = 19))) mNil))) (mCons (mTup (mCons (pureM (.str "BadLetters")) (mCons (mIsE 0 a (decide (c = 20))) mNil))) (mCons (mTup (mCons (pureM (.str "BadName")) (mCons (mIsE 0 a (decide (c = 21))) mNil))) (mCons (mTup (mCons (pureM (.str "BadNumber")) (mCons (mIsE 0 a (decide (c = 22))) mNil))) (mCons (mTup (mCons (pureM (.str "BadPlace")) (mCons (mIsE 0 a (decide (c = 23))) mNil))) (mCons (mTup (mCons (pureM (.str "BadEdition")) (mCons (mIsE 0 a (decide (c = 24))) mNil))) (mCons (mTup (mCons (pureM (.str "BadRestores")) (mCons (mIsE 0 a (decide (c = 25))) mNil))) (mCons (mTup (mCons (pureM (.str "BadRecord")) (mCons (mIsE 0 a (decide (c = 26))) mNil))) (mCons (mTup (mCons (pureM (.str "BadEntry")) (mCons (mIsE 0 a (decide (c = 27))) mNil))) (mCons (mTup (mCons (pureM (.str "BadStory")) (mCons (mIsE 0 a (decide (c = 28))) mNil))) (mCons (mTup (mCons (pureM (.str "BadText")) (mCons (mIsE 0 a (decide (c = 29))) mNil))) (mCons (mTup (mCons (pureM (.str "WrongWord")) (mCons (mIsE 0 a (decide (c = 30))) mNil))) (mCons (mTup (mCons (pureM (.str "WrongLine")) (mCons (mIsE 0 a (decide (c = 31))) mNil))) (mCons (mTup (mCons (pureM (.str "Same")) (mCons (mIsE 0 a (decide (c = 32))) mNil))) (mCons (mTup (mCons (pureM (.str "Already")) (mCons (mIsE 0 a (decide (c = 33))) mNil))) (mCons (mTup (mCons (pureM (.str "NoLink")) (mCons (mIsE 0 a (decide (c = 34))) mNil))) (mCons (mTup (mCons (pureM (.str "Unlike")) (mCons (mIsE 0 a (decide (c = 35))) mNil))) (mCons (mTup (mCons (pureM (.str "NotWorking")) (mCons (mIsE 0 a (decide (c = 36))) mNil))) (mCons (mTup (mCons (pureM (.str "Unruled")) (mCons (mIsE 0 a (decide (c = 37))) mNil))) (mCons (mTup (mCons (pureM (.str "NoRule")) (mCons (mIsE 0 a (decide (c = 38))) mNil))) (mCons (mTup (mCons (pureM (.str "Down")) (mCons (mIsE 0 a (decide (c = 39))) mNil))) (mCons (mTup (mCons (pureM (.str "Blank")) (mCons (mIsE 0 a (decide (c = 40))) mNil))) (mCons (mTup (mCons (pureM (.str "NotDown")) (mCons (mIsE 0 a (decide (c = 41))) mNil))) (mCons (mTup (mCons (pureM (.str "NotBlank")) (mCons (mIsE 0 a (decide (c = 42))) mNil))) (mCons (mTup (mCons (pureM (.str "NotOpen")) (mCons (mIsE 0 a (decide (c = 43))) mNil))) (mCons (mTup (mCons (pureM (.str "NotCommanding")) (mCons (mIsE 0 a (decide (c = 44))) mNil))) (mCons (mTup (mCons (pureM (.str "NotSettled")) (mCons (mIsE 0 a (decide (c = 45))) mNil))) (mCons (mTup (mCons (pureM (.str "NotSealed")) (mCons (mIsE 0 a (decide (c = 46))) mNil))) (mCons (mTup (mCons (pureM (.str "NotLet")) (mCons (mIsE 0 a (decide (c = 47))) mNil))) (mCons (mTup (mCons (pureM (.str "Harmful")) (mCons (mIsE 0 a (decide (c = 48))) mNil))) (mCons (mTup (mCons (pureM (.str "NoLetter")) (mCons (mIsE 0 a (decide (c = 49))) mNil))) (mCons (mTup (mCons (pureM (.str "NothingToUndo")) (mCons (mIsE 0 a (decide (c = 50))) mNil))) (mCons (mTup (mCons (pureM (.str "NothingToRedo")) (mCons (mIsE 0 a (decide (c = 51))) mNil))) (mCons (mTup (mCons (pureM (.str "TooMany")) (mCons (mIsE 0 a (decide (c = 52))) mNil))) (mCons (mTup (mCons (pureM (.str "BadScale")) (mCons (mIsE 0 a (decide (c = 53))) mNil))) (mCons (mTup (mCons (pureM (.str "Wild")) (mCons (mIsE 0 a (decide (c = 54))) mNil))) (mCons (mTup (mCons (pureM (.str "BadGap")) (mCons (mIsE 0 a (decide (c = 55))) mNil))) (mCons (mTup (mCons (pureM (.str "BadWish")) (mCons (mIsE 0 a (decide (c = 56))) mNil))) (mCons (mTup (mCons (pureM (.str "BadWishes")) (mCons (mIsE 0 a (decide (c = 57))) mNil))) (mCons (mTup (mCons (pureM (.str "BadAnswers")) (mCons (mIsE 0 a (decide (c = 58))) mNil))) (mCons (mTup (mCons (pureM (.str "NoVotes")) (mCons (mIsE 0 a (decide (c = 59))) mNil))) (mCons (mTup (mCons (pureM (.str "NotMeeting")) (mCons (mIsE 0 a (decide (c = 60))) mNil))) (mCons (mTup (mCons (pureM (.str "Promised")) (mCons (mIsE 0 a (decide (c = 61))) mNil))) (mNil))))))))))))))))))))))))))))))))))))))))))))))))))))))))))))) := rfl
theorem ok_law_classes {w : World} {mg : Str → Option Value} {base : Heap} {g : G} (Y : LawF w mg base g.K g.C) (gk : GOk g) {a dx : Addr} {oe : Obj} {c : Nat} (hra : c ∈ raL) (hc : oe.cls = .ref (g.C c)) (hd : oe.dict = some dx) (hf : ∃ vs, oe.data = .fields vs) (hT : ∀ H, g.T H → ∃ fs, H dx = some (.xd fs)) : HDef Pg w mg base g 1 (a, oe) "_law_classes" 1 (runB 1 (m_law_classes a c)) := by
  obtain ⟨fa, fd, FD, hm⟩ := Y.d_law_classes
  obtain ⟨fI, EF⟩ := Y.exc c hra
  have EC := EF.isC
  refine hdef_rd (N := N_law_classes) (ps := N_law_classes) (m := m_law_classes a c) FD hm sc_law_classes (fun _ _ _ _ _ _ us hl => match us, hl with | [_], _ => rfl) fun cdv A outer s H E bx => ?_
  have hpn := bx.hp
  refine b_one (s_ret (s_lst gk ?_))
  rw [mRows_eq]
  refine sa_cons (s_tup gk (sa_cons s_str (sa_cons (s_isE rfl EC hpn hc hd hf hT (Y.kit c hra 1 (by decide) (by decide)) rfl Y.f_isinstance rfl (.inl rfl) rfl (Y.cls 1 (by decide))) sa_nil))) ?_
  refine sa_cons (s_tup gk (sa_cons s_str (sa_cons (s_isE rfl EC hpn hc hd hf hT (Y.kit c hra 2 (by decide) (by decide)) rfl Y.f_isinstance rfl (.inl rfl) rfl (Y.cls 2 (by decide))) sa_nil))) ?_
  refine sa_cons (s_tup gk (sa_cons s_str (sa_cons (s_isE rfl EC hpn hc hd hf hT (Y.kit c hra 3 (by decide) (by decide)) rfl Y.f_isinstance rfl (.inl rfl) rfl (Y.cls 3 (by decide))) sa_nil))) ?_
  refine sa_cons (s_tup gk (sa_cons s_str (sa_cons (s_isE rfl EC hpn hc hd hf hT (Y.kit c hra 4 (by decide) (by decide)) rfl Y.f_isinstance rfl (.inl rfl) rfl (Y.cls 4 (by decide))) sa_nil))) ?_
  refine sa_cons (s_tup gk (sa_cons s_str (sa_cons (s_isE rfl EC hpn hc hd hf hT (Y.kit c hra 5 (by decide) (by decide)) rfl Y.f_isinstance rfl (.inl rfl) rfl (Y.cls 5 (by decide))) sa_nil))) ?_
  refine sa_cons (s_tup gk (sa_cons s_str (sa_cons (s_isE rfl EC hpn hc hd hf hT (Y.kit c hra 6 (by decide) (by decide)) rfl Y.f_isinstance rfl (.inl rfl) rfl (Y.cls 6 (by decide))) sa_nil))) ?_
  refine sa_cons (s_tup gk (sa_cons s_str (sa_cons (s_isE rfl EC hpn hc hd hf hT (Y.kit c hra 7 (by decide) (by decide)) rfl Y.f_isinstance rfl (.inl rfl) rfl (Y.cls 7 (by decide))) sa_nil))) ?_
  refine sa_cons (s_tup gk (sa_cons s_str (sa_cons (s_isE rfl EC hpn hc hd hf hT (Y.kit c hra 8 (by decide) (by decide)) rfl Y.f_isinstance rfl (.inl rfl) rfl (Y.cls 8 (by decide))) sa_nil))) ?_
  refine sa_cons (s_tup gk (sa_cons s_str (sa_cons (s_isE rfl EC hpn hc hd hf hT (Y.kit c hra 9 (by decide) (by decide)) rfl Y.f_isinstance rfl (.inl rfl) rfl (Y.cls 9 (by decide))) sa_nil))) ?_
  refine sa_cons (s_tup gk (sa_cons s_str (sa_cons (s_isE rfl EC hpn hc hd hf hT (Y.kit c hra 10 (by decide) (by decide)) rfl Y.f_isinstance rfl (.inl rfl) rfl (Y.cls 10 (by decide))) sa_nil))) ?_
  refine sa_cons (s_tup gk (sa_cons s_str (sa_cons (s_isE rfl EC hpn hc hd hf hT (Y.kit c hra 11 (by decide) (by decide)) rfl Y.f_isinstance rfl (.inl rfl) rfl (Y.cls 11 (by decide))) sa_nil))) ?_
  refine sa_cons (s_tup gk (sa_cons s_str (sa_cons (s_isE rfl EC hpn hc hd hf hT (Y.kit c hra 12 (by decide) (by decide)) rfl Y.f_isinstance rfl (.inl rfl) rfl (Y.cls 12 (by decide))) sa_nil))) ?_
  refine sa_cons (s_tup gk (sa_cons s_str (sa_cons (s_isE rfl EC hpn hc hd hf hT (Y.kit c hra 13 (by decide) (by decide)) rfl Y.f_isinstance rfl (.inl rfl) rfl (Y.cls 13 (by decide))) sa_nil))) ?_
  refine sa_cons (s_tup gk (sa_cons s_str (sa_cons (s_isE rfl EC hpn hc hd hf hT (Y.kit c hra 14 (by decide) (by decide)) rfl Y.f_isinstance rfl (.inl rfl) rfl (Y.cls 14 (by decide))) sa_nil))) ?_
  refine sa_cons (s_tup gk (sa_cons s_str (sa_cons (s_isE rfl EC hpn hc hd hf hT (Y.kit c hra 15 (by decide) (by decide)) rfl Y.f_isinstance rfl (.inl rfl) rfl (Y.cls 15 (by decide))) sa_nil))) ?_
  refine sa_cons (s_tup gk (sa_cons s_str (sa_cons (s_isE rfl EC hpn hc hd hf hT (Y.kit c hra 16 (by decide) (by decide)) rfl Y.f_isinstance rfl (.inl rfl) rfl (Y.cls 16 (by decide))) sa_nil))) ?_
  refine sa_cons (s_tup gk (sa_cons s_str (sa_cons (s_isE rfl EC hpn hc hd hf hT (Y.kit c hra 17 (by decide) (by decide)) rfl Y.f_isinstance rfl (.inl rfl) rfl (Y.cls 17 (by decide))) sa_nil))) ?_
  refine sa_cons (s_tup gk (sa_cons s_str (sa_cons (s_isE rfl EC hpn hc hd hf hT (Y.kit c hra 18 (by decide) (by decide)) rfl Y.f_isinstance rfl (.inl rfl) rfl (Y.cls 18 (by decide))) sa_nil))) ?_
  refine sa_cons (s_tup gk (sa_cons s_str (sa_cons (s_isE rfl EC hpn hc hd hf hT (Y.kit c hra 19 (by decide) (by decide)) rfl Y.f_isinstance rfl (.inl rfl) rfl (Y.cls 19 (by decide))) sa_nil))) ?_
  refine sa_cons (s_tup gk (sa_cons s_str (sa_cons (s_isE rfl EC hpn hc hd hf hT (Y.kit c hra 20 (by decide) (by decide)) rfl Y.f_isinstance rfl (.inl rfl) rfl (Y.cls 20 (by decide))) sa_nil))) ?_
  refine sa_cons (s_tup gk (sa_cons s_str (sa_cons (s_isE rfl EC hpn hc hd hf hT (Y.kit c hra 21 (by decide) (by decide)) rfl Y.f_isinstance rfl (.inl rfl) rfl (Y.cls 21 (by decide))) sa_nil))) ?_
  refine sa_cons (s_tup gk (sa_cons s_str (sa_cons (s_isE rfl EC hpn hc hd hf hT (Y.kit c hra 22 (by decide) (by decide)) rfl Y.f_isinstance rfl (.inl rfl) rfl (Y.cls 22 (by decide))) sa_nil))) ?_
  refine sa_cons (s_tup gk (sa_cons s_str (sa_cons (s_isE rfl EC hpn hc hd hf hT (Y.kit c hra 23 (by decide) (by decide)) rfl Y.f_isinstance rfl (.inl rfl) rfl (Y.cls 23 (by decide))) sa_nil))) ?_
  refine sa_cons (s_tup gk (sa_cons s_str (sa_cons (s_isE rfl EC hpn hc hd hf hT (Y.kit c hra 24 (by decide) (by decide)) rfl Y.f_isinstance rfl (.inl rfl) rfl (Y.cls 24 (by decide))) sa_nil))) ?_
  refine sa_cons (s_tup gk (sa_cons s_str (sa_cons (s_isE rfl EC hpn hc hd hf hT (Y.kit c hra 25 (by decide) (by decide)) rfl Y.f_isinstance rfl (.inl rfl) rfl (Y.cls 25 (by decide))) sa_nil))) ?_
  refine sa_cons (s_tup gk (sa_cons s_str (sa_cons (s_isE rfl EC hpn hc hd hf hT (Y.kit c hra 26 (by decide) (by decide)) rfl Y.f_isinstance rfl (.inl rfl) rfl (Y.cls 26 (by decide))) sa_nil))) ?_
  refine sa_cons (s_tup gk (sa_cons s_str (sa_cons (s_isE rfl EC hpn hc hd hf hT (Y.kit c hra 27 (by decide) (by decide)) rfl Y.f_isinstance rfl (.inl rfl) rfl (Y.cls 27 (by decide))) sa_nil))) ?_
  refine sa_cons (s_tup gk (sa_cons s_str (sa_cons (s_isE rfl EC hpn hc hd hf hT (Y.kit c hra 28 (by decide) (by decide)) rfl Y.f_isinstance rfl (.inl rfl) rfl (Y.cls 28 (by decide))) sa_nil))) ?_
  refine sa_cons (s_tup gk (sa_cons s_str (sa_cons (s_isE rfl EC hpn hc hd hf hT (Y.kit c hra 29 (by decide) (by decide)) rfl Y.f_isinstance rfl (.inl rfl) rfl (Y.cls 29 (by decide))) sa_nil))) ?_
  refine sa_cons (s_tup gk (sa_cons s_str (sa_cons (s_isE rfl EC hpn hc hd hf hT (Y.kit c hra 30 (by decide) (by decide)) rfl Y.f_isinstance rfl (.inl rfl) rfl (Y.cls 30 (by decide))) sa_nil))) ?_
  refine sa_cons (s_tup gk (sa_cons s_str (sa_cons (s_isE rfl EC hpn hc hd hf hT (Y.kit c hra 31 (by decide) (by decide)) rfl Y.f_isinstance rfl (.inl rfl) rfl (Y.cls 31 (by decide))) sa_nil))) ?_
  refine sa_cons (s_tup gk (sa_cons s_str (sa_cons (s_isE rfl EC hpn hc hd hf hT (Y.kit c hra 32 (by decide) (by decide)) rfl Y.f_isinstance rfl (.inl rfl) rfl (Y.cls 32 (by decide))) sa_nil))) ?_
  refine sa_cons (s_tup gk (sa_cons s_str (sa_cons (s_isE rfl EC hpn hc hd hf hT (Y.kit c hra 33 (by decide) (by decide)) rfl Y.f_isinstance rfl (.inl rfl) rfl (Y.cls 33 (by decide))) sa_nil))) ?_
  refine sa_cons (s_tup gk (sa_cons s_str (sa_cons (s_isE rfl EC hpn hc hd hf hT (Y.kit c hra 34 (by decide) (by decide)) rfl Y.f_isinstance rfl (.inl rfl) rfl (Y.cls 34 (by decide))) sa_nil))) ?_
  refine sa_cons (s_tup gk (sa_cons s_str (sa_cons (s_isE rfl EC hpn hc hd hf hT (Y.kit c hra 35 (by decide) (by decide)) rfl Y.f_isinstance rfl (.inl rfl) rfl (Y.cls 35 (by decide))) sa_nil))) ?_
  refine sa_cons (s_tup gk (sa_cons s_str (sa_cons (s_isE rfl EC hpn hc hd hf hT (Y.kit c hra 36 (by decide) (by decide)) rfl Y.f_isinstance rfl (.inl rfl) rfl (Y.cls 36 (by decide))) sa_nil))) ?_
  refine sa_cons (s_tup gk (sa_cons s_str (sa_cons (s_isE rfl EC hpn hc hd hf hT (Y.kit c hra 37 (by decide) (by decide)) rfl Y.f_isinstance rfl (.inl rfl) rfl (Y.cls 37 (by decide))) sa_nil))) ?_
  refine sa_cons (s_tup gk (sa_cons s_str (sa_cons (s_isE rfl EC hpn hc hd hf hT (Y.kit c hra 38 (by decide) (by decide)) rfl Y.f_isinstance rfl (.inl rfl) rfl (Y.cls 38 (by decide))) sa_nil))) ?_
  refine sa_cons (s_tup gk (sa_cons s_str (sa_cons (s_isE rfl EC hpn hc hd hf hT (Y.kit c hra 39 (by decide) (by decide)) rfl Y.f_isinstance rfl (.inl rfl) rfl (Y.cls 39 (by decide))) sa_nil))) ?_
  refine sa_cons (s_tup gk (sa_cons s_str (sa_cons (s_isE rfl EC hpn hc hd hf hT (Y.kit c hra 40 (by decide) (by decide)) rfl Y.f_isinstance rfl (.inl rfl) rfl (Y.cls 40 (by decide))) sa_nil))) ?_
  refine sa_cons (s_tup gk (sa_cons s_str (sa_cons (s_isE rfl EC hpn hc hd hf hT (Y.kit c hra 41 (by decide) (by decide)) rfl Y.f_isinstance rfl (.inl rfl) rfl (Y.cls 41 (by decide))) sa_nil))) ?_
  refine sa_cons (s_tup gk (sa_cons s_str (sa_cons (s_isE rfl EC hpn hc hd hf hT (Y.kit c hra 42 (by decide) (by decide)) rfl Y.f_isinstance rfl (.inl rfl) rfl (Y.cls 42 (by decide))) sa_nil))) ?_
  refine sa_cons (s_tup gk (sa_cons s_str (sa_cons (s_isE rfl EC hpn hc hd hf hT (Y.kit c hra 43 (by decide) (by decide)) rfl Y.f_isinstance rfl (.inl rfl) rfl (Y.cls 43 (by decide))) sa_nil))) ?_
  refine sa_cons (s_tup gk (sa_cons s_str (sa_cons (s_isE rfl EC hpn hc hd hf hT (Y.kit c hra 44 (by decide) (by decide)) rfl Y.f_isinstance rfl (.inl rfl) rfl (Y.cls 44 (by decide))) sa_nil))) ?_
  refine sa_cons (s_tup gk (sa_cons s_str (sa_cons (s_isE rfl EC hpn hc hd hf hT (Y.kit c hra 45 (by decide) (by decide)) rfl Y.f_isinstance rfl (.inl rfl) rfl (Y.cls 45 (by decide))) sa_nil))) ?_
  refine sa_cons (s_tup gk (sa_cons s_str (sa_cons (s_isE rfl EC hpn hc hd hf hT (Y.kit c hra 46 (by decide) (by decide)) rfl Y.f_isinstance rfl (.inl rfl) rfl (Y.cls 46 (by decide))) sa_nil))) ?_
  refine sa_cons (s_tup gk (sa_cons s_str (sa_cons (s_isE rfl EC hpn hc hd hf hT (Y.kit c hra 47 (by decide) (by decide)) rfl Y.f_isinstance rfl (.inl rfl) rfl (Y.cls 47 (by decide))) sa_nil))) ?_
  refine sa_cons (s_tup gk (sa_cons s_str (sa_cons (s_isE rfl EC hpn hc hd hf hT (Y.kit c hra 48 (by decide) (by decide)) rfl Y.f_isinstance rfl (.inl rfl) rfl (Y.cls 48 (by decide))) sa_nil))) ?_
  refine sa_cons (s_tup gk (sa_cons s_str (sa_cons (s_isE rfl EC hpn hc hd hf hT (Y.kit c hra 49 (by decide) (by decide)) rfl Y.f_isinstance rfl (.inl rfl) rfl (Y.cls 49 (by decide))) sa_nil))) ?_
  refine sa_cons (s_tup gk (sa_cons s_str (sa_cons (s_isE rfl EC hpn hc hd hf hT (Y.kit c hra 50 (by decide) (by decide)) rfl Y.f_isinstance rfl (.inl rfl) rfl (Y.cls 50 (by decide))) sa_nil))) ?_
  refine sa_cons (s_tup gk (sa_cons s_str (sa_cons (s_isE rfl EC hpn hc hd hf hT (Y.kit c hra 51 (by decide) (by decide)) rfl Y.f_isinstance rfl (.inl rfl) rfl (Y.cls 51 (by decide))) sa_nil))) ?_
  refine sa_cons (s_tup gk (sa_cons s_str (sa_cons (s_isE rfl EC hpn hc hd hf hT (Y.kit c hra 52 (by decide) (by decide)) rfl Y.f_isinstance rfl (.inl rfl) rfl (Y.cls 52 (by decide))) sa_nil))) ?_
  refine sa_cons (s_tup gk (sa_cons s_str (sa_cons (s_isE rfl EC hpn hc hd hf hT (Y.kit c hra 53 (by decide) (by decide)) rfl Y.f_isinstance rfl (.inl rfl) rfl (Y.cls 53 (by decide))) sa_nil))) ?_
  refine sa_cons (s_tup gk (sa_cons s_str (sa_cons (s_isE rfl EC hpn hc hd hf hT (Y.kit c hra 54 (by decide) (by decide)) rfl Y.f_isinstance rfl (.inl rfl) rfl (Y.cls 54 (by decide))) sa_nil))) ?_
  refine sa_cons (s_tup gk (sa_cons s_str (sa_cons (s_isE rfl EC hpn hc hd hf hT (Y.kit c hra 55 (by decide) (by decide)) rfl Y.f_isinstance rfl (.inl rfl) rfl (Y.cls 55 (by decide))) sa_nil))) ?_
  refine sa_cons (s_tup gk (sa_cons s_str (sa_cons (s_isE rfl EC hpn hc hd hf hT (Y.kit c hra 56 (by decide) (by decide)) rfl Y.f_isinstance rfl (.inl rfl) rfl (Y.cls 56 (by decide))) sa_nil))) ?_
  refine sa_cons (s_tup gk (sa_cons s_str (sa_cons (s_isE rfl EC hpn hc hd hf hT (Y.kit c hra 57 (by decide) (by decide)) rfl Y.f_isinstance rfl (.inl rfl) rfl (Y.cls 57 (by decide))) sa_nil))) ?_
  refine sa_cons (s_tup gk (sa_cons s_str (sa_cons (s_isE rfl EC hpn hc hd hf hT (Y.kit c hra 58 (by decide) (by decide)) rfl Y.f_isinstance rfl (.inl rfl) rfl (Y.cls 58 (by decide))) sa_nil))) ?_
  refine sa_cons (s_tup gk (sa_cons s_str (sa_cons (s_isE rfl EC hpn hc hd hf hT (Y.kit c hra 59 (by decide) (by decide)) rfl Y.f_isinstance rfl (.inl rfl) rfl (Y.cls 59 (by decide))) sa_nil))) ?_
  refine sa_cons (s_tup gk (sa_cons s_str (sa_cons (s_isE rfl EC hpn hc hd hf hT (Y.kit c hra 60 (by decide) (by decide)) rfl Y.f_isinstance rfl (.inl rfl) rfl (Y.cls 60 (by decide))) sa_nil))) ?_
  refine sa_cons (s_tup gk (sa_cons s_str (sa_cons (s_isE rfl EC hpn hc hd hf hT (Y.kit c hra 61 (by decide) (by decide)) rfl Y.f_isinstance rfl (.inl rfl) rfl (Y.cls 61 (by decide))) sa_nil))) ?_
  exact sa_nil
def knownL (c : Nat) : Bool := raL.contains c
abbrev N_law_heard : List Str := ["call", "error", "row"]
abbrev A_law_heard : List Str := ["call"]
theorem sc_law_heard : FnScope N_law_heard A_law_heard (defScope s_law_heard) := ⟨rfl, rfl, rfl, by decide +kernel, rfl, by decide +kernel, by decide +kernel⟩
noncomputable def hsA (a : Addr) (c : Nat) (w : D) : MS := sRet (mTup (mCons (mJoin (pureM (.str " ")) (mLc (.name 2) [2] (mSeqL (mCallF 1 (runB 1 (m_law_classes a c)) (mCons (mVar 1) mNil))) rowT rowE)) (mCons (mWhat 1 a w) mNil)))
def hsF (c : Nat) (w : D) : MS := fun _ S => .rt (.tup [.str (clN.getD c ""), w]) (S ++ [.lst ((rowsOf c).map rowD), .lst [.str (clN.getD c "")]])
noncomputable def m_law_heard (f : Addr) (lam : Sto → ER D) : MS := sTry 1 3 knownL (sRet (mTup (mCons (pureM (.str "told")) (mCons (mAct 0 f lam) mNil)))) hsF
def F_law_heard : (Sto → ER D) → Fn := fun lam ds S => match ds with
  | [] => (match lam S with
    | .ok v S1 => .ok (.tup [.str "told", v]) S1
    | .ex c w S1 => if knownL c = true then .ok (.tup [.str (clN.getD c ""), w]) (S1 ++ [.lst ((rowsOf c).map rowD), .lst [.str (clN.getD c "")]]) else .bad
    | .bad => .bad)
  | _ => .bad
theorem rows_at (a : Addr) (c : Nat) (S : Sto) : ∀ l : List (Str × Nat), mRows a c l [some (.fn a)] S = .ok ((l.map fun r => (r.1, decide (c = r.2))).map rowD) S
  | [] => rfl
  | r :: l => by
    have ih := rows_at a c S l
    have e2 : (2 : Nat) ≤ sizeLine := by decide
    simp only [mRows, mCons, mTup, mNil, PI.bindM, pureM, mIsE, List.getElem?_cons_zero, if_true, List.length_cons, List.length_nil, Nat.zero_add, Nat.reduceAdd, if_pos e2, ih, List.map_cons, rowD]
theorem known_one : ∀ c ∈ raL, ((rowsOf c).filter (·.2)).map (·.1) = [clN.getD c ""] := by decide +kernel
theorem known_ok {c : Nat} (h : knownL c = true) : c ∈ raL := List.contains_iff_mem.mp h
theorem hsA_eq : ∀ a c w ρ S, knownL c = true → ρ.length = 3 → afterH 1 (hsA a c w (ρ.set 1 (some (.fn a))) S) = hsF c w ρ S := by
  intro a c w ρ S hk hl
  obtain ⟨x, y, z, rfl⟩ : ∃ x y z, ρ = [x, y, z] := by
    match ρ, hl with
    | [x, y, z], _ => exact ⟨x, y, z, rfl⟩
  have e2 : (2 : Nat) ≤ sizeLine := by decide
  have e3 : ((rowsOf c).map rowD).length ≤ sizeLine := by
    have : ((rowsOf c).map rowD).length = clR.length := by simp [rowsOf]
    rw [this]
    decide
  have e4 : (rowsOf c).length ≤ sizeLine := by simpa using e3
  have e5 := known_one c (known_ok hk)
  have e6 : ((rowsOf c).filter (·.2)).map (fun r => D.str r.1) = [.str (clN.getD c "")] := by
    have := congrArg (List.map D.str) e5
    simpa using this
  have e7 : (clN.getD c "").length + (" " : Str).length ≤ 16777216 := (by decide +kernel : ∀ c ∈ raL, (clN.getD c "").length + (" " : Str).length ≤ 16777216) c (known_ok hk)
  have k1 : (S ++ [O.lst ((rowsOf c).map rowD)])[S.length]? = some (.lst ((rowsOf c).map rowD)) := by simp
  have r1 := lc_rows (x := x) (y := some (.fn a)) (z := none) (k := S.length) (k2 := (S ++ [O.lst ((rowsOf c).map rowD)]).length) (all := (rowsOf c).map rowD) (by simp) (rowsOf c) [] (S ++ [O.lst ((rowsOf c).map rowD)] ++ [.lst []]) (by simp) (by simp) (by simpa using e4)
  rw [e6] at r1
  have r2 : runB 1 (m_law_classes a c) [.fn a] S = .ok (.loc S.length) (S ++ [.lst ((rowsOf c).map rowD)]) := by
    simp only [runB, m_law_classes, sRet, bindS, mLst, PI.bindM, List.map_cons, List.map_nil, List.length_cons, List.length_nil, Nat.sub_self, List.replicate_zero, List.append_nil, Nat.zero_add, rows_at]
    rw [if_pos (by exact e3)]
    rfl
  have r3 : wipeR [x, some (D.fn a), z] [2] = [x, some (D.fn a), none] := rfl
  have jn : Txt.join " " [clN.getD c ""] = clN.getD c "" := rfl
  simp only [hsA, sRet, bindS, mTup, mCons, mNil, mJoin, mLc, mSeqL, mCallF, PI.bindM, pureM, mVar, mWhat, List.set_cons_succ, List.set_cons_zero, List.getElem?_cons_succ, List.getElem?_cons_zero, List.length_cons, List.length_nil, Nat.zero_add, if_true, isStrD, r2, seqIter, seqD, k1, r3, r1]
  simp only [opJoin, seqD, strsD, hsF]
  generalize clN.getD c "" = zz at *
  simp [afterH, e7, e2, jn, seqD, strsD, opJoin]
theorem hF_law_heard : ∀ f lam ds S, ds.length = 0 → runB 3 (m_law_heard f lam) (.fn f :: ds) S = F_law_heard lam ds S := by
  intro f lam ds S hl
  have e2 : (2 : Nat) ≤ sizeLine := by decide
  cases ds with
  | nil =>
    simp only [runB, m_law_heard, sTry, sRet, bindS, mTup, mCons, mNil, PI.bindM, pureM, mAct, List.map_cons, List.map_nil, List.length_cons, List.length_nil, Nat.zero_add, List.cons_append, List.getElem?_cons_zero, if_true, F_law_heard]
    cases lam S with
    | ok v S1 => simp [e2]
    | ex c w S1 =>
      by_cases hk : knownL c = true
      · simp [hk, hsF]
      · simp [hk]
    | bad => rfl
  | cons d ds => cases hl
theorem ok_law_heard {w : World} {mg : Str → Option Value} {base : Heap} {g : G} (Y : LawF w mg base g.K g.C) (gk : GOk g) : LDef Pg w mg base g 9 8 "_law_heard" 0 F_law_heard := by
  obtain ⟨fa, fd, FD, hm⟩ := Y.d_law_heard
  refine ldef_rd (N := N_law_heard) (ps := A_law_heard) (m := m_law_heard) gk FD hm sc_law_heard rfl (fun _ _ _ _ _ _ us hl => match us, hl with | [_], _ => rfl) hF_law_heard fun cdv A outer s H E π f lam st bx L => ?_
  refine b_one (s_try (hs := hsF) (hsA := hsA) (i := 1) (nn := 3) (known := knownL) (RA := g.C 0) rfl rfl rfl sc_law_heard.nd rfl rfl ⟨rfl, by decide, .inl (Y.cls 0 (by decide))⟩ bx.tk (fun W' pn xe tk po => ?_) (fun c hk => ?_) (fun a oe c dx pn π1 H1 wd wv hk hz hfl hw hx hpre => ?_) hsA_eq)
  · exact b_one (s_ret (s_tup (liveG_ok gk) (sa_cons s_str (sa_cons (s_act st rfl (live_tr rfl L) (bx.hr.mono (by decide)) tk rfl (.inl rfl)) sa_nil))))
  · obtain ⟨fI, EF⟩ := Y.exc c (known_ok hk)
    exact EF.exm
  · obtain ⟨fI, EF⟩ := Y.exc c (known_ok hk)
    have gk2 := liveG_ok (π0 := π1) (H0 := H1) (liveG_ok (π0 := π) (H0 := H) gk)
    have hot : L2H.Hot1 ((cxOf (L2N.CX Pg w) Pg w g.K mg base N_law_heard "_law_heard" (defScope s_law_heard) fa cdv A outer s H E).suite a ((a, oe) :: pn)).A (a, oe) := by
      obtain ⟨vs, hv⟩ := hfl
      exact ⟨rfl, vs, hv, hz.2.2 vs hv⟩
    refine b_one (s_ret (s_tup gk2 (sa_cons (s_join rfl s_str (s_lcHotX gk2 rfl [(("row" : Str), 2)] rfl ⟨(a, oe), hot, List.mem_cons_self ..⟩ sc_law_heard.nd
      (s_callP (ok_law_classes (a := a) (dx := dx) (g := liveG (liveG g π H) π1 H1) Y gk2 (known_ok hk) hz.1 hz.2.1 hfl (fun H2 h2 => ⟨_, h2.2 _ _ hx trivial⟩)) rfl (L2H.roomH_mark (bx.hr.mono (by decide)) _) hot (List.mem_cons_self ..) takesN0 rfl (sa_cons (s_var (i := 1) rfl (.inl rfl)) sa_nil))
      (blkOk_by (N := N_law_heard) (sc := defScope s_law_heard) (own := [(("row" : Str), 2)]) (by decide +kernel)) (by simp [Pat.names]) (fun _ _ _ _ _ => p_name (i := 2) sc_law_heard.nd rfl (.inl rfl) (.inr rfl))
      (fun _ _ _ _ _ => ts_one (st_val (s_ix rfl (s_var (i := 2) rfl (.inl rfl)) s_int (fun _ _ => rfl)))) (fun _ _ _ _ _ => s_ix rfl (s_var (i := 2) rfl (.inl rfl)) s_int (fun _ _ => rfl)))) (sa_cons (s_what (g := liveG g π H) rfl EF.xf EF.sup.wh hz.zc hfl hw hx rfl (.inl rfl) hpre) sa_nil))))

/-! ### _law_tells -/
abbrev N_law_tells : List Str := ["call", "due"]
abbrev A_law_tells : List Str := ["call", "due"]
theorem sc_law_tells : FnScope N_law_tells A_law_tells (defScope s_law_tells) := ⟨rfl, rfl, rfl, by decide +kernel, rfl, by decide +kernel, by decide +kernel⟩
noncomputable def m_law_tells (f : Addr) (lam : Sto → ER D) : MS := sRet (mCallF 2 f_law_same (mCons (mCallLive 0 f lam 0 F_law_heard mNil) (mCons (mTup (mCons (pureM (.str "told")) (mCons (mVar 1) mNil))) mNil)))
noncomputable def F_law_tells : (Sto → ER D) → Fn := fun lam ds S => runB 2 (m_law_tells 0 lam) (.fn 0 :: ds) S
theorem hF_law_tells : ∀ f lam ds S, ds.length = 1 → runB 2 (m_law_tells f lam) (.fn f :: ds) S = F_law_tells lam ds S := by
  intro f lam ds S hl
  match ds, hl with
  | [_], _ => simp only [F_law_tells, m_law_tells, runB_ret, rho0, mAndV, mOrV, mNotV, mOp, mCallF, mCallLive, mAct, mCons, mNil, mTup, mVar, pureM, PI.bindM, List.map_cons, List.map_nil, List.cons_append, List.nil_append, List.getElem?_cons_zero, List.getElem?_cons_succ, if_true] <;> (split <;> first | rfl | (split <;> first | rfl | simp only [mOp, mCallF, mCallLive, mAct, mCons, mNil, mTup, mVar, pureM, PI.bindM, List.getElem?_cons_zero, List.getElem?_cons_succ, if_true]))
theorem ok_law_tells {w : World} {mg : Str → Option Value} {base : Heap} {g : G} (Y : LawF w mg base g.K g.C) (gk : GOk g) : LDef Pg w mg base g 10 8 "_law_tells" 1 F_law_tells := by
  obtain ⟨fa, fd, FD, hm⟩ := Y.d_law_tells
  refine ldef_rd (N := N_law_tells) (ps := A_law_tells) (m := m_law_tells) gk FD hm sc_law_tells rfl (fun _ _ _ _ _ _ us hl => match us, hl with | [_, _], _ => rfl) hF_law_tells fun cdv A outer s H E π f lam st bx L => ?_
  have gk2 := liveG_ok (π0 := π) (H0 := H) gk
  exact b_one (s_ret (s_call (ok_law_same Y gk2) rfl (bx.hr.mono (by decide)) bx.tk rfl (sa_cons (s_callLive st rfl L (ok_law_heard Y gk) (bx.hr.mono (by decide)) bx.tk rfl (i := 0) rfl (.inl rfl) sa_nil) (sa_cons (s_tup gk2 (sa_cons s_str (sa_cons (s_var (i := 1) rfl (.inl rfl)) sa_nil))) sa_nil))))
/-! ### _law_meets -/
abbrev N_law_meets : List Str := ["call", "due"]
abbrev A_law_meets : List Str := ["call", "due"]
theorem sc_law_meets : FnScope N_law_meets A_law_meets (defScope s_law_meets) := ⟨rfl, rfl, rfl, by decide +kernel, rfl, by decide +kernel, by decide +kernel⟩
noncomputable def m_law_meets (f : Addr) (lam : Sto → ER D) : MS := sRet (mAndV (mOp opNe (mOp opIx (mVar 1) (pureM (.int 0))) (pureM (.str "told"))) (mCallF 2 f_law_same (mCons (mCallLive 0 f lam 0 F_law_heard mNil) (mCons (mVar 1) mNil))))
noncomputable def F_law_meets : (Sto → ER D) → Fn := fun lam ds S => runB 2 (m_law_meets 0 lam) (.fn 0 :: ds) S
theorem hF_law_meets : ∀ f lam ds S, ds.length = 1 → runB 2 (m_law_meets f lam) (.fn f :: ds) S = F_law_meets lam ds S := by
  intro f lam ds S hl
  match ds, hl with
  | [_], _ => simp only [F_law_meets, m_law_meets, runB_ret, rho0, mAndV, mOrV, mNotV, mOp, mCallF, mCallLive, mAct, mCons, mNil, mTup, mVar, pureM, PI.bindM, List.map_cons, List.map_nil, List.cons_append, List.nil_append, List.getElem?_cons_zero, List.getElem?_cons_succ, if_true] <;> (split <;> first | rfl | (split <;> first | rfl | simp only [mOp, mCallF, mCallLive, mAct, mCons, mNil, mTup, mVar, pureM, PI.bindM, List.getElem?_cons_zero, List.getElem?_cons_succ, if_true]))
theorem ok_law_meets {w : World} {mg : Str → Option Value} {base : Heap} {g : G} (Y : LawF w mg base g.K g.C) (gk : GOk g) : LDef Pg w mg base g 10 8 "_law_meets" 1 F_law_meets := by
  obtain ⟨fa, fd, FD, hm⟩ := Y.d_law_meets
  refine ldef_rd (N := N_law_meets) (ps := A_law_meets) (m := m_law_meets) gk FD hm sc_law_meets rfl (fun _ _ _ _ _ _ us hl => match us, hl with | [_, _], _ => rfl) hF_law_meets fun cdv A outer s H E π f lam st bx L => ?_
  have gk2 := liveG_ok (π0 := π) (H0 := H) gk
  exact b_one (s_ret (s_and (s_cmp (op_neD bx.hr.units) sim_ne (s_ix rfl (s_var (i := 1) rfl (.inl rfl)) s_int (fun _ _ => rfl)) s_str (by rfl)) (s_one (s_call (ok_law_same Y gk2) rfl (bx.hr.mono (by decide)) bx.tk rfl (sa_cons (s_callLive st rfl L (ok_law_heard Y gk) (bx.hr.mono (by decide)) bx.tk rfl (i := 0) rfl (.inl rfl) sa_nil) (sa_cons (s_var (i := 1) rfl (.inl rfl)) sa_nil))))))
/-! ### _law_pool -/
abbrev N_law_pool : List Str := ["script", "k", "cell", "big", "mixed"]
abbrev A_law_pool : List Str := ["script", "k"]
theorem sc_law_pool : FnScope N_law_pool A_law_pool (defScope s_law_pool) := ⟨rfl, rfl, rfl, by decide +kernel, rfl, by decide +kernel, by decide +kernel⟩
noncomputable def m_law_pool : MS := sSeq (sAsg (.name 2) (pureM (.int 0))) (sSeq (sIf (mTest (mOp opLt (mVar 1) (mCall fLen (mCons (mVar 0) mNil)))) (sAsg (.name 2) (mOp opIx (mVar 0) (mVar 1))) (sIf (mTest (mOp opNe (mVar 0) (mLst mNil))) (sAsg (.name 2) (mOp opIx (mVar 0) (pureM (.int 0)))) sNil)) (sSeq (sAsg (.name 3) (mCall fMax2 (mCons (mCall fInt (mCons (mVar 2) mNil)) (mCons (mCall fInt (mCons (mOp opSub (mNeg (pureM (.int 1))) (mVar 2)) mNil)) mNil)))) (sSeq (sAsg (.name 4) (mOp opMod (mCall fInt (mCons (mOp opMul (mOp opAdd (mOp opAdd (mOp opAdd (mOp opMod (mCall fInt (mCons (mVar 3) mNil)) (pureM (.int 2147483629))) (mOp opMul (mOp opMul (pureM (.int 7919)) (mVar 1)) (mVar 1))) (mOp opMul (pureM (.int 31)) (mVar 1))) (pureM (.int 17))) (pureM (.int 48271))) mNil)) (pureM (.int 2147483647)))) (sRet (mLst (mCons (mOp opMul (mVar 3) (mCall fInt (mCons (mAndV (mOp opGe (mVar 3) (mOp opPow (pureM (.int 10)) (pureM (.int 18)))) (mOp opLt (mVar 1) (mCall fLen (mCons (mVar 0) mNil)))) mNil))) (mCons (mVar 4) mNil)))))))
noncomputable def f_law_pool : Fn := runB 5 m_law_pool
theorem ok_law_pool {w : World} {mg : Str → Option Value} {base : Heap} {g : G} (Y : LawF w mg base g.K g.C) (gk : GOk g) : DefOk Pg w mg base g 1 "_law_pool" 2 f_law_pool := by
  obtain ⟨fa, fd, FD, hm⟩ := Y.d_law_pool
  refine def_rd (N := N_law_pool) (ps := A_law_pool) (m := m_law_pool) FD hm sc_law_pool (fun _ _ _ _ _ _ us hl => match us, hl with | [_, _], _ => rfl) fun cdv A outer s H E bx => ?_
  exact b_cons (s_set (i := 2) sc_law_pool.nd rfl (.inl rfl) s_int (.inl rfl))
      (b_cons (s_if (st_cmp op_ltAll sim_lt (s_var (i := 1) rfl (.inl rfl)) (s_callB call_len sim_len rfl Y.f_len (by decide +kernel) (sa_cons (s_var (i := 0) rfl (.inl rfl)) sa_nil)) (by rfl)) (b_one (s_set (i := 2) sc_law_pool.nd rfl (.inl rfl) (s_ix rfl (s_var (i := 0) rfl (.inl rfl)) (s_var (i := 1) rfl (.inl rfl)) (fun _ _ => rfl)) (.inl rfl))) (b_one (s_if (st_cmp (op_neD bx.hr.units) sim_ne (s_var (i := 0) rfl (.inl rfl)) (s_lst gk sa_nil) (by rfl)) (b_one (s_set (i := 2) sc_law_pool.nd rfl (.inl rfl) (s_ix rfl (s_var (i := 0) rfl (.inl rfl)) s_int (fun _ _ => rfl)) (.inl rfl))) b_nil)))
      (b_cons (s_set (i := 3) sc_law_pool.nd rfl (.inl rfl) (s_callB (call_max2 rfl) sim_max2 rfl Y.f_max (by decide +kernel) (sa_cons (s_callTy call_int1 sim_int rfl Y.f_int (by decide +kernel) (sa_cons (s_var (i := 2) rfl (.inl rfl)) sa_nil)) (sa_cons (s_callTy call_int1 sim_int rfl Y.f_int (by decide +kernel) (sa_cons (s_op op_sub sim_sub (s_neg s_int) (s_var (i := 2) rfl (.inl rfl))) sa_nil)) sa_nil))) (.inl rfl))
      (b_cons (s_set (i := 4) sc_law_pool.nd rfl (.inl rfl) (s_op op_modN sim_mod (s_callTy call_int1 sim_int rfl Y.f_int (by decide +kernel) (sa_cons (s_op op_mulAll (sim_mul gk) (s_op op_addAll (sim_add gk) (s_op op_addAll (sim_add gk) (s_op op_addAll (sim_add gk) (s_op op_modN sim_mod (s_callTy call_int1 sim_int rfl Y.f_int (by decide +kernel) (sa_cons (s_var (i := 3) rfl (.inl rfl)) sa_nil)) s_int) (s_op op_mulAll (sim_mul gk) (s_op op_mulAll (sim_mul gk) s_int (s_var (i := 1) rfl (.inl rfl))) (s_var (i := 1) rfl (.inl rfl)))) (s_op op_mulAll (sim_mul gk) s_int (s_var (i := 1) rfl (.inl rfl)))) s_int) s_int) sa_nil)) s_int) (.inl rfl))
      (b_one (s_ret (s_lst gk (sa_cons (s_op op_mulAll (sim_mul gk) (s_var (i := 3) rfl (.inl rfl)) (s_callTy call_int1 sim_int rfl Y.f_int (by decide +kernel) (sa_cons (s_and (s_cmp op_ge sim_ge (s_var (i := 3) rfl (.inl rfl)) (s_op op_pow sim_pow s_int s_int) (by rfl)) (s_one (s_cmp op_ltAll sim_lt (s_var (i := 1) rfl (.inl rfl)) (s_callB call_len sim_len rfl Y.f_len (by decide +kernel) (sa_cons (s_var (i := 0) rfl (.inl rfl)) sa_nil)) (by rfl)))) sa_nil))) (sa_cons (s_var (i := 4) rfl (.inl rfl)) sa_nil))))))))
/-! ### _law_take -/
abbrev N_law_take : List Str := ["jar", "top", "drawn"]
abbrev A_law_take : List Str := ["jar", "top"]
theorem sc_law_take : FnScope N_law_take A_law_take (defScope s_law_take) := ⟨rfl, rfl, rfl, by decide +kernel, rfl, by decide +kernel, by decide +kernel⟩
noncomputable def m_law_take : MS := sSeq (sIf (mTest (mOp opGt (mOp opIx (mVar 0) (pureM (.int 0))) (pureM (.int 0)))) (sSeq (sAsg (.name 2) (mOp opMod (mCall fInt (mCons (mOp opIx (mVar 0) (pureM (.int 0))) mNil)) (mVar 1))) (sSeq (sSetIx (mVar 0) (pureM (.int 0)) (mOp opFdiv (mOp opIx (mVar 0) (pureM (.int 0))) (mVar 1))) (sRet (mVar 2)))) sNil) (sSeq (sSetIx (mVar 0) (pureM (.int 1)) (mOp opMod (mCall fInt (mCons (mOp opAdd (mOp opMul (mOp opIx (mVar 0) (pureM (.int 1))) (pureM (.int 39373))) (pureM (.int 7))) mNil)) (pureM (.int 2147483647)))) (sRet (mOp opMod (mCall fInt (mCons (mOp opFdiv (mOp opMod (mCall fInt (mCons (mOp opMul (mOp opIx (mVar 0) (pureM (.int 1))) (mOp opIx (mVar 0) (pureM (.int 1)))) mNil)) (pureM (.int 2147483629))) (pureM (.int 32))) mNil)) (mVar 1))))
noncomputable def f_law_take : Fn := runB 3 m_law_take
theorem ok_law_take {w : World} {mg : Str → Option Value} {base : Heap} {g : G} (Y : LawF w mg base g.K g.C) (gk : GOk g) : DefOk Pg w mg base g 1 "_law_take" 2 f_law_take := by
  obtain ⟨fa, fd, FD, hm⟩ := Y.d_law_take
  refine def_rd (N := N_law_take) (ps := A_law_take) (m := m_law_take) FD hm sc_law_take (fun _ _ _ _ _ _ us hl => match us, hl with | [_, _], _ => rfl) fun cdv A outer s H E bx => ?_
  exact b_cons (s_if (st_cmp op_gt sim_gt (s_ix rfl (s_var (i := 0) rfl (.inl rfl)) s_int (fun _ _ => rfl)) s_int (by rfl)) (b_cons (s_set (i := 2) sc_law_take.nd rfl (.inl rfl) (s_op op_modN sim_mod (s_callTy call_int1 sim_int rfl Y.f_int (by decide +kernel) (sa_cons (s_ix rfl (s_var (i := 0) rfl (.inl rfl)) s_int (fun _ _ => rfl)) sa_nil)) (s_var (i := 1) rfl (.inl rfl))) (.inl rfl))
      (b_cons (s_setIx gk (s_var (i := 0) rfl (.inl rfl)) s_int (s_op op_fdivAll sim_fdiv (s_ix rfl (s_var (i := 0) rfl (.inl rfl)) s_int (fun _ _ => rfl)) (s_var (i := 1) rfl (.inl rfl))))
      (b_one (s_ret (s_var (i := 2) rfl (.inl rfl)))))) b_nil)
      (b_cons (s_setIx gk (s_var (i := 0) rfl (.inl rfl)) s_int (s_op op_modN sim_mod (s_callTy call_int1 sim_int rfl Y.f_int (by decide +kernel) (sa_cons (s_op op_addAll (sim_add gk) (s_op op_mulAll (sim_mul gk) (s_ix rfl (s_var (i := 0) rfl (.inl rfl)) s_int (fun _ _ => rfl)) s_int) s_int) sa_nil)) s_int))
      (b_one (s_ret (s_op op_modN sim_mod (s_callTy call_int1 sim_int rfl Y.f_int (by decide +kernel) (sa_cons (s_op op_fdivAll sim_fdiv (s_op op_modN sim_mod (s_callTy call_int1 sim_int rfl Y.f_int (by decide +kernel) (sa_cons (s_op op_mulAll (sim_mul gk) (s_ix rfl (s_var (i := 0) rfl (.inl rfl)) s_int (fun _ _ => rfl)) (s_ix rfl (s_var (i := 0) rfl (.inl rfl)) s_int (fun _ _ => rfl))) sa_nil)) s_int) s_int) sa_nil)) (s_var (i := 1) rfl (.inl rfl))))))
/-! ### _law_one -/
abbrev N_law_one : List Str := ["jar", "things"]
abbrev A_law_one : List Str := ["jar", "things"]
theorem sc_law_one : FnScope N_law_one A_law_one (defScope s_law_one) := ⟨rfl, rfl, rfl, by decide +kernel, rfl, by decide +kernel, by decide +kernel⟩
noncomputable def m_law_one : MS := sRet (mOp opIx (mVar 1) (mCallF 2 f_law_take (mCons (mVar 0) (mCons (mCall fLen (mCons (mVar 1) mNil)) mNil))))
noncomputable def f_law_one : Fn := runB 2 m_law_one
theorem ok_law_one {w : World} {mg : Str → Option Value} {base : Heap} {g : G} (Y : LawF w mg base g.K g.C) (gk : GOk g) : DefOk Pg w mg base g 2 "_law_one" 2 f_law_one := by
  obtain ⟨fa, fd, FD, hm⟩ := Y.d_law_one
  refine def_rd (N := N_law_one) (ps := A_law_one) (m := m_law_one) FD hm sc_law_one (fun _ _ _ _ _ _ us hl => match us, hl with | [_, _], _ => rfl) fun cdv A outer s H E bx => ?_
  exact b_one (s_ret (s_ix rfl (s_var (i := 1) rfl (.inl rfl)) (s_call (ok_law_take Y gk) rfl (bx.hr.mono (by decide)) bx.tk rfl (sa_cons (s_var (i := 0) rfl (.inl rfl)) (sa_cons (s_callB call_len sim_len rfl Y.f_len (by decide +kernel) (sa_cons (s_var (i := 1) rfl (.inl rfl)) sa_nil)) sa_nil))) (fun _ _ => rfl)))
/-! ### _law_steps -/
abbrev N_law_steps : List Str := ["votes", "need", "many", "found", "i", "total", "size", "turn"]
abbrev A_law_steps : List Str := ["votes", "need"]
theorem sc_law_steps : FnScope N_law_steps A_law_steps (defScope s_law_steps) := ⟨rfl, rfl, rfl, by decide +kernel, rfl, by decide +kernel, by decide +kernel⟩
noncomputable def m_law_steps : MS := sSeq (sPar 2 3 (mCons (mCall fLen (mCons (mVar 0) mNil)) (mCons (mLst mNil) mNil))) (sSeq (sFor (.name 4) (mRange1 (mCons (mVar 2) mNil)) (sSeq (sAsg (.tup [.name 5, .name 6]) (mTup (mCons (pureM (.int 0)) (mCons (pureM (.int 0)) mNil)))) (sSeq (sFor (.name 7) (mRange1 (mCons (mVar 2) mNil)) (sSeq (sIf (mTest (mOp opGe (mVar 5) (mVar 1))) sBreak sNil) (sPar 5 6 (mCons (mOp opAdd (mVar 5) (mOp opIx (mVar 0) (mOp opMod (mCall fInt (mCons (mOp opAdd (mVar 4) (mVar 6)) mNil)) (mVar 2)))) (mCons (mOp opAdd (mVar 6) (pureM (.int 1))) mNil))))) (sExpr (mAppend (mVar 3) (mVar 6)))))) (sRet (mVar 3)))
noncomputable def f_law_steps : Fn := runB 8 m_law_steps
theorem ok_law_steps {w : World} {mg : Str → Option Value} {base : Heap} {g : G} (Y : LawF w mg base g.K g.C) (gk : GOk g) : DefOk Pg w mg base g 1 "_law_steps" 2 f_law_steps := by
  obtain ⟨fa, fd, FD, hm⟩ := Y.d_law_steps
  refine def_rd (N := N_law_steps) (ps := A_law_steps) (m := m_law_steps) FD hm sc_law_steps (fun _ _ _ _ _ _ us hl => match us, hl with | [_, _], _ => rfl) fun cdv A outer s H E bx => ?_
  exact b_cons (s_par (i := 2) (j := 3) rfl sc_law_steps.nd rfl rfl (by decide) rfl rfl (sa_cons (s_callB call_len sim_len rfl Y.f_len (by decide +kernel) (sa_cons (s_var (i := 0) rfl (.inl rfl)) sa_nil)) (sa_cons (s_lst gk sa_nil) sa_nil)) (by rfl))
      (b_cons (s_for bx.po rfl (i_range1 rfl Y.f_range (sa_cons (s_var (i := 2) rfl (.inl rfl)) sa_nil)) (p_name (i := 4) sc_law_steps.nd rfl (.inl rfl) (.inl rfl)) (b_cons (s_asg (s_tup gk (sa_cons s_int (sa_cons s_int sa_nil))) (p_tup rfl rfl (ps_cons' (p_name (i := 5) sc_law_steps.nd rfl (.inl rfl) (.inl rfl)) (ps_cons' (p_name (i := 6) sc_law_steps.nd rfl (.inl rfl) (.inl rfl)) (ps_nil')))))
      (b_cons (s_for bx.po rfl (i_range1 rfl Y.f_range (sa_cons (s_var (i := 2) rfl (.inl rfl)) sa_nil)) (p_name (i := 7) sc_law_steps.nd rfl (.inl rfl) (.inl rfl)) (b_cons (s_if (st_cmp op_ge sim_ge (s_var (i := 5) rfl (.inl rfl)) (s_var (i := 1) rfl (.inl rfl)) (by rfl)) (b_one s_break) b_nil)
      (b_one (s_par (i := 5) (j := 6) rfl sc_law_steps.nd rfl rfl (by decide) rfl rfl (sa_cons (s_op op_addAll (sim_add gk) (s_var (i := 5) rfl (.inl rfl)) (s_ix rfl (s_var (i := 0) rfl (.inl rfl)) (s_op op_modN sim_mod (s_callTy call_int1 sim_int rfl Y.f_int (by decide +kernel) (sa_cons (s_op op_addAll (sim_add gk) (s_var (i := 4) rfl (.inl rfl)) (s_var (i := 6) rfl (.inl rfl))) sa_nil)) (s_var (i := 2) rfl (.inl rfl))) (fun _ _ => rfl))) (sa_cons (s_op op_addAll (sim_add gk) (s_var (i := 6) rfl (.inl rfl)) s_int) sa_nil)) (by rfl)))))
      (b_one (s_expr (s_append gk rfl (s_var (i := 3) rfl (.inl rfl)) (s_var (i := 6) rfl (.inl rfl))))))))
      (b_one (s_ret (s_var (i := 3) rfl (.inl rfl)))))
/-! ### _law_walk -/
abbrev N_law_walk : List Str := ["votes", "need", "many", "steps_v", "at", "turn", "first", "starts", "gone"]
abbrev A_law_walk : List Str := ["votes", "need"]
theorem sc_law_walk : FnScope N_law_walk A_law_walk (defScope s_law_walk) := ⟨rfl, rfl, rfl, by decide +kernel, rfl, by decide +kernel, by decide +kernel⟩
noncomputable def m_law_walk : MS := sSeq (sIf (mTest (mOp opLt (mCall fSum (mCons (mVar 0) mNil)) (mVar 1))) (sRet (pureM .non)) sNil) (sSeq (sPar3 2 3 4 (mCons (mCall fLen (mCons (mVar 0) mNil)) (mCons (mCallF 2 f_law_steps (mCons (mVar 0) (mCons (mVar 1) mNil))) (mCons (pureM (.int 0)) mNil)))) (sSeq (sFor (.name 5) (mRange1 (mCons (mVar 2) mNil)) (sAsg (.name 4) (mOp opMod (mCall fInt (mCons (mOp opAdd (mVar 4) (mOp opIx (mVar 3) (mVar 4))) mNil)) (mVar 2)))) (sSeq (sPar3 6 7 8 (mCons (mVar 4) (mCons (mLst mNil) (mCons (pureM (.int 0)) mNil)))) (sSeq (sFor (.name 5) (mRange1 (mCons (mVar 2) mNil)) (sSeq (sExpr (mAppend (mVar 7) (mVar 4))) (sSeq (sAsg (.name 8) (mOp opAdd (mVar 8) (mOp opIx (mVar 3) (mVar 4)))) (sSeq (sAsg (.name 4) (mOp opMod (mCall fInt (mCons (mOp opAdd (mVar 4) (mOp opIx (mVar 3) (mVar 4))) mNil)) (mVar 2))) (sIf (mTest (mOp opEq (mVar 4) (mVar 6))) sBreak sNil))))) (sRet (mTup (mCons (mCall fTuple (mCons (mCall fSorted (mCons (mVar 7) mNil)) mNil)) (mCons (mOp opFdiv (mVar 8) (mVar 2)) mNil))))))))
noncomputable def f_law_walk : Fn := runB 9 m_law_walk
theorem ok_law_walk {w : World} {mg : Str → Option Value} {base : Heap} {g : G} (Y : LawF w mg base g.K g.C) (gk : GOk g) : DefOk Pg w mg base g 2 "_law_walk" 2 f_law_walk := by
  obtain ⟨fa, fd, FD, hm⟩ := Y.d_law_walk
  refine def_rd (N := N_law_walk) (ps := A_law_walk) (m := m_law_walk) FD hm sc_law_walk (fun _ _ _ _ _ _ us hl => match us, hl with | [_, _], _ => rfl) fun cdv A outer s H E bx => ?_
  exact b_cons (s_if (st_cmp op_ltAll sim_lt (s_callB (cr_sumAll rfl) sim_sum rfl Y.f_sum (by decide +kernel) (sa_cons (s_var (i := 0) rfl (.inl rfl)) sa_nil)) (s_var (i := 1) rfl (.inl rfl)) (by rfl)) (b_one (s_ret s_non)) b_nil)
      (b_cons (s_par3 (i := 2) (j := 3) (l := 4) rfl sc_law_walk.nd rfl rfl rfl (by decide) (by decide) (by decide) rfl rfl rfl (sa_cons (s_callB call_len sim_len rfl Y.f_len (by decide +kernel) (sa_cons (s_var (i := 0) rfl (.inl rfl)) sa_nil)) (sa_cons (s_call (ok_law_steps Y gk) rfl (bx.hr.mono (by decide)) bx.tk rfl (sa_cons (s_var (i := 0) rfl (.inl rfl)) (sa_cons (s_var (i := 1) rfl (.inl rfl)) sa_nil))) (sa_cons s_int sa_nil))) (by rfl))
      (b_cons (s_for bx.po rfl (i_range1 rfl Y.f_range (sa_cons (s_var (i := 2) rfl (.inl rfl)) sa_nil)) (p_name (i := 5) sc_law_walk.nd rfl (.inl rfl) (.inl rfl)) (b_one (s_set (i := 4) sc_law_walk.nd rfl (.inl rfl) (s_op op_modN sim_mod (s_callTy call_int1 sim_int rfl Y.f_int (by decide +kernel) (sa_cons (s_op op_addAll (sim_add gk) (s_var (i := 4) rfl (.inl rfl)) (s_ix rfl (s_var (i := 3) rfl (.inl rfl)) (s_var (i := 4) rfl (.inl rfl)) (fun _ _ => rfl))) sa_nil)) (s_var (i := 2) rfl (.inl rfl))) (.inl rfl))))
      (b_cons (s_par3 (i := 6) (j := 7) (l := 8) rfl sc_law_walk.nd rfl rfl rfl (by decide) (by decide) (by decide) rfl rfl rfl (sa_cons (s_var (i := 4) rfl (.inl rfl)) (sa_cons (s_lst gk sa_nil) (sa_cons s_int sa_nil))) (by rfl))
      (b_cons (s_for bx.po rfl (i_range1 rfl Y.f_range (sa_cons (s_var (i := 2) rfl (.inl rfl)) sa_nil)) (p_name (i := 5) sc_law_walk.nd rfl (.inl rfl) (.inl rfl)) (b_cons (s_expr (s_append gk rfl (s_var (i := 7) rfl (.inl rfl)) (s_var (i := 4) rfl (.inl rfl))))
      (b_cons (s_set (i := 8) sc_law_walk.nd rfl (.inl rfl) (s_op op_addAll (sim_add gk) (s_var (i := 8) rfl (.inl rfl)) (s_ix rfl (s_var (i := 3) rfl (.inl rfl)) (s_var (i := 4) rfl (.inl rfl)) (fun _ _ => rfl))) (.inl rfl))
      (b_cons (s_set (i := 4) sc_law_walk.nd rfl (.inl rfl) (s_op op_modN sim_mod (s_callTy call_int1 sim_int rfl Y.f_int (by decide +kernel) (sa_cons (s_op op_addAll (sim_add gk) (s_var (i := 4) rfl (.inl rfl)) (s_ix rfl (s_var (i := 3) rfl (.inl rfl)) (s_var (i := 4) rfl (.inl rfl)) (fun _ _ => rfl))) sa_nil)) (s_var (i := 2) rfl (.inl rfl))) (.inl rfl))
      (b_one (s_if (st_cmp (op_eqD bx.hr.units) sim_eq (s_var (i := 4) rfl (.inl rfl)) (s_var (i := 6) rfl (.inl rfl)) (by rfl)) (b_one s_break) b_nil))))))
      (b_one (s_ret (s_tup gk (sa_cons (s_callTy call_tuple_of (sim_tuple gk) rfl Y.f_tuple (by decide +kernel) (sa_cons (s_callB cr_sortedI (sim_sorted gk) rfl Y.f_sorted (by decide +kernel) (sa_cons (s_var (i := 7) rfl (.inl rfl)) sa_nil)) sa_nil)) (sa_cons (s_op op_fdivAll sim_fdiv (s_var (i := 8) rfl (.inl rfl)) (s_var (i := 2) rfl (.inl rfl))) sa_nil)))))))))
/-! ### _law_ring_crew_size -/
abbrev N_law_ring_crew_size : List Str := ["votes", "need", "found"]
abbrev A_law_ring_crew_size : List Str := ["votes", "need"]
theorem sc_law_ring_crew_size : FnScope N_law_ring_crew_size A_law_ring_crew_size (defScope s_law_ring_crew_size) := ⟨rfl, rfl, rfl, by decide +kernel, rfl, by decide +kernel, by decide +kernel⟩
noncomputable def m_law_ring_crew_size : MS := sSeq (sAsg (.name 2) (mCallF 2 f_law_walk (mCons (mVar 0) (mCons (mVar 1) mNil)))) (sRet (mIf (mTest (mOp opIs (mVar 2) (pureM .non))) (pureM (.int 0)) (mNeg (mOp opFdiv (mNeg (mCall fLen (mCons (mOp opIx (mVar 2) (pureM (.int 0))) mNil))) (mOp opIx (mVar 2) (pureM (.int 1)))))))
noncomputable def f_law_ring_crew_size : Fn := runB 3 m_law_ring_crew_size
theorem ok_law_ring_crew_size {w : World} {mg : Str → Option Value} {base : Heap} {g : G} (Y : LawF w mg base g.K g.C) (gk : GOk g) : DefOk Pg w mg base g 3 "_law_ring_crew_size" 2 f_law_ring_crew_size := by
  obtain ⟨fa, fd, FD, hm⟩ := Y.d_law_ring_crew_size
  refine def_rd (N := N_law_ring_crew_size) (ps := A_law_ring_crew_size) (m := m_law_ring_crew_size) FD hm sc_law_ring_crew_size (fun _ _ _ _ _ _ us hl => match us, hl with | [_, _], _ => rfl) fun cdv A outer s H E bx => ?_
  exact b_cons (s_set (i := 2) sc_law_ring_crew_size.nd rfl (.inl rfl) (s_call (ok_law_walk Y gk) rfl (bx.hr.mono (by decide)) bx.tk rfl (sa_cons (s_var (i := 0) rfl (.inl rfl)) (sa_cons (s_var (i := 1) rfl (.inl rfl)) sa_nil))) (.inl rfl))
      (b_one (s_ret (s_ifExp (st_cmp op_isAll sim_is (s_var (i := 2) rfl (.inl rfl)) s_non (by rfl)) s_int (s_neg (s_op op_fdivAll sim_fdiv (s_neg (s_callB call_len sim_len rfl Y.f_len (by decide +kernel) (sa_cons (s_ix rfl (s_var (i := 2) rfl (.inl rfl)) s_int (fun _ _ => rfl)) sa_nil))) (s_ix rfl (s_var (i := 2) rfl (.inl rfl)) s_int (fun _ _ => rfl)))))))
/-! ### _law_drawn_round -/
abbrev N_law_drawn_round : List Str := ["jar", "many", "top", "votes", "form", "first", "size", "stretch", "few", "need", "x", "number"]
abbrev A_law_drawn_round : List Str := ["jar"]
theorem sc_law_drawn_round : FnScope N_law_drawn_round A_law_drawn_round (defScope s_law_drawn_round) := ⟨rfl, rfl, rfl, by decide +kernel, rfl, by decide +kernel, by decide +kernel⟩
noncomputable def m_law_drawn_round : MS := sSeq (sAsg (.name 1) (mCallF 2 f_law_one (mCons (mVar 0) (mCons (mLst (mCons (pureM (.int 3)) (mCons (pureM (.int 4)) (mCons (pureM (.int 5)) (mCons (pureM (.int 6)) (mCons (pureM (.int 7)) (mCons (pureM (.int 9)) (mCons (pureM (.int 12)) (mCons (mOp opAdd (pureM (.int 20)) (mCallF 2 f_law_take (mCons (mVar 0) (mCons (pureM (.int 30)) mNil)))) (mCons (mOp opSub (pureM (.int 200)) (mCallF 2 f_law_take (mCons (mVar 0) (mCons (pureM (.int 60)) mNil)))) (mCons (pureM (.int 200)) mNil))))))))))) mNil)))) (sSeq (sAsg (.name 2) (mCallF 2 f_law_one (mCons (mVar 0) (mCons (mLst (mCons (pureM (.int 2)) (mCons (pureM (.int 3)) (mCons (pureM (.int 4)) (mCons (pureM (.int 10)) (mCons (mOp opPow (pureM (.int 10)) (pureM (.int 9))) mNil)))))) mNil)))) (sSeq (sPar 3 4 (mCons (mLc (.name 10) [10] (mRange1 (mCons (mVar 1) mNil)) mYes (mCallF 2 f_law_take (mCons (mVar 0) (mCons (mVar 2) mNil)))) (mCons (mCallF 2 f_law_take (mCons (mVar 0) (mCons (pureM (.int 8)) mNil))) mNil))) (sSeq (sIf (mTest (mOp opEq (mVar 4) (pureM (.int 0)))) (sAsg (.name 3) (mOp opMul (mLst (mCons (mCallF 2 f_law_take (mCons (mVar 0) (mCons (mVar 2) mNil))) mNil)) (mVar 1))) sNil) (sSeq (sIf (mTest (mOp opEq (mVar 4) (pureM (.int 1)))) (sSeq (sAsg (.name 3) (mOp opMul (mLst (mCons (pureM (.int 0)) mNil)) (mVar 1))) (sSetIx (mVar 3) (mCallF 2 f_law_take (mCons (mVar 0) (mCons (mVar 1) mNil))) (mOp opAdd (pureM (.int 1)) (mCallF 2 f_law_take (mCons (mVar 0) (mCons (pureM (.int 5)) mNil)))))) sNil) (sSeq (sIf (mTest (mOp opEq (mVar 4) (pureM (.int 2)))) (sAsg (.name 3) (mLc (.name 11) [11] (mSeqI (mVar 3)) mYes (mOp opAdd (mOp opMul (mOp opMul (mOp opMul (mVar 11) (mOp opPow (pureM (.int 10)) (pureM (.int 60)))) (mOp opPow (pureM (.int 10)) (pureM (.int 60)))) (mOp opPow (pureM (.int 10)) (pureM (.int 60)))) (mCallF 2 f_law_take (mCons (mVar 0) (mCons (mOp opPow (pureM (.int 10)) (pureM (.int 6))) mNil)))))) sNil) (sSeq (sPar 5 6 (mCons (mCallF 2 f_law_take (mCons (mVar 0) (mCons (mVar 1) mNil))) (mCons (mOp opAdd (pureM (.int 1)) (mCallF 2 f_law_take (mCons (mVar 0) (mCons (mVar 1) mNil)))) mNil))) (sSeq (sAsg (.name 7) (mCall fSum (mCons (mSl (mOp opAdd (mVar 3) (mVar 3)) (mSomeO (mVar 5)) (mSomeO (mOp opAdd (mVar 5) (mVar 6)))) mNil))) (sSeq (sAsg (.name 8) (mCall fSum (mCons (mSl (mOp opAdd (mVar 3) (mVar 3)) (mSomeO (mVar 5)) (mSomeO (mOp opAdd (mOp opAdd (mVar 5) (pureM (.int 1))) (mCallF 2 f_law_take (mCons (mVar 0) (mCons (mCall fMin2 (mCons (mVar 1) (mCons (pureM (.int 5)) mNil))) mNil)))))) mNil))) (sSeq (sAsg (.name 9) (mCallF 2 f_law_one (mCons (mVar 0) (mCons (mLst (mCons (mVar 8) (mCons (mVar 8) (mCons (mOp opAdd (mVar 8) (pureM (.int 1))) (mCons (mVar 7) (mCons (mCall fSum (mCons (mVar 3) mNil)) (mCons (mOp opAdd (mCall fSum (mCons (mVar 3) mNil)) (pureM (.int 1))) (mCons (pureM (.int 1)) (mCons (pureM (.int 2)) mNil))))))))) mNil)))) (sRet (mTup (mCons (mCall fTuple (mCons (mVar 3) mNil)) (mCons (mCall fMax2 (mCons (pureM (.int 1)) (mCons (mVar 9) mNil))) mNil)))))))))))))
noncomputable def f_law_drawn_round : Fn := runB 12 m_law_drawn_round
theorem ok_law_drawn_round {w : World} {mg : Str → Option Value} {base : Heap} {g : G} (Y : LawF w mg base g.K g.C) (gk : GOk g) : DefOk Pg w mg base g 3 "_law_drawn_round" 1 f_law_drawn_round := by
  obtain ⟨fa, fd, FD, hm⟩ := Y.d_law_drawn_round
  refine def_rd (N := N_law_drawn_round) (ps := A_law_drawn_round) (m := m_law_drawn_round) FD hm sc_law_drawn_round (fun _ _ _ _ _ _ us hl => match us, hl with | [_], _ => rfl) fun cdv A outer s H E bx => ?_
  exact b_cons (s_set (i := 1) sc_law_drawn_round.nd rfl (.inl rfl) (s_call (ok_law_one Y gk) rfl (bx.hr.mono (by decide)) bx.tk rfl (sa_cons (s_var (i := 0) rfl (.inr (.inl rfl))) (sa_cons (s_lst gk (sa_cons s_int (sa_cons s_int (sa_cons s_int (sa_cons s_int (sa_cons s_int (sa_cons s_int (sa_cons s_int (sa_cons (s_op op_addAll (sim_add gk) s_int (s_call (ok_law_take Y gk) rfl (bx.hr.mono (by decide)) bx.tk rfl (sa_cons (s_var (i := 0) rfl (.inr (.inl rfl))) (sa_cons s_int sa_nil)))) (sa_cons (s_op op_sub sim_sub s_int (s_call (ok_law_take Y gk) rfl (bx.hr.mono (by decide)) bx.tk rfl (sa_cons (s_var (i := 0) rfl (.inr (.inl rfl))) (sa_cons s_int sa_nil)))) (sa_cons s_int sa_nil))))))))))) sa_nil))) (.inl rfl))
      (b_cons (s_set (i := 2) sc_law_drawn_round.nd rfl (.inr rfl) (s_call (ok_law_one Y gk) rfl (bx.hr.mono (by decide)) bx.tk rfl (sa_cons (s_var (i := 0) rfl (.inr (.inl rfl))) (sa_cons (s_lst gk (sa_cons s_int (sa_cons s_int (sa_cons s_int (sa_cons s_int (sa_cons (s_op op_pow sim_pow s_int s_int) sa_nil)))))) sa_nil))) (.inl rfl))
      (b_cons (s_par (i := 3) (j := 4) rfl sc_law_drawn_round.nd rfl rfl (by decide) rfl rfl (sa_cons (s_lcX gk [(("x" : Str), 10)] rfl rfl sc_law_drawn_round.nd (i_range1 rfl Y.f_range (sa_cons (s_var (i := 1) rfl (.inl rfl)) sa_nil)) (blkOk_by (N := N_law_drawn_round) (sc := defScope s_law_drawn_round) (own := [(("x" : Str), 10)]) (by decide +kernel)) (by simp [Pat.names, patNames]) (fun _ _ _ _ _ => p_name (i := 10) sc_law_drawn_round.nd rfl (.inl rfl) (.inr rfl)) (fun _ _ _ _ _ => ts_nil) (fun _ _ _ _ _ => s_call (ok_law_take Y gk) rfl (bx.hr.mono (by decide)) takesN0 rfl (sa_cons (s_var (i := 0) rfl (by first | exact .inr (.inl rfl) | exact .inr (.inr rfl))) (sa_cons (s_var (i := 2) rfl (by first | exact .inr (.inl rfl) | exact .inr (.inr rfl))) sa_nil)))) (sa_cons (s_call (ok_law_take Y gk) rfl (bx.hr.mono (by decide)) bx.tk rfl (sa_cons (s_var (i := 0) rfl (.inr (.inl rfl))) (sa_cons s_int sa_nil))) sa_nil)) (by rfl))
      (b_cons (s_if (st_cmp (op_eqD bx.hr.units) sim_eq (s_var (i := 4) rfl (.inl rfl)) s_int (by rfl)) (b_one (s_set (i := 3) sc_law_drawn_round.nd rfl (.inl rfl) (s_op op_mulAll (sim_mul gk) (s_lst gk (sa_cons (s_call (ok_law_take Y gk) rfl (bx.hr.mono (by decide)) bx.tk rfl (sa_cons (s_var (i := 0) rfl (.inr (.inl rfl))) (sa_cons (s_var (i := 2) rfl (.inr (.inl rfl))) sa_nil))) sa_nil)) (s_var (i := 1) rfl (.inl rfl))) (.inl rfl))) b_nil)
      (b_cons (s_if (st_cmp (op_eqD bx.hr.units) sim_eq (s_var (i := 4) rfl (.inl rfl)) s_int (by rfl)) (b_cons (s_set (i := 3) sc_law_drawn_round.nd rfl (.inl rfl) (s_op op_mulAll (sim_mul gk) (s_lst gk (sa_cons s_int sa_nil)) (s_var (i := 1) rfl (.inl rfl))) (.inl rfl))
      (b_one (s_setIx gk (s_var (i := 3) rfl (.inl rfl)) (s_call (ok_law_take Y gk) rfl (bx.hr.mono (by decide)) bx.tk rfl (sa_cons (s_var (i := 0) rfl (.inr (.inl rfl))) (sa_cons (s_var (i := 1) rfl (.inl rfl)) sa_nil))) (s_op op_addAll (sim_add gk) s_int (s_call (ok_law_take Y gk) rfl (bx.hr.mono (by decide)) bx.tk rfl (sa_cons (s_var (i := 0) rfl (.inr (.inl rfl))) (sa_cons s_int sa_nil))))))) b_nil)
      (b_cons (s_if (st_cmp (op_eqD bx.hr.units) sim_eq (s_var (i := 4) rfl (.inl rfl)) s_int (by rfl)) (b_one (s_setLcX (i := 3) gk [(("number" : Str), 11)] rfl rfl sc_law_drawn_round.nd rfl rfl (sw_true rfl rfl rfl (by decide +kernel)) (i_seq rfl (s_var (i := 3) rfl (.inl rfl))) (blkOk_by (N := N_law_drawn_round) (sc := defScope s_law_drawn_round) (own := [(("number" : Str), 11)]) (by decide +kernel)) (by simp [Pat.names, patNames]) (fun _ _ _ _ _ => p_name (i := 11) sc_law_drawn_round.nd rfl (.inl rfl) (.inr rfl)) (fun _ _ _ _ _ => ts_nil) (fun _ _ _ _ _ => s_op op_addAll (sim_add gk) (s_op op_mulAll (sim_mul gk) (s_op op_mulAll (sim_mul gk) (s_op op_mulAll (sim_mul gk) (s_var (i := 11) rfl (.inl rfl)) (s_op op_pow sim_pow s_int s_int)) (s_op op_pow sim_pow s_int s_int)) (s_op op_pow sim_pow s_int s_int)) (s_call (ok_law_take Y gk) rfl (bx.hr.mono (by decide)) takesN0 rfl (sa_cons (s_var (i := 0) rfl (by first | exact .inr (.inl rfl) | exact .inr (.inr rfl))) (sa_cons (s_op op_pow sim_pow s_int s_int) sa_nil)))))) b_nil)
      (b_cons (s_par (i := 5) (j := 6) rfl sc_law_drawn_round.nd rfl rfl (by decide) rfl rfl (sa_cons (s_call (ok_law_take Y gk) rfl (bx.hr.mono (by decide)) bx.tk rfl (sa_cons (s_var (i := 0) rfl (.inr (.inl rfl))) (sa_cons (s_var (i := 1) rfl (.inl rfl)) sa_nil))) (sa_cons (s_op op_addAll (sim_add gk) s_int (s_call (ok_law_take Y gk) rfl (bx.hr.mono (by decide)) bx.tk rfl (sa_cons (s_var (i := 0) rfl (.inr (.inl rfl))) (sa_cons (s_var (i := 1) rfl (.inl rfl)) sa_nil)))) sa_nil)) (by rfl))
      (b_cons (s_set (i := 7) sc_law_drawn_round.nd rfl (.inl rfl) (s_callB (cr_sumAll rfl) sim_sum rfl Y.f_sum (by decide +kernel) (sa_cons (s_slice gk rfl (s_op op_addAll (sim_add gk) (s_var (i := 3) rfl (.inl rfl)) (s_var (i := 3) rfl (.inl rfl))) (so_some (s_var (i := 5) rfl (.inl rfl))) (so_some (s_op op_addAll (sim_add gk) (s_var (i := 5) rfl (.inl rfl)) (s_var (i := 6) rfl (.inl rfl))))) sa_nil)) (.inl rfl))
      (b_cons (s_set (i := 8) sc_law_drawn_round.nd rfl (.inl rfl) (s_callB (cr_sumAll rfl) sim_sum rfl Y.f_sum (by decide +kernel) (sa_cons (s_slice gk rfl (s_op op_addAll (sim_add gk) (s_var (i := 3) rfl (.inl rfl)) (s_var (i := 3) rfl (.inl rfl))) (so_some (s_var (i := 5) rfl (.inl rfl))) (so_some (s_op op_addAll (sim_add gk) (s_op op_addAll (sim_add gk) (s_var (i := 5) rfl (.inl rfl)) s_int) (s_call (ok_law_take Y gk) rfl (bx.hr.mono (by decide)) bx.tk rfl (sa_cons (s_var (i := 0) rfl (.inr (.inl rfl))) (sa_cons (s_callB (call_min2 rfl) sim_min2 rfl Y.f_min (by decide +kernel) (sa_cons (s_var (i := 1) rfl (.inl rfl)) (sa_cons s_int sa_nil))) sa_nil)))))) sa_nil)) (.inl rfl))
      (b_cons (s_set (i := 9) sc_law_drawn_round.nd rfl (.inl rfl) (s_call (ok_law_one Y gk) rfl (bx.hr.mono (by decide)) bx.tk rfl (sa_cons (s_var (i := 0) rfl (.inr (.inl rfl))) (sa_cons (s_lst gk (sa_cons (s_var (i := 8) rfl (.inl rfl)) (sa_cons (s_var (i := 8) rfl (.inl rfl)) (sa_cons (s_op op_addAll (sim_add gk) (s_var (i := 8) rfl (.inl rfl)) s_int) (sa_cons (s_var (i := 7) rfl (.inl rfl)) (sa_cons (s_callB (cr_sumAll rfl) sim_sum rfl Y.f_sum (by decide +kernel) (sa_cons (s_var (i := 3) rfl (.inl rfl)) sa_nil)) (sa_cons (s_op op_addAll (sim_add gk) (s_callB (cr_sumAll rfl) sim_sum rfl Y.f_sum (by decide +kernel) (sa_cons (s_var (i := 3) rfl (.inl rfl)) sa_nil)) s_int) (sa_cons s_int (sa_cons s_int sa_nil))))))))) sa_nil))) (.inl rfl))
      (b_one (s_ret (s_tup gk (sa_cons (s_callTy call_tuple_of (sim_tuple gk) rfl Y.f_tuple (by decide +kernel) (sa_cons (s_var (i := 3) rfl (.inl rfl)) sa_nil)) (sa_cons (s_callB (call_max2 rfl) sim_max2 rfl Y.f_max (by decide +kernel) (sa_cons s_int (sa_cons (s_var (i := 9) rfl (.inl rfl)) sa_nil))) sa_nil))))))))))))))
/-! ### _law_is_round_crew -/
abbrev N_law_is_round_crew : List Str := ["votes", "need", "thing", "many", "k", "end", "x"]
abbrev A_law_is_round_crew : List Str := ["votes", "need", "thing"]
theorem sc_law_is_round_crew : FnScope N_law_is_round_crew A_law_is_round_crew (defScope s_law_is_round_crew) := ⟨rfl, rfl, rfl, by decide +kernel, rfl, by decide +kernel, by decide +kernel⟩
noncomputable def m_law_is_round_crew : MS := sSeq (sAsg (.name 3) (mCall fLen (mCons (mVar 0) mNil))) (sSeq (sIf (mOrT (mNotT (mTest (mIsTy "tuple" (mVar 2)))) (mTest (mOp opNe (mLc (.name 6) [6] (mSeqI (mVar 2)) (mOrT (mNotT (mTest (mCallF 1 f_law_is_whole (mCons (mVar 6) mNil)))) (mOrT (mTest (mOp opLt (mVar 6) (pureM (.int 0)))) (mTest (mOp opGe (mVar 6) (mVar 3))))) (mVar 6)) (mLst mNil)))) (sRet (pureM (.bl false))) sNil) (sSeq (sIf (mTest (mOp opNe (mLc (.name 4) [4] (mRange2 (mCons (pureM (.int 1)) (mCons (mCall fLen (mCons (mVar 2) mNil)) mNil))) (mTest (mOp opLe (mOp opIx (mVar 2) (mVar 4)) (mOp opIx (mVar 2) (mOp opSub (mVar 4) (pureM (.int 1)))))) (mVar 4)) (mLst mNil))) (sRet (pureM (.bl false))) sNil) (sSeq (sIf (mTest (mOp opNe (mCall fLen (mCons (mVar 2) mNil)) (mCallF 2 f_law_ring_crew_size (mCons (mVar 0) (mCons (mVar 1) mNil))))) (sRet (pureM (.bl false))) sNil) (sSeq (sFor (.name 4) (mRange1 (mCons (mCall fLen (mCons (mVar 2) mNil)) mNil)) (sSeq (sAsg (.name 5) (mIf (mTest (mOp opLt (mOp opAdd (mVar 4) (pureM (.int 1))) (mCall fLen (mCons (mVar 2) mNil)))) (mOp opIx (mVar 2) (mOp opAdd (mVar 4) (pureM (.int 1)))) (mOp opAdd (mOp opIx (mVar 2) (pureM (.int 0))) (mVar 3)))) (sIf (mTest (mOp opGe (mCall fSum (mCons (mSl (mOp opAdd (mVar 0) (mVar 0)) (mSomeO (mOp opAdd (mOp opIx (mVar 2) (mVar 4)) (pureM (.int 1)))) (mSomeO (mVar 5))) mNil)) (mVar 1))) (sRet (pureM (.bl false))) sNil))) (sRet (mOrV (mOp opNe (mVar 2) (mTup mNil)) (mOp opLt (mCall fSum (mCons (mVar 0) mNil)) (mVar 1))))))))
noncomputable def f_law_is_round_crew : Fn := runB 7 m_law_is_round_crew
theorem ok_law_is_round_crew {w : World} {mg : Str → Option Value} {base : Heap} {g : G} (Y : LawF w mg base g.K g.C) (gk : GOk g) : DefOk Pg w mg base g 4 "_law_is_round_crew" 3 f_law_is_round_crew := by
  obtain ⟨fa, fd, FD, hm⟩ := Y.d_law_is_round_crew
  refine def_rd (N := N_law_is_round_crew) (ps := A_law_is_round_crew) (m := m_law_is_round_crew) FD hm sc_law_is_round_crew (fun _ _ _ _ _ _ us hl => match us, hl with | [_, _, _], _ => rfl) fun cdv A outer s H E bx => ?_
  exact b_cons (s_set (i := 3) sc_law_is_round_crew.nd rfl (.inr rfl) (s_callB call_len sim_len rfl Y.f_len (by decide +kernel) (sa_cons (s_var (i := 0) rfl (.inl rfl)) sa_nil)) (.inl rfl))
      (b_cons (s_if (sw_pt (sw_or (st_not (st_val (s_isTy rfl rfl Y.f_isinstance rfl Y.f_tuple (by decide +kernel) (s_var (i := 2) rfl (.inr (.inl rfl)))))) (sw_or1 (st_cmp (op_neD bx.hr.units) sim_ne (s_lcX gk [(("x" : Str), 6)] rfl rfl sc_law_is_round_crew.nd (i_seq rfl (s_var (i := 2) rfl (.inr (.inl rfl)))) (blkOk_by (N := N_law_is_round_crew) (sc := defScope s_law_is_round_crew) (own := [(("x" : Str), 6)]) (by decide +kernel)) (by simp [Pat.names, patNames]) (fun _ _ _ _ _ => p_name (i := 6) sc_law_is_round_crew.nd rfl (.inl rfl) (.inr rfl)) (fun _ _ _ _ _ => ts_one (sw_pt (sw_or (st_not (st_val (s_call (ok_law_is_whole Y gk) rfl (bx.hr.mono (by decide)) takesN0 rfl (sa_cons (s_var (i := 6) rfl (.inl rfl)) sa_nil)))) (sw_or (st_cmp op_ltAll sim_lt (s_var (i := 6) rfl (.inl rfl)) s_int (by rfl)) (sw_or1 (st_cmp op_ge sim_ge (s_var (i := 6) rfl (.inl rfl)) (s_var (i := 3) rfl (by first | exact .inr (.inl rfl) | exact .inr (.inr rfl))) (by rfl))))))) (fun _ _ _ _ _ => s_var (i := 6) rfl (.inl rfl))) (s_lst gk sa_nil) (by rfl))))) (b_one (s_ret s_bl)) b_nil)
      (b_cons (s_if (st_cmp (op_neD bx.hr.units) sim_ne (s_lcX gk [(("k" : Str), 4)] rfl rfl sc_law_is_round_crew.nd (i_range2 rfl Y.f_range (sa_cons s_int (sa_cons (s_callB call_len sim_len rfl Y.f_len (by decide +kernel) (sa_cons (s_var (i := 2) rfl (.inr (.inl rfl))) sa_nil)) sa_nil))) (blkOk_by (N := N_law_is_round_crew) (sc := defScope s_law_is_round_crew) (own := [(("k" : Str), 4)]) (by decide +kernel)) (by simp [Pat.names, patNames]) (fun _ _ _ _ _ => p_name (i := 4) sc_law_is_round_crew.nd rfl (.inl rfl) (.inr rfl)) (fun _ _ _ _ _ => ts_one (st_cmp op_le sim_le (s_ix rfl (s_var (i := 2) rfl (by first | exact .inr (.inl rfl) | exact .inr (.inr rfl))) (s_var (i := 4) rfl (.inl rfl)) (fun _ _ => rfl)) (s_ix rfl (s_var (i := 2) rfl (by first | exact .inr (.inl rfl) | exact .inr (.inr rfl))) (s_op op_sub sim_sub (s_var (i := 4) rfl (.inl rfl)) s_int) (fun _ _ => rfl)) (by rfl))) (fun _ _ _ _ _ => s_var (i := 4) rfl (.inl rfl))) (s_lst gk sa_nil) (by rfl)) (b_one (s_ret s_bl)) b_nil)
      (b_cons (s_if (st_cmp (op_neD bx.hr.units) sim_ne (s_callB call_len sim_len rfl Y.f_len (by decide +kernel) (sa_cons (s_var (i := 2) rfl (.inr (.inl rfl))) sa_nil)) (s_call (ok_law_ring_crew_size Y gk) rfl (bx.hr.mono (by decide)) bx.tk rfl (sa_cons (s_var (i := 0) rfl (.inl rfl)) (sa_cons (s_var (i := 1) rfl (.inl rfl)) sa_nil))) (by rfl)) (b_one (s_ret s_bl)) b_nil)
      (b_cons (s_for bx.po rfl (i_range1 rfl Y.f_range (sa_cons (s_callB call_len sim_len rfl Y.f_len (by decide +kernel) (sa_cons (s_var (i := 2) rfl (.inr (.inl rfl))) sa_nil)) sa_nil)) (p_name (i := 4) sc_law_is_round_crew.nd rfl (.inl rfl) (.inl rfl)) (b_cons (s_set (i := 5) sc_law_is_round_crew.nd rfl (.inl rfl) (s_ifExp (st_cmp op_ltAll sim_lt (s_op op_addAll (sim_add gk) (s_var (i := 4) rfl (.inl rfl)) s_int) (s_callB call_len sim_len rfl Y.f_len (by decide +kernel) (sa_cons (s_var (i := 2) rfl (.inr (.inl rfl))) sa_nil)) (by rfl)) (s_ix rfl (s_var (i := 2) rfl (.inr (.inl rfl))) (s_op op_addAll (sim_add gk) (s_var (i := 4) rfl (.inl rfl)) s_int) (fun _ _ => rfl)) (s_op op_addAll (sim_add gk) (s_ix rfl (s_var (i := 2) rfl (.inr (.inl rfl))) s_int (fun _ _ => rfl)) (s_var (i := 3) rfl (.inr (.inl rfl))))) (.inl rfl))
      (b_one (s_if (st_cmp op_ge sim_ge (s_callB (cr_sumAll rfl) sim_sum rfl Y.f_sum (by decide +kernel) (sa_cons (s_slice gk rfl (s_op op_addAll (sim_add gk) (s_var (i := 0) rfl (.inl rfl)) (s_var (i := 0) rfl (.inl rfl))) (so_some (s_op op_addAll (sim_add gk) (s_ix rfl (s_var (i := 2) rfl (.inr (.inl rfl))) (s_var (i := 4) rfl (.inl rfl)) (fun _ _ => rfl)) s_int)) (so_some (s_var (i := 5) rfl (.inl rfl)))) sa_nil)) (s_var (i := 1) rfl (.inl rfl)) (by rfl)) (b_one (s_ret s_bl)) b_nil))))
      (b_one (s_ret (s_or (s_cmp (op_neD bx.hr.units) sim_ne (s_var (i := 2) rfl (.inr (.inl rfl))) (s_tup gk sa_nil) (by rfl)) (s_one (s_cmp op_ltAll sim_lt (s_callB (cr_sumAll rfl) sim_sum rfl Y.f_sum (by decide +kernel) (sa_cons (s_var (i := 0) rfl (.inl rfl)) sa_nil)) (s_var (i := 1) rfl (.inl rfl)) (by rfl))))))))))
/-! ### _law_round_refusal -/
abbrev N_law_round_refusal : List Str := ["votes", "need", "wrong", "x"]
abbrev A_law_round_refusal : List Str := ["votes", "need"]
theorem sc_law_round_refusal : FnScope N_law_round_refusal A_law_round_refusal (defScope s_law_round_refusal) := ⟨rfl, rfl, rfl, by decide +kernel, rfl, by decide +kernel, by decide +kernel⟩
noncomputable def m_law_round_refusal : MS := sSeq (sIf (mOrT (mNotT (mTest (mIsTy "tuple" (mVar 0)))) (mOrT (mTest (mOp opLt (mCall fLen (mCons (mVar 0) mNil)) (pureM (.int 3)))) (mTest (mOp opGt (mCall fLen (mCons (mVar 0) mNil)) (pureM (.int 200)))))) (sRet (mTup (mCons (pureM (.str "BadVotes")) (mCons (mNeg (pureM (.int 1))) mNil)))) sNil) (sSeq (sAsg (.name 2) (mLc (.name 3) [3] (mRange1 (mCons (mCall fLen (mCons (mVar 0) mNil)) mNil)) (mOrT (mNotT (mTest (mCallF 1 f_law_is_whole (mCons (mOp opIx (mVar 0) (mVar 3)) mNil)))) (mTest (mOp opLt (mOp opIx (mVar 0) (mVar 3)) (pureM (.int 0))))) (mVar 3))) (sSeq (sIf (mTest (mOp opNe (mVar 2) (mLst mNil))) (sRet (mTup (mCons (pureM (.str "BadVotes")) (mCons (mOp opIx (mVar 2) (pureM (.int 0))) mNil)))) sNil) (sRet (mIf (mAndT (mTest (mCallF 1 f_law_is_whole (mCons (mVar 1) mNil))) (mTest (mOp opGt (mVar 1) (pureM (.int 0))))) (pureM .non) (mTup (mCons (pureM (.str "BadNeed")) (mCons (mVar 1) mNil)))))))
noncomputable def f_law_round_refusal : Fn := runB 4 m_law_round_refusal
theorem ok_law_round_refusal {w : World} {mg : Str → Option Value} {base : Heap} {g : G} (Y : LawF w mg base g.K g.C) (gk : GOk g) : DefOk Pg w mg base g 2 "_law_round_refusal" 2 f_law_round_refusal := by
  obtain ⟨fa, fd, FD, hm⟩ := Y.d_law_round_refusal
  refine def_rd (N := N_law_round_refusal) (ps := A_law_round_refusal) (m := m_law_round_refusal) FD hm sc_law_round_refusal (fun _ _ _ _ _ _ us hl => match us, hl with | [_, _], _ => rfl) fun cdv A outer s H E bx => ?_
  exact b_cons (s_if (sw_pt (sw_or (st_not (st_val (s_isTy rfl rfl Y.f_isinstance rfl Y.f_tuple (by decide +kernel) (s_var (i := 0) rfl (.inr (.inl rfl)))))) (sw_or (st_cmp op_ltAll sim_lt (s_callB call_len sim_len rfl Y.f_len (by decide +kernel) (sa_cons (s_var (i := 0) rfl (.inr (.inl rfl))) sa_nil)) s_int (by rfl)) (sw_or1 (st_cmp op_gt sim_gt (s_callB call_len sim_len rfl Y.f_len (by decide +kernel) (sa_cons (s_var (i := 0) rfl (.inr (.inl rfl))) sa_nil)) s_int (by rfl)))))) (b_one (s_ret (s_tup gk (sa_cons s_str (sa_cons (s_neg s_int) sa_nil))))) b_nil)
      (b_cons (s_setLcX (i := 2) gk [(("x" : Str), 3)] rfl rfl sc_law_round_refusal.nd rfl rfl (sw_true rfl rfl rfl (by decide +kernel)) (i_range1 rfl Y.f_range (sa_cons (s_callB call_len sim_len rfl Y.f_len (by decide +kernel) (sa_cons (s_var (i := 0) rfl (.inr (.inl rfl))) sa_nil)) sa_nil)) (blkOk_by (N := N_law_round_refusal) (sc := defScope s_law_round_refusal) (own := [(("x" : Str), 3)]) (by decide +kernel)) (by simp [Pat.names, patNames]) (fun _ _ _ _ _ => p_name (i := 3) sc_law_round_refusal.nd rfl (.inl rfl) (.inr rfl)) (fun _ _ _ _ _ => ts_one (sw_pt (sw_or (st_not (st_val (s_call (ok_law_is_whole Y gk) rfl (bx.hr.mono (by decide)) takesN0 rfl (sa_cons (s_ix rfl (s_var (i := 0) rfl (by first | exact .inr (.inl rfl) | exact .inr (.inr rfl))) (s_var (i := 3) rfl (.inl rfl)) (fun _ _ => rfl)) sa_nil)))) (sw_or1 (st_cmp op_ltAll sim_lt (s_ix rfl (s_var (i := 0) rfl (by first | exact .inr (.inl rfl) | exact .inr (.inr rfl))) (s_var (i := 3) rfl (.inl rfl)) (fun _ _ => rfl)) s_int (by rfl)))))) (fun _ _ _ _ _ => s_var (i := 3) rfl (.inl rfl)))
      (b_cons (s_if (st_cmp (op_neD bx.hr.units) sim_ne (s_var (i := 2) rfl (.inl rfl)) (s_lst gk sa_nil) (by rfl)) (b_one (s_ret (s_tup gk (sa_cons s_str (sa_cons (s_ix rfl (s_var (i := 2) rfl (.inl rfl)) s_int (fun _ _ => rfl)) sa_nil))))) b_nil)
      (b_one (s_ret (s_ifExp (sw_pt (sw_and (st_val (s_call (ok_law_is_whole Y gk) rfl (bx.hr.mono (by decide)) bx.tk rfl (sa_cons (s_var (i := 1) rfl (.inl rfl)) sa_nil))) (sw_and1 (st_cmp op_gt sim_gt (s_var (i := 1) rfl (.inl rfl)) s_int (by rfl))))) s_non (s_tup gk (sa_cons s_str (sa_cons (s_var (i := 1) rfl (.inl rfl)) sa_nil))))))))
/-! ### _law_asked -/
abbrev N_law_asked : List Str := ["votes", "need", "refusal", "heard"]
abbrev A_law_asked : List Str := ["votes", "need"]
theorem sc_law_asked : FnScope N_law_asked A_law_asked (defScope s_law_asked) := ⟨rfl, rfl, rfl, by decide +kernel, rfl, by decide +kernel, by decide +kernel⟩
noncomputable def m_law_asked : MS := sSeq (sAsg (.name 2) (mCallF 2 f_law_round_refusal (mCons (mVar 0) (mCons (mVar 1) mNil)))) (sSeq (sIf (mTest (mOp opIsNot (mVar 2) (pureM .non))) (sRet (mCallLam 1 F_law_meets (mCallF 2 f_ring_crew (mCons (mVar 0) (mCons (mVar 1) mNil))) (mCons (mVar 2) mNil))) sNil) (sSeq (sAsg (.name 3) (mCallLam 0 F_law_heard (mCallF 2 f_ring_crew (mCons (mVar 0) (mCons (mVar 1) mNil))) mNil)) (sSeq (sIf (mOrT (mTest (mOp opNe (mOp opIx (mVar 3) (pureM (.int 0))) (pureM (.str "told")))) (mNotT (mTest (mCallF 3 f_law_is_round_crew (mCons (mVar 0) (mCons (mVar 1) (mCons (mOp opIx (mVar 3) (pureM (.int 1))) mNil))))))) (sRet (pureM (.bl false))) sNil) (sRet (mCallLam 1 F_law_tells (mCallK 2 f_ring_crew pm_ring_crew (mCons (mVar 1) (mCons (mVar 0) mNil))) (mCons (mOp opIx (mVar 3) (pureM (.int 1))) mNil))))))
noncomputable def f_law_asked : Fn := runB 4 m_law_asked
theorem ok_law_asked {w : World} {mg : Str → Option Value} {base : Heap} {g : G} (Y : LawF w mg base g.K g.C) (gk : GOk g) (th : ∀ H p ob vs u, g.T H → H p = some (.frz ob (.dK vs)) → g.T (upd H p u)) {T : List (Addr × Str)} (lt : LTab mg base g T) : DefOk Pg w mg base g 11 "_law_asked" 2 f_law_asked := by
  obtain ⟨fa, fd, FD, hm⟩ := Y.d_law_asked
  obtain ⟨c, P, TB, hT, hu, hcd⟩ := lt.o_law_asked
  refine def_rdL (c := c) (N := N_law_asked) (ps := A_law_asked) (m := m_law_asked) FD (hcd fa hm) hm sc_law_asked (fun _ _ _ _ _ _ us hl => match us, hl with | [_, _], _ => rfl) fun A outer s H E bx => ?_
  have LT : LamT (cxOf (L2N.CX Pg w) Pg w g.K mg base N_law_asked "_law_asked" (defScope s_law_asked) fa (.ref c) A outer s H E) g T := ⟨lt.tabs, lt.step, c, P, TB, rfl, hT, hu⟩
  exact b_cons (s_set (i := 2) sc_law_asked.nd rfl (.inl rfl) (s_call (ok_law_round_refusal Y gk) rfl (bx.hr.mono (by decide)) bx.tk rfl (sa_cons (s_var (i := 0) rfl (.inr (.inl rfl))) (sa_cons (s_var (i := 1) rfl (.inr (.inl rfl))) sa_nil))) (.inl rfl))
      (b_cons (s_if (st_cmp op_isNotAll sim_isNot (s_var (i := 2) rfl (.inl rfl)) s_non (by rfl)) (b_one (s_ret (s_callLam (kl := 7) (ok_law_meets Y gk) rfl LT (bx.hr.mono (by decide)) bx.tk rfl (lamS_by (by change lamSB (defScope s_law_asked) _ = true; decide +kernel)) rfl (fun _ _ _ _ _ => rfl) (fun A outer s H E f c bx => s_call (ok_ring_crew Y gk th) rfl (bx.hr.mono (by decide)) bx.tk rfl (sa_cons (s_var (i := 0) rfl (by first | exact .inr (.inl rfl) | exact .inr (.inr rfl))) (sa_cons (s_var (i := 1) rfl (by first | exact .inr (.inl rfl) | exact .inr (.inr rfl))) sa_nil))) (sa_cons (s_var (i := 2) rfl (.inl rfl)) sa_nil)))) b_nil)
      (b_cons (s_set (i := 3) sc_law_asked.nd rfl (.inl rfl) (s_callLam (kl := 7) (ok_law_heard Y gk) rfl LT (bx.hr.mono (by decide)) bx.tk rfl (lamS_by (by change lamSB (defScope s_law_asked) _ = true; decide +kernel)) rfl (fun _ _ _ _ _ => rfl) (fun A outer s H E f c bx => s_call (ok_ring_crew Y gk th) rfl (bx.hr.mono (by decide)) bx.tk rfl (sa_cons (s_var (i := 0) rfl (by first | exact .inr (.inl rfl) | exact .inr (.inr rfl))) (sa_cons (s_var (i := 1) rfl (by first | exact .inr (.inl rfl) | exact .inr (.inr rfl))) sa_nil))) sa_nil) (.inl rfl))
      (b_cons (s_if (sw_pt (sw_or (st_cmp (op_neD bx.hr.units) sim_ne (s_ix rfl (s_var (i := 3) rfl (.inl rfl)) s_int (fun _ _ => rfl)) s_str (by rfl)) (sw_or1 (st_not (st_val (s_call (ok_law_is_round_crew Y gk) rfl (bx.hr.mono (by decide)) bx.tk rfl (sa_cons (s_var (i := 0) rfl (.inr (.inl rfl))) (sa_cons (s_var (i := 1) rfl (.inr (.inl rfl))) (sa_cons (s_ix rfl (s_var (i := 3) rfl (.inl rfl)) s_int (fun _ _ => rfl)) sa_nil))))))))) (b_one (s_ret s_bl)) b_nil)
      (b_one (s_ret (s_callLam (kl := 7) (ok_law_tells Y gk) rfl LT (bx.hr.mono (by decide)) bx.tk rfl (lamS_by (by change lamSB (defScope s_law_asked) _ = true; decide +kernel)) rfl (fun _ _ _ _ _ => rfl) (fun A outer s H E f c bx => s_callK0 (okK_ring_crew Y gk th) rfl (bx.hr.mono (by decide)) bx.tk rfl (sk_cons (s_var (i := 1) rfl (by first | exact .inr (.inl rfl) | exact .inr (.inr rfl))) (sk_cons (s_var (i := 0) rfl (by first | exact .inr (.inl rfl) | exact .inr (.inr rfl))) sk_nil))) (sa_cons (s_ix rfl (s_var (i := 3) rfl (.inl rfl)) s_int (fun _ _ => rfl)) sa_nil)))))))
/-! ### _law_odd_votes -/
abbrev N_law_odd_votes : List Str := ["jar", "votes", "at", "p", "odds", "odd", "twice", "others"]
abbrev A_law_odd_votes : List Str := ["jar", "votes"]
theorem sc_law_odd_votes : FnScope N_law_odd_votes A_law_odd_votes (defScope s_law_odd_votes) := ⟨rfl, rfl, rfl, by decide +kernel, rfl, by decide +kernel, by decide +kernel⟩
noncomputable def m_law_odd_votes : MS := sSeq (sPar 2 3 (mCons (mCallF 2 f_law_take (mCons (mVar 0) (mCons (mCall fLen (mCons (mVar 1) mNil)) mNil))) (mCons (mCallF 2 f_law_take (mCons (mVar 0) (mCons (mCall fLen (mCons (mVar 1) mNil)) mNil))) mNil))) (sSeq (sAsg (.name 4) (mLst (mCons (mNeg (pureM (.int 1))) (mCons (pureM (.bl true)) (mCons (pureM .non) (mCons (pureM (.str "1")) (mCons (mTup (mCons (pureM (.int 1)) mNil)) (mCons (pureM (.bl false)) (mCons (mNeg (mOp opPow (pureM (.int 10)) (pureM (.int 30)))) mNil))))))))) (sSeq (sAsg (.name 5) (mOp opAdd (mOp opAdd (mSl (mVar 1) mNoO (mSomeO (mVar 2))) (mTup (mCons (mCallF 2 f_law_one (mCons (mVar 0) (mCons (mVar 4) mNil))) mNil))) (mSl (mVar 1) (mSomeO (mOp opAdd (mVar 2) (pureM (.int 1)))) mNoO))) (sSeq (sAsg (.name 6) (mOp opAdd (mOp opAdd (mSl (mVar 5) mNoO (mSomeO (mVar 3))) (mTup (mCons (mCallF 2 f_law_one (mCons (mVar 0) (mCons (mVar 4) mNil))) mNil))) (mSl (mVar 5) (mSomeO (mOp opAdd (mVar 3) (pureM (.int 1)))) mNoO))) (sSeq (sAsg (.name 7) (mLst (mCons (mCall fList (mCons (mVar 1) mNil)) (mCons (mSl (mVar 1) mNoO (mSomeO (pureM (.int 2)))) (mCons (mTup mNil) (mCons (pureM .non) (mCons (pureM (.str "111")) (mCons (mOp opAdd (mSl (mOp opMul (mVar 1) (pureM (.int 70))) mNoO (mSomeO (pureM (.int 200)))) (mTup (mCons (pureM (.int 1)) mNil))) (mCons (mOp opMul (mTup (mCons (pureM .non) mNil)) (pureM (.int 201))) (mCons (mSl (mVar 1) mNoO (mSomeO (pureM (.int 1)))) mNil)))))))))) (sRet (mCallF 2 f_law_one (mCons (mVar 0) (mCons (mOp opAdd (mLst (mCons (mVar 5) (mCons (mVar 5) (mCons (mVar 6) mNil)))) (mVar 7)) mNil))))))))
noncomputable def f_law_odd_votes : Fn := runB 8 m_law_odd_votes
theorem ok_law_odd_votes {w : World} {mg : Str → Option Value} {base : Heap} {g : G} (Y : LawF w mg base g.K g.C) (gk : GOk g) : DefOk Pg w mg base g 3 "_law_odd_votes" 2 f_law_odd_votes := by
  obtain ⟨fa, fd, FD, hm⟩ := Y.d_law_odd_votes
  refine def_rd (N := N_law_odd_votes) (ps := A_law_odd_votes) (m := m_law_odd_votes) FD hm sc_law_odd_votes (fun _ _ _ _ _ _ us hl => match us, hl with | [_, _], _ => rfl) fun cdv A outer s H E bx => ?_
  exact b_cons (s_par (i := 2) (j := 3) rfl sc_law_odd_votes.nd rfl rfl (by decide) rfl rfl (sa_cons (s_call (ok_law_take Y gk) rfl (bx.hr.mono (by decide)) bx.tk rfl (sa_cons (s_var (i := 0) rfl (.inl rfl)) (sa_cons (s_callB call_len sim_len rfl Y.f_len (by decide +kernel) (sa_cons (s_var (i := 1) rfl (.inl rfl)) sa_nil)) sa_nil))) (sa_cons (s_call (ok_law_take Y gk) rfl (bx.hr.mono (by decide)) bx.tk rfl (sa_cons (s_var (i := 0) rfl (.inl rfl)) (sa_cons (s_callB call_len sim_len rfl Y.f_len (by decide +kernel) (sa_cons (s_var (i := 1) rfl (.inl rfl)) sa_nil)) sa_nil))) sa_nil)) (by rfl))
      (b_cons (s_set (i := 4) sc_law_odd_votes.nd rfl (.inl rfl) (s_lst gk (sa_cons (s_neg s_int) (sa_cons s_bl (sa_cons s_non (sa_cons s_str (sa_cons (s_tup gk (sa_cons s_int sa_nil)) (sa_cons s_bl (sa_cons (s_neg (s_op op_pow sim_pow s_int s_int)) sa_nil)))))))) (.inl rfl))
      (b_cons (s_set (i := 5) sc_law_odd_votes.nd rfl (.inl rfl) (s_op op_addAll (sim_add gk) (s_op op_addAll (sim_add gk) (s_slice gk rfl (s_var (i := 1) rfl (.inl rfl)) so_none (so_some (s_var (i := 2) rfl (.inl rfl)))) (s_tup gk (sa_cons (s_call (ok_law_one Y gk) rfl (bx.hr.mono (by decide)) bx.tk rfl (sa_cons (s_var (i := 0) rfl (.inl rfl)) (sa_cons (s_var (i := 4) rfl (.inl rfl)) sa_nil))) sa_nil))) (s_slice gk rfl (s_var (i := 1) rfl (.inl rfl)) (so_some (s_op op_addAll (sim_add gk) (s_var (i := 2) rfl (.inl rfl)) s_int)) so_none)) (.inl rfl))
      (b_cons (s_set (i := 6) sc_law_odd_votes.nd rfl (.inl rfl) (s_op op_addAll (sim_add gk) (s_op op_addAll (sim_add gk) (s_slice gk rfl (s_var (i := 5) rfl (.inl rfl)) so_none (so_some (s_var (i := 3) rfl (.inl rfl)))) (s_tup gk (sa_cons (s_call (ok_law_one Y gk) rfl (bx.hr.mono (by decide)) bx.tk rfl (sa_cons (s_var (i := 0) rfl (.inl rfl)) (sa_cons (s_var (i := 4) rfl (.inl rfl)) sa_nil))) sa_nil))) (s_slice gk rfl (s_var (i := 5) rfl (.inl rfl)) (so_some (s_op op_addAll (sim_add gk) (s_var (i := 3) rfl (.inl rfl)) s_int)) so_none)) (.inl rfl))
      (b_cons (s_set (i := 7) sc_law_odd_votes.nd rfl (.inl rfl) (s_lst gk (sa_cons (s_callTy call_list_of (sim_list gk) rfl Y.f_list (by decide +kernel) (sa_cons (s_var (i := 1) rfl (.inl rfl)) sa_nil)) (sa_cons (s_slice gk rfl (s_var (i := 1) rfl (.inl rfl)) so_none (so_some s_int)) (sa_cons (s_tup gk sa_nil) (sa_cons s_non (sa_cons s_str (sa_cons (s_op op_addAll (sim_add gk) (s_slice gk rfl (s_op op_mulAll (sim_mul gk) (s_var (i := 1) rfl (.inl rfl)) s_int) so_none (so_some s_int)) (s_tup gk (sa_cons s_int sa_nil))) (sa_cons (s_op op_mulAll (sim_mul gk) (s_tup gk (sa_cons s_non sa_nil)) s_int) (sa_cons (s_slice gk rfl (s_var (i := 1) rfl (.inl rfl)) so_none (so_some s_int)) sa_nil))))))))) (.inl rfl))
      (b_one (s_ret (s_call (ok_law_one Y gk) rfl (bx.hr.mono (by decide)) bx.tk rfl (sa_cons (s_var (i := 0) rfl (.inl rfl)) (sa_cons (s_op op_addAll (sim_add gk) (s_lst gk (sa_cons (s_var (i := 5) rfl (.inl rfl)) (sa_cons (s_var (i := 5) rfl (.inl rfl)) (sa_cons (s_var (i := 6) rfl (.inl rfl)) sa_nil)))) (s_var (i := 7) rfl (.inl rfl))) sa_nil)))))))))
/-! ### law -/
abbrev N_law : List Str := ["script", "turn", "jar", "go", "votes", "need", "odd_need", "one", "two", "odd"]
abbrev A_law : List Str := ["script"]
theorem sc_law : FnScope N_law A_law (defScope s_law) := ⟨rfl, rfl, rfl, by decide +kernel, rfl, by decide +kernel, by decide +kernel⟩
noncomputable def m_law : MS := sSeq (sFor (.name 1) (mRange1 (mCons (pureM (.int 4)) mNil)) (sSeq (sAsg (.name 2) (mCallF 2 f_law_pool (mCons (mVar 0) (mCons (mVar 1) mNil)))) (sFor (.name 3) (mRange1 (mCons (pureM (.int 4)) mNil)) (sSeq (sAsg (.tup [.name 4, .name 5]) (mCallF 1 f_law_drawn_round (mCons (mVar 2) mNil))) (sSeq (sAsg (.name 6) (mCallF 2 f_law_one (mCons (mVar 2) (mCons (mLst (mCons (pureM (.int 0)) (mCons (mNeg (pureM (.int 1))) (mCons (pureM (.bl true)) (mCons (pureM .non) (mCons (pureM (.str "1")) (mCons (mTup (mCons (pureM (.int 1)) mNil)) (mCons (mNeg (mOp opPow (pureM (.int 10)) (pureM (.int 30)))) mNil)))))))) mNil)))) (sSeq (sFor (.tup [.name 7, .name 8]) (mSeqI (mLst (mCons (mTup (mCons (mVar 4) (mCons (mVar 5) mNil))) (mCons (mTup (mCons (mVar 4) (mCons (mOp opAdd (pureM (.int 1)) (mCallF 2 f_law_take (mCons (mVar 2) (mCons (pureM (.int 4)) mNil)))) mNil))) (mCons (mTup (mCons (mVar 4) (mCons (mVar 6) mNil))) mNil))))) (sIf (mNotT (mTest (mCallF 2 f_law_asked (mCons (mVar 7) (mCons (mVar 8) mNil))))) (sRet (pureM (.bl false))) sNil)) (sSeq (sAsg (.name 9) (mCallF 2 f_law_odd_votes (mCons (mVar 2) (mCons (mVar 4) mNil)))) (sIf (mOrT (mNotT (mTest (mCallF 2 f_law_asked (mCons (mVar 9) (mCons (mVar 6) mNil))))) (mOrT (mNotT (mTest (mCallF 2 f_law_asked (mCons (mVar 9) (mCons (mVar 5) mNil))))) (mNotT (mTest (mCallF 2 f_law_asked (mCons (mSl (mOp opMul (mVar 4) (pureM (.int 70))) mNoO (mSomeO (pureM (.int 200)))) (mCons (mVar 5) mNil))))))) (sRet (pureM (.bl false))) sNil)))))))) (sRet (pureM (.bl true)))
noncomputable def f_law : Fn := runB 10 m_law
theorem okF_law {w : World} {mg : Str → Option Value} {base : Heap} {g : G} (Y : LawF w mg base g.K g.C) (gk : GOk g) (th : ∀ H p ob vs u, g.T H → H p = some (.frz ob (.dK vs)) → g.T (upd H p u)) {T : List (Addr × Str)} (lt : LTab mg base g T) {fa : Addr} {fd : FuncData} (FD : FunD g.K "law" "law" (defArgs s_law) (defBody s_law) (defScope s_law) [] [] fa fd) : FnOk Pg w g.K mg base (L2N.CX Pg w) 12 fa fd A_law (spOf g 1 f_law) := by
  refine fn_rd (N := N_law) (ps := A_law) (m := m_law) FD sc_law fun cdv A outer s H E bx => ?_
  exact b_cons (s_for bx.po rfl (i_range1 rfl Y.f_range (sa_cons s_int sa_nil)) (p_name (i := 1) sc_law.nd rfl (.inl rfl) (.inl rfl)) (b_cons (s_set (i := 2) sc_law.nd rfl (.inl rfl) (s_call (ok_law_pool Y gk) rfl (bx.hr.mono (by decide)) bx.tk rfl (sa_cons (s_var (i := 0) rfl (.inl rfl)) (sa_cons (s_var (i := 1) rfl (.inl rfl)) sa_nil))) (.inl rfl))
      (b_one (s_for bx.po rfl (i_range1 rfl Y.f_range (sa_cons s_int sa_nil)) (p_name (i := 3) sc_law.nd rfl (.inl rfl) (.inl rfl)) (b_cons (s_asg (s_call (ok_law_drawn_round Y gk) rfl (bx.hr.mono (by decide)) bx.tk rfl (sa_cons (s_var (i := 2) rfl (.inl rfl)) sa_nil)) (p_tup rfl rfl (ps_cons' (p_name (i := 4) sc_law.nd rfl (.inl rfl) (.inl rfl)) (ps_cons' (p_name (i := 5) sc_law.nd rfl (.inl rfl) (.inl rfl)) (ps_nil')))))
      (b_cons (s_set (i := 6) sc_law.nd rfl (.inl rfl) (s_call (ok_law_one Y gk) rfl (bx.hr.mono (by decide)) bx.tk rfl (sa_cons (s_var (i := 2) rfl (.inl rfl)) (sa_cons (s_lst gk (sa_cons s_int (sa_cons (s_neg s_int) (sa_cons s_bl (sa_cons s_non (sa_cons s_str (sa_cons (s_tup gk (sa_cons s_int sa_nil)) (sa_cons (s_neg (s_op op_pow sim_pow s_int s_int)) sa_nil)))))))) sa_nil))) (.inl rfl))
      (b_cons (s_for bx.po rfl (i_seq rfl (s_lst gk (sa_cons (s_tup gk (sa_cons (s_var (i := 4) rfl (.inl rfl)) (sa_cons (s_var (i := 5) rfl (.inl rfl)) sa_nil))) (sa_cons (s_tup gk (sa_cons (s_var (i := 4) rfl (.inl rfl)) (sa_cons (s_op op_addAll (sim_add gk) s_int (s_call (ok_law_take Y gk) rfl (bx.hr.mono (by decide)) bx.tk rfl (sa_cons (s_var (i := 2) rfl (.inl rfl)) (sa_cons s_int sa_nil)))) sa_nil))) (sa_cons (s_tup gk (sa_cons (s_var (i := 4) rfl (.inl rfl)) (sa_cons (s_var (i := 6) rfl (.inl rfl)) sa_nil))) sa_nil))))) (p_tup rfl rfl (ps_cons' (p_name (i := 7) sc_law.nd rfl (.inl rfl) (.inl rfl)) (ps_cons' (p_name (i := 8) sc_law.nd rfl (.inl rfl) (.inl rfl)) (ps_nil')))) (b_one (s_if (st_not (st_val (s_call (ok_law_asked Y gk th lt) rfl (bx.hr.mono (by decide)) bx.tk rfl (sa_cons (s_var (i := 7) rfl (.inl rfl)) (sa_cons (s_var (i := 8) rfl (.inl rfl)) sa_nil))))) (b_one (s_ret s_bl)) b_nil)))
      (b_cons (s_set (i := 9) sc_law.nd rfl (.inl rfl) (s_call (ok_law_odd_votes Y gk) rfl (bx.hr.mono (by decide)) bx.tk rfl (sa_cons (s_var (i := 2) rfl (.inl rfl)) (sa_cons (s_var (i := 4) rfl (.inl rfl)) sa_nil))) (.inl rfl))
      (b_one (s_if (sw_pt (sw_or (st_not (st_val (s_call (ok_law_asked Y gk th lt) rfl (bx.hr.mono (by decide)) bx.tk rfl (sa_cons (s_var (i := 9) rfl (.inl rfl)) (sa_cons (s_var (i := 6) rfl (.inl rfl)) sa_nil))))) (sw_or (st_not (st_val (s_call (ok_law_asked Y gk th lt) rfl (bx.hr.mono (by decide)) bx.tk rfl (sa_cons (s_var (i := 9) rfl (.inl rfl)) (sa_cons (s_var (i := 5) rfl (.inl rfl)) sa_nil))))) (sw_or1 (st_not (st_val (s_call (ok_law_asked Y gk th lt) rfl (bx.hr.mono (by decide)) bx.tk rfl (sa_cons (s_slice gk rfl (s_op op_mulAll (sim_mul gk) (s_var (i := 4) rfl (.inl rfl)) s_int) so_none (so_some s_int)) (sa_cons (s_var (i := 5) rfl (.inl rfl)) sa_nil))))))))) (b_one (s_ret s_bl)) b_nil))))))))))
      (b_one (s_ret s_bl))
end LawT

end
section
set_option Elab.async false
set_option linter.all false
set_option maxHeartbeats 2000000
/-! K08M1: windows, steps, rotations: no program in sight. -/
namespace Crew
/-- the weight of the k places behind x -/
def W (v : Nat → Nat) (x : Nat) : Nat → Nat
  | 0 => 0
  | k + 1 => W v x k + v (x + k)
section
variable {v : Nat → Nat}
theorem W_add (x a : Nat) : ∀ b, W v x (a + b) = W v x a + W v (x + a) b
  | 0 => rfl
  | b + 1 => by
    show W v x (a + b) + v (x + (a + b)) = W v x a + (W v (x + a) b + v (x + a + b))
    rw [W_add x a b, Nat.add_assoc x a b]
    omega
theorem W_mono {x a b : Nat} (h : a ≤ b) : W v x a ≤ W v x b := by
  obtain ⟨c, rfl⟩ := Nat.exists_eq_add_of_le h
  rw [W_add]
  omega
theorem W_per {N : Nat} (hp : ∀ i, v (i + N) = v i) (x : Nat) : ∀ k, W v (x + N) k = W v x k
  | 0 => rfl
  | k + 1 => by
    show W v (x + N) k + v (x + N + k) = W v x k + v (x + k)
    rw [W_per hp x k, show x + N + k = x + k + N by omega, hp]
theorem W_perj {N : Nat} (hp : ∀ i, v (i + N) = v i) (x k : Nat) : ∀ j, W v (x + j * N) k = W v x k
  | 0 => by simp
  | j + 1 => by
    rw [show x + (j + 1) * N = x + j * N + N by rw [Nat.add_mul]; omega, W_per hp, W_perj hp x k j]
theorem W_full {N : Nat} (hp : ∀ i, v (i + N) = v i) : ∀ x, W v x N = W v 0 N
  | 0 => rfl
  | x + 1 => by
    have e1 := W_add (v := v) x 1 N
    have e2 := W_add (v := v) x N 1
    rw [Nat.add_comm 1 N] at e1
    have e3 : W v x 1 = v x := by simp [W]
    have e4 : W v (x + N) 1 = v (x + N) := by simp [W]
    rw [e3] at e1
    rw [e4, hp] at e2
    have := W_full hp x
    omega
/-- t is where the step from x ends -/
def IsStep (v : Nat → Nat) (need x t : Nat) : Prop := x < t ∧ need ≤ W v x (t - x) ∧ W v x (t - x - 1) < need
theorem step_ex {need x : Nat} (h0 : 0 < need) : ∀ k, need ≤ W v x k → ∃ t, t ≤ x + k ∧ IsStep v need x t
  | 0, h => by
    exact absurd h (by show ¬ need ≤ 0; omega)
  | k + 1, h => by
    by_cases hk : need ≤ W v x k
    · obtain ⟨t, h1, h2⟩ := step_ex h0 k hk
      exact ⟨t, by omega, h2⟩
    · exact ⟨x + (k + 1), Nat.le_refl _, by omega, by rw [Nat.add_sub_cancel_left]; exact h, by rw [Nat.add_sub_cancel_left, Nat.add_sub_cancel]; omega⟩
theorem IsStep.le {need x y t u : Nat} (h : IsStep v need x t) (g : IsStep v need y u) (hxy : x ≤ y) : t ≤ u := by
  refine Nat.le_of_not_lt fun hlt => ?_
  obtain ⟨h1, h2, h3⟩ := h
  obtain ⟨g1, g2, g3⟩ := g
  have e := W_add (v := v) x (y - x) (u - y)
  rw [show y - x + (u - y) = u - x by omega, show x + (y - x) = y by omega] at e
  have m : W v x (u - x) ≤ W v x (t - x - 1) := W_mono (by omega)
  omega
theorem IsStep.eq {need x t u : Nat} (h : IsStep v need x t) (g : IsStep v need x u) : t = u := Nat.le_antisymm (h.le g (Nat.le_refl _)) (g.le h (Nat.le_refl _))
theorem IsStep.per {N need x t : Nat} (hp : ∀ i, v (i + N) = v i) (h : IsStep v need x t) : IsStep v need (x + N) (t + N) := by
  obtain ⟨h1, h2, h3⟩ := h
  refine ⟨by omega, ?_, ?_⟩
  · rw [W_per hp, show t + N - (x + N) = t - x by omega]; exact h2
  · rw [W_per hp, show t + N - (x + N) = t - x by omega]; exact h3
open Classical in
/-- the step -/
noncomputable def stp (v : Nat → Nat) (need x : Nat) : Nat := if h : ∃ t, IsStep v need x t then h.choose else x + 1
theorem stp_eq {need x t : Nat} (h : IsStep v need x t) : stp v need x = t := by
  have hx : ∃ t, IsStep v need x t := ⟨t, h⟩
  unfold stp
  rw [dif_pos hx]
  exact hx.choose_spec.eq h
end
/-! ### a map that goes on, keeps the order, turns with N -/
structure Rot (F : Nat → Nat) (N : Nat) : Prop where
  pos : 0 < N
  adv : ∀ x, x < F x
  mono : ∀ x y, x ≤ y → F x ≤ F y
  per : ∀ x, F (x + N) = F x + N
theorem rot_stp {v : Nat → Nat} {N need : Nat} (hN : 0 < N) (hp : ∀ i, v (i + N) = v i) (h0 : 0 < need) (hs : need ≤ W v 0 N) : Rot (stp v need) N ∧ ∀ x, IsStep v need x (stp v need x) ∧ stp v need x ≤ x + N := by
  have ex : ∀ x, ∃ t, t ≤ x + N ∧ IsStep v need x t := fun x => step_ex h0 N (by rw [W_full hp]; exact hs)
  have st : ∀ x, IsStep v need x (stp v need x) ∧ stp v need x ≤ x + N := fun x => by
    obtain ⟨t, h1, h2⟩ := ex x
    rw [stp_eq h2]
    exact ⟨h2, h1⟩
  exact ⟨⟨hN, fun x => (st x).1.1, fun x y h => (st x).1.le (st y).1 h, fun x => stp_eq ((st x).1.per hp)⟩, st⟩
def it (F : Nat → Nat) : Nat → Nat → Nat
  | 0, x => x
  | k + 1, x => it F k (F x)
section
variable {F : Nat → Nat} {N : Nat}
theorem it_succ (k x : Nat) : it F (k + 1) x = F (it F k x) := by
  induction k generalizing x with
  | zero => rfl
  | succ k ih => exact ih (F x)
theorem it_add (a b x : Nat) : it F (a + b) x = it F b (it F a x) := by
  induction a generalizing x with
  | zero => rw [Nat.zero_add]; rfl
  | succ a ih =>
    rw [show a + 1 + b = (a + b) + 1 by omega]
    exact ih (F x)
theorem Rot.it_mono (R : Rot F N) (k : Nat) {x y : Nat} (h : x ≤ y) : it F k x ≤ it F k y := by
  induction k generalizing x y with
  | zero => exact h
  | succ k ih => exact ih (R.mono _ _ h)
theorem Rot.it_per (R : Rot F N) (k x : Nat) : it F k (x + N) = it F k x + N := by
  induction k generalizing x with
  | zero => rfl
  | succ k ih =>
    show it F k (F (x + N)) = it F k (F x) + N
    rw [R.per, ih]
theorem Rot.it_perj (R : Rot F N) (k x : Nat) : ∀ j, it F k (x + j * N) = it F k x + j * N
  | 0 => by simp
  | j + 1 => by
    rw [show x + (j + 1) * N = x + j * N + N by rw [Nat.add_mul]; omega, R.it_per, R.it_perj k x j, Nat.add_mul]
    omega
theorem Rot.it_ge (R : Rot F N) (k x : Nat) : x + k ≤ it F k x := by
  induction k generalizing x with
  | zero => exact Nat.le_refl _
  | succ k ih =>
    have h1 := ih (F x)
    have h2 := R.adv x
    show x + (k + 1) ≤ it F k (F x)
    omega
theorem Rot.it_lt (R : Rot F N) {a b : Nat} (h : a < b) (x : Nat) : it F a x < it F b x := by
  obtain ⟨c, rfl⟩ := Nat.exists_eq_add_of_lt h
  rw [show a + c + 1 = a + (c + 1) by omega, it_add]
  have := R.it_ge (c + 1) (it F a x)
  omega
theorem Rot.it_le (R : Rot F N) {a b : Nat} (h : a ≤ b) (x : Nat) : it F a x ≤ it F b x := by
  rcases Nat.lt_or_eq_of_le h with h | h
  · exact Nat.le_of_lt (R.it_lt h x)
  · rw [h]; exact Nat.le_refl _
/-- s turns: p steps are q rounds -/
def Turns (F : Nat → Nat) (N p q s : Nat) : Prop := it F p s = s + q * N
theorem Rot.turns_mul (R : Rot F N) {p q s : Nat} (h : Turns F N p q s) : ∀ k, it F (p * k) s = s + q * k * N
  | 0 => by simp [it]
  | k + 1 => by
    rw [Nat.mul_succ, it_add, R.turns_mul h k, R.it_perj, h, Nat.mul_succ, Nat.add_mul]
    omega
theorem Rot.turns_le (R : Rot F N) {p q s p' q' t : Nat} (h : Turns F N p q s) (h' : Turns F N p' q' t) : q * p' ≤ q' * p := by
  refine Nat.le_of_not_lt fun hlt => ?_
  obtain ⟨k, hk⟩ : ∃ k, k = s + t + 1 := ⟨_, rfl⟩
  have e1 : it F (p * (p' * k)) s = s + q * (p' * k) * N := R.turns_mul h _
  have e2 : it F (p' * (p * k)) t = t + q' * (p * k) * N := R.turns_mul h' _
  have e3 : p * (p' * k) = p' * (p * k) := by
    rw [← Nat.mul_assoc, ← Nat.mul_assoc, Nat.mul_comm p p']
  have le : s ≤ t + s * N := by
    have := Nat.le_mul_of_pos_right s R.pos
    omega
  have m := R.it_mono (p * (p' * k)) le
  rw [R.it_perj, e1, e3, e2] at m
  have a1 : q * (p' * k) * N = (q * p') * (k * N) := by simp only [Nat.mul_assoc]
  have a2 : q' * (p * k) * N = (q' * p) * (k * N) := by simp only [Nat.mul_assoc]
  rw [a1, a2] at m
  have a3 : (q' * p + 1) * (k * N) ≤ (q * p') * (k * N) := Nat.mul_le_mul_right _ hlt
  rw [Nat.add_mul, Nat.one_mul] at a3
  have a4 : k * N = s * N + (t + 1) * N := by rw [hk, ← Nat.add_mul, Nat.add_assoc]
  have a5 := Nat.le_mul_of_pos_right (t + 1) R.pos
  omega
theorem Rot.turns_eq (R : Rot F N) {p q s p' q' t : Nat} (h : Turns F N p q s) (h' : Turns F N p' q' t) : q * p' = q' * p := Nat.le_antisymm (R.turns_le h h') (R.turns_le h' h)
/-- how many steps go round once -/
theorem Rot.once_lt (R : Rot F N) {p q s m : Nat} (h : Turns F N p q s) (hm : m * q < p) : it F m s < s + N := by
  refine Nat.lt_of_not_le fun hle => ?_
  have key : ∀ k, s + k * N ≤ it F (m * k) s := fun k => by
    induction k with
    | zero => simp [it]
    | succ k ih =>
      have h1 := R.it_mono m ih
      rw [R.it_perj] at h1
      rw [Nat.mul_succ, it_add, Nat.add_mul]
      omega
  have h1 := key q
  have h2 := R.it_lt hm s
  unfold Turns at h
  omega
theorem Rot.once_ge (R : Rot F N) {p q s m : Nat} (hq : 0 < q) (h : Turns F N p q s) (hm : p ≤ m * q) : s + N ≤ it F m s := by
  refine Nat.le_of_not_lt fun hlt => ?_
  have key : ∀ k, it F (m * (k + 1)) s < s + (k + 1) * N := fun k => by
    induction k with
    | zero => simpa using hlt
    | succ k ih =>
      have h1 := R.it_mono m (Nat.le_of_lt ih)
      rw [R.it_perj] at h1
      rw [Nat.mul_succ, it_add]
      have : (k + 1 + 1) * N = (k + 1) * N + N := by rw [Nat.add_mul (k + 1) 1 N, Nat.one_mul]
      omega
  obtain ⟨r, rfl⟩ : ∃ r, q = r + 1 := ⟨q - 1, by omega⟩
  have h1 := key r
  have h2 := R.it_le hm s
  unfold Turns at h
  omega
theorem Turns.inj {p q s t : Nat} (R : Rot F N) (hp : 0 < p) (h : Turns F N p q s) (h' : Turns F N p q t) (e : F s = F t) : s = t := by
  obtain ⟨r, rfl⟩ : ∃ r, p = r + 1 := ⟨p - 1, by omega⟩
  have e1 : it F (r + 1) s = it F (r + 1) t := by
    show it F r (F s) = it F r (F t)
    rw [e]
  unfold Turns at h h'
  omega
theorem Turns.shift {p q s : Nat} (R : Rot F N) (j : Nat) : Turns F N p q (s + j * N) ↔ Turns F N p q s := by
  unfold Turns
  rw [R.it_perj]
  omega
theorem Turns.on {p q s : Nat} (R : Rot F N) (h : Turns F N p q s) (i : Nat) : Turns F N p q (it F i s) := by
  unfold Turns at h ⊢
  rw [← it_add, Nat.add_comm, it_add, h, R.it_perj]
theorem Turns.mod {p q s : Nat} (R : Rot F N) (h : Turns F N p q s) : Turns F N p q (s % N) := by
  rw [← Turns.shift R (s / N)]
  have : s % N + s / N * N = s := by
    have := Nat.mod_add_div s N
    rw [Nat.mul_comm] at this
    exact this
  rw [this]
  exact h
theorem Rot.once_lt1 (R : Rot F N) {p q s m : Nat} (hp : 0 < p) (h : Turns F N p q s) (h1 : 1 ≤ m) (hm : (m - 1) * q < p) : it F m s < it F 1 s + N := by
  obtain ⟨r, rfl⟩ : ∃ r, m = r + 1 := ⟨m - 1, by omega⟩
  have a1 := R.once_lt h hm
  rw [Nat.add_sub_cancel] at a1
  rw [it_succ]
  have a2 : F (it F r s) ≤ F (s + N) := R.mono _ _ (Nat.le_of_lt a1)
  have a3 : F (it F r s) ≠ F (s + N) := fun e => by
    have hs : Turns F N p q (s + N) := by
      have := (Turns.shift (p := p) (q := q) (s := s) R 1).mpr h
      rwa [Nat.one_mul] at this
    have := Turns.inj R hp (h.on R r) hs e
    omega
  rw [R.per] at a2 a3
  show F (it F r s) < F s + N
  omega
end
/-- the round's size -/
def size (p q : Nat) : Nat := (p + q - 1) / q
theorem size_ok {p q : Nat} (hq : 0 < q) (hp : 0 < p) : 0 < size p q ∧ p ≤ size p q * q ∧ (size p q - 1) * q < p := by
  unfold size
  have e := Nat.div_add_mod (p + q - 1) q
  have l := Nat.mod_lt (p + q - 1) hq
  have pos : 0 < (p + q - 1) / q := Nat.div_pos (by omega) hq
  rw [Nat.mul_comm] at e
  refine ⟨pos, by omega, ?_⟩
  rw [Nat.sub_mul, Nat.one_mul]
  omega
theorem size_eq {p q p' q' : Nat} (hq : 0 < q) (hq' : 0 < q') (hp : 0 < p) (hp' : 0 < p') (h : q * p' = q' * p) : size p q = size p' q' := by
  have le : ∀ {p q p' q' : Nat}, 0 < q → 0 < q' → 0 < p → 0 < p' → q * p' = q' * p → size p q ≤ size p' q' := by
    intro p q p' q' hq hq' hp hp' h
    obtain ⟨a1, a2, a3⟩ := size_ok hq hp
    obtain ⟨b1, b2, b3⟩ := size_ok hq' hp'
    refine Nat.le_of_not_lt fun hlt => ?_
    have c1 : size p' q' * q ≤ (size p q - 1) * q := Nat.mul_le_mul_right _ (by omega)
    have c2 : size p' q' * q < p := by omega
    have c3 : q' * (size p' q' * q) < q' * p := Nat.mul_lt_mul_of_pos_left c2 hq'
    have c4 : q * p' ≤ q * (size p' q' * q') := Nat.mul_le_mul_left _ b2
    have c5 : q' * (size p' q' * q) = q * (size p' q' * q') := by
      rw [Nat.mul_comm q', Nat.mul_comm q, Nat.mul_assoc, Nat.mul_assoc, Nat.mul_comm q q']
    omega
  exact Nat.le_antisymm (le hq hq' hp hp' h) (le hq' hq hp' hp h.symm)
/-! ### the crew -/
section
variable {v : Nat → Nat} {N need : Nat}
/-- the gap behind one of the crew is light: c is the place of the next one, counted on -/
theorem gap_next (R : Rot (stp v need) N) (st : ∀ x, IsStep v need x (stp v need x)) {p q s m i : Nat} (hq : 0 < q) (hp : 0 < p) (h : Turns (stp v need) N p q s) (hm : p ≤ m * q) (hm2 : (m - 1) * q < p) (h1 : 1 ≤ i) (h2 : i ≤ m) :
    ∃ c, it (stp v need) i s ≤ c ∧ W v (it (stp v need) i s) (c - it (stp v need) i s) < need ∧ ∃ k, 1 ≤ k ∧ k ≤ m ∧ c % N = (it (stp v need) k s - 1) % N := by
  have g := st (it (stp v need) i s)
  rw [← it_succ (F := stp v need)] at g
  obtain ⟨g1, g2, g3⟩ := g
  by_cases hi : i < m
  · refine ⟨it (stp v need) (i + 1) s - 1, by omega, ?_, i + 1, by omega, by omega, rfl⟩
    rw [show it (stp v need) (i + 1) s - 1 - it (stp v need) i s = it (stp v need) (i + 1) s - it (stp v need) i s - 1 by omega]
    exact g3
  · obtain rfl : i = m := by omega
    have a1 := R.once_ge hq h hm
    have a2 : it (stp v need) 1 s + N ≤ it (stp v need) (i + 1) s := by
      have := R.it_mono 1 a1
      rw [R.it_per, ← it_add] at this
      exact this
    have hc := R.once_lt1 hp h h1 hm2
    refine ⟨it (stp v need) 1 s + N - 1, by omega, ?_, 1, by omega, h1, ?_⟩
    · exact Nat.lt_of_le_of_lt (W_mono (by omega)) g3
    · have := R.it_ge 1 s
      rw [show it (stp v need) 1 s + N - 1 = it (stp v need) 1 s - 1 + N by omega, Nat.add_mod_right]
/-- the crew's places, as found -/
noncomputable def found (v : Nat → Nat) (N need s m : Nat) : List Nat := (List.range m).map fun k => (it (stp v need) (k + 1) s - 1) % N
theorem found_mem {s m r : Nat} : r ∈ found v N need s m ↔ ∃ k, 1 ≤ k ∧ k ≤ m ∧ r = (it (stp v need) k s - 1) % N := by
  unfold found
  rw [List.mem_map]
  constructor
  · rintro ⟨k, hk, rfl⟩
    exact ⟨k + 1, by omega, by have := List.mem_range.mp hk; omega, rfl⟩
  · rintro ⟨k, h1, h2, rfl⟩
    exact ⟨k - 1, List.mem_range.mpr (by omega), by rw [Nat.sub_add_cancel h1]⟩
theorem found_nodup (R : Rot (stp v need) N) {p q s m : Nat} (hp : 0 < p) (h : Turns (stp v need) N p q s) (h1 : 1 ≤ m) (hm : (m - 1) * q < p) : (found v N need s m).Nodup := by
  have inj : ∀ i j, i < m → j < m → i < j → (it (stp v need) (i + 1) s - 1) % N ≠ (it (stp v need) (j + 1) s - 1) % N := by
    intro i j hi hj hij e
    have l1 : it (stp v need) (i + 1) s < it (stp v need) (j + 1) s := R.it_lt (by omega) s
    have l2 := R.once_lt1 hp h h1 hm
    have l3 : it (stp v need) (j + 1) s ≤ it (stp v need) m s := R.it_le (by omega) s
    have l4 : it (stp v need) 1 s ≤ it (stp v need) (i + 1) s := R.it_le (by omega) s
    have l5 := R.it_ge 1 s
    have d1 := Nat.div_add_mod (it (stp v need) (i + 1) s - 1) N
    have d2 := Nat.div_add_mod (it (stp v need) (j + 1) s - 1) N
    rw [e] at d1
    obtain ⟨a, ha⟩ : ∃ a, a = (it (stp v need) (i + 1) s - 1) / N := ⟨_, rfl⟩
    obtain ⟨b, hb⟩ : ∃ b, b = (it (stp v need) (j + 1) s - 1) / N := ⟨_, rfl⟩
    rw [← ha] at d1
    rw [← hb] at d2
    rcases Nat.lt_or_ge a b with hab | hab
    · have : N * (a + 1) ≤ N * b := Nat.mul_le_mul_left _ hab
      rw [Nat.mul_succ] at this
      omega
    · have : N * b ≤ N * a := Nat.mul_le_mul_left _ hab
      omega
  unfold found
  rw [List.nodup_iff_pairwise_ne, List.pairwise_map]
  refine List.Pairwise.imp_of_mem (R := fun a b => a < b) (fun ha hb hab => inj _ _ (List.mem_range.mp ha) (List.mem_range.mp hb) hab) List.pairwise_lt_range
/-- the law's question about the gaps -/
theorem gap_ok (R : Rot (stp v need) N) (hv : ∀ i, v (i + N) = v i) (st : ∀ x, IsStep v need x (stp v need x)) {p q s m : Nat} (hq : 0 < q) (hp : 0 < p) (h : Turns (stp v need) N p q s) (hm : p ≤ m * q) (hm2 : (m - 1) * q < p)
    {th : List Nat} (hs : th.Pairwise (· < ·)) (ht : ∀ r, r ∈ th ↔ r ∈ found v N need s m) {k : Nat} (hk : k < th.length) {en : Nat} (he : en = if h : k + 1 < th.length then th[k + 1] else th[0] + N) :
    W v (th[k] + 1) (en - (th[k] + 1)) < need := by
  obtain ⟨i, h1, h2, e⟩ := found_mem.mp ((ht _).mp (List.getElem_mem hk))
  obtain ⟨c, c1, c2, c3⟩ := gap_next R st hq hp h hm hm2 h1 h2
  have l5 := R.it_ge i s
  have d1 := Nat.div_add_mod (it (stp v need) i s - 1) N
  rw [← e] at d1
  obtain ⟨j, hj⟩ : ∃ j, j = (it (stp v need) i s - 1) / N := ⟨_, rfl⟩
  rw [← hj, Nat.mul_comm] at d1
  -- counted from the turn of th[k]
  have e1 : it (stp v need) i s = th[k] + 1 + j * N := by omega
  have e2 : c % N ∈ th := by
    obtain ⟨k2, k3, k4, k5⟩ := c3
    exact (ht _).mpr (found_mem.mpr ⟨k2, k3, k4, k5⟩)
  have e3 : (c - j * N) % N = c % N := by
    have : c = c - j * N + j * N := by omega
    conv => rhs; rw [this]
    rw [Nat.add_mul_mod_self_right]
  have lt : ∀ r, r ∈ th → r < N := fun r hr => by
    obtain ⟨_, _, _, rfl⟩ := found_mem.mp ((ht _).mp hr)
    exact Nat.mod_lt _ R.pos
  have pw := List.pairwise_iff_getElem.mp hs
  have le : en ≤ c - j * N := by
    rw [he]
    by_cases hc : c - j * N < N
    · rw [Nat.mod_eq_of_lt hc] at e3
      rw [← e3] at e2
      obtain ⟨l, hl, el⟩ := List.getElem_of_mem e2
      have kl : k < l := by
        refine Nat.lt_of_not_le fun hle => ?_
        rcases Nat.lt_or_eq_of_le hle with hlt | heq
        · have := pw l k hl hk hlt
          omega
        · subst heq
          omega
      rw [dif_pos (show k + 1 < th.length by omega)]
      rcases Nat.lt_or_eq_of_le (show k + 1 ≤ l from kl) with hlt | heq
      · have := pw (k + 1) l (by omega) hl hlt
        omega
      · subst heq
        omega
    · split
      · rename_i hlt
        have := lt _ (List.getElem_mem hlt)
        omega
      · have h0 : 0 < th.length := by omega
        obtain ⟨l, hl, el⟩ := List.getElem_of_mem e2
        have t0 : th[0] ≤ th[l] := by
          rcases Nat.eq_zero_or_pos l with z | z
          · subst z; exact Nat.le_refl _
          · exact Nat.le_of_lt (pw 0 l h0 hl z)
        have d3 := Nat.div_add_mod (c - j * N) N
        have d4 : 1 ≤ (c - j * N) / N := Nat.div_pos (by omega) R.pos
        have d5 : N * 1 ≤ N * ((c - j * N) / N) := Nat.mul_le_mul_left _ d4
        omega
  have w : W v (th[k] + 1) (c - it (stp v need) i s) < need := by
    rw [e1] at c2 ⊢
    rw [W_perj hv] at c2
    exact c2
  exact Nat.lt_of_le_of_lt (W_mono (by omega)) w
end
end Crew
/-! ### counting -/
namespace Crew
theorem pigeon : ∀ (N : Nat) (l : List Nat), (∀ x ∈ l, x < N) → l.Nodup → l.length ≤ N
  | 0, [], _, _ => Nat.le_refl _
  | 0, x :: l, h, _ => absurd (h x (List.mem_cons_self ..)) (by omega)
  | N + 1, l, h, nd => by
    by_cases hm : N ∈ l
    · have h1 := pigeon N (l.erase N) (fun x hx => by
        have a := h x (List.mem_of_mem_erase hx)
        have b : x ≠ N := fun e => by
          subst e
          exact (List.Nodup.not_mem_erase nd) hx
        omega) (nd.erase N)
      rw [List.length_erase_of_mem hm] at h1
      omega
    · have h1 := pigeon N l (fun x hx => by
        have a := h x hx
        have b : x ≠ N := fun e => hm (e ▸ hx)
        omega) nd
      omega
section
variable {F : Nat → Nat} {N : Nat}
/-- the residues of the walk from 0 -/
theorem Rot.it_mod (R : Rot F N) (k x : Nat) : it F k x % N = it F k (x % N) % N := by
  have e := Nat.mod_add_div x N
  rw [Nat.mul_comm] at e
  have h := R.it_perj k (x % N) (x / N)
  rw [e] at h
  rw [h, Nat.add_mul_mod_self_right]
theorem Rot.back (R : Rot F N) : ∃ k, 1 ≤ k ∧ k ≤ N ∧ it F k (it F N 0 % N) % N = it F N 0 % N := by
  obtain ⟨i, j, h1, h2, h3⟩ : ∃ i j, i < j ∧ j ≤ N ∧ it F i 0 % N = it F j 0 % N := by
    refine Classical.byContradiction fun hn => ?_
    have nd : ((List.range (N + 1)).map fun k => it F k 0 % N).Nodup := by
      rw [List.nodup_iff_pairwise_ne, List.pairwise_map]
      refine List.Pairwise.imp_of_mem (R := fun a b => a < b) (fun ha hb hab e => hn ⟨_, _, hab, ?_, e⟩) List.pairwise_lt_range
      have := List.mem_range.mp hb
      omega
    have := pigeon N _ (fun x hx => by
      obtain ⟨k, _, rfl⟩ := List.mem_map.mp hx
      exact Nat.mod_lt _ R.pos) nd
    simp at this
    omega
  refine ⟨j - i, by omega, by omega, ?_⟩
  rw [← R.it_mod, ← it_add, show N + (j - i) = j + (N - i) by omega, it_add, R.it_mod, ← h3, ← R.it_mod, ← it_add, show i + (N - i) = N by omega]
/-- residues that come back turn -/
theorem Rot.turns_of (R : Rot F N) {k s : Nat} (h : it F k s % N = s % N) : Turns F N k ((it F k s - s) / N) s := by
  unfold Turns
  have g := R.it_ge k s
  have d1 := Nat.div_add_mod (it F k s) N
  have d2 := Nat.div_add_mod s N
  rw [h] at d1
  have e : it F k s - s = N * (it F k s / N - s / N) := by rw [Nat.mul_sub]; omega
  rw [e, Nat.mul_div_cancel_left _ R.pos, Nat.mul_comm, ← e]
  omega
theorem Rot.turns_pos (R : Rot F N) {p q s : Nat} (hp : 0 < p) (h : Turns F N p q s) : 0 < q := by
  rcases Nat.eq_zero_or_pos q with z | z
  · subst z
    have := R.it_ge p s
    unfold Turns at h
    omega
  · exact z
end
end Crew

end
section
set_option Elab.async false
set_option linter.all false
set_option maxRecDepth 100000
set_option maxHeartbeats 2000000
/-! K08M2: what the mirrors compute: the small ones -/
namespace LawT
open PySem PySem.Spec PyProof.Rows L2 PI LamX Crew
def fin : SR → ER D
  | .nx _ S1 => .ok .non S1
  | .rt d S1 => .ok d S1
  | .ex c w _ S1 => .ex c w S1
  | .bk _ _ => .bad
  | .ct _ _ => .bad
  | .bad => .bad
/-- what is no mutable thing -/
def flat : D → Bool
  | .loc _ => false
  | .fn _ => false
  | _ => true
def isI : D → Bool
  | .int _ => true
  | _ => false
def least (k : Int) : D → Bool
  | .int i => decide (k ≤ i)
  | _ => false
theorem kt_NoneType_int : kitB "NoneType" "int" = some false := by decide +kernel
theorem kt_NoneType_bool : kitB "NoneType" "bool" = some false := by decide +kernel
theorem kt_NoneType_str : kitB "NoneType" "str" = some false := by decide +kernel
theorem kt_NoneType_tuple : kitB "NoneType" "tuple" = some false := by decide +kernel
theorem kt_NoneType_list : kitB "NoneType" "list" = some false := by decide +kernel
theorem kt_bool_int : kitB "bool" "int" = some true := by decide +kernel
theorem kt_bool_bool : kitB "bool" "bool" = some true := by decide +kernel
theorem kt_bool_str : kitB "bool" "str" = some false := by decide +kernel
theorem kt_bool_tuple : kitB "bool" "tuple" = some false := by decide +kernel
theorem kt_bool_list : kitB "bool" "list" = some false := by decide +kernel
theorem kt_int_int : kitB "int" "int" = some true := by decide +kernel
theorem kt_int_bool : kitB "int" "bool" = some false := by decide +kernel
theorem kt_int_str : kitB "int" "str" = some false := by decide +kernel
theorem kt_int_tuple : kitB "int" "tuple" = some false := by decide +kernel
theorem kt_int_list : kitB "int" "list" = some false := by decide +kernel
theorem kt_str_int : kitB "str" "int" = some false := by decide +kernel
theorem kt_str_bool : kitB "str" "bool" = some false := by decide +kernel
theorem kt_str_str : kitB "str" "str" = some true := by decide +kernel
theorem kt_str_tuple : kitB "str" "tuple" = some false := by decide +kernel
theorem kt_str_list : kitB "str" "list" = some false := by decide +kernel
theorem kt_tuple_int : kitB "tuple" "int" = some false := by decide +kernel
theorem kt_tuple_bool : kitB "tuple" "bool" = some false := by decide +kernel
theorem kt_tuple_str : kitB "tuple" "str" = some false := by decide +kernel
theorem kt_tuple_tuple : kitB "tuple" "tuple" = some true := by decide +kernel
theorem kt_tuple_list : kitB "tuple" "list" = some false := by decide +kernel
theorem kt_list_int : kitB "list" "int" = some false := by decide +kernel
theorem kt_list_bool : kitB "list" "bool" = some false := by decide +kernel
theorem kt_list_str : kitB "list" "str" = some false := by decide +kernel
theorem kt_list_tuple : kitB "list" "tuple" = some false := by decide +kernel
theorem kt_list_list : kitB "list" "list" = some true := by decide +kernel
theorem kt_dict_int : kitB "dict" "int" = some false := by decide +kernel
theorem kt_dict_bool : kitB "dict" "bool" = some false := by decide +kernel
theorem kt_dict_str : kitB "dict" "str" = some false := by decide +kernel
theorem kt_dict_tuple : kitB "dict" "tuple" = some false := by decide +kernel
theorem kt_dict_list : kitB "dict" "list" = some false := by decide +kernel
theorem is_whole_ok {d : D} (h : flat d = true) (S : Sto) : f_is_whole [d] S = .ok (.bl (isI d)) S := by
  rw [show f_is_whole [d] S = fin (m_is_whole [some d] S) from rfl]
  cases d with
  | loc _ => cases h
  | fn _ => cases h
  | _ => simp [m_is_whole, fin, sSeq, sNil, sPass, sIf, sRet, sRetN, sExpr, sAsg, bindS, PI.bindM, pureM, mVar, mOp, mTest, mNotT, mAndT, mOrT, mAndV, mOrV, mNotV, mIf, mNeg, mChain, mNil, mCons, mCall, mCallF, bindP, bindPs, Bool.not_true, Bool.not_false, List.getElem?_cons_zero, List.getElem?_cons_succ, List.set_cons_zero, List.set_cons_succ, List.length_cons, List.length_nil, Nat.zero_add, Nat.reduceAdd, if_true, if_false, Bool.false_eq_true, reduceIte, mIsTy, tyD, Option.bind_some, kt_NoneType_int, kt_NoneType_bool, kt_NoneType_str, kt_NoneType_tuple, kt_NoneType_list, kt_bool_int, kt_bool_bool, kt_bool_str, kt_bool_tuple, kt_bool_list, kt_int_int, kt_int_bool, kt_int_str, kt_int_tuple, kt_int_list, kt_str_int, kt_str_bool, kt_str_str, kt_str_tuple, kt_str_list, kt_tuple_int, kt_tuple_bool, kt_tuple_str, kt_tuple_tuple, kt_tuple_list, kt_list_int, kt_list_bool, kt_list_str, kt_list_tuple, kt_list_list, kt_dict_int, kt_dict_bool, kt_dict_str, kt_dict_tuple, kt_dict_list, isI]
theorem law_is_whole_ok {d : D} (h : flat d = true) (S : Sto) : f_law_is_whole [d] S = .ok (.bl (isI d)) S := is_whole_ok h S
theorem is_from_ok {d : D} (h : flat d = true) (k : Int) (S : Sto) : f_is_from [d, .int k] S = .ok (.bl (least k d)) S := by
  rw [show f_is_from [d, .int k] S = fin (m_is_from [some d, some (.int k)] S) from rfl]
  simp only [m_is_from, fin, sSeq, sNil, sPass, sIf, sRet, sRetN, sExpr, sAsg, bindS, PI.bindM, pureM, mVar, mOp, mTest, mNotT, mAndT, mOrT, mAndV, mOrV, mNotV, mIf, mNeg, mChain, mNil, mCons, mCall, mCallF, bindP, bindPs, Bool.not_true, Bool.not_false, List.getElem?_cons_zero, List.getElem?_cons_succ, List.set_cons_zero, List.set_cons_succ, List.length_cons, List.length_nil, Nat.zero_add, Nat.reduceAdd, if_true, if_false, Bool.false_eq_true, reduceIte, is_whole_ok h]
  cases d <;> simp [isI, least, opGe, opB, fin, sSeq, sNil, sPass, sIf, sRet, sRetN, sExpr, sAsg, bindS, PI.bindM, pureM, mVar, mOp, mTest, mNotT, mAndT, mOrT, mAndV, mOrV, mNotV, mIf, mNeg, mChain, mNil, mCons, mCall, mCallF, bindP, bindPs, Bool.not_true, Bool.not_false, List.getElem?_cons_zero, List.getElem?_cons_succ, List.set_cons_zero, List.set_cons_succ, List.length_cons, List.length_nil, Nat.zero_add, Nat.reduceAdd, if_true, if_false, Bool.false_eq_true, reduceIte]
theorem is_count_ok {d : D} (h : flat d = true) (S : Sto) : f_is_count [d] S = .ok (.bl (least 0 d)) S := by
  rw [show f_is_count [d] S = fin (m_is_count [some d] S) from rfl]
  simp only [m_is_count, fin, sSeq, sNil, sPass, sIf, sRet, sRetN, sExpr, sAsg, bindS, PI.bindM, pureM, mVar, mOp, mTest, mNotT, mAndT, mOrT, mAndV, mOrV, mNotV, mIf, mNeg, mChain, mNil, mCons, mCall, mCallF, bindP, bindPs, Bool.not_true, Bool.not_false, List.getElem?_cons_zero, List.getElem?_cons_succ, List.set_cons_zero, List.set_cons_succ, List.length_cons, List.length_nil, Nat.zero_add, Nat.reduceAdd, if_true, if_false, Bool.false_eq_true, reduceIte, is_from_ok h]
/-! ### statements, step by step -/
theorem seq_to {a b : MS} {ρ ρ1 : Rho} {S S1 : Sto} {r : SR} (h : a ρ S = .nx ρ1 S1) (k : b ρ1 S1 = r) : sSeq a b ρ S = r := by
  unfold sSeq
  rw [h]
  exact k
theorem seq_rt {a b : MS} {ρ : Rho} {S S1 : Sto} {d : D} (h : a ρ S = .rt d S1) : sSeq a b ρ S = .rt d S1 := by
  unfold sSeq
  rw [h]
theorem seq_ex {a b : MS} {ρ ρ1 : Rho} {S S1 : Sto} {c : Nat} {d : D} (h : a ρ S = .ex c d ρ1 S1) : sSeq a b ρ S = .ex c d ρ1 S1 := by
  unfold sSeq
  rw [h]
theorem asg_to {p : Pat} {m : M D} {ρ ρ1 : Rho} {S S1 : Sto} {d : D} (h : m ρ S = .ok d S1) (e : bindP p d ρ = some ρ1) : sAsg p m ρ S = .nx ρ1 S1 := by
  unfold sAsg bindS
  rw [h]
  simp only [e]
theorem ret_to {m : M D} {ρ : Rho} {S S1 : Sto} {d : D} (h : m ρ S = .ok d S1) : sRet m ρ S = .rt d S1 := by
  unfold sRet bindS
  rw [h]
theorem expr_to {m : M D} {ρ : Rho} {S S1 : Sto} {d : D} (h : m ρ S = .ok d S1) : sExpr m ρ S = .nx ρ S1 := by
  unfold sExpr bindS
  rw [h]
theorem if_yes {c : M Bool} {a b : MS} {ρ : Rho} {S S1 : Sto} {r : SR} (h : c ρ S = .ok true S1) (k : a ρ S1 = r) : sIf c a b ρ S = r := by
  unfold sIf bindS
  rw [h]
  exact k
theorem if_no {c : M Bool} {a b : MS} {ρ : Rho} {S S1 : Sto} {r : SR} (h : c ρ S = .ok false S1) (k : b ρ S1 = r) : sIf c a b ρ S = r := by
  unfold sIf bindS
  rw [h]
  exact k
theorem for_to {p : Pat} {mi : M IterD} {b : MS} {ρ : Rho} {S S1 : Sto} {it : IterD} {r : SR} (h : mi ρ S = .ok it S1) (k : forL it p b it.items ρ S1 = r) : sFor p mi b ρ S = r := by
  unfold sFor bindS
  rw [h]
  exact k
/-! ### loops -/
theorem okB_nil {xs : List D} {S : Sto} : (⟨xs, []⟩ : IterD).okB S := fun p hp => by cases hp
theorem forL_nil0 {its : List D} {p : Pat} {b : MS} {ρ : Rho} {S : Sto} : forL ⟨its, []⟩ p b [] ρ S = .nx ρ S := by
  unfold forL
  rw [if_pos okB_nil]
theorem forL_cons0 {its : List D} {p : Pat} {b : MS} {d : D} {ds : List D} {ρ : Rho} {S : Sto} : forL ⟨its, []⟩ p b (d :: ds) ρ S = match bindP p d ρ with
    | none => .bad
    | some ρ1 => match b ρ1 S with
      | .nx ρ2 S2 => forL ⟨its, []⟩ p b ds ρ2 S2
      | .ct ρ2 S2 => forL ⟨its, []⟩ p b ds ρ2 S2
      | .bk ρ2 S2 => .nx ρ2 S2
      | r => r := by
  rw [forL, if_pos okB_nil]
  all_goals
    cases bindP p d ρ with
    | none => rfl
    | some ρ1 => cases b ρ1 S <;> rfl
/-- the places of what is no count, counted from n -/
def bads : Nat → List D → List Nat
  | _, [] => []
  | n, d :: ds => if least 0 d then bads (n + 1) ds else n :: bads (n + 1) ds
def headOr : List Nat → D
  | [] => .non
  | i :: _ => .int i
theorem wrong_loop {t : D} {its : List D} {S : Sto} {b : MS} (hb : b = sIf (mNotT (mTest (mCallF 1 f_is_count (mCons (mVar 2) mNil)))) (sRet (mVar 1)) sNil) : ∀ (xs : List D) (n : Nat) (x y : Option D), xs.all flat = true →
    (bads n xs = [] → ∃ x' y', forL ⟨its, []⟩ (.tup [.name 1, .name 2]) b (enumD n xs) [some t, x, y] S = .nx [some t, x', y'] S) ∧
    (∀ i l, bads n xs = i :: l → forL ⟨its, []⟩ (.tup [.name 1, .name 2]) b (enumD n xs) [some t, x, y] S = .rt (.int i) S)
  | [], n, x, y, _ => ⟨fun _ => ⟨x, y, forL_nil0⟩, fun i l h => by cases h⟩
  | d :: ds, n, x, y, hf => by
    simp only [List.all_cons, Bool.and_eq_true] at hf
    have ih := wrong_loop (t := t) (its := its) (S := S) hb ds (n + 1) (some (.int n)) (some d) hf.2
    have e : b [some t, some (.int n), some d] S = if least 0 d then .nx [some t, some (.int n), some d] S else .rt (.int n) S := by
      rw [hb]
      simp only [fin, sSeq, sNil, sPass, sIf, sRet, sRetN, sExpr, sAsg, bindS, PI.bindM, pureM, mVar, mOp, mTest, mNotT, mAndT, mOrT, mAndV, mOrV, mNotV, mIf, mNeg, mChain, mNil, mCons, mCall, mCallF, bindP, bindPs, Bool.not_true, Bool.not_false, List.getElem?_cons_zero, List.getElem?_cons_succ, List.set_cons_zero, List.set_cons_succ, List.length_cons, List.length_nil, Nat.zero_add, Nat.reduceAdd, if_true, if_false, Bool.false_eq_true, reduceIte, is_count_ok hf.1]
      cases least 0 d <;> simp [fin, sSeq, sNil, sPass, sIf, sRet, sRetN, sExpr, sAsg, bindS, PI.bindM, pureM, mVar, mOp, mTest, mNotT, mAndT, mOrT, mAndV, mOrV, mNotV, mIf, mNeg, mChain, mNil, mCons, mCall, mCallF, bindP, bindPs, Bool.not_true, Bool.not_false, List.getElem?_cons_zero, List.getElem?_cons_succ, List.set_cons_zero, List.set_cons_succ, List.length_cons, List.length_nil, Nat.zero_add, Nat.reduceAdd, if_true, if_false, Bool.false_eq_true, reduceIte]
    have e2 : forL ⟨its, []⟩ (.tup [.name 1, .name 2]) b (enumD n (d :: ds)) [some t, x, y] S = if least 0 d then forL ⟨its, []⟩ (.tup [.name 1, .name 2]) b (enumD (n + 1) ds) [some t, some (.int n), some d] S else .rt (.int n) S := by
      rw [show enumD n (d :: ds) = .tup [.int n, d] :: enumD (n + 1) ds from rfl, forL_cons0]
      simp only [bindP, bindPs, List.getElem?_cons_zero, List.getElem?_cons_succ, List.set_cons_zero, List.set_cons_succ, List.length_cons, List.length_nil, Nat.zero_add, Nat.reduceAdd, if_true, if_false, Bool.false_eq_true, reduceIte, e]
      cases least 0 d <;> simp
    rw [e2]
    simp only [bads]
    by_cases hl : least 0 d = true
    · simp only [hl, if_true]
      exact ih
    · simp [hl]
theorem wrong_votes_ok {xs : List D} (h : xs.all flat = true) (S : Sto) : f_wrong_votes [.tup xs] S = .ok (headOr (bads 0 xs)) S := by
  rw [show f_wrong_votes [.tup xs] S = fin (m_wrong_votes [some (.tup xs), none, none] S) from rfl]
  obtain ⟨h1, h2⟩ := wrong_loop (t := .tup xs) (its := enumD 0 xs) (S := S) rfl xs 0 none none h
  have hi : mEnum (mCons (mVar 0) mNil) [some (.tup xs), none, none] S = .ok ⟨enumD 0 xs, []⟩ S := by simp only [mEnum, enumIter, fin, sSeq, sNil, sPass, sIf, sRet, sRetN, sExpr, sAsg, bindS, PI.bindM, pureM, mVar, mOp, mTest, mNotT, mAndT, mOrT, mAndV, mOrV, mNotV, mIf, mNeg, mChain, mNil, mCons, mCall, mCallF, bindP, bindPs, Bool.not_true, Bool.not_false, List.getElem?_cons_zero, List.getElem?_cons_succ, List.set_cons_zero, List.set_cons_succ, List.length_cons, List.length_nil, Nat.zero_add, Nat.reduceAdd, if_true, if_false, Bool.false_eq_true, reduceIte]
  cases e : bads 0 xs with
  | nil =>
    obtain ⟨x, y, e1⟩ := h1 e
    rw [show m_wrong_votes [some (.tup xs), none, none] S = .rt .non S from seq_to (for_to hi e1) rfl]
    rfl
  | cons i l =>
    rw [show m_wrong_votes [some (.tup xs), none, none] S = .rt (.int i) S from seq_rt (for_to hi (h2 i l e))]
    rfl
theorem check_votes_tup {xs : List D} (h : xs.all flat = true) (S : Sto) : f_check_votes [.tup xs] S = match bads 0 xs with
    | [] => .ok .non S
    | i :: _ => .ex 2 (.int i) S := by
  rw [show f_check_votes [.tup xs] S = fin (m_check_votes [some (.tup xs), none] S) from rfl]
  have h1 : mNotT (mTest (mIsTy "tuple" (mVar 0))) [some (.tup xs), none] S = .ok false S := by simp only [fin, sSeq, sNil, sPass, sIf, sRet, sRetN, sExpr, sAsg, bindS, PI.bindM, pureM, mVar, mOp, mTest, mNotT, mAndT, mOrT, mAndV, mOrV, mNotV, mIf, mNeg, mChain, mNil, mCons, mCall, mCallF, bindP, bindPs, Bool.not_true, Bool.not_false, List.getElem?_cons_zero, List.getElem?_cons_succ, List.set_cons_zero, List.set_cons_succ, List.length_cons, List.length_nil, Nat.zero_add, Nat.reduceAdd, if_true, if_false, Bool.false_eq_true, reduceIte, mIsTy, tyD, Option.bind_some, kt_NoneType_int, kt_NoneType_bool, kt_NoneType_str, kt_NoneType_tuple, kt_NoneType_list, kt_bool_int, kt_bool_bool, kt_bool_str, kt_bool_tuple, kt_bool_list, kt_int_int, kt_int_bool, kt_int_str, kt_int_tuple, kt_int_list, kt_str_int, kt_str_bool, kt_str_str, kt_str_tuple, kt_str_list, kt_tuple_int, kt_tuple_bool, kt_tuple_str, kt_tuple_tuple, kt_tuple_list, kt_list_int, kt_list_bool, kt_list_str, kt_list_tuple, kt_list_list, kt_dict_int, kt_dict_bool, kt_dict_str, kt_dict_tuple, kt_dict_list]
  have h2 : mCallF 1 f_wrong_votes (mCons (mVar 0) mNil) [some (.tup xs), none] S = .ok (headOr (bads 0 xs)) S := by
    simp only [fin, sSeq, sNil, sPass, sIf, sRet, sRetN, sExpr, sAsg, bindS, PI.bindM, pureM, mVar, mOp, mTest, mNotT, mAndT, mOrT, mAndV, mOrV, mNotV, mIf, mNeg, mChain, mNil, mCons, mCall, mCallF, bindP, bindPs, Bool.not_true, Bool.not_false, List.getElem?_cons_zero, List.getElem?_cons_succ, List.set_cons_zero, List.set_cons_succ, List.length_cons, List.length_nil, Nat.zero_add, Nat.reduceAdd, if_true, if_false, Bool.false_eq_true, reduceIte]
    exact wrong_votes_ok h S
  cases e : bads 0 xs with
  | nil =>
    rw [e] at h2
    rw [show m_check_votes [some (.tup xs), none] S = .nx [some (.tup xs), some .non] S from seq_to (if_no h1 rfl) (seq_to (asg_to h2 rfl) (if_no (by simp only [fin, sSeq, sNil, sPass, sIf, sRet, sRetN, sExpr, sAsg, bindS, PI.bindM, pureM, mVar, mOp, mTest, mNotT, mAndT, mOrT, mAndV, mOrV, mNotV, mIf, mNeg, mChain, mNil, mCons, mCall, mCallF, bindP, bindPs, Bool.not_true, Bool.not_false, List.getElem?_cons_zero, List.getElem?_cons_succ, List.set_cons_zero, List.set_cons_succ, List.length_cons, List.length_nil, Nat.zero_add, Nat.reduceAdd, if_true, if_false, Bool.false_eq_true, reduceIte, opIsNot, opB, PI.isNon, headOr]) rfl))]
    rfl
  | cons i l =>
    rw [e] at h2
    rw [show m_check_votes [some (.tup xs), none] S = .ex 2 (.int i) [some (.tup xs), some (.int i)] S from seq_to (if_no h1 rfl) (seq_to (asg_to h2 rfl) (if_yes (by simp only [fin, sSeq, sNil, sPass, sIf, sRet, sRetN, sExpr, sAsg, bindS, PI.bindM, pureM, mVar, mOp, mTest, mNotT, mAndT, mOrT, mAndV, mOrV, mNotV, mIf, mNeg, mChain, mNil, mCons, mCall, mCallF, bindP, bindPs, Bool.not_true, Bool.not_false, List.getElem?_cons_zero, List.getElem?_cons_succ, List.set_cons_zero, List.set_cons_succ, List.length_cons, List.length_nil, Nat.zero_add, Nat.reduceAdd, if_true, if_false, Bool.false_eq_true, reduceIte, opIsNot, opB, PI.isNon, headOr]) rfl))]
    rfl
theorem check_need_ok {d : D} (h : flat d = true) (S : Sto) : f_check_need [d] S = if least 1 d then .ok .non S else .ex 4 d S := by
  rw [show f_check_need [d] S = fin (m_check_need [some d] S) from rfl]
  have h1 : mNotT (mTest (mCallF 2 f_is_from (mCons (mVar 0) (mCons (pureM (.int 1)) mNil)))) [some d] S = .ok (!least 1 d) S := by
    simp only [fin, sSeq, sNil, sPass, sIf, sRet, sRetN, sExpr, sAsg, bindS, PI.bindM, pureM, mVar, mOp, mTest, mNotT, mAndT, mOrT, mAndV, mOrV, mNotV, mIf, mNeg, mChain, mNil, mCons, mCall, mCallF, bindP, bindPs, Bool.not_true, Bool.not_false, List.getElem?_cons_zero, List.getElem?_cons_succ, List.set_cons_zero, List.set_cons_succ, List.length_cons, List.length_nil, Nat.zero_add, Nat.reduceAdd, if_true, if_false, Bool.false_eq_true, reduceIte]
    rw [is_from_ok h]
  cases e : least 1 d with
  | true =>
    rw [e] at h1
    rw [show m_check_need [some d] S = .nx [some d] S from if_no h1 rfl]
    rfl
  | false =>
    rw [e] at h1
    rw [show m_check_need [some d] S = .ex 4 d [some d] S from if_yes h1 rfl]
    rfl
def isTup : D → Bool
  | .tup _ => true
  | _ => false
/-- what may be asked about -/
inductive Vts : Sto → D → Prop where
  | flat {S : Sto} {d : D} : flat d = true → Vts S d
  | list {S : Sto} {n : Nat} {xs : List D} : S[n]? = some (.lst xs) → Vts S (.loc n)
theorem check_ring_not {S : Sto} {d n : D} (h : Vts S d) (ht : isTup d = false) : f_check_ring [d, n] S = .ex 2 (.int (-1)) S := by
  rw [show f_check_ring [d, n] S = fin (m_check_ring [some d, some n] S) from rfl]
  cases h with
  | flat hf =>
    cases d with
    | tup _ => cases ht
    | loc _ => cases hf
    | fn _ => cases hf
    | _ => simp [m_check_ring, fin, sSeq, sNil, sPass, sIf, sRet, sRetN, sExpr, sAsg, bindS, PI.bindM, pureM, mVar, mOp, mTest, mNotT, mAndT, mOrT, mAndV, mOrV, mNotV, mIf, mNeg, mChain, mNil, mCons, mCall, mCallF, bindP, bindPs, Bool.not_true, Bool.not_false, List.getElem?_cons_zero, List.getElem?_cons_succ, List.set_cons_zero, List.set_cons_succ, List.length_cons, List.length_nil, Nat.zero_add, Nat.reduceAdd, if_true, if_false, Bool.false_eq_true, reduceIte, mIsTy, tyD, Option.bind_some, kt_NoneType_int, kt_NoneType_bool, kt_NoneType_str, kt_NoneType_tuple, kt_NoneType_list, kt_bool_int, kt_bool_bool, kt_bool_str, kt_bool_tuple, kt_bool_list, kt_int_int, kt_int_bool, kt_int_str, kt_int_tuple, kt_int_list, kt_str_int, kt_str_bool, kt_str_str, kt_str_tuple, kt_str_list, kt_tuple_int, kt_tuple_bool, kt_tuple_str, kt_tuple_tuple, kt_tuple_list, kt_list_int, kt_list_bool, kt_list_str, kt_list_tuple, kt_list_list, kt_dict_int, kt_dict_bool, kt_dict_str, kt_dict_tuple, kt_dict_list, sRaise]
  | list hl => simp [m_check_ring, fin, sSeq, sNil, sPass, sIf, sRet, sRetN, sExpr, sAsg, bindS, PI.bindM, pureM, mVar, mOp, mTest, mNotT, mAndT, mOrT, mAndV, mOrV, mNotV, mIf, mNeg, mChain, mNil, mCons, mCall, mCallF, bindP, bindPs, Bool.not_true, Bool.not_false, List.getElem?_cons_zero, List.getElem?_cons_succ, List.set_cons_zero, List.set_cons_succ, List.length_cons, List.length_nil, Nat.zero_add, Nat.reduceAdd, if_true, if_false, Bool.false_eq_true, reduceIte, mIsTy, tyD, Option.bind_some, kt_NoneType_int, kt_NoneType_bool, kt_NoneType_str, kt_NoneType_tuple, kt_NoneType_list, kt_bool_int, kt_bool_bool, kt_bool_str, kt_bool_tuple, kt_bool_list, kt_int_int, kt_int_bool, kt_int_str, kt_int_tuple, kt_int_list, kt_str_int, kt_str_bool, kt_str_str, kt_str_tuple, kt_str_list, kt_tuple_int, kt_tuple_bool, kt_tuple_str, kt_tuple_tuple, kt_tuple_list, kt_list_int, kt_list_bool, kt_list_str, kt_list_tuple, kt_list_list, kt_dict_int, kt_dict_bool, kt_dict_str, kt_dict_tuple, kt_dict_list, sRaise, hl]
theorem len_test {S : Sto} {xs : List D} {n : D} : (mOrT (mNotT (mTest (mIsTy "tuple" (mVar 0)))) (mNotT (mTest (mChain opLe opLe (pureM (.int 3)) (mCall fLen (mCons (mVar 0) mNil)) (pureM (.int 200)))))) [some (.tup xs), some n] S = .ok (!(decide (3 ≤ xs.length) && decide (xs.length ≤ 200))) S := by
  have c1 : decide ((3 : Int) ≤ (xs.length : Int)) = decide (3 ≤ xs.length) := decide_eq_decide.mpr (by omega)
  have c2 : decide ((xs.length : Int) ≤ 200) = decide (xs.length ≤ 200) := decide_eq_decide.mpr (by omega)
  by_cases h1 : 3 ≤ xs.length
  · by_cases h2 : xs.length ≤ 200
    · simp [fin, sSeq, sNil, sPass, sIf, sRet, sRetN, sExpr, sAsg, bindS, PI.bindM, pureM, mVar, mOp, mTest, mNotT, mAndT, mOrT, mAndV, mOrV, mNotV, mIf, mNeg, mChain, mNil, mCons, mCall, mCallF, bindP, bindPs, Bool.not_true, Bool.not_false, List.getElem?_cons_zero, List.getElem?_cons_succ, List.set_cons_zero, List.set_cons_succ, List.length_cons, List.length_nil, Nat.zero_add, Nat.reduceAdd, if_true, if_false, Bool.false_eq_true, reduceIte, mIsTy, tyD, Option.bind_some, kt_NoneType_int, kt_NoneType_bool, kt_NoneType_str, kt_NoneType_tuple, kt_NoneType_list, kt_bool_int, kt_bool_bool, kt_bool_str, kt_bool_tuple, kt_bool_list, kt_int_int, kt_int_bool, kt_int_str, kt_int_tuple, kt_int_list, kt_str_int, kt_str_bool, kt_str_str, kt_str_tuple, kt_str_list, kt_tuple_int, kt_tuple_bool, kt_tuple_str, kt_tuple_tuple, kt_tuple_list, kt_list_int, kt_list_bool, kt_list_str, kt_list_tuple, kt_list_list, kt_dict_int, kt_dict_bool, kt_dict_str, kt_dict_tuple, kt_dict_list, fLen, seqD, opLe, opB, c1, c2, h1, h2]
    · simp [fin, sSeq, sNil, sPass, sIf, sRet, sRetN, sExpr, sAsg, bindS, PI.bindM, pureM, mVar, mOp, mTest, mNotT, mAndT, mOrT, mAndV, mOrV, mNotV, mIf, mNeg, mChain, mNil, mCons, mCall, mCallF, bindP, bindPs, Bool.not_true, Bool.not_false, List.getElem?_cons_zero, List.getElem?_cons_succ, List.set_cons_zero, List.set_cons_succ, List.length_cons, List.length_nil, Nat.zero_add, Nat.reduceAdd, if_true, if_false, Bool.false_eq_true, reduceIte, mIsTy, tyD, Option.bind_some, kt_NoneType_int, kt_NoneType_bool, kt_NoneType_str, kt_NoneType_tuple, kt_NoneType_list, kt_bool_int, kt_bool_bool, kt_bool_str, kt_bool_tuple, kt_bool_list, kt_int_int, kt_int_bool, kt_int_str, kt_int_tuple, kt_int_list, kt_str_int, kt_str_bool, kt_str_str, kt_str_tuple, kt_str_list, kt_tuple_int, kt_tuple_bool, kt_tuple_str, kt_tuple_tuple, kt_tuple_list, kt_list_int, kt_list_bool, kt_list_str, kt_list_tuple, kt_list_list, kt_dict_int, kt_dict_bool, kt_dict_str, kt_dict_tuple, kt_dict_list, fLen, seqD, opLe, opB, c1, c2, h1, h2]
  · simp [fin, sSeq, sNil, sPass, sIf, sRet, sRetN, sExpr, sAsg, bindS, PI.bindM, pureM, mVar, mOp, mTest, mNotT, mAndT, mOrT, mAndV, mOrV, mNotV, mIf, mNeg, mChain, mNil, mCons, mCall, mCallF, bindP, bindPs, Bool.not_true, Bool.not_false, List.getElem?_cons_zero, List.getElem?_cons_succ, List.set_cons_zero, List.set_cons_succ, List.length_cons, List.length_nil, Nat.zero_add, Nat.reduceAdd, if_true, if_false, Bool.false_eq_true, reduceIte, mIsTy, tyD, Option.bind_some, kt_NoneType_int, kt_NoneType_bool, kt_NoneType_str, kt_NoneType_tuple, kt_NoneType_list, kt_bool_int, kt_bool_bool, kt_bool_str, kt_bool_tuple, kt_bool_list, kt_int_int, kt_int_bool, kt_int_str, kt_int_tuple, kt_int_list, kt_str_int, kt_str_bool, kt_str_str, kt_str_tuple, kt_str_list, kt_tuple_int, kt_tuple_bool, kt_tuple_str, kt_tuple_tuple, kt_tuple_list, kt_list_int, kt_list_bool, kt_list_str, kt_list_tuple, kt_list_list, kt_dict_int, kt_dict_bool, kt_dict_str, kt_dict_tuple, kt_dict_list, fLen, seqD, opLe, opB, c1, c2, h1]
theorem check_ring_len {S : Sto} {xs : List D} {n : D} (h : xs.length < 3 ∨ 200 < xs.length) : f_check_ring [.tup xs, n] S = .ex 2 (.int (-1)) S := by
  rw [show f_check_ring [.tup xs, n] S = fin (m_check_ring [some (.tup xs), some n] S) from rfl]
  have h1 := len_test (S := S) (xs := xs) (n := n)
  rw [show (!(decide (3 ≤ xs.length) && decide (xs.length ≤ 200))) = true by simp; omega] at h1
  rw [show m_check_ring [some (.tup xs), some n] S = .ex 2 (.int (-1)) [some (.tup xs), some n] S from seq_ex (if_yes h1 rfl)]
  rfl
theorem check_ring_tup {S : Sto} {xs : List D} {n : D} (hf : xs.all flat = true) (hn : flat n = true) (h1 : 3 ≤ xs.length) (h2 : xs.length ≤ 200) : f_check_ring [.tup xs, n] S = match bads 0 xs with
    | i :: _ => .ex 2 (.int i) S
    | [] => if least 1 n then .ok .non S else .ex 4 n S := by
  rw [show f_check_ring [.tup xs, n] S = fin (m_check_ring [some (.tup xs), some n] S) from rfl]
  have t1 := len_test (S := S) (xs := xs) (n := n)
  rw [show (!(decide (3 ≤ xs.length) && decide (xs.length ≤ 200))) = false by simp; omega] at t1
  have t2 : mCallF 1 f_check_votes (mCons (mVar 0) mNil) [some (.tup xs), some n] S = f_check_votes [.tup xs] S := by simp only [fin, sSeq, sNil, sPass, sIf, sRet, sRetN, sExpr, sAsg, bindS, PI.bindM, pureM, mVar, mOp, mTest, mNotT, mAndT, mOrT, mAndV, mOrV, mNotV, mIf, mNeg, mChain, mNil, mCons, mCall, mCallF, bindP, bindPs, Bool.not_true, Bool.not_false, List.getElem?_cons_zero, List.getElem?_cons_succ, List.set_cons_zero, List.set_cons_succ, List.length_cons, List.length_nil, Nat.zero_add, Nat.reduceAdd, if_true, if_false, Bool.false_eq_true, reduceIte]
  have t3 : mCallF 1 f_check_need (mCons (mVar 1) mNil) [some (.tup xs), some n] S = f_check_need [n] S := by simp only [fin, sSeq, sNil, sPass, sIf, sRet, sRetN, sExpr, sAsg, bindS, PI.bindM, pureM, mVar, mOp, mTest, mNotT, mAndT, mOrT, mAndV, mOrV, mNotV, mIf, mNeg, mChain, mNil, mCons, mCall, mCallF, bindP, bindPs, Bool.not_true, Bool.not_false, List.getElem?_cons_zero, List.getElem?_cons_succ, List.set_cons_zero, List.set_cons_succ, List.length_cons, List.length_nil, Nat.zero_add, Nat.reduceAdd, if_true, if_false, Bool.false_eq_true, reduceIte]
  rw [check_votes_tup hf] at t2
  rw [check_need_ok hn] at t3
  cases e : bads 0 xs with
  | cons i l =>
    rw [e] at t2
    rw [show m_check_ring [some (.tup xs), some n] S = .ex 2 (.int i) [some (.tup xs), some n] S from seq_to (if_no t1 rfl) (seq_ex (by simp only [sExpr, bindS, t2]))]
    rfl
  | nil =>
    rw [e] at t2
    cases e2 : least 1 n with
    | true =>
      rw [e2] at t3
      rw [show m_check_ring [some (.tup xs), some n] S = .nx [some (.tup xs), some n] S from seq_to (if_no t1 rfl) (seq_to (expr_to t2) (expr_to t3))]
      rfl
    | false =>
      rw [e2] at t3
      rw [show m_check_ring [some (.tup xs), some n] S = .ex 4 n [some (.tup xs), some n] S from seq_to (if_no t1 rfl) (seq_to (expr_to t2) (by simp only [sExpr, bindS, t3]; rfl))]
      rfl
end LawT

end
section
set_option Elab.async false
set_option linter.all false
set_option maxRecDepth 100000
set_option maxHeartbeats 2000000
/-! K08M3: the program's functions -/
namespace LawT
open PySem PySem.Spec PyProof.Rows L2 PI LamX Crew
abbrev iD (n : Nat) : D := .int (n : Int)
abbrev tN (ns : List Nat) : D := .tup (ns.map iD)
/-- the ring of votes, unrolled -/
def vv (ns : List Nat) (i : Nat) : Nat := ns.getD (i % ns.length) 0
theorem vv_per (ns : List Nat) (i : Nat) : vv ns (i + ns.length) = vv ns i := by
  unfold vv
  rw [Nat.add_mod_right]
theorem fmod_nat (a b : Nat) : (a : Int).fmod (b : Int) = ((a % b : Nat) : Int) := by
  rw [Int.fmod_eq_emod_of_nonneg _ (by omega)]
  rfl
theorem fdiv_nat (a b : Nat) : (a : Int).fdiv (b : Int) = ((a / b : Nat) : Int) := by
  rw [Int.fdiv_eq_ediv_of_nonneg _ (by omega)]
  rfl
theorem at_nat {xs : List D} {k : Nat} (h : k < xs.length) : L2.atI xs (k : Int) = some xs[k] := by
  unfold L2.atI L2.ixN
  rw [if_pos (by omega), if_pos (by omega)]
  simp [h]
theorem at_iD {ns : List Nat} {k : Nat} (h : k < ns.length) : L2.atI (ns.map iD) (k : Int) = some (iD ns[k]) := by
  rw [at_nat (by simpa using h)]
  simp
theorem vv_at {ns : List Nat} (h : 0 < ns.length) (i : Nat) : L2.atI (ns.map iD) ((i % ns.length : Nat) : Int) = some (iD (vv ns i)) := by
  rw [at_iD (Nat.mod_lt _ h)]
  unfold vv
  rw [List.getD_eq_getElem?_getD, List.getElem?_eq_getElem (Nat.mod_lt _ h)]
  rfl
theorem W_list : ∀ (ns l : List Nat) (x : Nat), (∀ k (h : k < l.length), vv ns (x + k) = l[k]) → W (vv ns) x l.length = l.sum
  | ns, [], x, _ => rfl
  | ns, a :: l, x, h => by
    have h0 := h 0 (by simp)
    have ih := W_list ns l (x + 1) (fun k hk => by
      have := h (k + 1) (by simpa using hk)
      rw [show x + 1 + k = x + (k + 1) by omega, this]
      rfl)
    have e := W_add (v := vv ns) x 1 l.length
    have e3 : W (vv ns) x 1 = vv ns x := by simp [W]
    rw [List.length_cons, Nat.add_comm l.length 1, e, e3, ih, List.sum_cons, show vv ns x = a from h0]
theorem W_sum (ns : List Nat) : W (vv ns) 0 ns.length = ns.sum := W_list ns ns 0 fun k h => by
  unfold vv
  rw [Nat.zero_add, Nat.mod_eq_of_lt h, List.getD_eq_getElem?_getD, List.getElem?_eq_getElem h]
  rfl
/-! ### step -/
def cS : M Bool := mTest (mOp opLt (mVar 3) (mVar 1))
def bS : MS := sSeq (sAug 3 opIAdd (mOp opIx (mVar 0) (mOp opMod (mVar 4) (mCall fLen (mCons (mVar 0) mNil))))) (sAug 4 opIAdd (pureM (.int 1)))
theorem step_turn {ns : List Nat} (h : 0 < ns.length) (need i a b : Nat) (S : Sto) : bS [some (tN ns), some (iD need), some (iD i), some (iD a), some (iD b)] S = .nx [some (tN ns), some (iD need), some (iD i), some (iD (a + vv ns b)), some (iD (b + 1))] S := by
  have e : (b : Int).fmod (ns.length : Int) = ((b % ns.length : Nat) : Int) := fmod_nat _ _
  have e2 : ¬ ((ns.length : Int) = 0) := by omega
  simp only [bS, sAug, fin, sSeq, sNil, sPass, sIf, sRet, sRetN, sExpr, sAsg, bindS, PI.bindM, pureM, mVar, mOp, mTest, mNotT, mAndT, mOrT, mAndV, mOrV, mNotV, mIf, mNeg, mChain, mNil, mCons, mCall, mCallF, bindP, bindPs, Bool.not_true, Bool.not_false, List.getElem?_cons_zero, List.getElem?_cons_succ, List.set_cons_zero, List.set_cons_succ, List.length_cons, List.length_nil, Nat.zero_add, Nat.reduceAdd, if_true, if_false, Bool.false_eq_true, reduceIte, fLen, seqD, opMod, List.length_map, e2, e, opIx, vv_at h, opIAdd]
  simp
theorem step_test {ns : List Nat} (need i a b : Nat) (S : Sto) : cS [some (tN ns), some (iD need), some (iD i), some (iD a), some (iD b)] S = .ok (decide (a < need)) S := by
  simp only [cS, fin, sSeq, sNil, sPass, sIf, sRet, sRetN, sExpr, sAsg, bindS, PI.bindM, pureM, mVar, mOp, mTest, mNotT, mAndT, mOrT, mAndV, mOrV, mNotV, mIf, mNeg, mChain, mNil, mCons, mCall, mCallF, bindP, bindPs, Bool.not_true, Bool.not_false, List.getElem?_cons_zero, List.getElem?_cons_succ, List.set_cons_zero, List.set_cons_succ, List.length_cons, List.length_nil, Nat.zero_add, Nat.reduceAdd, if_true, if_false, Bool.false_eq_true, reduceIte, opLt, opB]
  congr 1
  exact decide_eq_decide.mpr (by omega)
theorem step_loop {ns : List Nat} (h : 0 < ns.length) (need i K : Nat) (S : Sto) (h1 : need ≤ W (vv ns) i K) (h2 : W (vv ns) i (K - 1) < need) : ∀ r k, k + r = K →
    turns cS bS (r + 1) [some (tN ns), some (iD need), some (iD i), some (iD (W (vv ns) i k)), some (iD (i + k))] S = .nx [some (tN ns), some (iD need), some (iD i), some (iD (W (vv ns) i K)), some (iD (i + K))] S
  | 0, k, e => by
    obtain rfl : k = K := by omega
    rw [turns, step_test]
    rw [show decide (W (vv ns) i k < need) = false by simp; omega]
  | r + 1, k, e => by
    have lt : W (vv ns) i k < need := Nat.lt_of_le_of_lt (W_mono (by omega)) h2
    have ih := step_loop h need i K S h1 h2 r (k + 1) (by omega)
    rw [turns, step_test, show decide (W (vv ns) i k < need) = true by simp; omega]
    simp only [step_turn h]
    exact ih
theorem step_ok {ns : List Nat} (h : 0 < ns.length) {need i t : Nat} (st : IsStep (vv ns) need i t) (S : Sto) : f_step [tN ns, iD need, iD i] S = .ok (iD t) S := by
  obtain ⟨g1, g2, g3⟩ := st
  rw [show f_step [tN ns, iD need, iD i] S = fin (m_step [some (tN ns), some (iD need), some (iD i), none, none] S) from rfl]
  have lp := step_loop h need i (t - i) S g2 g3 (t - i) 0 (by omega)
  have w : sWhile cS bS [some (tN ns), some (iD need), some (iD i), some (.int 0), some (iD i)] S = _ := sWhile_of lp (by simp)
  rw [show i + (t - i) = t by omega] at w
  rw [show m_step [some (tN ns), some (iD need), some (iD i), none, none] S = .rt (iD t) S from seq_to (asg_to rfl rfl) (seq_to (asg_to rfl rfl) (seq_to w (ret_to rfl)))]
  rfl
end LawT

end
section
set_option Elab.async false
set_option linter.all false
set_option maxRecDepth 100000
set_option maxHeartbeats 2000000
/-! K08M4: walk_of -/
namespace LawT
open PySem PySem.Spec PyProof.Rows L2 PI LamX Crew
theorem least_ex {P : Nat → Prop} (h : ∃ n, P n) : ∃ n, P n ∧ ∀ m, m < n → ¬ P m := by
  obtain ⟨n, hn⟩ := h
  induction n using Nat.strongRecOn with
  | ind n ih =>
    by_cases hm : ∃ m, m < n ∧ P m
    · obtain ⟨m, h1, h2⟩ := hm
      exact ih m h1 h2
    · exact ⟨n, hn, fun m h1 h2 => hm ⟨m, h1, h2⟩⟩
/-! ### comprehensions whose parts do not write -/
theorem lc_pure {its : List D} {wt : List (Nat × List D)} {p : Pat} {mt : M Bool} {me : M D} {ρ : Rho} {S0 : Sto} (t : D → Bool) (y : D → D) (ok : ∀ l, (⟨its, wt⟩ : IterD).okB (S0 ++ [.lst l])) : ∀ (ds : List D) (acc : List D), acc.length + ds.length ≤ sizeLine →
    (∀ d ∈ ds, ∃ ρ1, bindP p d ρ = some ρ1 ∧ ∀ l, mt ρ1 (S0 ++ [.lst l]) = .ok (t d) (S0 ++ [.lst l]) ∧ (t d = true → me ρ1 (S0 ++ [.lst l]) = .ok (y d) (S0 ++ [.lst l]))) →
    lcL ⟨its, wt⟩ p mt me S0.length ds ρ (S0 ++ [.lst acc]) = some (S0 ++ [.lst (acc ++ (ds.filter t).map y)])
  | [], acc, _, _ => by
    unfold lcL
    rw [if_pos (ok acc)]
    simp
  | d :: ds, acc, hl, h => by
    have ih := lc_pure (ρ := ρ) (p := p) (mt := mt) (me := me) t y ok ds
    obtain ⟨ρ1, e1, e2⟩ := h d (List.mem_cons_self ..)
    obtain ⟨e3, e4⟩ := e2 acc
    have h' : ∀ d ∈ ds, ∃ ρ1, bindP p d ρ = some ρ1 ∧ ∀ l, mt ρ1 (S0 ++ [.lst l]) = .ok (t d) (S0 ++ [.lst l]) ∧ (t d = true → me ρ1 (S0 ++ [.lst l]) = .ok (y d) (S0 ++ [.lst l])) := fun x hx => h x (List.mem_cons_of_mem _ hx)
    rw [List.length_cons] at hl
    rw [lcL, if_pos (ok acc)]
    cases ht : t d with
    | false =>
      simp only [e1, e3, ht]
      rw [ih acc (by omega) h', List.filter_cons_of_neg (by simp [ht])]
    | true =>
      simp only [e1, e3, ht, e4 ht]
      have g : (S0 ++ [O.lst acc])[S0.length]? = some (.lst acc) := by simp
      have g2 : (S0 ++ [O.lst acc]).set S0.length (.lst (acc ++ [y d])) = S0 ++ [.lst (acc ++ [y d])] := by simp
      have g3 : acc.length < sizeLine := by omega
      simp only [g, g3, if_true, g2]
      rw [ih (acc ++ [y d]) (by simp; omega) h', List.filter_cons_of_pos ht]
      simp
/-! ### the dict of the places met -/
noncomputable def pl (ns : List Nat) (need k : Nat) : Nat := it (stp (vv ns) need) k 0
noncomputable def kvs (ns : List Nat) (need k : Nat) : List (Key × D) := (List.range k).map fun j => (.inl ((pl ns need j % ns.length : Nat) : Int), iD (pl ns need j))
theorem kvs_len (ns : List Nat) (need k : Nat) : (kvs ns need k).length = k := by simp [kvs]
theorem kvs_get {ns : List Nat} {need k r : Nat} {d : D} (h : getK (kvs ns need k) (.inl (r : Int)) = some d) : ∃ j, j < k ∧ pl ns need j % ns.length = r ∧ d = iD (pl ns need j) := by
  unfold getK at h
  rw [Option.map_eq_some_iff] at h
  obtain ⟨kv, h1, h2⟩ := h
  have h3 := List.find?_some h1
  have h4 := List.mem_of_find?_eq_some h1
  unfold kvs at h4
  obtain ⟨j, hj, rfl⟩ := List.mem_map.mp h4
  have h5 := of_decide_eq_true h3
  simp only [Sum.inl.injEq] at h5
  exact ⟨j, List.mem_range.mp hj, by omega, h2.symm⟩
theorem kvs_some {ns : List Nat} {need k j r : Nat} (hj : j < k) (h : pl ns need j % ns.length = r) : ∃ d, getK (kvs ns need k) (.inl (r : Int)) = some d := by
  cases e : getK (kvs ns need k) (.inl (r : Int)) with
  | some d => exact ⟨d, rfl⟩
  | none =>
    unfold getK at e
    rw [Option.map_eq_none_iff, List.find?_eq_none] at e
    exact absurd (decide_eq_true (by rw [h])) (e (.inl ((pl ns need j % ns.length : Nat) : Int), iD (pl ns need j)) (List.mem_map.mpr ⟨j, List.mem_range.mpr hj, rfl⟩))
theorem kvs_none {ns : List Nat} {need k r : Nat} (h : ∀ j, j < k → pl ns need j % ns.length ≠ r) : getK (kvs ns need k) (.inl (r : Int)) = none := by
  cases e : getK (kvs ns need k) (.inl (r : Int)) with
  | none => rfl
  | some d =>
    obtain ⟨j, h1, h2, _⟩ := kvs_get e
    exact absurd h2 (h j h1)
theorem kvs_put {ns : List Nat} {need k : Nat} (h : ∀ j, j < k → pl ns need j % ns.length ≠ pl ns need k % ns.length) : setK (kvs ns need k) (.inl ((pl ns need k % ns.length : Nat) : Int)) (iD (pl ns need k)) = kvs ns need (k + 1) := by
  unfold setK
  rw [if_neg]
  · unfold kvs
    rw [List.range_succ, List.map_append]
    rfl
  · intro hc
    obtain ⟨kv, h1, h2⟩ := List.any_eq_true.mp hc
    unfold kvs at h1
    obtain ⟨j, hj, rfl⟩ := List.mem_map.mp h1
    have h5 := of_decide_eq_true h2
    simp only [Sum.inl.injEq] at h5
    exact h j (List.mem_range.mp hj) (by omega)
def cW : M Bool := mTest (mOp opDNotIn (mOp opMod (mVar 4) (mVar 2)) (mVar 3))
noncomputable def bW : MS := sSeq (sDPut (mVar 3) (mOp opMod (mVar 4) (mVar 2)) (mVar 4)) (sAsg (.name 4) (mCallF 3 f_step (mCons (mVar 0) (mCons (mVar 1) (mCons (mVar 4) mNil)))))
abbrev rW (ns : List Nat) (need L x : Nat) : Rho := [some (tN ns), some (iD need), some (iD ns.length), some (.loc L), some (iD x), none, none, none, none]
theorem walk_test {ns : List Nat} (h : 0 < ns.length) {need k : Nat} {S0 : Sto} : cW (rW ns need S0.length (pl ns need k)) (S0 ++ [.dK (kvs ns need k)]) = .ok (!(getK (kvs ns need k) (.inl ((pl ns need k % ns.length : Nat) : Int))).isSome) (S0 ++ [.dK (kvs ns need k)]) := by
  have e2 : ¬ ((ns.length : Int) = 0) := by omega
  have e3 : (S0 ++ [O.dK (kvs ns need k)])[S0.length]? = some (.dK (kvs ns need k)) := by simp
  simp only [cW, rW, fin, sSeq, sNil, sPass, sIf, sRet, sRetN, sExpr, sAsg, bindS, PI.bindM, pureM, mVar, mOp, mTest, mNotT, mAndT, mOrT, mAndV, mOrV, mNotV, mIf, mNeg, mChain, mNil, mCons, mCall, mCallF, bindP, bindPs, Bool.not_true, Bool.not_false, List.getElem?_cons_zero, List.getElem?_cons_succ, List.set_cons_zero, List.set_cons_succ, List.length_cons, List.length_nil, Nat.zero_add, Nat.reduceAdd, if_true, if_false, Bool.false_eq_true, reduceIte, opMod, e2, fmod_nat, opDNotIn, dictD, e3, keyD]
theorem walk_turn {ns : List Nat} (h : 0 < ns.length) (hl : ns.length ≤ 200) {need k : Nat} {S0 : Sto} (st : ∀ x, IsStep (vv ns) need x (stp (vv ns) need x)) (hk : k < sizeLine) (hn : ∀ j, j < k → pl ns need j % ns.length ≠ pl ns need k % ns.length) :
    bW (rW ns need S0.length (pl ns need k)) (S0 ++ [.dK (kvs ns need k)]) = .nx (rW ns need S0.length (pl ns need (k + 1))) (S0 ++ [.dK (kvs ns need (k + 1))]) := by
  have e2 : ¬ ((ns.length : Int) = 0) := by omega
  have e3 : (S0 ++ [O.dK (kvs ns need k)])[S0.length]? = some (.dK (kvs ns need k)) := by simp
  have e4 : (S0 ++ [O.dK (kvs ns need k)]).set S0.length (.dK (kvs ns need (k + 1))) = S0 ++ [.dK (kvs ns need (k + 1))] := by simp
  have e5 : pl ns need (k + 1) = stp (vv ns) need (pl ns need k) := it_succ k 0
  refine seq_to (ρ1 := rW ns need S0.length (pl ns need k)) (S1 := S0 ++ [.dK (kvs ns need (k + 1))]) ?_ (asg_to (d := iD (pl ns need (k + 1))) (S1 := S0 ++ [.dK (kvs ns need (k + 1))]) ?_ rfl)
  · simp only [PI.sDPut, rW, fin, sSeq, sNil, sPass, sIf, sRet, sRetN, sExpr, sAsg, bindS, PI.bindM, pureM, mVar, mOp, mTest, mNotT, mAndT, mOrT, mAndV, mOrV, mNotV, mIf, mNeg, mChain, mNil, mCons, mCall, mCallF, bindP, bindPs, Bool.not_true, Bool.not_false, List.getElem?_cons_zero, List.getElem?_cons_succ, List.set_cons_zero, List.set_cons_succ, List.length_cons, List.length_nil, Nat.zero_add, Nat.reduceAdd, if_true, if_false, Bool.false_eq_true, reduceIte, opMod, e2, fmod_nat, opDPut, keyD, e3, kvs_len, hk, kvs_put hn, e4]
  · simp only [rW, fin, sSeq, sNil, sPass, sIf, sRet, sRetN, sExpr, sAsg, bindS, PI.bindM, pureM, mVar, mOp, mTest, mNotT, mAndT, mOrT, mAndV, mOrV, mNotV, mIf, mNeg, mChain, mNil, mCons, mCall, mCallF, bindP, bindPs, Bool.not_true, Bool.not_false, List.getElem?_cons_zero, List.getElem?_cons_succ, List.set_cons_zero, List.set_cons_succ, List.length_cons, List.length_nil, Nat.zero_add, Nat.reduceAdd, if_true, if_false, Bool.false_eq_true, reduceIte]
    rw [e5]
    exact step_ok h (st _) _
theorem walk_loop {ns : List Nat} (h : 0 < ns.length) (hl : ns.length ≤ 200) {need K : Nat} {S0 : Sto} (st : ∀ x, IsStep (vv ns) need x (stp (vv ns) need x)) (hK : K < sizeLine) (he : ∃ j, j < K ∧ pl ns need j % ns.length = pl ns need K % ns.length)
    (hn : ∀ k, k < K → ∀ j, j < k → pl ns need j % ns.length ≠ pl ns need k % ns.length) : ∀ r k, k + r = K →
    turns cW bW (r + 1) (rW ns need S0.length (pl ns need k)) (S0 ++ [.dK (kvs ns need k)]) = .nx (rW ns need S0.length (pl ns need K)) (S0 ++ [.dK (kvs ns need K)])
  | 0, k, e => by
    obtain rfl : k = K := by omega
    obtain ⟨j, h1, h2⟩ := he
    obtain ⟨d, hd⟩ := kvs_some (ns := ns) (need := need) h1 h2
    rw [turns, walk_test h, hd]
    rfl
  | r + 1, k, e => by
    have ih := walk_loop (S0 := S0) h hl st hK he hn r (k + 1) (by omega)
    have hk := hn k (by omega)
    rw [turns, walk_test h, kvs_none hk]
    simp only [Option.isSome_none, Bool.not_false, walk_turn h hl st (show k < sizeLine by omega) hk]
    exact ih
/-! ### the hosts that turn -/
noncomputable def hosts (ns : List Nat) (need K f : Nat) : List Nat := ((List.range K).filter fun i => decide (f ≤ pl ns need i)).map fun i => pl ns need i % ns.length
def tI (f : Nat) : D → Bool
  | .tup [_, .int i] => decide ((f : Int) ≤ i)
  | _ => false
def yI : D → D
  | .tup [h, _] => h
  | _ => .non
theorem items_hosts (ns : List Nat) (need K f : Nat) : ((itemsD (kvs ns need K)).filter (tI f)).map yI = (hosts ns need K f).map iD := by
  unfold itemsD kvs hosts
  rw [List.map_map, List.filter_map, List.map_map, List.map_map]
  have e : (tI f ∘ (fun kv : Key × D => D.tup [kD kv.1, kv.2]) ∘ fun j => ((.inl ((pl ns need j % ns.length : Nat) : Int), iD (pl ns need j)) : Key × D)) = fun i => decide (f ≤ pl ns need i) := by
    funext i
    show decide ((f : Int) ≤ (pl ns need i : Int)) = _
    exact decide_eq_decide.mpr (by omega)
  rw [e]
  rfl
theorem hosts_ok {ns : List Nat} {need K f x : Nat} {S0 : Sto} (hK : K ≤ sizeLine) :
    mLcD 3 (.tup [.name 7, .name 8]) [7, 8] (mTest (mOp opGe (mVar 8) (mVar 5))) (mVar 7) [some (tN ns), some (iD need), some (iD ns.length), some (.loc S0.length), some (iD x), some (iD f), none, none, none] (S0 ++ [.dK (kvs ns need K)]) =
      .ok (.loc (S0.length + 1)) (S0 ++ [.dK (kvs ns need K), .lst ((hosts ns need K f).map iD)]) := by
  have e3 : (S0 ++ [O.dK (kvs ns need K)])[S0.length]? = some (.dK (kvs ns need K)) := by simp
  have e4 : (S0 ++ [O.dK (kvs ns need K)]).set S0.length (.froK (kvs ns need K)) = S0 ++ [.froK (kvs ns need K)] := by simp
  have el : (S0 ++ [O.dK (kvs ns need K)]).length = (S0 ++ [O.froK (kvs ns need K)]).length := by simp
  have lp := lc_pure (its := itemsD (kvs ns need K)) (wt := []) (p := .tup [.name 7, .name 8]) (mt := mTest (mOp opGe (mVar 8) (mVar 5))) (me := mVar 7) (ρ := [some (tN ns), some (iD need), some (iD ns.length), some (.loc S0.length), some (iD x), some (iD f), none, none, none]) (S0 := S0 ++ [.froK (kvs ns need K)]) (tI f) yI (fun _ => okB_nil) (itemsD (kvs ns need K)) [] (by
      unfold itemsD
      simp [kvs_len]
      exact hK) (fun d hd => by
      unfold itemsD kvs at hd
      rw [List.map_map] at hd
      obtain ⟨j, hj, rfl⟩ := List.mem_map.mp hd
      refine ⟨_, rfl, fun l => ⟨?_, fun _ => rfl⟩⟩
      simp only [fin, sSeq, sNil, sPass, sIf, sRet, sRetN, sExpr, sAsg, bindS, PI.bindM, pureM, mVar, mOp, mTest, mNotT, mAndT, mOrT, mAndV, mOrV, mNotV, mIf, mNeg, mChain, mNil, mCons, mCall, mCallF, bindP, bindPs, Bool.not_true, Bool.not_false, List.getElem?_cons_zero, List.getElem?_cons_succ, List.set_cons_zero, List.set_cons_succ, List.length_cons, List.length_nil, Nat.zero_add, Nat.reduceAdd, if_true, if_false, Bool.false_eq_true, reduceIte, opGe, opB]
      rfl)
  rw [items_hosts, List.nil_append] at lp
  have e5 : (S0 ++ [O.froK (kvs ns need K)] ++ [O.lst ((hosts ns need K f).map iD)])[S0.length]? = some (.froK (kvs ns need K)) := by simp
  have e6 : (S0 ++ [O.froK (kvs ns need K)] ++ [O.lst ((hosts ns need K f).map iD)]).set S0.length (.dK (kvs ns need K)) = S0 ++ [.dK (kvs ns need K), .lst ((hosts ns need K f).map iD)] := by simp
  have wp : wipeR [some (tN ns), some (iD need), some (iD ns.length), some (.loc S0.length), some (iD x), some (iD f), none, none, none] [7, 8] = [some (tN ns), some (iD need), some (iD ns.length), some (.loc S0.length), some (iD x), some (iD f), none, none, none] := rfl
  unfold mLcD
  simp only [List.getElem?_cons_zero, List.getElem?_cons_succ, List.set_cons_zero, List.set_cons_succ, List.length_cons, List.length_nil, Nat.zero_add, Nat.reduceAdd, if_true, if_false, Bool.false_eq_true, reduceIte, e3, wp, e4, el, lp, e5, e6]
  simp
theorem range_ge_len (j : Nat) : ∀ K, j ≤ K → ((List.range K).filter fun i => decide (j ≤ i)).length = K - j
  | 0, h => by simp
  | K + 1, h => by
    rw [List.range_succ, List.filter_append, List.length_append]
    by_cases hj : j ≤ K
    · rw [range_ge_len j K hj]
      simp [hj]
      omega
    · have e : (List.range K).filter (fun i => decide (j ≤ i)) = [] := by
        rw [List.filter_eq_nil_iff]
        intro a ha
        have := List.mem_range.mp ha
        simp
        omega
      rw [e]
      simp [hj]
      omega
/-- lists of naturals put in order -/
def sN (l : List Nat) : List Nat := l.mergeSort fun a b => decide (a ≤ b)
theorem sN_perm (l : List Nat) : (sN l).Perm l := List.mergeSort_perm _ _
theorem sN_sorted (l : List Nat) : (sN l).Pairwise (· ≤ ·) := by
  have := List.pairwise_mergeSort (le := fun a b : Nat => decide (a ≤ b)) (fun a b c h1 h2 => by simp at *; omega) (fun a b => by simp; omega) l
  exact this.imp (fun h => by simpa using h)
theorem sortI_nat (l : List Nat) : sortI (l.map fun n : Nat => (n : Int)) = (sN l).map fun n : Nat => (n : Int) := by
  unfold sortI sN
  exact (List.map_mergeSort fun a _ b _ => decide_eq_decide.mpr (by omega)).symm
theorem ints_iD (l : List Nat) : intsD (l.map iD) = some (l.map fun n : Nat => (n : Int)) := by
  have := intsD_map (l.map fun n : Nat => (n : Int))
  rw [List.map_map] at this
  exact this
theorem sum_iD (l : List Nat) : (l.map fun n : Nat => (n : Int)).sum = (l.sum : Int) := by
  induction l with
  | nil => rfl
  | cons a l ih => simp [ih]
theorem fsum_tN (ns : List Nat) (S : Sto) : fSum [tN ns] S = .ok (iD ns.sum) S := by
  simp only [fSum, seqD, Option.bind_some, ints_iD, sum_iD]
theorem fsorted_iD {n : Nat} {l : List Nat} {S : Sto} (h : S[n]? = some (.lst (l.map iD))) : fSorted [.loc n] S = .ok (.loc S.length) (S ++ [.lst ((sN l).map iD)]) := by
  simp only [fSorted, seqD, h, Option.bind_some, ints_iD, newO, sortI_nat, List.map_map]
  rfl
theorem ftuple_loc {n : Nat} {l : List D} {S : Sto} (h : S[n]? = some (.lst l)) : fTuple [.loc n] S = .ok (.tup l) S := by
  simp only [fTuple, seqD, h]
theorem fdivOk_nat {n : Nat} (h : 0 < n) (h2 : n < 1073741824) : fdivOk (n : Int) = true := by
  have e1 : (n : Int) ≠ 0 := by omega
  have e2 : (n : Int).natAbs < 1073741824 := by simpa using h2
  unfold fdivOk
  rw [decide_eq_true e1, decide_eq_true e2]
  rfl
/-! ### walk_of -/
theorem it_up {ns : List Nat} {need : Nat} (up : ∀ x, stp (vv ns) need x ≤ x + ns.length) : ∀ k x, it (stp (vv ns) need) k x ≤ x + k * ns.length
  | 0, x => by simp [it]
  | k + 1, x => by
    have h1 := it_up up k (stp (vv ns) need x)
    have h2 := up x
    show it (stp (vv ns) need) k (stp (vv ns) need x) ≤ x + (k + 1) * ns.length
    rw [Nat.add_mul]
    omega
/-- what the walk of a ring says -/
structure WalkSays (ns : List Nat) (need : Nat) (starts : List Nat) (q : Nat) : Prop where
  ne : 0 < starts.length
  qpos : 0 < q
  qle : q ≤ starts.length
  ple : starts.length ≤ ns.length
  turns : ∀ s ∈ starts, Turns (stp (vv ns) need) ns.length starts.length q s
theorem walk_of_ok {ns : List Nat} {need : Nat} (h : 0 < ns.length) (hl : ns.length ≤ 200) (h0 : 0 < need) (hs : need ≤ ns.sum) :
    ∃ starts q, WalkSays ns need starts q ∧ ∀ S0 : Sto, ∃ T, f_walk_of [tN ns, iD need] S0 = .ok (.tup [tN starts, iD q]) (S0 ++ T) := by
  obtain ⟨R, stu⟩ := rot_stp (v := vv ns) h (vv_per ns) h0 (by rw [W_sum]; exact hs)
  have st := fun x => (stu x).1
  -- the first place whose host was met
  have ex : ∃ K, ∃ j, j < K ∧ pl ns need j % ns.length = pl ns need K % ns.length := by
    refine Classical.byContradiction fun hn => ?_
    have nd : ((List.range (ns.length + 1)).map fun k => pl ns need k % ns.length).Nodup := by
      rw [List.nodup_iff_pairwise_ne, List.pairwise_map]
      exact List.Pairwise.imp (R := fun a b => a < b) (fun hab e => hn ⟨_, _, hab, e⟩) List.pairwise_lt_range
    have := pigeon ns.length _ (fun x hx => by
      obtain ⟨k, _, rfl⟩ := List.mem_map.mp hx
      exact Nat.mod_lt _ h) nd
    simp at this
    omega
  obtain ⟨K, he, hn⟩ := least_ex ex
  have hn2 : ∀ k, k < K → ∀ j, j < k → pl ns need j % ns.length ≠ pl ns need k % ns.length := fun k hk j hj e => hn k hk ⟨j, hj, e⟩
  have nd : ((List.range K).map fun k => pl ns need k % ns.length).Nodup := by
    rw [List.nodup_iff_pairwise_ne, List.pairwise_map]
    refine List.Pairwise.imp_of_mem (R := fun a b => a < b) (fun _ hb hab => hn2 _ (List.mem_range.mp hb) _ hab) List.pairwise_lt_range
  have hKN : K ≤ ns.length := by
    have := pigeon ns.length _ (fun x hx => by
      obtain ⟨k, _, rfl⟩ := List.mem_map.mp hx
      exact Nat.mod_lt _ h) nd
    simpa using this
  have hKs : K < sizeLine := by
    have : (200 : Nat) < sizeLine := by decide
    omega
  have he2 := he
  obtain ⟨j0, hj0, ej0⟩ := he
  obtain ⟨d, hd⟩ := kvs_some (ns := ns) (need := need) hj0 ej0
  obtain ⟨j, hj, ej, rfl⟩ := kvs_get hd
  have mono : ∀ a b, a ≤ b ↔ pl ns need a ≤ pl ns need b := fun a b => by
    constructor
    · exact fun hab => R.it_le hab 0
    · intro hab
      refine Nat.le_of_not_lt fun hlt => ?_
      have := R.it_lt hlt 0
      unfold pl at hab
      omega
  have hlen : (hosts ns need K (pl ns need j)).length = K - j := by
    unfold hosts
    rw [List.length_map, show (fun i => decide (pl ns need j ≤ pl ns need i)) = fun i => decide (j ≤ i) from funext fun i => decide_eq_decide.mpr (mono j i).symm]
    exact range_ge_len j K (by omega)
  have slen : (sN (hosts ns need K (pl ns need j))).length = K - j := by rw [(sN_perm _).length_eq, hlen]
  have tj : Turns (stp (vv ns) need) ns.length (K - j) ((pl ns need K - pl ns need j) / ns.length) (pl ns need j) := by
    have e : it (stp (vv ns) need) (K - j) (pl ns need j) = pl ns need K := by
      unfold pl
      rw [← it_add, show j + (K - j) = K by omega]
    have := R.turns_of (k := K - j) (s := pl ns need j) (by rw [e, ej])
    rw [e] at this
    exact this
  have qp := R.turns_pos (by omega) tj
  have ql : (pl ns need K - pl ns need j) / ns.length ≤ K - j := by
    have h1 := it_up (fun x => (stu x).2) (K - j) (pl ns need j)
    have h2 := tj
    unfold Turns at h2
    have h3 : (pl ns need K - pl ns need j) / ns.length * ns.length ≤ (K - j) * ns.length := by omega
    exact Nat.le_of_mul_le_mul_right h3 h
  refine ⟨sN (hosts ns need K (pl ns need j)), (pl ns need K - pl ns need j) / ns.length, ⟨by omega, qp, by omega, by omega, fun s hs2 => ?_⟩, fun S0 => ⟨[.dK (kvs ns need K), .lst ((hosts ns need K (pl ns need j)).map iD), .lst ((sN (hosts ns need K (pl ns need j))).map iD)], ?_⟩⟩
  · have h1 := (sN_perm _).mem_iff.mp hs2
    unfold hosts at h1
    obtain ⟨i, hi, rfl⟩ := List.mem_map.mp h1
    obtain ⟨h2, h3⟩ := List.mem_filter.mp hi
    have h4 : j ≤ i := (mono j i).mpr (of_decide_eq_true h3)
    rw [slen]
    refine Turns.mod R ?_
    have := Turns.on R tj (i - j)
    unfold pl at this ⊢
    rw [← it_add, show j + (i - j) = i by omega] at this
    exact this
  · have lp := walk_loop (S0 := S0) h hl st hKs he2 hn2 K 0 (by omega)
    rw [show f_walk_of [tN ns, iD need] S0 = fin (m_walk_of [some (tN ns), some (iD need), none, none, none, none, none, none, none] S0) from rfl]
    have hN : ¬ ((ns.length : Int) = 0) := by omega
    have t1 : mTest (mOp opLt (mCall fSum (mCons (mVar 0) mNil)) (mVar 1)) [some (tN ns), some (iD need), none, none, none, none, none, none, none] S0 = .ok false S0 := by
      simp only [fin, sSeq, sNil, sPass, sIf, sRet, sRetN, sExpr, sAsg, bindS, PI.bindM, pureM, mVar, mOp, mTest, mNotT, mAndT, mOrT, mAndV, mOrV, mNotV, mIf, mNeg, mChain, mNil, mCons, mCall, mCallF, bindP, bindPs, Bool.not_true, Bool.not_false, List.getElem?_cons_zero, List.getElem?_cons_succ, List.set_cons_zero, List.set_cons_succ, List.length_cons, List.length_nil, Nat.zero_add, Nat.reduceAdd, if_true, if_false, Bool.false_eq_true, reduceIte, fsum_tN, opLt, opB]
      simp
      omega
    have w : sWhile cW bW (rW ns need S0.length 0) (S0 ++ [.dK []]) = _ := sWhile_of lp (by simp)
    have fd : fdivOk (ns.length : Int) = true := fdivOk_nat h (by omega)
    have t2 : mOp opDGet (mVar 3) (mOp opMod (mVar 4) (mVar 2)) (rW ns need S0.length (pl ns need K)) (S0 ++ [.dK (kvs ns need K)]) = .ok (iD (pl ns need j)) (S0 ++ [.dK (kvs ns need K)]) := by
      have e3 : (S0 ++ [O.dK (kvs ns need K)])[S0.length]? = some (.dK (kvs ns need K)) := by simp
      simp only [rW, fin, sSeq, sNil, sPass, sIf, sRet, sRetN, sExpr, sAsg, bindS, PI.bindM, pureM, mVar, mOp, mTest, mNotT, mAndT, mOrT, mAndV, mOrV, mNotV, mIf, mNeg, mChain, mNil, mCons, mCall, mCallF, bindP, bindPs, Bool.not_true, Bool.not_false, List.getElem?_cons_zero, List.getElem?_cons_succ, List.set_cons_zero, List.set_cons_succ, List.length_cons, List.length_nil, Nat.zero_add, Nat.reduceAdd, if_true, if_false, Bool.false_eq_true, reduceIte, opMod, hN, fmod_nat, opDGet, dictD, e3, keyD, hd]
    have t3 := hosts_ok (ns := ns) (need := need) (K := K) (f := pl ns need j) (x := pl ns need K) (S0 := S0) (by omega)
    have g1 : (S0 ++ [O.dK (kvs ns need K), .lst ((hosts ns need K (pl ns need j)).map iD)])[S0.length + 1]? = some (.lst ((hosts ns need K (pl ns need j)).map iD)) := by
      rw [List.getElem?_append_right (by omega)]
      simp
    have t4 : mCall fSorted (mCons (mLcD 3 (.tup [.name 7, .name 8]) [7, 8] (mTest (mOp opGe (mVar 8) (mVar 5))) (mVar 7)) mNil) [some (tN ns), some (iD need), some (iD ns.length), some (.loc S0.length), some (iD (pl ns need K)), some (iD (pl ns need j)), none, none, none] (S0 ++ [.dK (kvs ns need K)]) =
        .ok (.loc (S0.length + 2)) (S0 ++ [.dK (kvs ns need K), .lst ((hosts ns need K (pl ns need j)).map iD), .lst ((sN (hosts ns need K (pl ns need j))).map iD)]) := by
      simp only [mCall, mCons, mNil, PI.bindM, pureM, t3, fsorted_iD g1]
      simp
    have g2 : (S0 ++ [O.dK (kvs ns need K), .lst ((hosts ns need K (pl ns need j)).map iD), .lst ((sN (hosts ns need K (pl ns need j))).map iD)])[S0.length + 2]? = some (.lst ((sN (hosts ns need K (pl ns need j))).map iD)) := by
      rw [List.getElem?_append_right (by omega)]
      simp
    have ps : (((pl ns need K : Nat) : Int) - ((pl ns need j : Nat) : Int)) = ((pl ns need K - pl ns need j : Nat) : Int) := by
      have := (mono j K).mp (by omega)
      omega
    have e2s : (2 : Nat) ≤ sizeLine := by decide
    rw [show m_walk_of [some (tN ns), some (iD need), none, none, none, none, none, none, none] S0 = .rt (.tup [tN (sN (hosts ns need K (pl ns need j))), iD ((pl ns need K - pl ns need j) / ns.length)]) (S0 ++ [.dK (kvs ns need K), .lst ((hosts ns need K (pl ns need j)).map iD), .lst ((sN (hosts ns need K (pl ns need j))).map iD)]) from
      seq_to (if_no t1 rfl) (seq_to (asg_to (d := iD ns.length) (S1 := S0) (by simp only [fin, sSeq, sNil, sPass, sIf, sRet, sRetN, sExpr, sAsg, bindS, PI.bindM, pureM, mVar, mOp, mTest, mNotT, mAndT, mOrT, mAndV, mOrV, mNotV, mIf, mNeg, mChain, mNil, mCons, mCall, mCallF, bindP, bindPs, Bool.not_true, Bool.not_false, List.getElem?_cons_zero, List.getElem?_cons_succ, List.set_cons_zero, List.set_cons_succ, List.length_cons, List.length_nil, Nat.zero_add, Nat.reduceAdd, if_true, if_false, Bool.false_eq_true, reduceIte, fLen, seqD, List.length_map]) rfl) (seq_to (asg_to (d := D.loc S0.length) (S1 := S0 ++ [O.dK []]) rfl rfl) (seq_to (asg_to rfl rfl) (seq_to w (seq_to (asg_to t2 rfl) (seq_to (asg_to t4 rfl) (ret_to ?_)))))))]
    · rfl
    · simp only [mTup, fin, sSeq, sNil, sPass, sIf, sRet, sRetN, sExpr, sAsg, bindS, PI.bindM, pureM, mVar, mOp, mTest, mNotT, mAndT, mOrT, mAndV, mOrV, mNotV, mIf, mNeg, mChain, mNil, mCons, mCall, mCallF, bindP, bindPs, Bool.not_true, Bool.not_false, List.getElem?_cons_zero, List.getElem?_cons_succ, List.set_cons_zero, List.set_cons_succ, List.length_cons, List.length_nil, Nat.zero_add, Nat.reduceAdd, if_true, if_false, Bool.false_eq_true, reduceIte, opSub, ps, opFdiv, fd, fdiv_nat, e2s, ftuple_loc g2]
end LawT

end
section
set_option Elab.async false
set_option linter.all false
set_option maxRecDepth 100000
set_option maxHeartbeats 2000000
/-! K08M5: steps, crew_round, ring_crew -/
namespace LawT
open PySem PySem.Spec PyProof.Rows L2 PI LamX Crew
theorem walk_of_none {ns : List Nat} {need : Nat} (hs : ns.sum < need) (S : Sto) : f_walk_of [tN ns, iD need] S = .ok .non S := by
  rw [show f_walk_of [tN ns, iD need] S = fin (m_walk_of [some (tN ns), some (iD need), none, none, none, none, none, none, none] S) from rfl]
  have t1 : mTest (mOp opLt (mCall fSum (mCons (mVar 0) mNil)) (mVar 1)) [some (tN ns), some (iD need), none, none, none, none, none, none, none] S = .ok true S := by
    simp only [fin, sSeq, sNil, sPass, sIf, sRet, sRetN, sExpr, sAsg, bindS, PI.bindM, pureM, mVar, mOp, mTest, mNotT, mAndT, mOrT, mAndV, mOrV, mNotV, mIf, mNeg, mChain, mNil, mCons, mCall, mCallF, bindP, bindPs, Bool.not_true, Bool.not_false, List.getElem?_cons_zero, List.getElem?_cons_succ, List.set_cons_zero, List.set_cons_succ, List.length_cons, List.length_nil, Nat.zero_add, Nat.reduceAdd, if_true, if_false, Bool.false_eq_true, reduceIte, fsum_tN, opLt, opB]
    simp
    omega
  rw [show m_walk_of [some (tN ns), some (iD need), none, none, none, none, none, none, none] S = .rt .non S from seq_rt (if_yes t1 rfl)]
  rfl
noncomputable def bT : MS := sSeq (sAsg (.name 6) (mCallF 3 f_step (mCons (mVar 0) (mCons (mVar 1) (mCons (mVar 6) mNil))))) (sExpr (mAppend (mVar 5) (mOp opMod (mOp opSub (mVar 6) (pureM (.int 1))) (mCall fLen (mCons (mVar 0) mNil)))))
theorem rangeD_succ (lo : Int) (n : Nat) : rangeD lo (n + 1) = .int lo :: rangeD (lo + 1) n := rfl
theorem steps_loop {ns : List Nat} (h : 0 < ns.length) {need s m : Nat} {its : List D} {S1 : Sto} {st qd : D} (stu : ∀ x, IsStep (vv ns) need x (stp (vv ns) need x)) (hm : m < sizeLine) : ∀ (r k : Nat) (lo : Int) (x : Option D), k + r = m →
    ∃ x', forL ⟨its, []⟩ (.name 7) bT (rangeD lo r) [some (tN ns), some (iD need), some (iD s), some st, some qd, some (.loc S1.length), some (iD (it (stp (vv ns) need) k s)), x] (S1 ++ [.lst ((found (vv ns) ns.length need s k).map iD)]) =
      .nx [some (tN ns), some (iD need), some (iD s), some st, some qd, some (.loc S1.length), some (iD (it (stp (vv ns) need) m s)), x'] (S1 ++ [.lst ((found (vv ns) ns.length need s m).map iD)])
  | 0, k, lo, x, e => by
    obtain rfl : k = m := by omega
    exact ⟨x, forL_nil0⟩
  | r + 1, k, lo, x, e => by
    obtain ⟨x', ih⟩ := steps_loop (s := s) (its := its) (S1 := S1) (st := st) (qd := qd) h stu hm r (k + 1) (lo + 1) (some (.int lo)) (by omega)
    refine ⟨x', ?_⟩
    have e5 : it (stp (vv ns) need) (k + 1) s = stp (vv ns) need (it (stp (vv ns) need) k s) := it_succ k s
    have hpos : 0 < it (stp (vv ns) need) (k + 1) s := by
      rw [e5]
      have := (stu (it (stp (vv ns) need) k s)).1
      omega
    have g1 : (S1 ++ [O.lst ((found (vv ns) ns.length need s k).map iD)])[S1.length]? = some (.lst ((found (vv ns) ns.length need s k).map iD)) := by simp
    have fl : (found (vv ns) ns.length need s k).length < sizeLine := by
      simp [found]
      omega
    have fs : (found (vv ns) ns.length need s k).map iD ++ [iD ((it (stp (vv ns) need) (k + 1) s - 1) % ns.length)] = (found (vv ns) ns.length need s (k + 1)).map iD := by
      unfold found
      rw [List.range_succ, List.map_append, List.map_append]
      rfl
    have g2 : (S1 ++ [O.lst ((found (vv ns) ns.length need s k).map iD)]).set S1.length (.lst ((found (vv ns) ns.length need s (k + 1)).map iD)) = S1 ++ [.lst ((found (vv ns) ns.length need s (k + 1)).map iD)] := by simp
    have hN : ¬ ((ns.length : Int) = 0) := by omega
    have ps : ((it (stp (vv ns) need) (k + 1) s : Nat) : Int) - 1 = ((it (stp (vv ns) need) (k + 1) s - 1 : Nat) : Int) := by omega
    rw [rangeD_succ, forL_cons0]
    have b1 : bT [some (tN ns), some (iD need), some (iD s), some st, some qd, some (.loc S1.length), some (iD (it (stp (vv ns) need) k s)), some (.int lo)] (S1 ++ [.lst ((found (vv ns) ns.length need s k).map iD)]) =
        .nx [some (tN ns), some (iD need), some (iD s), some st, some qd, some (.loc S1.length), some (iD (it (stp (vv ns) need) (k + 1) s)), some (.int lo)] (S1 ++ [.lst ((found (vv ns) ns.length need s (k + 1)).map iD)]) := by
      refine seq_to (asg_to (d := iD (it (stp (vv ns) need) (k + 1) s)) (S1 := S1 ++ [O.lst ((found (vv ns) ns.length need s k).map iD)]) ?_ rfl) (expr_to (d := .non) ?_)
      · simp only [fin, sSeq, sNil, sPass, sIf, sRet, sRetN, sExpr, sAsg, bindS, PI.bindM, pureM, mVar, mOp, mTest, mNotT, mAndT, mOrT, mAndV, mOrV, mNotV, mIf, mNeg, mChain, mNil, mCons, mCall, mCallF, bindP, bindPs, Bool.not_true, Bool.not_false, List.getElem?_cons_zero, List.getElem?_cons_succ, List.set_cons_zero, List.set_cons_succ, List.length_cons, List.length_nil, Nat.zero_add, Nat.reduceAdd, if_true, if_false, Bool.false_eq_true, reduceIte]
        rw [e5]
        exact step_ok h (stu _) _
      · simp only [mAppend, fin, sSeq, sNil, sPass, sIf, sRet, sRetN, sExpr, sAsg, bindS, PI.bindM, pureM, mVar, mOp, mTest, mNotT, mAndT, mOrT, mAndV, mOrV, mNotV, mIf, mNeg, mChain, mNil, mCons, mCall, mCallF, bindP, bindPs, Bool.not_true, Bool.not_false, List.getElem?_cons_zero, List.getElem?_cons_succ, List.set_cons_zero, List.set_cons_succ, List.length_cons, List.length_nil, Nat.zero_add, Nat.reduceAdd, if_true, if_false, Bool.false_eq_true, reduceIte, isLstD, g1, opSub, ps, fLen, seqD, List.length_map, opMod, hN, fmod_nat, opAppend, fl, fs, g2]
    simp only [bindP, List.getElem?_cons_zero, List.getElem?_cons_succ, List.set_cons_zero, List.set_cons_succ, List.length_cons, List.length_nil, Nat.zero_add, Nat.reduceAdd, if_true, if_false, Bool.false_eq_true, reduceIte, b1]
    exact ih
theorem steps_ok {ns : List Nat} {need s p q : Nat} (h : 0 < ns.length) (hl : ns.length ≤ 200) (h0 : 0 < need) (hs : need ≤ ns.sum) (hp : 0 < p) (hq : 0 < q) (ht : Turns (stp (vv ns) need) ns.length p q s) (S0 : Sto) :
    ∃ T, f_steps [tN ns, iD need, iD s] S0 = .ok (tN (sN (found (vv ns) ns.length need s (size p q)))) (S0 ++ T) := by
  obtain ⟨R, stu⟩ := rot_stp (v := vv ns) h (vv_per ns) h0 (by rw [W_sum]; exact hs)
  obtain ⟨starts, q', WS, hw0⟩ := walk_of_ok h hl h0 hs
  obtain ⟨T, hw⟩ := hw0 S0
  have sz : size p q = size starts.length q' := by
    obtain ⟨s', hs'⟩ : ∃ s', s' ∈ starts := List.exists_mem_of_length_pos WS.ne
    exact size_eq hq WS.qpos hp WS.ne (R.turns_eq ht (WS.turns s' hs'))
  have sl : size starts.length q' < sizeLine := by
    have h1 : size starts.length q' ≤ starts.length + q' - 1 := Nat.div_le_self _ _
    have h2 := WS.ple
    have h3 := WS.qle
    have : (1000 : Nat) < sizeLine := by decide
    omega
  obtain ⟨x', lp⟩ := steps_loop (s := s) (its := rangeD 0 (size starts.length q')) (S1 := S0 ++ T) (st := tN starts) (qd := iD q') h (fun x => (stu x).1) sl (size starts.length q') 0 0 none (by omega)
  have fd : fdivOk (q' : Int) = true := fdivOk_nat WS.qpos (by have := WS.qle; have := WS.ple; omega)
  have g2 : (S0 ++ T ++ [O.lst ((found (vv ns) ns.length need s (size starts.length q')).map iD)])[(S0 ++ T).length]? = some (.lst ((found (vv ns) ns.length need s (size starts.length q')).map iD)) := by simp
  have g3 : (S0 ++ T ++ [O.lst ((found (vv ns) ns.length need s (size starts.length q')).map iD)] ++ [.lst ((sN (found (vv ns) ns.length need s (size starts.length q'))).map iD)])[(S0 ++ T ++ [O.lst ((found (vv ns) ns.length need s (size starts.length q')).map iD)]).length]? = some (.lst ((sN (found (vv ns) ns.length need s (size starts.length q'))).map iD)) := by simp
  refine ⟨T ++ [.lst ((found (vv ns) ns.length need s (size starts.length q')).map iD), .lst ((sN (found (vv ns) ns.length need s (size starts.length q'))).map iD)], ?_⟩
  rw [sz, show f_steps [tN ns, iD need, iD s] S0 = fin (m_steps [some (tN ns), some (iD need), some (iD s), none, none, none, none, none] S0) from rfl]
  have t1 : mCallF 2 f_walk_of (mCons (mVar 0) (mCons (mVar 1) mNil)) [some (tN ns), some (iD need), some (iD s), none, none, none, none, none] S0 = .ok (.tup [tN starts, iD q']) (S0 ++ T) := by
    simp only [fin, sSeq, sNil, sPass, sIf, sRet, sRetN, sExpr, sAsg, bindS, PI.bindM, pureM, mVar, mOp, mTest, mNotT, mAndT, mOrT, mAndV, mOrV, mNotV, mIf, mNeg, mChain, mNil, mCons, mCall, mCallF, bindP, bindPs, Bool.not_true, Bool.not_false, List.getElem?_cons_zero, List.getElem?_cons_succ, List.set_cons_zero, List.set_cons_succ, List.length_cons, List.length_nil, Nat.zero_add, Nat.reduceAdd, if_true, if_false, Bool.false_eq_true, reduceIte]
    exact hw
  have ps : ((starts.length : Int) + (q' : Int) - 1) = ((starts.length + q' - 1 : Nat) : Int) := by have := WS.ne; omega
  have ro : rngOk ((size starts.length q' : Nat) : Int) = true := by
    have : sizeLine < 2 ^ 62 := by decide
    have e1 : -(2 ^ 62) ≤ ((size starts.length q' : Nat) : Int) := by omega
    have e2 : ((size starts.length q' : Nat) : Int) < 2 ^ 62 := by omega
    unfold rngOk
    rw [decide_eq_true e1, decide_eq_true e2]
    rfl
  have t2 : mRange1 (mCons (mOp opFdiv (mOp opSub (mOp opAdd (mCall fLen (mCons (mVar 3) mNil)) (mVar 4)) (pureM (.int 1))) (mVar 4)) mNil) [some (tN ns), some (iD need), some (iD s), some (tN starts), some (iD q'), some (.loc (S0 ++ T).length), some (iD s), none] (S0 ++ T ++ [.lst []]) = .ok ⟨rangeD 0 (size starts.length q'), []⟩ (S0 ++ T ++ [.lst []]) := by
    simp only [mRange1, fin, sSeq, sNil, sPass, sIf, sRet, sRetN, sExpr, sAsg, bindS, PI.bindM, pureM, mVar, mOp, mTest, mNotT, mAndT, mOrT, mAndV, mOrV, mNotV, mIf, mNeg, mChain, mNil, mCons, mCall, mCallF, bindP, bindPs, Bool.not_true, Bool.not_false, List.getElem?_cons_zero, List.getElem?_cons_succ, List.set_cons_zero, List.set_cons_succ, List.length_cons, List.length_nil, Nat.zero_add, Nat.reduceAdd, if_true, if_false, Bool.false_eq_true, reduceIte, fLen, seqD, List.length_map, opAdd, opSub, ps, opFdiv, fd, fdiv_nat]
    rw [show (starts.length + q' - 1) / q' = size starts.length q' from rfl, ro]
    simp
  have t3 : mCall fTuple (mCons (mCall fSorted (mCons (mVar 5) mNil)) mNil) [some (tN ns), some (iD need), some (iD s), some (tN starts), some (iD q'), some (.loc (S0 ++ T).length), some (iD (it (stp (vv ns) need) (size starts.length q') s)), x'] (S0 ++ T ++ [.lst ((found (vv ns) ns.length need s (size starts.length q')).map iD)]) =
      .ok (tN (sN (found (vv ns) ns.length need s (size starts.length q')))) (S0 ++ T ++ [.lst ((found (vv ns) ns.length need s (size starts.length q')).map iD)] ++ [.lst ((sN (found (vv ns) ns.length need s (size starts.length q'))).map iD)]) := by
    simp only [fin, sSeq, sNil, sPass, sIf, sRet, sRetN, sExpr, sAsg, bindS, PI.bindM, pureM, mVar, mOp, mTest, mNotT, mAndT, mOrT, mAndV, mOrV, mNotV, mIf, mNeg, mChain, mNil, mCons, mCall, mCallF, bindP, bindPs, Bool.not_true, Bool.not_false, List.getElem?_cons_zero, List.getElem?_cons_succ, List.set_cons_zero, List.set_cons_succ, List.length_cons, List.length_nil, Nat.zero_add, Nat.reduceAdd, if_true, if_false, Bool.false_eq_true, reduceIte, fsorted_iD g2, ftuple_loc g3]
  rw [show m_steps [some (tN ns), some (iD need), some (iD s), none, none, none, none, none] S0 = .rt (tN (sN (found (vv ns) ns.length need s (size starts.length q')))) (S0 ++ T ++ [.lst ((found (vv ns) ns.length need s (size starts.length q')).map iD)] ++ [.lst ((sN (found (vv ns) ns.length need s (size starts.length q'))).map iD)]) from
    seq_to (asg_to t1 rfl) (seq_to (asg_to (d := D.loc (S0 ++ T).length) (S1 := S0 ++ T ++ [O.lst []]) rfl rfl) (seq_to (asg_to (d := iD s) rfl rfl) (seq_to (for_to t2 lp) (ret_to t3))))]
  simp [fin]
/-- the crew of a ring, as the program tells it -/
def CrewOf (ns : List Nat) (need : Nat) (crew : List Nat) : Prop := (ns.sum < need ∧ crew = []) ∨
  (need ≤ ns.sum ∧ ∃ s p q, 0 < p ∧ 0 < q ∧ Turns (stp (vv ns) need) ns.length p q s ∧ crew = sN (found (vv ns) ns.length need s (size p q)))
theorem crew_round_ok {ns : List Nat} {need : Nat} (h : 0 < ns.length) (hl : ns.length ≤ 200) (h0 : 0 < need) : ∃ crew, CrewOf ns need crew ∧ ∀ S0 : Sto, ∃ T, f_crew_round [tN ns, iD need] S0 = .ok (tN crew) (S0 ++ T) := by
  have e0 : (0 : Nat) ≤ sizeLine := Nat.zero_le _
  by_cases hs : ns.sum < need
  · refine ⟨[], .inl ⟨hs, rfl⟩, fun S0 => ⟨[], ?_⟩⟩
    rw [show f_crew_round [tN ns, iD need] S0 = fin (m_crew_round [some (tN ns), some (iD need), none] S0) from rfl]
    have t1 : mCallF 2 f_walk_of (mCons (mVar 0) (mCons (mVar 1) mNil)) [some (tN ns), some (iD need), none] S0 = .ok .non S0 := by
      simp only [fin, sSeq, sNil, sPass, sIf, sRet, sRetN, sExpr, sAsg, bindS, PI.bindM, pureM, mVar, mOp, mTest, mNotT, mAndT, mOrT, mAndV, mOrV, mNotV, mIf, mNeg, mChain, mNil, mCons, mCall, mCallF, bindP, bindPs, Bool.not_true, Bool.not_false, List.getElem?_cons_zero, List.getElem?_cons_succ, List.set_cons_zero, List.set_cons_succ, List.length_cons, List.length_nil, Nat.zero_add, Nat.reduceAdd, if_true, if_false, Bool.false_eq_true, reduceIte]
      exact walk_of_none hs S0
    rw [show m_crew_round [some (tN ns), some (iD need), none] S0 = .rt (tN []) S0 from seq_to (asg_to t1 rfl) (ret_to (by simp only [fin, sSeq, sNil, sPass, sIf, sRet, sRetN, sExpr, sAsg, bindS, PI.bindM, pureM, mVar, mOp, mTest, mNotT, mAndT, mOrT, mAndV, mOrV, mNotV, mIf, mNeg, mChain, mNil, mCons, mCall, mCallF, bindP, bindPs, Bool.not_true, Bool.not_false, List.getElem?_cons_zero, List.getElem?_cons_succ, List.set_cons_zero, List.set_cons_succ, List.length_cons, List.length_nil, Nat.zero_add, Nat.reduceAdd, if_true, if_false, Bool.false_eq_true, reduceIte, mTup, opIs, opB, PI.isNon, e0]; rfl))]
    simp [fin]
  · obtain ⟨starts, q, WS, hw0⟩ := walk_of_ok h hl h0 (by omega)
    obtain ⟨s, r, rfl⟩ : ∃ s r, starts = s :: r := by
      cases starts with
      | nil => exact absurd WS.ne (by simp)
      | cons s r => exact ⟨s, r, rfl⟩
    refine ⟨_, .inr ⟨by omega, s, _, q, WS.ne, WS.qpos, WS.turns s (List.mem_cons_self ..), rfl⟩, fun S0 => ?_⟩
    obtain ⟨T, hw⟩ := hw0 S0
    obtain ⟨T2, h2⟩ := steps_ok h hl h0 (by omega) WS.ne WS.qpos (WS.turns s (List.mem_cons_self ..)) (S0 ++ T)
    refine ⟨T ++ T2, ?_⟩
    rw [show f_crew_round [tN ns, iD need] S0 = fin (m_crew_round [some (tN ns), some (iD need), none] S0) from rfl]
    have t1 : mCallF 2 f_walk_of (mCons (mVar 0) (mCons (mVar 1) mNil)) [some (tN ns), some (iD need), none] S0 = .ok (.tup [tN (s :: r), iD q]) (S0 ++ T) := by
      simp only [fin, sSeq, sNil, sPass, sIf, sRet, sRetN, sExpr, sAsg, bindS, PI.bindM, pureM, mVar, mOp, mTest, mNotT, mAndT, mOrT, mAndV, mOrV, mNotV, mIf, mNeg, mChain, mNil, mCons, mCall, mCallF, bindP, bindPs, Bool.not_true, Bool.not_false, List.getElem?_cons_zero, List.getElem?_cons_succ, List.set_cons_zero, List.set_cons_succ, List.length_cons, List.length_nil, Nat.zero_add, Nat.reduceAdd, if_true, if_false, Bool.false_eq_true, reduceIte]
      exact hw
    have i0 : L2.atI [tN (s :: r), iD q] 0 = some (tN (s :: r)) := at_nat (k := 0) (by simp)
    have i1 : L2.atI ((s :: r).map iD) 0 = some (iD s) := at_iD (k := 0) (by simp)
    rw [show m_crew_round [some (tN ns), some (iD need), none] S0 = .rt _ _ from seq_to (asg_to t1 rfl) (ret_to (by
      simp only [fin, sSeq, sNil, sPass, sIf, sRet, sRetN, sExpr, sAsg, bindS, PI.bindM, pureM, mVar, mOp, mTest, mNotT, mAndT, mOrT, mAndV, mOrV, mNotV, mIf, mNeg, mChain, mNil, mCons, mCall, mCallF, bindP, bindPs, Bool.not_true, Bool.not_false, List.getElem?_cons_zero, List.getElem?_cons_succ, List.set_cons_zero, List.set_cons_succ, List.length_cons, List.length_nil, Nat.zero_add, Nat.reduceAdd, if_true, if_false, Bool.false_eq_true, reduceIte, opIs, opB, PI.isNon, opIx, seqD, i0, i1]
      exact h2))]
    simp [fin]
theorem least0 (n : Nat) : least 0 (iD n) = true := show decide ((0 : Int) ≤ (n : Int)) = true from decide_eq_true (by omega)
theorem least1 {n : Nat} (h : 0 < n) : least 1 (iD n) = true := show decide ((1 : Int) ≤ (n : Int)) = true from decide_eq_true (by omega)
theorem bads_nat : ∀ (ns : List Nat) (k : Nat), bads k (ns.map iD) = []
  | [], _ => rfl
  | n :: ns, k => by
    rw [List.map_cons]
    unfold bads
    rw [least0, bads_nat ns]
    rfl
theorem flat_nat (ns : List Nat) : (ns.map iD).all flat = true := by
  induction ns with
  | nil => rfl
  | cons n ns ih => simp [flat]
theorem ring_crew_ok {ns : List Nat} {need : Nat} (h : 3 ≤ ns.length) (hl : ns.length ≤ 200) (h0 : 0 < need) : ∃ crew, CrewOf ns need crew ∧ ∀ S0 : Sto, ∃ T, f_ring_crew [tN ns, iD need] S0 = .ok (tN crew) (S0 ++ T) := by
  obtain ⟨crew, h1, h20⟩ := crew_round_ok (show 0 < ns.length by omega) hl h0
  refine ⟨crew, h1, fun S0 => ?_⟩
  obtain ⟨T, h2⟩ := h20 S0
  refine ⟨T, ?_⟩
  rw [show f_ring_crew [tN ns, iD need] S0 = fin (m_ring_crew [some (tN ns), some (iD need)] S0) from rfl]
  have c := check_ring_tup (S := S0) (xs := ns.map iD) (n := iD need) (flat_nat ns) rfl (by simpa using h) (by simpa using hl)
  rw [bads_nat, least1 h0] at c
  rw [show m_ring_crew [some (tN ns), some (iD need)] S0 = .rt (tN crew) (S0 ++ T) from seq_to (expr_to (d := .non) (S1 := S0) (by
    simp only [fin, sSeq, sNil, sPass, sIf, sRet, sRetN, sExpr, sAsg, bindS, PI.bindM, pureM, mVar, mOp, mTest, mNotT, mAndT, mOrT, mAndV, mOrV, mNotV, mIf, mNeg, mChain, mNil, mCons, mCall, mCallF, bindP, bindPs, Bool.not_true, Bool.not_false, List.getElem?_cons_zero, List.getElem?_cons_succ, List.set_cons_zero, List.set_cons_succ, List.length_cons, List.length_nil, Nat.zero_add, Nat.reduceAdd, if_true, if_false, Bool.false_eq_true, reduceIte]
    exact c)) (ret_to (by
    simp only [fin, sSeq, sNil, sPass, sIf, sRet, sRetN, sExpr, sAsg, bindS, PI.bindM, pureM, mVar, mOp, mTest, mNotT, mAndT, mOrT, mAndV, mOrV, mNotV, mIf, mNeg, mChain, mNil, mCons, mCall, mCallF, bindP, bindPs, Bool.not_true, Bool.not_false, List.getElem?_cons_zero, List.getElem?_cons_succ, List.set_cons_zero, List.set_cons_succ, List.length_cons, List.length_nil, Nat.zero_add, Nat.reduceAdd, if_true, if_false, Bool.false_eq_true, reduceIte]
    exact h2))]
  rfl
end LawT

end
section
set_option Elab.async false
set_option linter.all false
set_option maxRecDepth 100000
set_option maxHeartbeats 2000000
/-! K08M6: the law's own functions -/
namespace LawT
open PySem PySem.Spec PyProof.Rows L2 PI LamX Crew
/-! ### _law_same -/
def good : Nat → D → Bool
  | 0, _ => false
  | n + 1, .tup xs => decide (xs.length ≤ sizeLine) && xs.all (good n)
  | _ + 1, .str s => SeqAt.shaped (PyData.str s)
  | _ + 1, .loc _ => false
  | _ + 1, .fn _ => false
  | _ + 1, _ => true
theorem good_tup {n : Nat} {xs : List D} (h : good (n + 1) (.tup xs) = true) : xs.length ≤ sizeLine ∧ ∀ x ∈ xs, good n x = true := by
  rw [good] at h
  obtain ⟨h1, h2⟩ := Bool.and_eq_true_iff.mp h
  exact ⟨of_decide_eq_true h1, List.all_eq_true.mp h2⟩
theorem good_str {n : Nat} {s : Str} (h : good (n + 1) (.str s) = true) : SeqAt.shaped (PyData.str s) = true := by
  rw [good] at h
  exact h
theorem eq_int (i j : Int) (S : Sto) : opEq (.int i) (.int j) S = .ok (.bl (i == j)) S := by
  simp only [opEq, opB, eqD, toPD]
  rfl
theorem ne_int (i j : Int) (S : Sto) : opNe (.int i) (.int j) S = .ok (.bl (!(i == j))) S := by
  simp only [opNe, opB, eqD, toPD]
  rfl
theorem eq_str {s : Str} (h : SeqAt.shaped (PyData.str s) = true) (S : Sto) : opEq (.str s) (.str s) S = .ok (.bl true) S := by
  simp only [opEq, opB, eqD, toPD, h, Bool.and_self, if_true]
  simp [PyData.eqv]
theorem rng_nat {n : Nat} (h : n ≤ sizeLine) : rngOk (n : Int) = true := by
  have : sizeLine < 2 ^ 62 := by decide
  have e1 : -(2 ^ 62) ≤ (n : Int) := by omega
  have e2 : (n : Int) < 2 ^ 62 := by omega
  unfold rngOk
  rw [decide_eq_true e1, decide_eq_true e2]
  rfl
theorem range_to {ma : M (List D)} {n : Nat} {ρ : Rho} {S S1 : Sto} (h : ma ρ S = .ok [iD n] S1) (hn : n ≤ sizeLine) : mRange1 ma ρ S = .ok ⟨rangeD ((0 : Nat) : Int) n, []⟩ S1 := by
  unfold mRange1 PI.bindM
  rw [h]
  have r := rng_nat hn
  generalize hb : rngOk (n : Int) = b at r
  subst r
  simp only [hb, if_true]
  rfl
theorem same_loop {f : Fn} {xs : List D} {its : List D} {S : Sto} {b : MS} (hb : b = sIf (mNotT (mTest (mCallF 2 f (mCons (mOp opIx (mVar 0) (mVar 2)) (mCons (mOp opIx (mVar 1) (mVar 2)) mNil))))) (sRet (pureM (.bl false))) sNil)
    (hf : ∀ d ∈ xs, f [d, d] S = .ok (.bl true) S) : ∀ (r k : Nat) (x : Option D), k + r = xs.length → ∃ x', forL ⟨its, []⟩ (.name 2) b (rangeD (k : Int) r) [some (.tup xs), some (.tup xs), x] S = .nx [some (.tup xs), some (.tup xs), x'] S
  | 0, k, x, _ => ⟨x, forL_nil0⟩
  | r + 1, k, x, e => by
    obtain ⟨x', ih⟩ := same_loop (its := its) hb hf r (k + 1) (some (.int k)) (by omega)
    refine ⟨x', ?_⟩
    have hk : k < xs.length := by omega
    have b1 : b [some (.tup xs), some (.tup xs), some (.int k)] S = .nx [some (.tup xs), some (.tup xs), some (.int k)] S := by
      rw [hb]
      refine if_no ?_ rfl
      simp only [fin, sSeq, sNil, sPass, sIf, sRet, sRetN, sExpr, sAsg, bindS, PI.bindM, pureM, mVar, mOp, mTest, mNotT, mAndT, mOrT, mAndV, mOrV, mNotV, mIf, mNeg, mChain, mNil, mCons, mCall, mCallF, bindP, bindPs, Bool.not_true, Bool.not_false, List.getElem?_cons_zero, List.getElem?_cons_succ, List.set_cons_zero, List.set_cons_succ, List.length_cons, List.length_nil, Nat.zero_add, Nat.reduceAdd, if_true, if_false, Bool.false_eq_true, reduceIte, opIx, seqD, at_nat hk, hf _ (List.getElem_mem hk)]
    rw [rangeD_succ, forL_cons0]
    simp only [bindP, List.getElem?_cons_zero, List.getElem?_cons_succ, List.set_cons_zero, List.set_cons_succ, List.length_cons, List.length_nil, Nat.zero_add, Nat.reduceAdd, if_true, if_false, Bool.false_eq_true, reduceIte, b1]
    exact ih
theorem same_non (n : Nat) (ih : ∀ (d : D) (S : Sto), good n d = true → g_law_same n [d, d] S = .ok (.bl true) S) (S : Sto) (h : good (n + 1) .non = true) : g_law_same (n + 1) [.non, .non] S = .ok (.bl true) S := by
      rw [show g_law_same (n + 1) [.non, .non] S = fin (m_law_same (g_law_same n) [some .non, some .non, none] S) from rfl]
      rw [show m_law_same (g_law_same n) [some D.non, some .non, none] S = .rt (.bl true) S from seq_rt (if_yes rfl (ret_to rfl))]
      rfl
theorem same_bl (n : Nat) (ih : ∀ (d : D) (S : Sto), good n d = true → g_law_same n [d, d] S = .ok (.bl true) S) (b : Bool) (S : Sto) (h : good (n + 1) (.bl b) = true) : g_law_same (n + 1) [(.bl b), (.bl b)] S = .ok (.bl true) S := by
      rw [show g_law_same (n + 1) [(.bl b), (.bl b)] S = fin (m_law_same (g_law_same n) [some (.bl b), some (.bl b), none] S) from rfl]
      rw [show m_law_same (g_law_same n) [some (D.bl b), some (.bl b), none] S = .rt (.bl true) S from seq_to (if_no rfl rfl) (seq_rt (if_yes (S1 := S) (by simp only [fin, sSeq, sNil, sPass, sIf, sRet, sRetN, sExpr, sAsg, bindS, PI.bindM, pureM, mVar, mOp, mTest, mNotT, mAndT, mOrT, mAndV, mOrV, mNotV, mIf, mNeg, mChain, mNil, mCons, mCall, mCallF, bindP, bindPs, Bool.not_true, Bool.not_false, List.getElem?_cons_zero, List.getElem?_cons_succ, List.set_cons_zero, List.set_cons_succ, List.length_cons, List.length_nil, Nat.zero_add, Nat.reduceAdd, if_true, if_false, Bool.false_eq_true, reduceIte, mIsTy, tyD, Option.bind_some, kt_NoneType_int, kt_NoneType_bool, kt_NoneType_str, kt_NoneType_tuple, kt_NoneType_list, kt_bool_int, kt_bool_bool, kt_bool_str, kt_bool_tuple, kt_bool_list, kt_int_int, kt_int_bool, kt_int_str, kt_int_tuple, kt_int_list, kt_str_int, kt_str_bool, kt_str_str, kt_str_tuple, kt_str_list, kt_tuple_int, kt_tuple_bool, kt_tuple_str, kt_tuple_tuple, kt_tuple_list, kt_list_int, kt_list_bool, kt_list_str, kt_list_tuple, kt_list_list, kt_dict_int, kt_dict_bool, kt_dict_str, kt_dict_tuple, kt_dict_list]) (ret_to (S1 := S) (by cases b <;> simp [fin, sSeq, sNil, sPass, sIf, sRet, sRetN, sExpr, sAsg, bindS, PI.bindM, pureM, mVar, mOp, mTest, mNotT, mAndT, mOrT, mAndV, mOrV, mNotV, mIf, mNeg, mChain, mNil, mCons, mCall, mCallF, bindP, bindPs, Bool.not_true, Bool.not_false, List.getElem?_cons_zero, List.getElem?_cons_succ, List.set_cons_zero, List.set_cons_succ, List.length_cons, List.length_nil, Nat.zero_add, Nat.reduceAdd, if_true, if_false, Bool.false_eq_true, reduceIte, opIs, opB]))))]
      rfl
theorem same_int (n : Nat) (ih : ∀ (d : D) (S : Sto), good n d = true → g_law_same n [d, d] S = .ok (.bl true) S) (i : Int) (S : Sto) (h : good (n + 1) (.int i) = true) : g_law_same (n + 1) [(.int i), (.int i)] S = .ok (.bl true) S := by
      rw [show g_law_same (n + 1) [(.int i), (.int i)] S = fin (m_law_same (g_law_same n) [some (.int i), some (.int i), none] S) from rfl]
      rw [show m_law_same (g_law_same n) [some (D.int i), some (.int i), none] S = .rt (.bl true) S from seq_to (if_no rfl rfl) (seq_to (if_no (S1 := S) (by simp only [fin, sSeq, sNil, sPass, sIf, sRet, sRetN, sExpr, sAsg, bindS, PI.bindM, pureM, mVar, mOp, mTest, mNotT, mAndT, mOrT, mAndV, mOrV, mNotV, mIf, mNeg, mChain, mNil, mCons, mCall, mCallF, bindP, bindPs, Bool.not_true, Bool.not_false, List.getElem?_cons_zero, List.getElem?_cons_succ, List.set_cons_zero, List.set_cons_succ, List.length_cons, List.length_nil, Nat.zero_add, Nat.reduceAdd, if_true, if_false, Bool.false_eq_true, reduceIte, mIsTy, tyD, Option.bind_some, kt_NoneType_int, kt_NoneType_bool, kt_NoneType_str, kt_NoneType_tuple, kt_NoneType_list, kt_bool_int, kt_bool_bool, kt_bool_str, kt_bool_tuple, kt_bool_list, kt_int_int, kt_int_bool, kt_int_str, kt_int_tuple, kt_int_list, kt_str_int, kt_str_bool, kt_str_str, kt_str_tuple, kt_str_list, kt_tuple_int, kt_tuple_bool, kt_tuple_str, kt_tuple_tuple, kt_tuple_list, kt_list_int, kt_list_bool, kt_list_str, kt_list_tuple, kt_list_list, kt_dict_int, kt_dict_bool, kt_dict_str, kt_dict_tuple, kt_dict_list]) rfl) (seq_rt (if_yes (S1 := S) (by simp only [fin, sSeq, sNil, sPass, sIf, sRet, sRetN, sExpr, sAsg, bindS, PI.bindM, pureM, mVar, mOp, mTest, mNotT, mAndT, mOrT, mAndV, mOrV, mNotV, mIf, mNeg, mChain, mNil, mCons, mCall, mCallF, bindP, bindPs, Bool.not_true, Bool.not_false, List.getElem?_cons_zero, List.getElem?_cons_succ, List.set_cons_zero, List.set_cons_succ, List.length_cons, List.length_nil, Nat.zero_add, Nat.reduceAdd, if_true, if_false, Bool.false_eq_true, reduceIte, mIsTy, tyD, Option.bind_some, kt_NoneType_int, kt_NoneType_bool, kt_NoneType_str, kt_NoneType_tuple, kt_NoneType_list, kt_bool_int, kt_bool_bool, kt_bool_str, kt_bool_tuple, kt_bool_list, kt_int_int, kt_int_bool, kt_int_str, kt_int_tuple, kt_int_list, kt_str_int, kt_str_bool, kt_str_str, kt_str_tuple, kt_str_list, kt_tuple_int, kt_tuple_bool, kt_tuple_str, kt_tuple_tuple, kt_tuple_list, kt_list_int, kt_list_bool, kt_list_str, kt_list_tuple, kt_list_list, kt_dict_int, kt_dict_bool, kt_dict_str, kt_dict_tuple, kt_dict_list]) (ret_to (S1 := S) (by
        simp only [fin, sSeq, sNil, sPass, sIf, sRet, sRetN, sExpr, sAsg, bindS, PI.bindM, pureM, mVar, mOp, mTest, mNotT, mAndT, mOrT, mAndV, mOrV, mNotV, mIf, mNeg, mChain, mNil, mCons, mCall, mCallF, bindP, bindPs, Bool.not_true, Bool.not_false, List.getElem?_cons_zero, List.getElem?_cons_succ, List.set_cons_zero, List.set_cons_succ, List.length_cons, List.length_nil, Nat.zero_add, Nat.reduceAdd, if_true, if_false, Bool.false_eq_true, reduceIte, law_is_whole_ok (d := .int i) rfl, isI, eq_int]
        simp)))))]
      rfl
theorem same_str (n : Nat) (ih : ∀ (d : D) (S : Sto), good n d = true → g_law_same n [d, d] S = .ok (.bl true) S) (s : Str) (S : Sto) (h : good (n + 1) (.str s) = true) : g_law_same (n + 1) [(.str s), (.str s)] S = .ok (.bl true) S := by
      rw [show g_law_same (n + 1) [(.str s), (.str s)] S = fin (m_law_same (g_law_same n) [some (.str s), some (.str s), none] S) from rfl]
      rw [show m_law_same (g_law_same n) [some (D.str s), some (.str s), none] S = .rt (.bl true) S from seq_to (if_no rfl rfl) (seq_to (if_no (S1 := S) (by simp only [fin, sSeq, sNil, sPass, sIf, sRet, sRetN, sExpr, sAsg, bindS, PI.bindM, pureM, mVar, mOp, mTest, mNotT, mAndT, mOrT, mAndV, mOrV, mNotV, mIf, mNeg, mChain, mNil, mCons, mCall, mCallF, bindP, bindPs, Bool.not_true, Bool.not_false, List.getElem?_cons_zero, List.getElem?_cons_succ, List.set_cons_zero, List.set_cons_succ, List.length_cons, List.length_nil, Nat.zero_add, Nat.reduceAdd, if_true, if_false, Bool.false_eq_true, reduceIte, mIsTy, tyD, Option.bind_some, kt_NoneType_int, kt_NoneType_bool, kt_NoneType_str, kt_NoneType_tuple, kt_NoneType_list, kt_bool_int, kt_bool_bool, kt_bool_str, kt_bool_tuple, kt_bool_list, kt_int_int, kt_int_bool, kt_int_str, kt_int_tuple, kt_int_list, kt_str_int, kt_str_bool, kt_str_str, kt_str_tuple, kt_str_list, kt_tuple_int, kt_tuple_bool, kt_tuple_str, kt_tuple_tuple, kt_tuple_list, kt_list_int, kt_list_bool, kt_list_str, kt_list_tuple, kt_list_list, kt_dict_int, kt_dict_bool, kt_dict_str, kt_dict_tuple, kt_dict_list]) rfl) (seq_to (if_no (S1 := S) (by simp only [fin, sSeq, sNil, sPass, sIf, sRet, sRetN, sExpr, sAsg, bindS, PI.bindM, pureM, mVar, mOp, mTest, mNotT, mAndT, mOrT, mAndV, mOrV, mNotV, mIf, mNeg, mChain, mNil, mCons, mCall, mCallF, bindP, bindPs, Bool.not_true, Bool.not_false, List.getElem?_cons_zero, List.getElem?_cons_succ, List.set_cons_zero, List.set_cons_succ, List.length_cons, List.length_nil, Nat.zero_add, Nat.reduceAdd, if_true, if_false, Bool.false_eq_true, reduceIte, mIsTy, tyD, Option.bind_some, kt_NoneType_int, kt_NoneType_bool, kt_NoneType_str, kt_NoneType_tuple, kt_NoneType_list, kt_bool_int, kt_bool_bool, kt_bool_str, kt_bool_tuple, kt_bool_list, kt_int_int, kt_int_bool, kt_int_str, kt_int_tuple, kt_int_list, kt_str_int, kt_str_bool, kt_str_str, kt_str_tuple, kt_str_list, kt_tuple_int, kt_tuple_bool, kt_tuple_str, kt_tuple_tuple, kt_tuple_list, kt_list_int, kt_list_bool, kt_list_str, kt_list_tuple, kt_list_list, kt_dict_int, kt_dict_bool, kt_dict_str, kt_dict_tuple, kt_dict_list]) rfl) (seq_rt (if_yes (S1 := S) (by simp only [fin, sSeq, sNil, sPass, sIf, sRet, sRetN, sExpr, sAsg, bindS, PI.bindM, pureM, mVar, mOp, mTest, mNotT, mAndT, mOrT, mAndV, mOrV, mNotV, mIf, mNeg, mChain, mNil, mCons, mCall, mCallF, bindP, bindPs, Bool.not_true, Bool.not_false, List.getElem?_cons_zero, List.getElem?_cons_succ, List.set_cons_zero, List.set_cons_succ, List.length_cons, List.length_nil, Nat.zero_add, Nat.reduceAdd, if_true, if_false, Bool.false_eq_true, reduceIte, mIsTy, tyD, Option.bind_some, kt_NoneType_int, kt_NoneType_bool, kt_NoneType_str, kt_NoneType_tuple, kt_NoneType_list, kt_bool_int, kt_bool_bool, kt_bool_str, kt_bool_tuple, kt_bool_list, kt_int_int, kt_int_bool, kt_int_str, kt_int_tuple, kt_int_list, kt_str_int, kt_str_bool, kt_str_str, kt_str_tuple, kt_str_list, kt_tuple_int, kt_tuple_bool, kt_tuple_str, kt_tuple_tuple, kt_tuple_list, kt_list_int, kt_list_bool, kt_list_str, kt_list_tuple, kt_list_list, kt_dict_int, kt_dict_bool, kt_dict_str, kt_dict_tuple, kt_dict_list]) (ret_to (S1 := S) (by
        simp only [fin, sSeq, sNil, sPass, sIf, sRet, sRetN, sExpr, sAsg, bindS, PI.bindM, pureM, mVar, mOp, mTest, mNotT, mAndT, mOrT, mAndV, mOrV, mNotV, mIf, mNeg, mChain, mNil, mCons, mCall, mCallF, bindP, bindPs, Bool.not_true, Bool.not_false, List.getElem?_cons_zero, List.getElem?_cons_succ, List.set_cons_zero, List.set_cons_succ, List.length_cons, List.length_nil, Nat.zero_add, Nat.reduceAdd, if_true, if_false, Bool.false_eq_true, reduceIte, mIsTy, tyD, Option.bind_some, kt_NoneType_int, kt_NoneType_bool, kt_NoneType_str, kt_NoneType_tuple, kt_NoneType_list, kt_bool_int, kt_bool_bool, kt_bool_str, kt_bool_tuple, kt_bool_list, kt_int_int, kt_int_bool, kt_int_str, kt_int_tuple, kt_int_list, kt_str_int, kt_str_bool, kt_str_str, kt_str_tuple, kt_str_list, kt_tuple_int, kt_tuple_bool, kt_tuple_str, kt_tuple_tuple, kt_tuple_list, kt_list_int, kt_list_bool, kt_list_str, kt_list_tuple, kt_list_list, kt_dict_int, kt_dict_bool, kt_dict_str, kt_dict_tuple, kt_dict_list, eq_str (good_str h)]))))))]
      rfl
theorem tup_i1 (xs : List D) (S : Sto) : mTest (mIsTy "bool" (mVar 1)) [some (D.tup xs), some (.tup xs), none] S = .ok false S := by simp only [fin, sSeq, sNil, sPass, sIf, sRet, sRetN, sExpr, sAsg, bindS, PI.bindM, pureM, mVar, mOp, mTest, mNotT, mAndT, mOrT, mAndV, mOrV, mNotV, mIf, mNeg, mChain, mNil, mCons, mCall, mCallF, bindP, bindPs, Bool.not_true, Bool.not_false, List.getElem?_cons_zero, List.getElem?_cons_succ, List.set_cons_zero, List.set_cons_succ, List.length_cons, List.length_nil, Nat.zero_add, Nat.reduceAdd, if_true, if_false, Bool.false_eq_true, reduceIte, mIsTy, tyD, Option.bind_some, kt_NoneType_int, kt_NoneType_bool, kt_NoneType_str, kt_NoneType_tuple, kt_NoneType_list, kt_bool_int, kt_bool_bool, kt_bool_str, kt_bool_tuple, kt_bool_list, kt_int_int, kt_int_bool, kt_int_str, kt_int_tuple, kt_int_list, kt_str_int, kt_str_bool, kt_str_str, kt_str_tuple, kt_str_list, kt_tuple_int, kt_tuple_bool, kt_tuple_str, kt_tuple_tuple, kt_tuple_list, kt_list_int, kt_list_bool, kt_list_str, kt_list_tuple, kt_list_list, kt_dict_int, kt_dict_bool, kt_dict_str, kt_dict_tuple, kt_dict_list]
theorem tup_i2 (xs : List D) (S : Sto) : mTest (mIsTy "int" (mVar 1)) [some (D.tup xs), some (.tup xs), none] S = .ok false S := by simp only [fin, sSeq, sNil, sPass, sIf, sRet, sRetN, sExpr, sAsg, bindS, PI.bindM, pureM, mVar, mOp, mTest, mNotT, mAndT, mOrT, mAndV, mOrV, mNotV, mIf, mNeg, mChain, mNil, mCons, mCall, mCallF, bindP, bindPs, Bool.not_true, Bool.not_false, List.getElem?_cons_zero, List.getElem?_cons_succ, List.set_cons_zero, List.set_cons_succ, List.length_cons, List.length_nil, Nat.zero_add, Nat.reduceAdd, if_true, if_false, Bool.false_eq_true, reduceIte, mIsTy, tyD, Option.bind_some, kt_NoneType_int, kt_NoneType_bool, kt_NoneType_str, kt_NoneType_tuple, kt_NoneType_list, kt_bool_int, kt_bool_bool, kt_bool_str, kt_bool_tuple, kt_bool_list, kt_int_int, kt_int_bool, kt_int_str, kt_int_tuple, kt_int_list, kt_str_int, kt_str_bool, kt_str_str, kt_str_tuple, kt_str_list, kt_tuple_int, kt_tuple_bool, kt_tuple_str, kt_tuple_tuple, kt_tuple_list, kt_list_int, kt_list_bool, kt_list_str, kt_list_tuple, kt_list_list, kt_dict_int, kt_dict_bool, kt_dict_str, kt_dict_tuple, kt_dict_list]
theorem tup_i3 (xs : List D) (S : Sto) : mTest (mIsTy "str" (mVar 1)) [some (D.tup xs), some (.tup xs), none] S = .ok false S := by simp only [fin, sSeq, sNil, sPass, sIf, sRet, sRetN, sExpr, sAsg, bindS, PI.bindM, pureM, mVar, mOp, mTest, mNotT, mAndT, mOrT, mAndV, mOrV, mNotV, mIf, mNeg, mChain, mNil, mCons, mCall, mCallF, bindP, bindPs, Bool.not_true, Bool.not_false, List.getElem?_cons_zero, List.getElem?_cons_succ, List.set_cons_zero, List.set_cons_succ, List.length_cons, List.length_nil, Nat.zero_add, Nat.reduceAdd, if_true, if_false, Bool.false_eq_true, reduceIte, mIsTy, tyD, Option.bind_some, kt_NoneType_int, kt_NoneType_bool, kt_NoneType_str, kt_NoneType_tuple, kt_NoneType_list, kt_bool_int, kt_bool_bool, kt_bool_str, kt_bool_tuple, kt_bool_list, kt_int_int, kt_int_bool, kt_int_str, kt_int_tuple, kt_int_list, kt_str_int, kt_str_bool, kt_str_str, kt_str_tuple, kt_str_list, kt_tuple_int, kt_tuple_bool, kt_tuple_str, kt_tuple_tuple, kt_tuple_list, kt_list_int, kt_list_bool, kt_list_str, kt_list_tuple, kt_list_list, kt_dict_int, kt_dict_bool, kt_dict_str, kt_dict_tuple, kt_dict_list]
theorem tup_i4 (xs : List D) (S : Sto) : mAndT (mTest (mIsTy "tuple" (mVar 1))) (mNotT (mTest (mIsTy "tuple" (mVar 0)))) [some (D.tup xs), some (.tup xs), none] S = .ok false S := by simp only [fin, sSeq, sNil, sPass, sIf, sRet, sRetN, sExpr, sAsg, bindS, PI.bindM, pureM, mVar, mOp, mTest, mNotT, mAndT, mOrT, mAndV, mOrV, mNotV, mIf, mNeg, mChain, mNil, mCons, mCall, mCallF, bindP, bindPs, Bool.not_true, Bool.not_false, List.getElem?_cons_zero, List.getElem?_cons_succ, List.set_cons_zero, List.set_cons_succ, List.length_cons, List.length_nil, Nat.zero_add, Nat.reduceAdd, if_true, if_false, Bool.false_eq_true, reduceIte, mIsTy, tyD, Option.bind_some, kt_NoneType_int, kt_NoneType_bool, kt_NoneType_str, kt_NoneType_tuple, kt_NoneType_list, kt_bool_int, kt_bool_bool, kt_bool_str, kt_bool_tuple, kt_bool_list, kt_int_int, kt_int_bool, kt_int_str, kt_int_tuple, kt_int_list, kt_str_int, kt_str_bool, kt_str_str, kt_str_tuple, kt_str_list, kt_tuple_int, kt_tuple_bool, kt_tuple_str, kt_tuple_tuple, kt_tuple_list, kt_list_int, kt_list_bool, kt_list_str, kt_list_tuple, kt_list_list, kt_dict_int, kt_dict_bool, kt_dict_str, kt_dict_tuple, kt_dict_list]
theorem tup_i5 (xs : List D) (S : Sto) : mAndT (mTest (mIsTy "list" (mVar 1))) (mNotT (mTest (mIsTy "list" (mVar 0)))) [some (D.tup xs), some (.tup xs), none] S = .ok false S := by simp only [fin, sSeq, sNil, sPass, sIf, sRet, sRetN, sExpr, sAsg, bindS, PI.bindM, pureM, mVar, mOp, mTest, mNotT, mAndT, mOrT, mAndV, mOrV, mNotV, mIf, mNeg, mChain, mNil, mCons, mCall, mCallF, bindP, bindPs, Bool.not_true, Bool.not_false, List.getElem?_cons_zero, List.getElem?_cons_succ, List.set_cons_zero, List.set_cons_succ, List.length_cons, List.length_nil, Nat.zero_add, Nat.reduceAdd, if_true, if_false, Bool.false_eq_true, reduceIte, mIsTy, tyD, Option.bind_some, kt_NoneType_int, kt_NoneType_bool, kt_NoneType_str, kt_NoneType_tuple, kt_NoneType_list, kt_bool_int, kt_bool_bool, kt_bool_str, kt_bool_tuple, kt_bool_list, kt_int_int, kt_int_bool, kt_int_str, kt_int_tuple, kt_int_list, kt_str_int, kt_str_bool, kt_str_str, kt_str_tuple, kt_str_list, kt_tuple_int, kt_tuple_bool, kt_tuple_str, kt_tuple_tuple, kt_tuple_list, kt_list_int, kt_list_bool, kt_list_str, kt_list_tuple, kt_list_list, kt_dict_int, kt_dict_bool, kt_dict_str, kt_dict_tuple, kt_dict_list]
theorem tup_i6 (xs : List D) (S : Sto) : mTest (mOp opNe (mCall fLen (mCons (mVar 0) mNil)) (mCall fLen (mCons (mVar 1) mNil))) [some (D.tup xs), some (.tup xs), none] S = .ok false S := by
  simp only [fin, sSeq, sNil, sPass, sIf, sRet, sRetN, sExpr, sAsg, bindS, PI.bindM, pureM, mVar, mOp, mTest, mNotT, mAndT, mOrT, mAndV, mOrV, mNotV, mIf, mNeg, mChain, mNil, mCons, mCall, mCallF, bindP, bindPs, Bool.not_true, Bool.not_false, List.getElem?_cons_zero, List.getElem?_cons_succ, List.set_cons_zero, List.set_cons_succ, List.length_cons, List.length_nil, Nat.zero_add, Nat.reduceAdd, if_true, if_false, Bool.false_eq_true, reduceIte, fLen, seqD, ne_int]
  simp
theorem tup_i7 {xs : List D} (h5 : xs.length ≤ sizeLine) (S : Sto) : mRange1 (mCons (mCall fLen (mCons (mVar 1) mNil)) mNil) [some (D.tup xs), some (.tup xs), none] S = .ok ⟨rangeD ((0 : Nat) : Int) xs.length, []⟩ S := range_to rfl h5
theorem same_tup (n : Nat) (ih : ∀ (d : D) (S : Sto), good n d = true → g_law_same n [d, d] S = .ok (.bl true) S) (xs : List D) (S : Sto) (h : good (n + 1) (.tup xs) = true) : g_law_same (n + 1) [(.tup xs), (.tup xs)] S = .ok (.bl true) S := by
  obtain ⟨h5, h4⟩ := good_tup h
  obtain ⟨x', lp⟩ := same_loop (f := g_law_same n) (xs := xs) (its := rangeD ((0 : Nat) : Int) xs.length) (S := S) rfl (fun d hd => ih d S (h4 d hd)) xs.length 0 none (by omega)
  have w : m_law_same (g_law_same n) [some (D.tup xs), some (.tup xs), none] S = .rt (.bl true) S :=
    seq_to (if_no rfl rfl) (seq_to (if_no (tup_i1 xs S) rfl) (seq_to (if_no (tup_i2 xs S) rfl) (seq_to (if_no (tup_i3 xs S) rfl)
      (seq_to (if_no (tup_i4 xs S) rfl) (seq_to (if_no (tup_i5 xs S) rfl) (seq_to (if_no (tup_i6 xs S) rfl) (seq_to (for_to (tup_i7 h5 S) lp) (ret_to rfl))))))))
  show fin (m_law_same (g_law_same n) [some (D.tup xs), some (.tup xs), none] S) = _
  rw [w]
  rfl
theorem same_step (n : Nat) (ih : ∀ (d : D) (S : Sto), good n d = true → g_law_same n [d, d] S = .ok (.bl true) S) (d : D) (S : Sto) (h : good (n + 1) d = true) : g_law_same (n + 1) [d, d] S = .ok (.bl true) S := by
    cases d with
    | loc _ => cases h
    | fn _ => cases h
    | non => exact same_non n ih S h
    | bl b => exact same_bl n ih b S h
    | int i => exact same_int n ih i S h
    | str s => exact same_str n ih s S h
    | tup xs => exact same_tup n ih xs S h
theorem same_ok : ∀ (n : Nat) (d : D) (S : Sto), good n d = true → g_law_same n [d, d] S = .ok (.bl true) S := by
  intro n
  induction n with
  | zero => intro d S h; cases h
  | succ n ih => exact same_step n ih
theorem law_same_ok {d : D} (h : good 8 d = true) (S : Sto) : f_law_same [d, d] S = .ok (.bl true) S := same_ok 8 d S h
end LawT

end
section
set_option Elab.async false
set_option linter.all false
set_option maxRecDepth 100000
set_option maxHeartbeats 2000000
/-! K08M7: the law's walk of a ring -/
namespace LawT
open PySem PySem.Spec PyProof.Rows L2 PI LamX Crew
theorem fint_int (i : Int) (S : Sto) : fInt [.int i] S = .ok (.int i) S := rfl
/-- one stop's step: how far -/
noncomputable def far (ns : List Nat) (need i : Nat) : Nat := stp (vv ns) need i - i
noncomputable def bI : MS := sSeq (sIf (mTest (mOp opGe (mVar 5) (mVar 1))) sBreak sNil) (sPar 5 6 (mCons (mOp opAdd (mVar 5) (mOp opIx (mVar 0) (mOp opMod (mCall fInt (mCons (mOp opAdd (mVar 4) (mVar 6)) mNil)) (mVar 2)))) (mCons (mOp opAdd (mVar 6) (pureM (.int 1))) mNil)))
abbrev rS (ns : List Nat) (need L i a b : Nat) (x : Option D) : Rho := [some (tN ns), some (iD need), some (iD ns.length), some (.loc L), some (iD i), some (iD a), some (iD b), x]
theorem inner_loop {ns : List Nat} (h : 0 < ns.length) {need L i K : Nat} {S : Sto} {its : List D} (h1 : need ≤ W (vv ns) i K) (h2 : W (vv ns) i (K - 1) < need) (hKp : 0 < K) : ∀ (r k : Nat) (lo : Int) (x : Option D), k ≤ K → K ≤ k + r →
    ∃ x', forL ⟨its, []⟩ (.name 7) bI (rangeD lo r) (rS ns need L i (W (vv ns) i k) k x) S = .nx (rS ns need L i (W (vv ns) i K) K x') S
  | 0, k, lo, x, e1, e2 => by
    obtain rfl : k = K := by omega
    exact ⟨x, forL_nil0⟩
  | r + 1, k, lo, x, e1, e2 => by
    rw [rangeD_succ, forL_cons0]
    by_cases hk : k = K
    · subst hk
      refine ⟨some (.int lo), ?_⟩
      have b1 : bI (rS ns need L i (W (vv ns) i k) k (some (.int lo))) S = .bk (rS ns need L i (W (vv ns) i k) k (some (.int lo))) S := by
        have t : mTest (mOp opGe (mVar 5) (mVar 1)) (rS ns need L i (W (vv ns) i k) k (some (.int lo))) S = .ok true S := by
          simp only [rS, fin, sSeq, sNil, sPass, sIf, sRet, sRetN, sExpr, sAsg, bindS, PI.bindM, pureM, mVar, mOp, mTest, mNotT, mAndT, mOrT, mAndV, mOrV, mNotV, mIf, mNeg, mChain, mNil, mCons, mCall, mCallF, bindP, bindPs, Bool.not_true, Bool.not_false, List.getElem?_cons_zero, List.getElem?_cons_succ, List.set_cons_zero, List.set_cons_succ, List.length_cons, List.length_nil, Nat.zero_add, Nat.reduceAdd, if_true, if_false, Bool.false_eq_true, reduceIte, opGe, opB]
          congr 1
          exact decide_eq_true (by omega)
        have t2 : sIf (mTest (mOp opGe (mVar 5) (mVar 1))) sBreak sNil (rS ns need L i (W (vv ns) i k) k (some (.int lo))) S = .bk (rS ns need L i (W (vv ns) i k) k (some (.int lo))) S := if_yes t rfl
        unfold bI sSeq
        rw [t2]
      simp only [rS, bindP, List.getElem?_cons_zero, List.getElem?_cons_succ, List.set_cons_zero, List.set_cons_succ, List.length_cons, List.length_nil, Nat.zero_add, Nat.reduceAdd, if_true, if_false, Bool.false_eq_true, reduceIte] at b1 ⊢
      rw [b1]
    · obtain ⟨x', ih⟩ := inner_loop (its := its) (S := S) (L := L) h h1 h2 hKp r (k + 1) (lo + 1) (some (.int lo)) (by omega) (by omega)
      refine ⟨x', ?_⟩
      have lt : W (vv ns) i k < need := Nat.lt_of_le_of_lt (W_mono (by omega)) h2
      have b1 : bI (rS ns need L i (W (vv ns) i k) k (some (.int lo))) S = .nx (rS ns need L i (W (vv ns) i (k + 1)) (k + 1) (some (.int lo))) S := by
        have t : mTest (mOp opGe (mVar 5) (mVar 1)) (rS ns need L i (W (vv ns) i k) k (some (.int lo))) S = .ok false S := by
          simp only [rS, fin, sSeq, sNil, sPass, sIf, sRet, sRetN, sExpr, sAsg, bindS, PI.bindM, pureM, mVar, mOp, mTest, mNotT, mAndT, mOrT, mAndV, mOrV, mNotV, mIf, mNeg, mChain, mNil, mCons, mCall, mCallF, bindP, bindPs, Bool.not_true, Bool.not_false, List.getElem?_cons_zero, List.getElem?_cons_succ, List.set_cons_zero, List.set_cons_succ, List.length_cons, List.length_nil, Nat.zero_add, Nat.reduceAdd, if_true, if_false, Bool.false_eq_true, reduceIte, opGe, opB]
          congr 1
          exact decide_eq_false (by omega)
        refine seq_to (if_no t rfl) ?_
        have e : ((i : Int) + (k : Int)).fmod (ns.length : Int) = (((i + k) % ns.length : Nat) : Int) := by
          rw [← Int.natCast_add]
          exact fmod_nat _ _
        have hN : ¬ ((ns.length : Int) = 0) := by omega
        simp only [sPar, rS, fin, sSeq, sNil, sPass, sIf, sRet, sRetN, sExpr, sAsg, bindS, PI.bindM, pureM, mVar, mOp, mTest, mNotT, mAndT, mOrT, mAndV, mOrV, mNotV, mIf, mNeg, mChain, mNil, mCons, mCall, mCallF, bindP, bindPs, Bool.not_true, Bool.not_false, List.getElem?_cons_zero, List.getElem?_cons_succ, List.set_cons_zero, List.set_cons_succ, List.length_cons, List.length_nil, Nat.zero_add, Nat.reduceAdd, if_true, if_false, Bool.false_eq_true, reduceIte, opAdd, fint_int, opMod, hN, e, opIx, seqD, vv_at h]
        rfl
      simp only [rS, bindP, List.getElem?_cons_zero, List.getElem?_cons_succ, List.set_cons_zero, List.set_cons_succ, List.length_cons, List.length_nil, Nat.zero_add, Nat.reduceAdd, if_true, if_false, Bool.false_eq_true, reduceIte] at b1 ih ⊢
      rw [b1]
      exact ih
theorem run_to {n : Nat} {m : MS} {ds : List D} {ρ : Rho} {S : Sto} {r : SR} {z : ER D} (e : ds.map some ++ List.replicate (n - ds.length) none = ρ) (h : m ρ S = r) (f : fin r = z) : runB n m ds S = z := by
  unfold runB
  rw [e, h, ← f]
  cases r <;> rfl
/-! ### _law_steps -/
theorem forL_nx {its : List D} {p : Pat} {b : MS} {d : D} {ds : List D} {ρ ρ1 ρ2 : Rho} {S S2 : Sto} {r : SR} (h1 : bindP p d ρ = some ρ1) (h2 : b ρ1 S = .nx ρ2 S2) (h3 : forL ⟨its, []⟩ p b ds ρ2 S2 = r) : forL ⟨its, []⟩ p b (d :: ds) ρ S = r := by
  rw [forL_cons0, h1]
  simp only [h2]
  exact h3
theorem forL_bk {its : List D} {p : Pat} {b : MS} {d : D} {ds : List D} {ρ ρ1 ρ2 : Rho} {S S2 : Sto} (h1 : bindP p d ρ = some ρ1) (h2 : b ρ1 S = .bk ρ2 S2) : forL ⟨its, []⟩ p b (d :: ds) ρ S = .nx ρ2 S2 := by
  rw [forL_cons0, h1]
  simp only [h2]
theorem small_le {n : Nat} (h : n ≤ 1000) : n ≤ sizeLine := Nat.le_trans h (by decide)
theorem small_lt {n : Nat} (h : n ≤ 1000) : n < sizeLine := Nat.lt_of_le_of_lt h (by decide)
theorem int_succ (k : Nat) : ((k : Int) + 1) = ((k + 1 : Nat) : Int) := rfl
noncomputable def fars (ns : List Nat) (need k : Nat) : List Nat := (List.range k).map (far ns need)
noncomputable def bO : MS := sSeq (sAsg (.tup [.name 5, .name 6]) (mTup (mCons (pureM (.int 0)) (mCons (pureM (.int 0)) mNil)))) (sSeq (sFor (.name 7) (mRange1 (mCons (mVar 2) mNil)) bI) (sExpr (mAppend (mVar 3) (mVar 6))))
structure RotS (ns : List Nat) (need : Nat) : Prop where
  h : 0 < ns.length
  hl : ns.length ≤ 200
  R : Rot (stp (vv ns) need) ns.length
  st : ∀ x, IsStep (vv ns) need x (stp (vv ns) need x)
  up : ∀ x, stp (vv ns) need x ≤ x + ns.length
theorem rotS {ns : List Nat} {need : Nat} (h : 0 < ns.length) (hl : ns.length ≤ 200) (h0 : 0 < need) (hs : need ≤ ns.sum) : RotS ns need := by
  obtain ⟨R, stu⟩ := rot_stp (v := vv ns) h (vv_per ns) h0 (by rw [W_sum]; exact hs)
  exact ⟨h, hl, R, fun x => (stu x).1, fun x => (stu x).2⟩
theorem outer_turn {ns : List Nat} {need : Nat} (Z : RotS ns need) {k : Nat} (hk : k ≤ 1000) {S1 : Sto} (a b x : Option D) :
    ∃ a' b' x', bO [some (tN ns), some (iD need), some (iD ns.length), some (.loc S1.length), some (iD k), a, b, x] (S1 ++ [.lst ((fars ns need k).map iD)]) = .nx [some (tN ns), some (iD need), some (iD ns.length), some (.loc S1.length), some (iD k), a', b', x'] (S1 ++ [.lst ((fars ns need (k + 1)).map iD)]) := by
  obtain ⟨g1, g2, g3⟩ := Z.st k
  have up := Z.up k
  have hs : ns.length ≤ sizeLine := small_le (Nat.le_trans Z.hl (by decide))
  obtain ⟨x', lp⟩ := inner_loop (L := S1.length) (S := S1 ++ [.lst ((fars ns need k).map iD)]) (its := rangeD ((0 : Nat) : Int) ns.length) Z.h g2 g3 (by omega) ns.length 0 ((0 : Nat) : Int) x (by omega) (by omega)
  refine ⟨_, _, x', seq_to (asg_to (d := .tup [.int 0, .int 0]) (S1 := S1 ++ [O.lst ((fars ns need k).map iD)]) ?_ rfl) (seq_to (for_to (range_to rfl hs) lp) (expr_to (d := .non) ?_))⟩
  · have e2 : (2 : Nat) ≤ sizeLine := by decide
    simp only [mTup, fin, sSeq, sNil, sPass, sIf, sRet, sRetN, sExpr, sAsg, bindS, PI.bindM, pureM, mVar, mOp, mTest, mNotT, mAndT, mOrT, mAndV, mOrV, mNotV, mIf, mNeg, mChain, mNil, mCons, mCall, mCallF, bindP, bindPs, Bool.not_true, Bool.not_false, List.getElem?_cons_zero, List.getElem?_cons_succ, List.set_cons_zero, List.set_cons_succ, List.length_cons, List.length_nil, Nat.zero_add, Nat.reduceAdd, if_true, if_false, Bool.false_eq_true, reduceIte, e2]
  · have q1 : (S1 ++ [O.lst ((fars ns need k).map iD)])[S1.length]? = some (.lst ((fars ns need k).map iD)) := by simp
    have q2 : (fars ns need k).length < sizeLine := by simp only [fars, List.length_map, List.length_range]; exact small_lt hk
    have q3 : (fars ns need k).map iD ++ [iD (stp (vv ns) need k - k)] = (fars ns need (k + 1)).map iD := by
      unfold fars
      rw [List.range_succ, List.map_append, List.map_append]
      rfl
    have q4 : (S1 ++ [O.lst ((fars ns need k).map iD)]).set S1.length (.lst ((fars ns need (k + 1)).map iD)) = S1 ++ [.lst ((fars ns need (k + 1)).map iD)] := by simp
    simp only [mAppend, rS, fin, sSeq, sNil, sPass, sIf, sRet, sRetN, sExpr, sAsg, bindS, PI.bindM, pureM, mVar, mOp, mTest, mNotT, mAndT, mOrT, mAndV, mOrV, mNotV, mIf, mNeg, mChain, mNil, mCons, mCall, mCallF, bindP, bindPs, Bool.not_true, Bool.not_false, List.getElem?_cons_zero, List.getElem?_cons_succ, List.set_cons_zero, List.set_cons_succ, List.length_cons, List.length_nil, Nat.zero_add, Nat.reduceAdd, if_true, if_false, Bool.false_eq_true, reduceIte, isLstD, q1, opAppend, List.length_map, q2, q3, q4]
theorem outer_loop {ns : List Nat} {need : Nat} (Z : RotS ns need) {its : List D} {S1 : Sto} : ∀ (r k : Nat) (c a b x : Option D), k + r = ns.length →
    ∃ c' a' b' x', forL ⟨its, []⟩ (.name 4) bO (rangeD (k : Int) r) [some (tN ns), some (iD need), some (iD ns.length), some (.loc S1.length), c, a, b, x] (S1 ++ [.lst ((fars ns need k).map iD)]) =
      .nx [some (tN ns), some (iD need), some (iD ns.length), some (.loc S1.length), c', a', b', x'] (S1 ++ [.lst ((fars ns need ns.length).map iD)])
  | 0, k, c, a, b, x, e => by
    obtain rfl : k = ns.length := by omega
    exact ⟨c, a, b, x, forL_nil0⟩
  | r + 1, k, c, a, b, x, e => by
    obtain ⟨a1, b1, x1, e1⟩ := outer_turn Z (k := k) (by have := Z.hl; omega) (S1 := S1) a b x
    obtain ⟨c', a', b', x', ih⟩ := outer_loop Z (its := its) (S1 := S1) r (k + 1) (some (iD k)) a1 b1 x1 (by omega)
    refine ⟨c', a', b', x', ?_⟩
    rw [rangeD_succ, int_succ]
    exact forL_nx rfl e1 ih
theorem law_steps_ok {ns : List Nat} {need : Nat} (Z : RotS ns need) (S0 : Sto) : f_law_steps [tN ns, iD need] S0 = .ok (.loc S0.length) (S0 ++ [.lst ((fars ns need ns.length).map iD)]) := by
  have hs : ns.length ≤ sizeLine := small_le (Nat.le_trans Z.hl (by decide))
  obtain ⟨c, a, b, x, lp⟩ := outer_loop Z (its := rangeD ((0 : Nat) : Int) ns.length) (S1 := S0) ns.length 0 none none none none (by omega)
  rw [show (fars ns need 0).map iD = [] from rfl] at lp
  have p1 : sPar 2 3 (mCons (mCall fLen (mCons (mVar 0) mNil)) (mCons (mLst mNil) mNil)) [some (tN ns), some (iD need), none, none, none, none, none, none] S0 = .nx [some (tN ns), some (iD need), some (iD ns.length), some (.loc S0.length), none, none, none, none] (S0 ++ [.lst []]) := by
    have e0 : (0 : Nat) ≤ sizeLine := Nat.zero_le _
    simp only [sPar, fin, sSeq, sNil, sPass, sIf, sRet, sRetN, sExpr, sAsg, bindS, PI.bindM, pureM, mVar, mOp, mTest, mNotT, mAndT, mOrT, mAndV, mOrV, mNotV, mIf, mNeg, mChain, mNil, mCons, mCall, mCallF, bindP, bindPs, Bool.not_true, Bool.not_false, List.getElem?_cons_zero, List.getElem?_cons_succ, List.set_cons_zero, List.set_cons_succ, List.length_cons, List.length_nil, Nat.zero_add, Nat.reduceAdd, if_true, if_false, Bool.false_eq_true, reduceIte, fLen, seqD, mLst, List.length_map, e0, newO]
  have r1 : mRange1 (mCons (mVar 2) mNil) [some (tN ns), some (iD need), some (iD ns.length), some (.loc S0.length), none, none, none, none] (S0 ++ [O.lst []]) = .ok ⟨rangeD ((0 : Nat) : Int) ns.length, []⟩ (S0 ++ [O.lst []]) := range_to rfl hs
  have w : m_law_steps [some (tN ns), some (iD need), none, none, none, none, none, none] S0 = .rt (.loc S0.length) (S0 ++ [.lst ((fars ns need ns.length).map iD)]) := by
    unfold m_law_steps
    exact seq_to p1 (seq_to (for_to r1 lp) (ret_to rfl))
  unfold f_law_steps
  exact run_to rfl w rfl
end LawT

end
section
set_option Elab.async false
set_option linter.all false
set_option maxRecDepth 100000
set_option maxHeartbeats 2000000
/-! K08M8: the law's walk -/
namespace LawT
open PySem PySem.Spec PyProof.Rows L2 PI LamX Crew
theorem far_add {ns : List Nat} {need : Nat} (Z : RotS ns need) (i : Nat) : i + far ns need i = stp (vv ns) need i := by
  unfold far
  have := (Z.st i).1
  omega
theorem fars_at {ns : List Nat} {need a : Nat} (h : a < ns.length) : L2.atI ((fars ns need ns.length).map iD) (a : Int) = some (iD (far ns need a)) := by
  rw [at_iD (ns := fars ns need ns.length) (k := a) (by simp [fars]; exact h)]
  simp [fars]
theorem mod_next {ns : List Nat} {need : Nat} (Z : RotS ns need) (k x : Nat) : stp (vv ns) need (it (stp (vv ns) need) k x % ns.length) % ns.length = it (stp (vv ns) need) (k + 1) x % ns.length := by
  have := Z.R.it_mod 1 (it (stp (vv ns) need) k x)
  rw [it_succ]
  exact this.symm
noncomputable def bA : MS := sAsg (.name 4) (mOp opMod (mCall fInt (mCons (mOp opAdd (mVar 4) (mOp opIx (mVar 3) (mVar 4))) mNil)) (mVar 2))
theorem next_at {ns : List Nat} {need : Nat} (Z : RotS ns need) {L k x : Nat} {S : Sto} (hL : S[L]? = some (.lst ((fars ns need ns.length).map iD))) {c : Option D} {rest : List (Option D)} :
    (mOp opMod (mCall fInt (mCons (mOp opAdd (mVar 4) (mOp opIx (mVar 3) (mVar 4))) mNil)) (mVar 2)) (some (tN ns) :: some (iD need) :: some (iD ns.length) :: some (.loc L) :: some (iD (it (stp (vv ns) need) k x % ns.length)) :: rest) S = .ok (iD (it (stp (vv ns) need) (k + 1) x % ns.length)) S := by
  have hN : ¬ ((ns.length : Int) = 0) := by have := Z.h; omega
  have e : (((it (stp (vv ns) need) k x % ns.length : Nat) : Int) + ((far ns need (it (stp (vv ns) need) k x % ns.length) : Nat) : Int)) = ((stp (vv ns) need (it (stp (vv ns) need) k x % ns.length) : Nat) : Int) := by
    rw [← Int.natCast_add, far_add Z]
  simp only [fin, sSeq, sNil, sPass, sIf, sRet, sRetN, sExpr, sAsg, bindS, PI.bindM, pureM, mVar, mOp, mTest, mNotT, mAndT, mOrT, mAndV, mOrV, mNotV, mIf, mNeg, mChain, mNil, mCons, mCall, mCallF, bindP, bindPs, Bool.not_true, Bool.not_false, List.getElem?_cons_zero, List.getElem?_cons_succ, List.set_cons_zero, List.set_cons_succ, List.length_cons, List.length_nil, Nat.zero_add, Nat.reduceAdd, if_true, if_false, Bool.false_eq_true, reduceIte, opIx, seqD, hL, fars_at (Nat.mod_lt _ Z.h), opAdd, e, fint_int, opMod, hN, fmod_nat, mod_next Z]
theorem loopA {ns : List Nat} {need : Nat} (Z : RotS ns need) {L m : Nat} {S : Sto} (hL : S[L]? = some (.lst ((fars ns need ns.length).map iD))) {its : List D} : ∀ (r k : Nat) (c : Option D), k + r = m →
    ∃ c', forL ⟨its, []⟩ (.name 5) bA (rangeD (k : Int) r) [some (tN ns), some (iD need), some (iD ns.length), some (.loc L), some (iD (it (stp (vv ns) need) k 0 % ns.length)), c, none, none, none] S =
      .nx [some (tN ns), some (iD need), some (iD ns.length), some (.loc L), some (iD (it (stp (vv ns) need) m 0 % ns.length)), c', none, none, none] S
  | 0, k, c, e => by
    obtain rfl : k = m := by omega
    exact ⟨c, forL_nil0⟩
  | r + 1, k, c, e => by
    obtain ⟨c', ih⟩ := loopA (m := m) Z hL (its := its) r (k + 1) (some (iD k)) (by omega)
    refine ⟨c', ?_⟩
    rw [rangeD_succ, int_succ]
    exact forL_nx rfl (asg_to (next_at Z hL (c := none)) rfl) ih
theorem far_mod {ns : List Nat} {need : Nat} (Z : RotS ns need) (x : Nat) : far ns need (x % ns.length) = far ns need x := by
  have e := Nat.mod_add_div x ns.length
  rw [Nat.mul_comm] at e
  have h := Z.R.it_perj 1 (x % ns.length) (x / ns.length)
  rw [e] at h
  have h2 : stp (vv ns) need x = stp (vv ns) need (x % ns.length) + x / ns.length * ns.length := h
  unfold far
  have := (Z.st (x % ns.length)).1
  omega
noncomputable def bB : MS := sSeq (sExpr (mAppend (mVar 7) (mVar 4))) (sSeq (sAsg (.name 8) (mOp opAdd (mVar 8) (mOp opIx (mVar 3) (mVar 4)))) (sSeq (sAsg (.name 4) (mOp opMod (mCall fInt (mCons (mOp opAdd (mVar 4) (mOp opIx (mVar 3) (mVar 4))) mNil)) (mVar 2))) (sIf (mTest (mOp opEq (mVar 4) (mVar 6))) sBreak sNil)))
noncomputable def seen (ns : List Nat) (need t k : Nat) : List Nat := (List.range k).map fun j => it (stp (vv ns) need) j t % ns.length
noncomputable abbrev rB (ns : List Nat) (need L M t k : Nat) (c : Option D) : Rho := [some (tN ns), some (iD need), some (iD ns.length), some (.loc L), some (iD (it (stp (vv ns) need) k t % ns.length)), c, some (iD t), some (.loc M), some (iD (it (stp (vv ns) need) k t - t))]
theorem turnB {ns : List Nat} {need : Nat} (Z : RotS ns need) {L t k : Nat} {S1 : Sto} (hL : S1[L]? = some (.lst ((fars ns need ns.length).map iD))) (hk : k ≤ 1000) (c : Option D) :
    bB (rB ns need L S1.length t k c) (S1 ++ [.lst ((seen ns need t k).map iD)]) = if it (stp (vv ns) need) (k + 1) t % ns.length = t then .bk (rB ns need L S1.length t (k + 1) c) (S1 ++ [.lst ((seen ns need t (k + 1)).map iD)]) else .nx (rB ns need L S1.length t (k + 1) c) (S1 ++ [.lst ((seen ns need t (k + 1)).map iD)]) := by
  have q1 : (S1 ++ [O.lst ((seen ns need t k).map iD)])[S1.length]? = some (.lst ((seen ns need t k).map iD)) := by simp
  have q2 : (seen ns need t k).length < sizeLine := by simp only [seen, List.length_map, List.length_range]; exact small_lt hk
  have q3 : (seen ns need t k).map iD ++ [iD (it (stp (vv ns) need) k t % ns.length)] = (seen ns need t (k + 1)).map iD := by
    unfold seen
    rw [List.range_succ, List.map_append, List.map_append]
    rfl
  have q4 : (S1 ++ [O.lst ((seen ns need t k).map iD)]).set S1.length (.lst ((seen ns need t (k + 1)).map iD)) = S1 ++ [.lst ((seen ns need t (k + 1)).map iD)] := by simp
  have hl : L < S1.length := (List.getElem?_eq_some_iff.mp hL).1
  have hL2 : (S1 ++ [O.lst ((seen ns need t (k + 1)).map iD)])[L]? = some (.lst ((fars ns need ns.length).map iD)) := by
    rw [List.getElem?_append_left hl]
    exact hL
  have ge := Z.R.it_ge k t
  have g : (((it (stp (vv ns) need) k t - t : Nat) : Int) + ((far ns need (it (stp (vv ns) need) k t % ns.length) : Nat) : Int)) = ((it (stp (vv ns) need) (k + 1) t - t : Nat) : Int) := by
    rw [far_mod Z, ← Int.natCast_add, it_succ, ← far_add Z]
    congr 1
    omega
  have t1 : mAppend (mVar 7) (mVar 4) (rB ns need L S1.length t k c) (S1 ++ [.lst ((seen ns need t k).map iD)]) = .ok .non (S1 ++ [.lst ((seen ns need t (k + 1)).map iD)]) := by
    simp only [mAppend, rB, fin, sSeq, sNil, sPass, sIf, sRet, sRetN, sExpr, sAsg, bindS, PI.bindM, pureM, mVar, mOp, mTest, mNotT, mAndT, mOrT, mAndV, mOrV, mNotV, mIf, mNeg, mChain, mNil, mCons, mCall, mCallF, bindP, bindPs, Bool.not_true, Bool.not_false, List.getElem?_cons_zero, List.getElem?_cons_succ, List.set_cons_zero, List.set_cons_succ, List.length_cons, List.length_nil, Nat.zero_add, Nat.reduceAdd, if_true, if_false, Bool.false_eq_true, reduceIte, isLstD, q1, opAppend, List.length_map, q2, q3, q4]
  have t2 : mOp opAdd (mVar 8) (mOp opIx (mVar 3) (mVar 4)) (rB ns need L S1.length t k c) (S1 ++ [.lst ((seen ns need t (k + 1)).map iD)]) = .ok (iD (it (stp (vv ns) need) (k + 1) t - t)) (S1 ++ [.lst ((seen ns need t (k + 1)).map iD)]) := by
    simp only [rB, fin, sSeq, sNil, sPass, sIf, sRet, sRetN, sExpr, sAsg, bindS, PI.bindM, pureM, mVar, mOp, mTest, mNotT, mAndT, mOrT, mAndV, mOrV, mNotV, mIf, mNeg, mChain, mNil, mCons, mCall, mCallF, bindP, bindPs, Bool.not_true, Bool.not_false, List.getElem?_cons_zero, List.getElem?_cons_succ, List.set_cons_zero, List.set_cons_succ, List.length_cons, List.length_nil, Nat.zero_add, Nat.reduceAdd, if_true, if_false, Bool.false_eq_true, reduceIte, opIx, seqD, hL2, fars_at (Nat.mod_lt _ Z.h), opAdd, g]
  have t3 : mTest (mOp opEq (mVar 4) (mVar 6)) (rB ns need L S1.length t (k + 1) c) (S1 ++ [.lst ((seen ns need t (k + 1)).map iD)]) = .ok (decide (it (stp (vv ns) need) (k + 1) t % ns.length = t)) (S1 ++ [.lst ((seen ns need t (k + 1)).map iD)]) := by
    simp only [rB, fin, sSeq, sNil, sPass, sIf, sRet, sRetN, sExpr, sAsg, bindS, PI.bindM, pureM, mVar, mOp, mTest, mNotT, mAndT, mOrT, mAndV, mOrV, mNotV, mIf, mNeg, mChain, mNil, mCons, mCall, mCallF, bindP, bindPs, Bool.not_true, Bool.not_false, List.getElem?_cons_zero, List.getElem?_cons_succ, List.set_cons_zero, List.set_cons_succ, List.length_cons, List.length_nil, Nat.zero_add, Nat.reduceAdd, if_true, if_false, Bool.false_eq_true, reduceIte, eq_int]
    congr 1
    rw [Bool.eq_iff_iff, beq_iff_eq, decide_eq_true_iff]
    omega
  by_cases hb : it (stp (vv ns) need) (k + 1) t % ns.length = t
  · rw [decide_eq_true hb] at t3
    rw [if_pos hb]
    exact seq_to (expr_to t1) (seq_to (asg_to t2 rfl) (seq_to (asg_to (next_at Z hL2 (c := none)) rfl) (if_yes t3 rfl)))
  · rw [decide_eq_false hb] at t3
    rw [if_neg hb]
    exact seq_to (expr_to t1) (seq_to (asg_to t2 rfl) (seq_to (asg_to (next_at Z hL2 (c := none)) rfl) (if_no t3 rfl)))
theorem loopB {ns : List Nat} {need : Nat} (Z : RotS ns need) {L t p : Nat} {S1 : Sto} (hL : S1[L]? = some (.lst ((fars ns need ns.length).map iD))) (hp : p ≤ 1000) (hb : it (stp (vv ns) need) p t % ns.length = t) (hn : ∀ k, 1 ≤ k → k < p → it (stp (vv ns) need) k t % ns.length ≠ t) {its : List D} : ∀ (r k : Nat) (lo : Int) (c : Option D), k < p → p ≤ k + r →
    ∃ c', forL ⟨its, []⟩ (.name 5) bB (rangeD lo r) (rB ns need L S1.length t k c) (S1 ++ [.lst ((seen ns need t k).map iD)]) = .nx (rB ns need L S1.length t p c') (S1 ++ [.lst ((seen ns need t p).map iD)])
  | 0, k, lo, c, h1, h2 => absurd h1 (by omega)
  | r + 1, k, lo, c, h1, h2 => by
    have tb := turnB Z hL (t := t) (k := k) (by omega) (some (.int lo))
    rw [rangeD_succ]
    by_cases hk : k + 1 = p
    · subst hk
      rw [if_pos hb] at tb
      exact ⟨some (.int lo), forL_bk rfl tb⟩
    · rw [if_neg (hn (k + 1) (by omega) (by omega))] at tb
      obtain ⟨c', ih⟩ := loopB Z hL hp hb hn (its := its) r (k + 1) (lo + 1) (some (.int lo)) (by omega) (by omega)
      exact ⟨c', forL_nx rfl tb ih⟩
theorem law_walk_none {ns : List Nat} {need : Nat} (hs : ns.sum < need) (S : Sto) : f_law_walk [tN ns, iD need] S = .ok .non S := by
  have t1 : mTest (mOp opLt (mCall fSum (mCons (mVar 0) mNil)) (mVar 1)) [some (tN ns), some (iD need), none, none, none, none, none, none, none] S = .ok true S := by
    simp only [fin, sSeq, sNil, sPass, sIf, sRet, sRetN, sExpr, sAsg, bindS, PI.bindM, pureM, mVar, mOp, mTest, mNotT, mAndT, mOrT, mAndV, mOrV, mNotV, mIf, mNeg, mChain, mNil, mCons, mCall, mCallF, bindP, bindPs, Bool.not_true, Bool.not_false, List.getElem?_cons_zero, List.getElem?_cons_succ, List.set_cons_zero, List.set_cons_succ, List.length_cons, List.length_nil, Nat.zero_add, Nat.reduceAdd, if_true, if_false, Bool.false_eq_true, reduceIte, fsum_tN, opLt, opB]
    congr 1
    exact decide_eq_true (by omega)
  have w : m_law_walk [some (tN ns), some (iD need), none, none, none, none, none, none, none] S = .rt .non S := by
    unfold m_law_walk
    exact seq_rt (if_yes t1 rfl)
  unfold f_law_walk
  exact run_to rfl w rfl
theorem cons_to {ma : M D} {mr : M (List D)} {ρ : Rho} {S S1 S2 : Sto} {d : D} {ds : List D} (h : ma ρ S = .ok d S1) (h2 : mr ρ S1 = .ok ds S2) : mCons ma mr ρ S = .ok (d :: ds) S2 := by
  unfold mCons PI.bindM
  rw [h]
  simp only [h2, PI.bindM, pureM]
theorem callF_to {n : Nat} {f : Fn} {ma : M (List D)} {ρ : Rho} {S S1 : Sto} {ds : List D} {r : ER D} (h : ma ρ S = .ok ds S1) (hn : ds.length = n) (h2 : f ds S1 = r) : mCallF n f ma ρ S = r := by
  unfold mCallF PI.bindM
  rw [h]
  simp only [hn, if_true]
  exact h2
theorem par3_to {i j l : Nat} {ma : M (List D)} {ρ : Rho} {S S1 : Sto} {d e f : D} (h : ma ρ S = .ok [d, e, f] S1) : sPar3 i j l ma ρ S = .nx (((ρ.set i (some d)).set j (some e)).set l (some f)) S1 := by
  unfold sPar3 bindS
  rw [h]
theorem lw_a {ns : List Nat} {need : Nat} (Z : RotS ns need) (S0 : Sto) : mCallF 2 f_law_steps (mCons (mVar 0) (mCons (mVar 1) mNil)) [some (tN ns), some (iD need), none, none, none, none, none, none, none] S0 = .ok (.loc S0.length) (S0 ++ [O.lst ((fars ns need ns.length).map iD)]) :=
  callF_to (cons_to (d := tN ns) rfl (cons_to (d := iD need) rfl rfl)) rfl (law_steps_ok Z S0)
theorem lw_b {ns : List Nat} {need : Nat} (Z : RotS ns need) (S0 : Sto) : mCall fLen (mCons (mVar 0) mNil) [some (tN ns), some (iD need), none, none, none, none, none, none, none] S0 = .ok (iD ns.length) S0 := by
  simp only [fin, sSeq, sNil, sPass, sIf, sRet, sRetN, sExpr, sAsg, bindS, PI.bindM, pureM, mVar, mOp, mTest, mNotT, mAndT, mOrT, mAndV, mOrV, mNotV, mIf, mNeg, mChain, mNil, mCons, mCall, mCallF, bindP, bindPs, Bool.not_true, Bool.not_false, List.getElem?_cons_zero, List.getElem?_cons_succ, List.set_cons_zero, List.set_cons_succ, List.length_cons, List.length_nil, Nat.zero_add, Nat.reduceAdd, if_true, if_false, Bool.false_eq_true, reduceIte, fLen, seqD, List.length_map]
theorem lw_p1z {ns : List Nat} {need : Nat} (Z : RotS ns need) (S0 : Sto) : sPar3 2 3 4 (mCons (mCall fLen (mCons (mVar 0) mNil)) (mCons (mCallF 2 f_law_steps (mCons (mVar 0) (mCons (mVar 1) mNil))) (mCons (pureM (.int 0)) mNil))) [some (tN ns), some (iD need), none, none, none, none, none, none, none] S0 =
      .nx [some (tN ns), some (iD need), some (iD ns.length), some (.loc S0.length), some (.int 0), none, none, none, none] (S0 ++ [O.lst ((fars ns need ns.length).map iD)]) :=
  par3_to (cons_to (lw_b Z S0) (cons_to (lw_a Z S0) (cons_to rfl rfl)))
theorem lw_p1 {ns : List Nat} {need : Nat} (Z : RotS ns need) (S0 : Sto) : sPar3 2 3 4 (mCons (mCall fLen (mCons (mVar 0) mNil)) (mCons (mCallF 2 f_law_steps (mCons (mVar 0) (mCons (mVar 1) mNil))) (mCons (pureM (.int 0)) mNil))) [some (tN ns), some (iD need), none, none, none, none, none, none, none] S0 =
      .nx [some (tN ns), some (iD need), some (iD ns.length), some (.loc S0.length), some (iD 0), none, none, none, none] (S0 ++ [O.lst ((fars ns need ns.length).map iD)]) :=
  lw_p1z Z S0
theorem lw_p2 {ns : List Nat} {need L t : Nat} {S1 : Sto} {c1 : Option D} : sPar3 6 7 8 (mCons (mVar 4) (mCons (mLst mNil) (mCons (pureM (.int 0)) mNil))) [some (tN ns), some (iD need), some (iD ns.length), some (.loc L), some (iD t), c1, none, none, none] S1 =
      .nx [some (tN ns), some (iD need), some (iD ns.length), some (.loc L), some (iD t), c1, some (iD t), some (.loc S1.length), some (iD 0)] (S1 ++ [O.lst []]) := by
  have e0 : (0 : Nat) ≤ sizeLine := Nat.zero_le _
  have h : mLst mNil [some (tN ns), some (iD need), some (iD ns.length), some (.loc L), some (iD t), c1, none, none, none] S1 = .ok (.loc S1.length) (S1 ++ [O.lst []]) := by
    simp only [fin, sSeq, sNil, sPass, sIf, sRet, sRetN, sExpr, sAsg, bindS, PI.bindM, pureM, mVar, mOp, mTest, mNotT, mAndT, mOrT, mAndV, mOrV, mNotV, mIf, mNeg, mChain, mNil, mCons, mCall, mCallF, bindP, bindPs, Bool.not_true, Bool.not_false, List.getElem?_cons_zero, List.getElem?_cons_succ, List.set_cons_zero, List.set_cons_succ, List.length_cons, List.length_nil, Nat.zero_add, Nat.reduceAdd, if_true, if_false, Bool.false_eq_true, reduceIte, mLst, e0, newO]
  exact par3_to (f := iD 0) (cons_to (d := iD t) rfl (cons_to h (cons_to rfl rfl)))
theorem lw_r {ns : List Nat} {ρ : Rho} {S : Sto} (hs : ns.length ≤ sizeLine) (h : ρ[2]? = some (some (iD ns.length))) : mRange1 (mCons (mVar 2) mNil) ρ S = .ok ⟨rangeD ((0 : Nat) : Int) ns.length, []⟩ S := by
  refine range_to ?_ hs
  simp only [mCons, mNil, mVar, PI.bindM, pureM, h]
theorem lw_t4 {ns : List Nat} {need L M t p : Nat} {c : Option D} {S2 : Sto} (Z : RotS ns need) (g1 : S2[M]? = some (.lst ((seen ns need t p).map iD))) : mTup (mCons (mCall fTuple (mCons (mCall fSorted (mCons (mVar 7) mNil)) mNil)) (mCons (mOp opFdiv (mVar 8) (mVar 2)) mNil)) (rB ns need L M t p c) S2 =
      .ok (.tup [tN (sN (seen ns need t p)), iD ((it (stp (vv ns) need) p t - t) / ns.length)]) (S2 ++ [O.lst ((sN (seen ns need t p)).map iD)]) := by
  have fd : fdivOk (ns.length : Int) = true := fdivOk_nat Z.h (by have := Z.hl; omega)
  have g2 : (S2 ++ [O.lst ((sN (seen ns need t p)).map iD)])[S2.length]? = some (.lst ((sN (seen ns need t p)).map iD)) := by simp
  have e2s : (2 : Nat) ≤ sizeLine := small_le (by decide)
  simp only [mTup, rB, fin, sSeq, sNil, sPass, sIf, sRet, sRetN, sExpr, sAsg, bindS, PI.bindM, pureM, mVar, mOp, mTest, mNotT, mAndT, mOrT, mAndV, mOrV, mNotV, mIf, mNeg, mChain, mNil, mCons, mCall, mCallF, bindP, bindPs, Bool.not_true, Bool.not_false, List.getElem?_cons_zero, List.getElem?_cons_succ, List.set_cons_zero, List.set_cons_succ, List.length_cons, List.length_nil, Nat.zero_add, Nat.reduceAdd, if_true, if_false, Bool.false_eq_true, reduceIte, fsorted_iD g1, ftuple_loc g2, opFdiv, fd, fdiv_nat, e2s]
theorem lw_t1 {ns : List Nat} {need : Nat} (hs : need ≤ ns.sum) (S : Sto) : mTest (mOp opLt (mCall fSum (mCons (mVar 0) mNil)) (mVar 1)) [some (tN ns), some (iD need), none, none, none, none, none, none, none] S = .ok false S := by
  simp only [fin, sSeq, sNil, sPass, sIf, sRet, sRetN, sExpr, sAsg, bindS, PI.bindM, pureM, mVar, mOp, mTest, mNotT, mAndT, mOrT, mAndV, mOrV, mNotV, mIf, mNeg, mChain, mNil, mCons, mCall, mCallF, bindP, bindPs, Bool.not_true, Bool.not_false, List.getElem?_cons_zero, List.getElem?_cons_succ, List.set_cons_zero, List.set_cons_succ, List.length_cons, List.length_nil, Nat.zero_add, Nat.reduceAdd, if_true, if_false, Bool.false_eq_true, reduceIte, fsum_tN, opLt, opB]
  congr 1
  exact decide_eq_false (by omega)
theorem lw_lb {ns : List Nat} {need L M t p : Nat} {c1 c2 : Option D} {S2 S3 : Sto} {its : List D} (tl : t < ns.length) (lb : forL ⟨its, []⟩ (.name 5) bB its (rB ns need L M t 0 c1) S2 = .nx (rB ns need L M t p c2) S3) :
    forL ⟨its, []⟩ (.name 5) bB its [some (tN ns), some (iD need), some (iD ns.length), some (.loc L), some (iD t), c1, some (iD t), some (.loc M), some (iD 0)] S2 = .nx (rB ns need L M t p c2) S3 := by
  have e1 : it (stp (vv ns) need) 0 t % ns.length = t := Nat.mod_eq_of_lt tl
  have e2 : it (stp (vv ns) need) 0 t - t = 0 := Nat.sub_self t
  have e3 : rB ns need L M t 0 c1 = [some (tN ns), some (iD need), some (iD ns.length), some (.loc L), some (iD t), c1, some (iD t), some (.loc M), some (iD 0)] := by
    unfold rB
    rw [e1, e2]
  rw [← e3]
  exact lb
/-- what the law's walk says -/
structure WalkL (ns : List Nat) (need p q t : Nat) : Prop where
  ppos : 0 < p
  qpos : 0 < q
  ple : p ≤ ns.length
  qle : q ≤ p
  tl : t < ns.length
  turns : Turns (stp (vv ns) need) ns.length p q t
theorem walkL_ex {ns : List Nat} {need : Nat} (Z : RotS ns need) : ∃ p t, t = it (stp (vv ns) need) ns.length 0 % ns.length ∧ it (stp (vv ns) need) p t % ns.length = t ∧ (∀ k, 1 ≤ k → k < p → it (stp (vv ns) need) k t % ns.length ≠ t) ∧ WalkL ns need p ((it (stp (vv ns) need) p t - t) / ns.length) t := by
  obtain ⟨t, te⟩ : ∃ t, t = it (stp (vv ns) need) ns.length 0 % ns.length := ⟨_, rfl⟩
  have tl : t < ns.length := by rw [te]; exact Nat.mod_lt _ Z.h
  obtain ⟨k, k1, k2, k3⟩ := Z.R.back
  rw [← te] at k3
  obtain ⟨p, ⟨p1, p2⟩, p3⟩ := least_ex (P := fun k => 1 ≤ k ∧ it (stp (vv ns) need) k t % ns.length = t) ⟨k, k1, k3⟩
  have ple : p ≤ ns.length := Nat.le_of_not_lt fun hlt => p3 k (by omega) ⟨k1, k3⟩
  have tu := Z.R.turns_of (k := p) (s := t) (by rw [p2, Nat.mod_eq_of_lt tl])
  have ql : (it (stp (vv ns) need) p t - t) / ns.length ≤ p := by
    have h1 := it_up Z.up p t
    have h2 := tu
    unfold Turns at h2
    exact Nat.le_of_mul_le_mul_right (show (it (stp (vv ns) need) p t - t) / ns.length * ns.length ≤ p * ns.length by omega) Z.h
  exact ⟨p, t, te, p2, fun k a b c => p3 k b ⟨a, c⟩, ⟨p1, Z.R.turns_pos p1 tu, ple, ql, tl, tu⟩⟩
theorem seen_len (ns : List Nat) (need t k : Nat) : (sN (seen ns need t k)).length = k := by
  rw [(sN_perm _).length_eq]
  simp [seen]
theorem lw_la {ns : List Nat} {need L m : Nat} {S : Sto} {ds its : List D} {c c' : Option D} (h : forL ⟨its, []⟩ (.name 5) bA ds [some (tN ns), some (iD need), some (iD ns.length), some (.loc L), some (iD (it (stp (vv ns) need) 0 0 % ns.length)), c, none, none, none] S =
      .nx [some (tN ns), some (iD need), some (iD ns.length), some (.loc L), some (iD m), c', none, none, none] S) :
    forL ⟨its, []⟩ (.name 5) bA ds [some (tN ns), some (iD need), some (iD ns.length), some (.loc L), some (iD 0), c, none, none, none] S = .nx [some (tN ns), some (iD need), some (iD ns.length), some (.loc L), some (iD m), c', none, none, none] S := by
  have e1 : it (stp (vv ns) need) 0 0 % ns.length = 0 := Nat.zero_mod _
  rw [e1] at h
  exact h
theorem lw_all {ns : List Nat} {need : Nat} {S0 : Sto} (hs : need ≤ ns.sum) {ρ1 ρ2 ρ3 ρ4 : Rho} {S1 S2 S3 S4 S5 : Sto} {d : D} {it1 it2 : IterD}
    (h1 : sPar3 2 3 4 (mCons (mCall fLen (mCons (mVar 0) mNil)) (mCons (mCallF 2 f_law_steps (mCons (mVar 0) (mCons (mVar 1) mNil))) (mCons (pureM (.int 0)) mNil))) [some (tN ns), some (iD need), none, none, none, none, none, none, none] S0 = .nx ρ1 S1)
    (r1 : mRange1 (mCons (mVar 2) mNil) ρ1 S1 = .ok it1 S1) (h2 : forL it1 (.name 5) bA it1.items ρ1 S1 = .nx ρ2 S2)
    (h3 : sPar3 6 7 8 (mCons (mVar 4) (mCons (mLst mNil) (mCons (pureM (.int 0)) mNil))) ρ2 S2 = .nx ρ3 S3)
    (r2 : mRange1 (mCons (mVar 2) mNil) ρ3 S3 = .ok it2 S3) (h4 : forL it2 (.name 5) bB it2.items ρ3 S3 = .nx ρ4 S4)
    (h5 : mTup (mCons (mCall fTuple (mCons (mCall fSorted (mCons (mVar 7) mNil)) mNil)) (mCons (mOp opFdiv (mVar 8) (mVar 2)) mNil)) ρ4 S4 = .ok d S5) : f_law_walk [tN ns, iD need] S0 = .ok d S5 := by
  have w : m_law_walk [some (tN ns), some (iD need), none, none, none, none, none, none, none] S0 = .rt d S5 := by
    unfold m_law_walk
    exact seq_to (if_no (lw_t1 hs S0) rfl) (seq_to h1 (seq_to (for_to r1 h2) (seq_to h3 (seq_to (for_to r2 h4) (ret_to h5)))))
  unfold f_law_walk
  exact run_to rfl w rfl
theorem law_walk_ok {ns : List Nat} {need : Nat} (Z : RotS ns need) (hs : need ≤ ns.sum) (S0 : Sto) : ∃ starts p q t T, starts.length = p ∧ WalkL ns need p q t ∧ f_law_walk [tN ns, iD need] S0 = .ok (.tup [tN starts, iD q]) (S0 ++ T) := by
  obtain ⟨p, t, te, h1, h2, WL⟩ := walkL_ex Z
  have hn : ns.length ≤ sizeLine := small_le (Nat.le_trans Z.hl (by decide))
  have hL : (S0 ++ [O.lst ((fars ns need ns.length).map iD)])[S0.length]? = some (.lst ((fars ns need ns.length).map iD)) := by simp
  obtain ⟨c1, la⟩ := loopA (m := ns.length) Z hL (its := rangeD ((0 : Nat) : Int) ns.length) ns.length 0 none (by omega)
  rw [← te] at la
  have pl : p ≤ 1000 := by have := WL.ple; have := Z.hl; omega
  obtain ⟨c2, lb⟩ := loopB (S1 := S0 ++ [O.lst ((fars ns need ns.length).map iD)]) Z hL pl h1 h2 (its := rangeD ((0 : Nat) : Int) ns.length) ns.length 0 ((0 : Nat) : Int) c1 WL.ppos (by have := WL.ple; omega)
  rw [show (seen ns need t 0).map iD = [] from rfl] at lb
  have g1 : (S0 ++ [O.lst ((fars ns need ns.length).map iD)] ++ [O.lst ((seen ns need t p).map iD)])[(S0 ++ [O.lst ((fars ns need ns.length).map iD)]).length]? = some (.lst ((seen ns need t p).map iD)) := by simp
  have r := lw_all hs (lw_p1 Z S0) (lw_r hn rfl) (lw_la la) lw_p2 (lw_r hn rfl) (lw_lb WL.tl lb) (lw_t4 Z g1)
  rw [List.append_assoc, List.append_assoc] at r
  exact ⟨_, p, _, t, _, seen_len ns need t p, WL, r⟩
end LawT

end
section
set_option Elab.async false
set_option linter.all false
set_option maxRecDepth 100000
set_option maxHeartbeats 2000000
/-! K08M9: the law's judge of a crew -/
namespace LawT
open PySem PySem.Spec PyProof.Rows L2 PI LamX Crew
/-! ### lists of ints as data -/
theorem toPD_int (S : Sto) (n : Nat) (i : Int) : toPD S n (.int i) = some (.int i) := by cases n <;> rfl
theorem mapO_ints (S : Sto) (n : Nat) : ∀ is : List Int, mapO (toPD S n) (is.map D.int) = some (is.map PyData.int)
  | [] => rfl
  | i :: is => by
    rw [List.map_cons, List.map_cons, mapO, mapO_ints S n is, toPD_int]
theorem canLay_ints : ∀ is : List Int, PyData.canLayAll0 (is.map PyData.int) = true
  | [] => rfl
  | i :: is => by
    rw [List.map_cons, PyData.canLayAll0, canLay_ints is]
    rfl
theorem depth_ints : ∀ is : List Int, PyData.depthAll (is.map PyData.int) = 0
  | [] => rfl
  | i :: is => by
    rw [List.map_cons, PyData.depthAll, depth_ints is]
    rfl
theorem shaped_list (is : List Int) : SeqAt.shaped (.list (is.map PyData.int)) = true := by
  unfold SeqAt.shaped
  rw [PyData.canLay0, canLay_ints, PyData.depth, depth_ints]
  rfl
theorem shaped_tup (is : List Int) : SeqAt.shaped (.tuple (is.map PyData.int)) = true := by
  unfold SeqAt.shaped
  rw [PyData.canLay0, canLay_ints, PyData.depth, depth_ints]
  rfl
theorem toPD_lst {S : Sto} {n : Nat} {is : List Int} (h : S[n]? = some (.lst (is.map D.int)) ∨ S[n]? = some (.fro (is.map D.int))) : toPD S 60 (.loc n) = some (.list (is.map .int)) := by
  show toPD S (59 + 1) (.loc n) = _
  unfold toPD
  rcases h with h | h <;> (rw [h]; simp only [mapO_ints, Option.map_some])
theorem toPD_tup {S : Sto} {is : List Int} : toPD S 60 (.tup (is.map D.int)) = some (.tuple (is.map .int)) := by
  show toPD S (59 + 1) (.tup (is.map D.int)) = _
  unfold toPD
  simp only [mapO_ints, Option.map_some]
theorem eqv_nil : ∀ is : List Int, PyData.eqvAll (is.map PyData.int) [] = is.isEmpty
  | [] => rfl
  | _ :: _ => rfl
theorem ne_nil {S : Sto} {n m : Nat} {is : List Int} (h : S[n]? = some (.lst (is.map D.int)) ∨ S[n]? = some (.fro (is.map D.int))) (hm : S[m]? = some (.lst [])) : opNe (.loc n) (.loc m) S = .ok (.bl (!is.isEmpty)) S := by
  have e2 : toPD S 60 (.loc m) = some (.list (([] : List Int).map .int)) := toPD_lst (is := []) (.inl hm)
  have e3 : eqD S (.loc n) (.loc m) = some is.isEmpty := by
    unfold eqD
    rw [toPD_lst h, e2]
    simp only [shaped_list, Bool.and_self, if_true]
    rw [PyData.eqv]
    exact congrArg some (eqv_nil is)
  unfold opNe opB
  simp only [e3, Option.map_some]
theorem ne_nilT {S : Sto} {is : List Int} : opNe (.tup (is.map D.int)) (.tup []) S = .ok (.bl (!is.isEmpty)) S := by
  have e2 : toPD S 60 (.tup []) = some (.tuple (([] : List Int).map .int)) := toPD_tup (is := [])
  have e3 : eqD S (.tup (is.map D.int)) (.tup []) = some is.isEmpty := by
    unfold eqD
    rw [toPD_tup, e2]
    simp only [shaped_tup, Bool.and_self, if_true]
    rw [PyData.eqv]
    exact congrArg some (eqv_nil is)
  unfold opNe opB
  simp only [e3, Option.map_some]
theorem ne_lc {m : M D} {ρ : Rho} {S S1 : Sto} {n : Nat} {is : List Int} (h : m ρ S = .ok (.loc n) S1) (hn : S1[n]? = some (.lst (is.map D.int))) : mTest (mOp opNe m (mLst mNil)) ρ S = .ok (!is.isEmpty) (S1 ++ [.lst []]) := by
  have e0 : (0 : Nat) ≤ sizeLine := Nat.zero_le _
  have h1 : (S1 ++ [O.lst []])[n]? = some (.lst (is.map D.int)) := by
    rw [List.getElem?_append_left (List.getElem?_eq_some_iff.mp hn).1]
    exact hn
  have h2 : (S1 ++ [O.lst []])[S1.length]? = some (.lst []) := by simp
  simp only [mTest, mOp, PI.bindM, h, mLst, mNil, pureM, List.length_nil, e0, if_true, newO, ne_nil (.inl h1) h2]
theorem nat_ints (l : List Nat) : l.map iD = (l.map fun n : Nat => (n : Int)).map D.int := by
  rw [List.map_map]
  rfl
/-! ### comprehensions, ranges, loops -/
theorem lc_to {p : Pat} {own : List Nat} {mi : M IterD} {mt : M Bool} {me : M D} {ρ : Rho} {S : Sto} {its : List D} (t : D → Bool) (y : D → D) (hi : mi ρ S = .ok ⟨its, []⟩ S) (hl : its.length ≤ sizeLine)
    (h : ∀ d ∈ its, ∃ ρ1, bindP p d (wipeR ρ own) = some ρ1 ∧ ∀ l, mt ρ1 (S ++ [.lst l]) = .ok (t d) (S ++ [.lst l]) ∧ (t d = true → me ρ1 (S ++ [.lst l]) = .ok (y d) (S ++ [.lst l]))) :
    mLc p own mi mt me ρ S = .ok (.loc S.length) (S ++ [.lst ((its.filter t).map y)]) := by
  have lp := lc_pure (its := its) (wt := []) (ρ := wipeR ρ own) (S0 := S) t y (fun _ => okB_nil) its [] (by simpa using hl) h
  unfold mLc PI.bindM
  rw [hi]
  simp only [lp, List.nil_append]
theorem range2_to {ma : M (List D)} {a b : Nat} {ρ : Rho} {S S1 : Sto} (h : ma ρ S = .ok [iD a, iD b] S1) (ha : a ≤ sizeLine) (hb : b ≤ sizeLine) : mRange2 ma ρ S = .ok ⟨rangeD (a : Int) (b - a), []⟩ S1 := by
  unfold mRange2 PI.bindM
  rw [h]
  have r1 := rng_nat ha
  have r2 := rng_nat hb
  generalize h1 : rngOk (a : Int) = c1 at r1
  generalize h2 : rngOk (b : Int) = c2 at r2
  subst r1
  subst r2
  have e : ((b : Int) - (a : Int)).toNat = b - a := by omega
  simp only [h1, h2, Bool.and_self, if_true, e]
theorem mem_rangeD {d : D} : ∀ {a n : Nat}, d ∈ rangeD (a : Int) n → ∃ k, a ≤ k ∧ k < a + n ∧ d = iD k
  | a, 0, h => by cases h
  | a, n + 1, h => by
    rw [rangeD_succ, int_succ] at h
    rcases List.mem_cons.mp h with h | h
    · exact ⟨a, Nat.le_refl _, by omega, h⟩
    · obtain ⟨k, h1, h2, h3⟩ := mem_rangeD h
      exact ⟨k, by omega, by omega, h3⟩
theorem rangeD_len' (a : Int) (n : Nat) : (rangeD a n).length = n := by
  induction n generalizing a with
  | zero => rfl
  | succ n ih => rw [rangeD_succ, List.length_cons, ih]
theorem forL_inv {its : List D} {p : Pat} {b : MS} (I : Rho → Sto → Prop) : ∀ (ds : List D) (ρ : Rho) (S : Sto), I ρ S → (∀ d ∈ ds, ∀ ρ S, I ρ S → ∃ ρ1 ρ2 S2, bindP p d ρ = some ρ1 ∧ b ρ1 S = .nx ρ2 S2 ∧ I ρ2 S2) →
    ∃ ρ' S', forL ⟨its, []⟩ p b ds ρ S = .nx ρ' S' ∧ I ρ' S'
  | [], ρ, S, h, _ => ⟨ρ, S, forL_nil0, h⟩
  | d :: ds, ρ, S, h, k => by
    obtain ⟨ρ1, ρ2, S2, h1, h2, h3⟩ := k d (List.mem_cons_self ..) ρ S h
    obtain ⟨ρ', S', h4, h5⟩ := forL_inv I ds ρ2 S2 h3 (fun x hx => k x (List.mem_cons_of_mem _ hx))
    exact ⟨ρ', S', forL_nx h1 h2 h4, h5⟩
/-! ### _law_ring_crew_size -/
theorem neg_fdiv {p q : Nat} (hq : 0 < q) (hp : 0 < p) : -((-(p : Int)).fdiv (q : Int)) = ((size p q : Nat) : Int) := by
  obtain ⟨h1, h2, h3⟩ := size_ok hq hp
  rw [Int.fdiv_eq_ediv_of_nonneg _ (by omega)]
  generalize size p q = m at h1 h2 h3
  have e1 : ((m * q : Nat) : Int) = (m : Int) * (q : Int) := Int.natCast_mul m q
  obtain ⟨r, rfl⟩ : ∃ r, m = r + 1 := ⟨m - 1, by omega⟩
  rw [Nat.add_sub_cancel] at h3
  have e2 : ((r * q : Nat) : Int) = (r : Int) * (q : Int) := Int.natCast_mul r q
  have e3 : (((r + 1) * q : Nat) : Int) = ((r * q : Nat) : Int) + (q : Int) := by
    rw [Nat.add_mul, Nat.one_mul]
    omega
  have lo : -(((r + 1 : Nat) : Nat) : Int) ≤ (-(p : Int)) / (q : Int) := by
    refine Int.le_ediv_of_mul_le (by omega) ?_
    rw [Int.neg_mul, ← Int.natCast_mul]
    omega
  have hi : (-(p : Int)) / (q : Int) < -(r : Int) := by
    refine Int.ediv_lt_of_lt_mul (by omega) ?_
    rw [Int.neg_mul, ← Int.natCast_mul]
    omega
  omega
theorem rcs_none {ns : List Nat} {need : Nat} (hs : ns.sum < need) (S : Sto) : f_law_ring_crew_size [tN ns, iD need] S = .ok (.int 0) S := by
  have w : m_law_ring_crew_size [some (tN ns), some (iD need), none] S = .rt (.int 0) S := by
    unfold m_law_ring_crew_size
    refine seq_to (asg_to (d := .non) (S1 := S) ?_ rfl) (ret_to ?_)
    · simp only [fin, sSeq, sNil, sPass, sIf, sRet, sRetN, sExpr, sAsg, bindS, PI.bindM, pureM, mVar, mOp, mTest, mNotT, mAndT, mOrT, mAndV, mOrV, mNotV, mIf, mNeg, mChain, mNil, mCons, mCall, mCallF, bindP, bindPs, Bool.not_true, Bool.not_false, List.getElem?_cons_zero, List.getElem?_cons_succ, List.set_cons_zero, List.set_cons_succ, List.length_cons, List.length_nil, Nat.zero_add, Nat.reduceAdd, if_true, if_false, Bool.false_eq_true, reduceIte]
      exact law_walk_none hs S
    · simp only [fin, sSeq, sNil, sPass, sIf, sRet, sRetN, sExpr, sAsg, bindS, PI.bindM, pureM, mVar, mOp, mTest, mNotT, mAndT, mOrT, mAndV, mOrV, mNotV, mIf, mNeg, mChain, mNil, mCons, mCall, mCallF, bindP, bindPs, Bool.not_true, Bool.not_false, List.getElem?_cons_zero, List.getElem?_cons_succ, List.set_cons_zero, List.set_cons_succ, List.length_cons, List.length_nil, Nat.zero_add, Nat.reduceAdd, if_true, if_false, Bool.false_eq_true, reduceIte, opIs, opB, PI.isNon]
  unfold f_law_ring_crew_size
  exact run_to rfl w rfl
theorem rcs_some {ns : List Nat} {need : Nat} (Z : RotS ns need) (hs : need ≤ ns.sum) (S : Sto) : ∃ p q t T, WalkL ns need p q t ∧ f_law_ring_crew_size [tN ns, iD need] S = .ok (iD (size p q)) (S ++ T) := by
  obtain ⟨starts, p, q, t, T, h1, h2, h3⟩ := law_walk_ok Z hs S
  refine ⟨p, q, t, T, h2, ?_⟩
  have fd : fdivOk (q : Int) = true := fdivOk_nat h2.qpos (by have := h2.qle; have := h2.ple; have := Z.hl; omega)
  have i0 : L2.atI [tN starts, iD q] 0 = some (tN starts) := at_nat (k := 0) (by simp)
  have i1 : L2.atI [tN starts, iD q] 1 = some (iD q) := at_nat (k := 1) (by simp)
  have w : m_law_ring_crew_size [some (tN ns), some (iD need), none] S = .rt (iD (size p q)) (S ++ T) := by
    unfold m_law_ring_crew_size
    refine seq_to (asg_to (d := .tup [tN starts, iD q]) (S1 := S ++ T) ?_ rfl) (ret_to ?_)
    · simp only [fin, sSeq, sNil, sPass, sIf, sRet, sRetN, sExpr, sAsg, bindS, PI.bindM, pureM, mVar, mOp, mTest, mNotT, mAndT, mOrT, mAndV, mOrV, mNotV, mIf, mNeg, mChain, mNil, mCons, mCall, mCallF, bindP, bindPs, Bool.not_true, Bool.not_false, List.getElem?_cons_zero, List.getElem?_cons_succ, List.set_cons_zero, List.set_cons_succ, List.length_cons, List.length_nil, Nat.zero_add, Nat.reduceAdd, if_true, if_false, Bool.false_eq_true, reduceIte]
      exact h3
    · simp only [fin, sSeq, sNil, sPass, sIf, sRet, sRetN, sExpr, sAsg, bindS, PI.bindM, pureM, mVar, mOp, mTest, mNotT, mAndT, mOrT, mAndV, mOrV, mNotV, mIf, mNeg, mChain, mNil, mCons, mCall, mCallF, bindP, bindPs, Bool.not_true, Bool.not_false, List.getElem?_cons_zero, List.getElem?_cons_succ, List.set_cons_zero, List.set_cons_succ, List.length_cons, List.length_nil, Nat.zero_add, Nat.reduceAdd, if_true, if_false, Bool.false_eq_true, reduceIte, opIs, opB, PI.isNon, opIx, seqD, i0, i1, fLen, List.length_map, h1, opFdiv, fd, neg_fdiv h2.qpos h2.ppos]
  unfold f_law_ring_crew_size
  exact run_to rfl w rfl
/-! ### what a crew is -/
/-- where the stretch behind the k-th of the crew ends -/
def enC (crew : List Nat) (N k : Nat) : Nat := if k + 1 < crew.length then crew.getD (k + 1) 0 else crew.getD 0 0 + N
structure CrewF (ns : List Nat) (need : Nat) (crew : List Nat) : Prop where
  lt : ∀ r ∈ crew, r < ns.length
  pw : crew.Pairwise (· < ·)
  len : crew.length ≤ ns.length
  gap : ∀ k (hk : k < crew.length), W (vv ns) (crew[k] + 1) (enC crew ns.length k - (crew[k] + 1)) < need
  ne : crew ≠ [] ∨ ns.sum < need
  rcs : ∀ S : Sto, ∃ T, f_law_ring_crew_size [tN ns, iD need] S = .ok (iD crew.length) (S ++ T)
theorem sN_lt {l : List Nat} (h : l.Nodup) : (sN l).Pairwise (· < ·) := by
  have h1 := sN_sorted l
  have h2 : (sN l).Nodup := (sN_perm l).nodup_iff.mpr h
  rw [List.nodup_iff_pairwise_ne] at h2
  exact (h1.and h2).imp fun ⟨a, b⟩ => by omega
theorem crewF {ns : List Nat} {need : Nat} {crew : List Nat} (h : 0 < ns.length) (hl : ns.length ≤ 200) (h0 : 0 < need) (hc : CrewOf ns need crew) : CrewF ns need crew := by
  rcases hc with ⟨h1, rfl⟩ | ⟨hs, s, p, q, hp, hq, ht, rfl⟩
  · exact ⟨fun r hr => (List.not_mem_nil hr).elim, List.Pairwise.nil, Nat.zero_le _, fun k hk => absurd hk (Nat.not_lt_zero k), .inr h1, fun S => ⟨[], (rcs_none h1 S).trans (by rw [List.append_nil]; rfl)⟩⟩
  · have Z := rotS h hl h0 hs
    obtain ⟨m1, m2, m3⟩ := size_ok hq hp
    have nd := found_nodup Z.R hp ht m1 m3
    have mem : ∀ r, r ∈ sN (found (vv ns) ns.length need s (size p q)) ↔ r ∈ found (vv ns) ns.length need s (size p q) := fun r => (sN_perm _).mem_iff
    have lt : ∀ r ∈ sN (found (vv ns) ns.length need s (size p q)), r < ns.length := fun r hr => by
      obtain ⟨k, _, _, rfl⟩ := found_mem.mp ((mem r).mp hr)
      exact Nat.mod_lt _ h
    have pw := sN_lt nd
    have len : (sN (found (vv ns) ns.length need s (size p q))).length = size p q := by
      rw [(sN_perm _).length_eq]
      simp [found]
    have len2 : (sN (found (vv ns) ns.length need s (size p q))).length ≤ ns.length := pigeon _ _ lt (by
      rw [List.nodup_iff_pairwise_ne]
      exact pw.imp fun a => by omega)
    refine ⟨lt, pw, len2, fun k hk => ?_, .inl fun e => ?_, fun S => ?_⟩
    · refine gap_ok Z.R (vv_per ns) Z.st hq hp ht m2 m3 pw mem hk ?_
      unfold enC
      by_cases hk2 : k + 1 < (sN (found (vv ns) ns.length need s (size p q))).length
      · rw [if_pos hk2, dif_pos hk2, List.getD_eq_getElem?_getD, List.getElem?_eq_getElem hk2]
        rfl
      · rw [if_neg hk2, dif_neg hk2, List.getD_eq_getElem?_getD, List.getElem?_eq_getElem (by omega)]
        rfl
    · rw [e] at len
      simp at len
      omega
    · obtain ⟨p', q', t', T, h2, h3⟩ := rcs_some Z hs S
      refine ⟨T, ?_⟩
      rw [h3, len, size_eq hq h2.qpos hp h2.ppos (Z.R.turns_eq ht h2.turns)]
/-! ### sums of stretches -/
theorem cut_nat {α : Type} {xs : List α} {a b : Nat} (ha : a ≤ xs.length) (hb : b ≤ xs.length) : PI.cutD xs (some (a : Int)) (some (b : Int)) = (xs.drop a).take (b - a) := by
  unfold PI.cutD
  rw [HT.sIx_nat, HT.sIx_nat, Nat.min_eq_left ha, Nat.min_eq_left hb]
theorem vv_two {ns : List Nat} {i : Nat} (h : i < (ns ++ ns).length) : vv ns i = (ns ++ ns)[i] := by
  unfold vv
  rw [List.length_append] at h
  by_cases hi : i < ns.length
  · rw [Nat.mod_eq_of_lt hi, List.getD_eq_getElem?_getD, List.getElem?_eq_getElem hi, List.getElem_append_left hi]
    rfl
  · have e : i % ns.length = i - ns.length := by
      have := Nat.mod_eq_sub_mod (show i ≥ ns.length by omega)
      rw [this, Nat.mod_eq_of_lt (by omega)]
    rw [e, List.getD_eq_getElem?_getD, List.getElem?_eq_getElem (by omega), List.getElem_append_right (by omega)]
    rfl
theorem cut_sum {ns : List Nat} {a b : Nat} (hab : a ≤ b) (hb : b ≤ ns.length + ns.length) (S : Sto) : fSum [.tup (PI.cutD (ns.map iD ++ ns.map iD) (some (a : Int)) (some (b : Int)))] S = .ok (iD (W (vv ns) a (b - a))) S := by
  have hl : (ns.map iD ++ ns.map iD).length = ns.length + ns.length := by simp
  rw [cut_nat (by omega) (by omega), ← List.map_append, ← List.map_drop, ← List.map_take, fsum_tN]
  have hl2 : (((ns ++ ns).drop a).take (b - a)).length = b - a := by
    rw [List.length_take, List.length_drop, List.length_append]
    omega
  have e := W_list ns (((ns ++ ns).drop a).take (b - a)) a (fun k hk => by
    rw [hl2] at hk
    rw [List.getElem_take, List.getElem_drop]
    exact vv_two (by rw [List.length_append]; omega))
  rw [hl2] at e
  rw [e]
end LawT

end
section
set_option Elab.async false
set_option linter.all false
set_option maxRecDepth 100000
set_option maxHeartbeats 2000000
/-! K08M10: _law_is_round_crew -/
namespace LawT
open PySem PySem.Spec PyProof.Rows L2 PI LamX Crew
section
variable {ns : List Nat} {need : Nat} {crew : List Nat}
abbrev rC (ns : List Nat) (need : Nat) (crew : List Nat) (k e x : Option D) : Rho := [some (tN ns), some (iD need), some (tN crew), some (iD ns.length), k, e, x]
noncomputable def cC1 : M Bool := mOrT (mNotT (mTest (mIsTy "tuple" (mVar 2)))) (mTest (mOp opNe (mLc (.name 6) [6] (mSeqI (mVar 2)) (mOrT (mNotT (mTest (mCallF 1 f_law_is_whole (mCons (mVar 6) mNil)))) (mOrT (mTest (mOp opLt (mVar 6) (pureM (.int 0)))) (mTest (mOp opGe (mVar 6) (mVar 3))))) (mVar 6)) (mLst mNil)))
theorem crew_small (F : CrewF ns need crew) (hl : ns.length ≤ 200) : crew.length ≤ sizeLine := small_le (Nat.le_trans F.len (Nat.le_trans hl (by decide)))
theorem ic1 (F : CrewF ns need crew) (hl : ns.length ≤ 200) (S : Sto) : ∃ T, cC1 (rC ns need crew none none none) S = .ok false (S ++ T) := by
  have a0 : mSeqI (mVar 2) (rC ns need crew none none none) S = .ok ⟨crew.map iD, []⟩ S := by simp only [rC, mSeqI, fin, sSeq, sNil, sPass, sIf, sRet, sRetN, sExpr, sAsg, bindS, PI.bindM, pureM, mVar, mOp, mTest, mNotT, mAndT, mOrT, mAndV, mOrV, mNotV, mIf, mNeg, mChain, mNil, mCons, mCall, mCallF, bindP, bindPs, Bool.not_true, Bool.not_false, List.getElem?_cons_zero, List.getElem?_cons_succ, List.set_cons_zero, List.set_cons_succ, List.length_cons, List.length_nil, Nat.zero_add, Nat.reduceAdd, if_true, if_false, Bool.false_eq_true, reduceIte, seqIter]
  have a1 := lc_to (p := .name 6) (own := [6]) (mt := mOrT (mNotT (mTest (mCallF 1 f_law_is_whole (mCons (mVar 6) mNil)))) (mOrT (mTest (mOp opLt (mVar 6) (pureM (.int 0)))) (mTest (mOp opGe (mVar 6) (mVar 3))))) (me := mVar 6) (fun _ => false) (fun d => d) a0 (by simpa using crew_small F hl) (fun d hd => by
    obtain ⟨r, hr, rfl⟩ := List.mem_map.mp hd
    refine ⟨rC ns need crew none none (some (iD r)), rfl, fun l => ⟨?_, fun h => by cases h⟩⟩
    have e1 : decide ((r : Int) < 0) = false := decide_eq_false (by omega)
    have e2 : decide ((ns.length : Int) ≤ (r : Int)) = false := decide_eq_false (by have := F.lt r hr; omega)
    simp only [rC, fin, sSeq, sNil, sPass, sIf, sRet, sRetN, sExpr, sAsg, bindS, PI.bindM, pureM, mVar, mOp, mTest, mNotT, mAndT, mOrT, mAndV, mOrV, mNotV, mIf, mNeg, mChain, mNil, mCons, mCall, mCallF, bindP, bindPs, Bool.not_true, Bool.not_false, List.getElem?_cons_zero, List.getElem?_cons_succ, List.set_cons_zero, List.set_cons_succ, List.length_cons, List.length_nil, Nat.zero_add, Nat.reduceAdd, if_true, if_false, Bool.false_eq_true, reduceIte, law_is_whole_ok (d := iD r) rfl, isI, opLt, opGe, opB, e1, e2])
  rw [List.filter_eq_nil_iff.mpr (fun _ _ => by simp), List.map_nil] at a1
  have a2 := ne_lc (is := []) a1 (by simp)
  refine ⟨[.lst [], .lst []], ?_⟩
  rw [List.append_assoc] at a2
  have a3 : mTest (mIsTy "tuple" (mVar 2)) (rC ns need crew none none none) S = .ok true S := by simp only [rC, fin, sSeq, sNil, sPass, sIf, sRet, sRetN, sExpr, sAsg, bindS, PI.bindM, pureM, mVar, mOp, mTest, mNotT, mAndT, mOrT, mAndV, mOrV, mNotV, mIf, mNeg, mChain, mNil, mCons, mCall, mCallF, bindP, bindPs, Bool.not_true, Bool.not_false, List.getElem?_cons_zero, List.getElem?_cons_succ, List.set_cons_zero, List.set_cons_succ, List.length_cons, List.length_nil, Nat.zero_add, Nat.reduceAdd, if_true, if_false, Bool.false_eq_true, reduceIte, mIsTy, tyD, Option.bind_some, kt_NoneType_int, kt_NoneType_bool, kt_NoneType_str, kt_NoneType_tuple, kt_NoneType_list, kt_bool_int, kt_bool_bool, kt_bool_str, kt_bool_tuple, kt_bool_list, kt_int_int, kt_int_bool, kt_int_str, kt_int_tuple, kt_int_list, kt_str_int, kt_str_bool, kt_str_str, kt_str_tuple, kt_str_list, kt_tuple_int, kt_tuple_bool, kt_tuple_str, kt_tuple_tuple, kt_tuple_list, kt_list_int, kt_list_bool, kt_list_str, kt_list_tuple, kt_list_list, kt_dict_int, kt_dict_bool, kt_dict_str, kt_dict_tuple, kt_dict_list]
  unfold cC1
  simp only [mOrT, mNotT, PI.bindM, pureM] at a2 a3 ⊢
  rw [a3]
  simp only [Bool.not_true, Bool.false_eq_true, if_false]
  exact a2
noncomputable def cC2 : M Bool := mTest (mOp opNe (mLc (.name 4) [4] (mRange2 (mCons (pureM (.int 1)) (mCons (mCall fLen (mCons (mVar 2) mNil)) mNil))) (mTest (mOp opLe (mOp opIx (mVar 2) (mVar 4)) (mOp opIx (mVar 2) (mOp opSub (mVar 4) (pureM (.int 1)))))) (mVar 4)) (mLst mNil))
theorem ic2 (F : CrewF ns need crew) (hl : ns.length ≤ 200) (S : Sto) : ∃ T, cC2 (rC ns need crew none none none) S = .ok false (S ++ T) := by
  have cs := crew_small F hl
  have a0 : mRange2 (mCons (pureM (.int 1)) (mCons (mCall fLen (mCons (mVar 2) mNil)) mNil)) (rC ns need crew none none none) S = .ok ⟨rangeD ((1 : Nat) : Int) (crew.length - 1), []⟩ S := by
    refine range2_to ?_ (small_le (by decide)) cs
    simp only [rC, fin, sSeq, sNil, sPass, sIf, sRet, sRetN, sExpr, sAsg, bindS, PI.bindM, pureM, mVar, mOp, mTest, mNotT, mAndT, mOrT, mAndV, mOrV, mNotV, mIf, mNeg, mChain, mNil, mCons, mCall, mCallF, bindP, bindPs, Bool.not_true, Bool.not_false, List.getElem?_cons_zero, List.getElem?_cons_succ, List.set_cons_zero, List.set_cons_succ, List.length_cons, List.length_nil, Nat.zero_add, Nat.reduceAdd, if_true, if_false, Bool.false_eq_true, reduceIte, fLen, seqD, List.length_map]
    rfl
  have a1 := lc_to (p := .name 4) (own := [4]) (mt := mTest (mOp opLe (mOp opIx (mVar 2) (mVar 4)) (mOp opIx (mVar 2) (mOp opSub (mVar 4) (pureM (.int 1)))))) (me := mVar 4) (fun _ => false) (fun d => d) a0 (by rw [rangeD_len']; omega) (fun d hd => by
    obtain ⟨k, h1, h2, rfl⟩ := mem_rangeD hd
    refine ⟨rC ns need crew (some (iD k)) none none, rfl, fun l => ⟨?_, fun h => by cases h⟩⟩
    have hk : k < crew.length := by omega
    have hk1 : k - 1 < crew.length := by omega
    have ek : ((k : Int) - 1) = ((k - 1 : Nat) : Int) := by omega
    have lt := (List.pairwise_iff_getElem.mp F.pw) (k - 1) k hk1 hk (by omega)
    have e1 : decide ((crew[k] : Int) ≤ (crew[k - 1] : Int)) = false := decide_eq_false (by omega)
    simp only [rC, fin, sSeq, sNil, sPass, sIf, sRet, sRetN, sExpr, sAsg, bindS, PI.bindM, pureM, mVar, mOp, mTest, mNotT, mAndT, mOrT, mAndV, mOrV, mNotV, mIf, mNeg, mChain, mNil, mCons, mCall, mCallF, bindP, bindPs, Bool.not_true, Bool.not_false, List.getElem?_cons_zero, List.getElem?_cons_succ, List.set_cons_zero, List.set_cons_succ, List.length_cons, List.length_nil, Nat.zero_add, Nat.reduceAdd, if_true, if_false, Bool.false_eq_true, reduceIte, opSub, ek, opIx, seqD, at_iD hk, at_iD hk1, opLe, opB, e1])
  rw [List.filter_eq_nil_iff.mpr (fun _ _ => by simp), List.map_nil] at a1
  have a2 := ne_lc (is := []) a1 (by simp)
  refine ⟨[.lst [], .lst []], ?_⟩
  rw [List.append_assoc] at a2
  exact a2
theorem ic3 (F : CrewF ns need crew) (S : Sto) : ∃ T, mTest (mOp opNe (mCall fLen (mCons (mVar 2) mNil)) (mCallF 2 f_law_ring_crew_size (mCons (mVar 0) (mCons (mVar 1) mNil)))) (rC ns need crew none none none) S = .ok false (S ++ T) := by
  obtain ⟨T, hT⟩ := F.rcs S
  refine ⟨T, ?_⟩
  simp only [rC, fin, sSeq, sNil, sPass, sIf, sRet, sRetN, sExpr, sAsg, bindS, PI.bindM, pureM, mVar, mOp, mTest, mNotT, mAndT, mOrT, mAndV, mOrV, mNotV, mIf, mNeg, mChain, mNil, mCons, mCall, mCallF, bindP, bindPs, Bool.not_true, Bool.not_false, List.getElem?_cons_zero, List.getElem?_cons_succ, List.set_cons_zero, List.set_cons_succ, List.length_cons, List.length_nil, Nat.zero_add, Nat.reduceAdd, if_true, if_false, Bool.false_eq_true, reduceIte, fLen, seqD, List.length_map, hT, ne_int]
  simp
noncomputable def bC : MS := sSeq (sAsg (.name 5) (mIf (mTest (mOp opLt (mOp opAdd (mVar 4) (pureM (.int 1))) (mCall fLen (mCons (mVar 2) mNil)))) (mOp opIx (mVar 2) (mOp opAdd (mVar 4) (pureM (.int 1)))) (mOp opAdd (mOp opIx (mVar 2) (pureM (.int 0))) (mVar 3)))) (sIf (mTest (mOp opGe (mCall fSum (mCons (mSl (mOp opAdd (mVar 0) (mVar 0)) (mSomeO (mOp opAdd (mOp opIx (mVar 2) (mVar 4)) (pureM (.int 1)))) (mSomeO (mVar 5))) mNil)) (mVar 1))) (sRet (pureM (.bl false))) sNil)
theorem getD_at {l : List Nat} {k : Nat} (h : k < l.length) : l.getD k 0 = l[k] := by
  rw [List.getD_eq_getElem?_getD, List.getElem?_eq_getElem h]
  rfl
theorem enC_le (F : CrewF ns need crew) {k : Nat} (hk : k < crew.length) : crew[k] + 1 ≤ enC crew ns.length k ∧ enC crew ns.length k ≤ ns.length + ns.length := by
  unfold enC
  have h0 := F.lt _ (List.getElem_mem hk)
  by_cases hk2 : k + 1 < crew.length
  · rw [if_pos hk2, getD_at hk2]
    have lt := (List.pairwise_iff_getElem.mp F.pw) k (k + 1) hk hk2 (by omega)
    have := F.lt _ (List.getElem_mem hk2)
    omega
  · rw [if_neg hk2, getD_at (show 0 < crew.length by omega)]
    have := F.lt _ (List.getElem_mem (show 0 < crew.length by omega))
    omega
theorem icb_a (F : CrewF ns need crew) {k : Nat} (hk : k < crew.length) (e x : Option D) (S : Sto) : (mIf (mTest (mOp opLt (mOp opAdd (mVar 4) (pureM (.int 1))) (mCall fLen (mCons (mVar 2) mNil)))) (mOp opIx (mVar 2) (mOp opAdd (mVar 4) (pureM (.int 1)))) (mOp opAdd (mOp opIx (mVar 2) (pureM (.int 0))) (mVar 3))) (rC ns need crew (some (iD k)) e x) S = .ok (iD (enC crew ns.length k)) S := by
  have c : mTest (mOp opLt (mOp opAdd (mVar 4) (pureM (.int 1))) (mCall fLen (mCons (mVar 2) mNil))) (rC ns need crew (some (iD k)) e x) S = .ok (decide (k + 1 < crew.length)) S := by
    simp only [rC, fin, sSeq, sNil, sPass, sIf, sRet, sRetN, sExpr, sAsg, bindS, PI.bindM, pureM, mVar, mOp, mTest, mNotT, mAndT, mOrT, mAndV, mOrV, mNotV, mIf, mNeg, mChain, mNil, mCons, mCall, mCallF, bindP, bindPs, Bool.not_true, Bool.not_false, List.getElem?_cons_zero, List.getElem?_cons_succ, List.set_cons_zero, List.set_cons_succ, List.length_cons, List.length_nil, Nat.zero_add, Nat.reduceAdd, if_true, if_false, Bool.false_eq_true, reduceIte, opAdd, int_succ, fLen, seqD, List.length_map, opLt, opB]
    congr 1
    exact decide_eq_decide.mpr (by omega)
  unfold mIf PI.bindM enC
  rw [c]
  by_cases hk2 : k + 1 < crew.length
  · rw [decide_eq_true hk2, if_pos hk2, getD_at hk2]
    simp only [rC, fin, sSeq, sNil, sPass, sIf, sRet, sRetN, sExpr, sAsg, bindS, PI.bindM, pureM, mVar, mOp, mTest, mNotT, mAndT, mOrT, mAndV, mOrV, mNotV, mIf, mNeg, mChain, mNil, mCons, mCall, mCallF, bindP, bindPs, Bool.not_true, Bool.not_false, List.getElem?_cons_zero, List.getElem?_cons_succ, List.set_cons_zero, List.set_cons_succ, List.length_cons, List.length_nil, Nat.zero_add, Nat.reduceAdd, if_true, if_false, Bool.false_eq_true, reduceIte, opAdd, int_succ, opIx, seqD, at_iD hk2]
  · have h0 : 0 < crew.length := by omega
    have i0 : L2.atI (crew.map iD) 0 = some (iD crew[0]) := at_iD h0
    rw [decide_eq_false hk2, if_neg hk2, getD_at h0]
    simp only [rC, fin, sSeq, sNil, sPass, sIf, sRet, sRetN, sExpr, sAsg, bindS, PI.bindM, pureM, mVar, mOp, mTest, mNotT, mAndT, mOrT, mAndV, mOrV, mNotV, mIf, mNeg, mChain, mNil, mCons, mCall, mCallF, bindP, bindPs, Bool.not_true, Bool.not_false, List.getElem?_cons_zero, List.getElem?_cons_succ, List.set_cons_zero, List.set_cons_succ, List.length_cons, List.length_nil, Nat.zero_add, Nat.reduceAdd, if_true, if_false, Bool.false_eq_true, reduceIte, opAdd, opIx, seqD, i0]
    rfl
theorem icb_b (F : CrewF ns need crew) (hl : ns.length ≤ 200) {k : Nat} (hk : k < crew.length) (x : Option D) (S : Sto) : mTest (mOp opGe (mCall fSum (mCons (mSl (mOp opAdd (mVar 0) (mVar 0)) (mSomeO (mOp opAdd (mOp opIx (mVar 2) (mVar 4)) (pureM (.int 1)))) (mSomeO (mVar 5))) mNil)) (mVar 1)) (rC ns need crew (some (iD k)) (some (iD (enC crew ns.length k))) x) S = .ok false S := by
  have nl : ns.length + ns.length ≤ sizeLine := small_le (by omega)
  obtain ⟨h1, h2⟩ := enC_le F hk
  have g := F.gap k hk
  have e1 : decide ((need : Int) ≤ ((W (vv ns) (crew[k] + 1) (enC crew ns.length k - (crew[k] + 1)) : Nat) : Int)) = false := decide_eq_false (by omega)
  simp only [rC, fin, sSeq, sNil, sPass, sIf, sRet, sRetN, sExpr, sAsg, bindS, PI.bindM, pureM, mVar, mOp, mTest, mNotT, mAndT, mOrT, mAndV, mOrV, mNotV, mIf, mNeg, mChain, mNil, mCons, mCall, mCallF, bindP, bindPs, Bool.not_true, Bool.not_false, List.getElem?_cons_zero, List.getElem?_cons_succ, List.set_cons_zero, List.set_cons_succ, List.length_cons, List.length_nil, Nat.zero_add, Nat.reduceAdd, if_true, if_false, Bool.false_eq_true, reduceIte, mSl, mSomeO, opAdd, List.length_map, nl, opIx, seqD, at_iD hk, int_succ, opSl, cut_sum h1 h2, opGe, opB, e1]
theorem icb (F : CrewF ns need crew) (hl : ns.length ≤ 200) {k : Nat} (hk : k < crew.length) (e x : Option D) (S : Sto) : bC (rC ns need crew (some (iD k)) e x) S = .nx (rC ns need crew (some (iD k)) (some (iD (enC crew ns.length k))) x) S := by
  unfold bC
  exact seq_to (asg_to (icb_a F hk e x S) rfl) (if_no (icb_b F hl hk x S) rfl)
theorem ic4 (F : CrewF ns need crew) (hl : ns.length ≤ 200) {its : List D} (S : Sto) (ds : List D) (hd : ∀ d ∈ ds, ∃ k, k < crew.length ∧ d = iD k) : ∃ k' e', forL ⟨its, []⟩ (.name 4) bC ds (rC ns need crew none none none) S = .nx (rC ns need crew k' e' none) S := by
  obtain ⟨ρ', S', h1, k', e', h2, h3⟩ := forL_inv (its := its) (p := .name 4) (b := bC) (fun ρ S2 => ∃ k e, ρ = rC ns need crew k e none ∧ S2 = S) ds (rC ns need crew none none none) S ⟨none, none, rfl, rfl⟩ (fun d hd2 ρ S2 ⟨k, e, h1, h2⟩ => by
    obtain ⟨j, hj, rfl⟩ := hd d hd2
    subst h1
    subst h2
    exact ⟨rC ns need crew (some (iD j)) e none, _, _, rfl, icb F hl hj e none S2, _, _, rfl, rfl⟩)
  subst h2
  subst h3
  exact ⟨k', e', h1⟩
theorem ic5 (F : CrewF ns need crew) (k e : Option D) (S : Sto) : (mOrV (mOp opNe (mVar 2) (mTup mNil)) (mOp opLt (mCall fSum (mCons (mVar 0) mNil)) (mVar 1))) (rC ns need crew k e none) S = .ok (.bl true) S := by
  have e0 : (0 : Nat) ≤ sizeLine := Nat.zero_le _
  have n1 : opNe (tN crew) (.tup []) S = .ok (.bl (!(crew.map fun n : Nat => (n : Int)).isEmpty)) S := by
    rw [show tN crew = .tup ((crew.map fun n : Nat => (n : Int)).map D.int) by rw [← nat_ints]]
    exact ne_nilT
  cases crew with
  | nil =>
    have hs : ns.sum < need := F.ne.resolve_left (fun h => h rfl)
    have e1 : decide ((ns.sum : Int) < (need : Int)) = true := decide_eq_true (by omega)
    have n2 : opNe (tN []) (.tup []) S = .ok (.bl false) S := n1
    simp only [rC, fin, sSeq, sNil, sPass, sIf, sRet, sRetN, sExpr, sAsg, bindS, PI.bindM, pureM, mVar, mOp, mTest, mNotT, mAndT, mOrT, mAndV, mOrV, mNotV, mIf, mNeg, mChain, mNil, mCons, mCall, mCallF, bindP, bindPs, Bool.not_true, Bool.not_false, List.getElem?_cons_zero, List.getElem?_cons_succ, List.set_cons_zero, List.set_cons_succ, List.length_cons, List.length_nil, Nat.zero_add, Nat.reduceAdd, if_true, if_false, Bool.false_eq_true, reduceIte, mTup, e0, n2, fsum_tN, opLt, opB, e1]
  | cons c cs =>
    have n2 : opNe (tN (c :: cs)) (.tup []) S = .ok (.bl true) S := n1
    simp only [rC, fin, sSeq, sNil, sPass, sIf, sRet, sRetN, sExpr, sAsg, bindS, PI.bindM, pureM, mVar, mOp, mTest, mNotT, mAndT, mOrT, mAndV, mOrV, mNotV, mIf, mNeg, mChain, mNil, mCons, mCall, mCallF, bindP, bindPs, Bool.not_true, Bool.not_false, List.getElem?_cons_zero, List.getElem?_cons_succ, List.set_cons_zero, List.set_cons_succ, List.length_cons, List.length_nil, Nat.zero_add, Nat.reduceAdd, if_true, if_false, Bool.false_eq_true, reduceIte, mTup, e0, n2]
theorem is_round_crew_ok (F : CrewF ns need crew) (hl : ns.length ≤ 200) (S : Sto) : ∃ T, f_law_is_round_crew [tN ns, iD need, tN crew] S = .ok (.bl true) (S ++ T) := by
  obtain ⟨T1, h1⟩ := ic1 F hl S
  obtain ⟨T2, h2⟩ := ic2 F hl (S ++ T1)
  obtain ⟨T3, h3⟩ := ic3 F (S ++ T1 ++ T2)
  have r1 : mRange1 (mCons (mCall fLen (mCons (mVar 2) mNil)) mNil) (rC ns need crew none none none) (S ++ T1 ++ T2 ++ T3) = .ok ⟨rangeD ((0 : Nat) : Int) crew.length, []⟩ (S ++ T1 ++ T2 ++ T3) := by
    refine range_to ?_ (crew_small F hl)
    simp only [rC, fin, sSeq, sNil, sPass, sIf, sRet, sRetN, sExpr, sAsg, bindS, PI.bindM, pureM, mVar, mOp, mTest, mNotT, mAndT, mOrT, mAndV, mOrV, mNotV, mIf, mNeg, mChain, mNil, mCons, mCall, mCallF, bindP, bindPs, Bool.not_true, Bool.not_false, List.getElem?_cons_zero, List.getElem?_cons_succ, List.set_cons_zero, List.set_cons_succ, List.length_cons, List.length_nil, Nat.zero_add, Nat.reduceAdd, if_true, if_false, Bool.false_eq_true, reduceIte, fLen, seqD, List.length_map]
  obtain ⟨k', e', h4⟩ := ic4 F hl (its := rangeD ((0 : Nat) : Int) crew.length) (S ++ T1 ++ T2 ++ T3) (rangeD ((0 : Nat) : Int) crew.length) (fun d hd => by
    obtain ⟨k, _, h2, h3⟩ := mem_rangeD hd
    exact ⟨k, by omega, h3⟩)
  have h5 := ic5 F k' e' (S ++ T1 ++ T2 ++ T3)
  refine ⟨T1 ++ (T2 ++ T3), ?_⟩
  have w : m_law_is_round_crew [some (tN ns), some (iD need), some (tN crew), none, none, none, none] S = .rt (.bl true) (S ++ T1 ++ T2 ++ T3) := by
    unfold m_law_is_round_crew
    exact seq_to (asg_to (d := iD ns.length) (S1 := S) (by simp only [fin, sSeq, sNil, sPass, sIf, sRet, sRetN, sExpr, sAsg, bindS, PI.bindM, pureM, mVar, mOp, mTest, mNotT, mAndT, mOrT, mAndV, mOrV, mNotV, mIf, mNeg, mChain, mNil, mCons, mCall, mCallF, bindP, bindPs, Bool.not_true, Bool.not_false, List.getElem?_cons_zero, List.getElem?_cons_succ, List.set_cons_zero, List.set_cons_succ, List.length_cons, List.length_nil, Nat.zero_add, Nat.reduceAdd, if_true, if_false, Bool.false_eq_true, reduceIte, fLen, seqD, List.length_map]) rfl) (seq_to (if_no h1 rfl) (seq_to (if_no h2 rfl) (seq_to (if_no h3 rfl) (seq_to (for_to r1 h4) (ret_to h5)))))
  rw [List.append_assoc, List.append_assoc] at w
  unfold f_law_is_round_crew
  exact run_to rfl w rfl
end
end LawT

end
section
set_option Elab.async false
set_option linter.all false
set_option maxRecDepth 100000
set_option maxHeartbeats 2000000
/-! K08M11: refusals, _law_asked -/
namespace LawT
open PySem PySem.Spec PyProof.Rows L2 PI LamX Crew
inductive AskV (S : Sto) : D → Prop where
  | tup {xs : List D} : xs.all flat = true → AskV S (.tup xs)
  | flat {d : D} : flat d = true → isTup d = false → AskV S d
  | list {n : Nat} {xs : List D} : S[n]? = some (.lst xs) → AskV S (.loc n)
/-- what is refused: the class, and what -/
def refO : D → D → Option (Nat × D)
  | .tup xs, n => if 3 ≤ xs.length ∧ xs.length ≤ 200 then (match bads 0 xs with
    | i :: _ => some (2, .int i)
    | [] => if least 1 n then none else some (4, n)) else some (2, .int (-1))
  | _, _ => some (2, .int (-1))
theorem refO_tup (xs : List D) (n : D) : refO (.tup xs) n = if 3 ≤ xs.length ∧ xs.length ≤ 200 then (match bads 0 xs with
    | i :: _ => some (2, .int i)
    | [] => if least 1 n then none else some (4, n)) else some (2, .int (-1)) := rfl
theorem refO_not {d n : D} (h : isTup d = false) : refO d n = some (2, .int (-1)) := by
  cases d with
  | tup _ => cases h
  | _ => rfl
theorem ring_crew_of {d n : D} {S S1 : Sto} {c : Nat} {w : D} (h : f_check_ring [d, n] S = .ex c w S1) : f_ring_crew [d, n] S = .ex c w S1 := by
  have w1 : m_ring_crew [some d, some n] S = .ex c w [some d, some n] S1 := by
    unfold m_ring_crew
    refine seq_ex ?_
    have t : mCallF 2 f_check_ring (mCons (mVar 0) (mCons (mVar 1) mNil)) [some d, some n] S = .ex c w S1 := by
      simp only [fin, sSeq, sNil, sPass, sIf, sRet, sRetN, sExpr, sAsg, bindS, PI.bindM, pureM, mVar, mOp, mTest, mNotT, mAndT, mOrT, mAndV, mOrV, mNotV, mIf, mNeg, mChain, mNil, mCons, mCall, mCallF, bindP, bindPs, Bool.not_true, Bool.not_false, List.getElem?_cons_zero, List.getElem?_cons_succ, List.set_cons_zero, List.set_cons_succ, List.length_cons, List.length_nil, Nat.zero_add, Nat.reduceAdd, if_true, if_false, Bool.false_eq_true, reduceIte]
      exact h
    unfold sExpr bindS
    rw [t]
  unfold f_ring_crew
  exact run_to rfl w1 rfl
theorem ring_crew_ref {S : Sto} {d n : D} (A : AskV S d) (hn : flat n = true) {c : Nat} {w : D} (h : refO d n = some (c, w)) : f_ring_crew [d, n] S = .ex c w S := by
  refine ring_crew_of ?_
  cases A with
  | flat h1 h2 =>
    rw [refO_not h2] at h
    cases h
    exact check_ring_not (.flat h1) h2
  | list h1 =>
    rw [refO_not rfl] at h
    cases h
    exact check_ring_not (.list h1) rfl
  | tup h1 =>
    rename_i xs
    rw [refO_tup] at h
    by_cases hl : 3 ≤ xs.length ∧ xs.length ≤ 200
    · rw [if_pos hl] at h
      have e := check_ring_tup (S := S) h1 hn hl.1 hl.2
      cases eb : bads 0 xs with
      | cons i l =>
        simp only [eb] at h e
        cases h
        exact e
      | nil =>
        simp only [eb] at h e
        cases el : least 1 n with
        | true => simp [el] at h
        | false =>
          simp only [el, Bool.false_eq_true, if_false] at h e
          cases h
          exact e
    · rw [if_neg hl] at h
      cases h
      exact check_ring_len (by omega)
theorem bads_nil : ∀ (k : Nat) (xs : List D), bads k xs = [] → ∃ ns : List Nat, xs = ns.map iD
  | _, [], _ => ⟨[], rfl⟩
  | k, d :: ds, h => by
    unfold bads at h
    by_cases hl : least 0 d = true
    · rw [if_pos hl] at h
      obtain ⟨ns, e⟩ := bads_nil (k + 1) ds h
      cases d with
      | int i =>
        have := of_decide_eq_true hl
        refine ⟨i.toNat :: ns, ?_⟩
        rw [List.map_cons, ← e]
        show D.int i :: ds = D.int (i.toNat : Int) :: ds
        rw [Int.toNat_of_nonneg this]
      | _ => cases hl
    · rw [if_neg hl] at h
      cases h
theorem refO_none {d n : D} (h : refO d n = none) : ∃ (ns : List Nat) (need : Nat), d = tN ns ∧ n = iD need ∧ 3 ≤ ns.length ∧ ns.length ≤ 200 ∧ 0 < need := by
  cases d with
  | tup xs =>
    rw [refO_tup] at h
    by_cases hl : 3 ≤ xs.length ∧ xs.length ≤ 200
    · rw [if_pos hl] at h
      cases eb : bads 0 xs with
      | cons i l => simp [eb] at h
      | nil =>
        obtain ⟨ns, rfl⟩ := bads_nil 0 xs eb
        simp only [eb] at h
        cases el : least 1 n with
        | false => simp [el] at h
        | true =>
          cases n with
          | int i =>
            have := of_decide_eq_true el
            refine ⟨ns, i.toNat, rfl, ?_, by simpa using hl.1, by simpa using hl.2, by omega⟩
            show D.int i = D.int (i.toNat : Int)
            rw [Int.toNat_of_nonneg (by omega)]
          | _ => cases el
    · rw [if_neg hl] at h
      cases h
  | _ => cases h
/-! ### _law_round_refusal -/
def tB (xs : List D) : D → Bool
  | .int i => !(least 0 (xs.getD i.toNat .non))
  | _ => false
theorem filt_bads {xs : List D} : ∀ (ys : List D) (k : Nat), (∀ j (h : j < ys.length), xs.getD (k + j) .non = ys[j]) → (rangeD (k : Int) ys.length).filter (tB xs) = (bads k ys).map iD
  | [], k, _ => rfl
  | y :: ys, k, h => by
    have ih := filt_bads ys (k + 1) (fun j hj => by
      have := h (j + 1) (by simpa using hj)
      rw [show k + 1 + j = k + (j + 1) by omega, this]
      rfl)
    have h0 : xs.getD k .non = y := h 0 (by simp)
    have e : tB xs (.int (k : Int)) = !(least 0 y) := by
      show (!(least 0 (xs.getD (k : Int).toNat .non))) = _
      rw [Int.toNat_natCast, h0]
    rw [List.length_cons, rangeD_succ, int_succ, bads]
    by_cases hl : least 0 y = true
    · rw [if_pos hl, List.filter_cons_of_neg (by rw [e, hl]; simp), ih]
    · rw [if_neg hl, List.filter_cons_of_pos (by rw [e]; simpa using hl), ih]
      rfl
theorem two_le : (2 : Nat) ≤ sizeLine := by decide
theorem neg1_to {ρ : Rho} {S : Sto} : mTup (mCons (pureM (.str "BadVotes")) (mCons (mNeg (pureM (.int 1))) mNil)) ρ S = .ok (.tup [.str "BadVotes", .int (-1)]) S := by
  simp only [mTup, fin, sSeq, sNil, sPass, sIf, sRet, sRetN, sExpr, sAsg, bindS, PI.bindM, pureM, mVar, mOp, mTest, mNotT, mAndT, mOrT, mAndV, mOrV, mNotV, mIf, mNeg, mChain, mNil, mCons, mCall, mCallF, bindP, bindPs, Bool.not_true, Bool.not_false, List.getElem?_cons_zero, List.getElem?_cons_succ, List.set_cons_zero, List.set_cons_succ, List.length_cons, List.length_nil, Nat.zero_add, Nat.reduceAdd, if_true, if_false, Bool.false_eq_true, reduceIte, two_le]
theorem rr_not {S : Sto} {d n : D} (A : AskV S d) (ht : isTup d = false) : f_law_round_refusal [d, n] S = .ok (.tup [.str "BadVotes", .int (-1)]) S := by
  have c : (mOrT (mNotT (mTest (mIsTy "tuple" (mVar 0)))) (mOrT (mTest (mOp opLt (mCall fLen (mCons (mVar 0) mNil)) (pureM (.int 3)))) (mTest (mOp opGt (mCall fLen (mCons (mVar 0) mNil)) (pureM (.int 200)))))) [some d, some n, none, none] S = .ok true S := by
    cases A with
    | tup _ => cases ht
    | flat h1 h2 =>
      cases d with
      | tup _ => cases ht
      | loc _ => cases h1
      | fn _ => cases h1
      | _ => simp only [fin, sSeq, sNil, sPass, sIf, sRet, sRetN, sExpr, sAsg, bindS, PI.bindM, pureM, mVar, mOp, mTest, mNotT, mAndT, mOrT, mAndV, mOrV, mNotV, mIf, mNeg, mChain, mNil, mCons, mCall, mCallF, bindP, bindPs, Bool.not_true, Bool.not_false, List.getElem?_cons_zero, List.getElem?_cons_succ, List.set_cons_zero, List.set_cons_succ, List.length_cons, List.length_nil, Nat.zero_add, Nat.reduceAdd, if_true, if_false, Bool.false_eq_true, reduceIte, mIsTy, tyD, Option.bind_some, kt_NoneType_int, kt_NoneType_bool, kt_NoneType_str, kt_NoneType_tuple, kt_NoneType_list, kt_bool_int, kt_bool_bool, kt_bool_str, kt_bool_tuple, kt_bool_list, kt_int_int, kt_int_bool, kt_int_str, kt_int_tuple, kt_int_list, kt_str_int, kt_str_bool, kt_str_str, kt_str_tuple, kt_str_list, kt_tuple_int, kt_tuple_bool, kt_tuple_str, kt_tuple_tuple, kt_tuple_list, kt_list_int, kt_list_bool, kt_list_str, kt_list_tuple, kt_list_list, kt_dict_int, kt_dict_bool, kt_dict_str, kt_dict_tuple, kt_dict_list]
    | list h1 => simp only [fin, sSeq, sNil, sPass, sIf, sRet, sRetN, sExpr, sAsg, bindS, PI.bindM, pureM, mVar, mOp, mTest, mNotT, mAndT, mOrT, mAndV, mOrV, mNotV, mIf, mNeg, mChain, mNil, mCons, mCall, mCallF, bindP, bindPs, Bool.not_true, Bool.not_false, List.getElem?_cons_zero, List.getElem?_cons_succ, List.set_cons_zero, List.set_cons_succ, List.length_cons, List.length_nil, Nat.zero_add, Nat.reduceAdd, if_true, if_false, Bool.false_eq_true, reduceIte, mIsTy, tyD, Option.bind_some, kt_NoneType_int, kt_NoneType_bool, kt_NoneType_str, kt_NoneType_tuple, kt_NoneType_list, kt_bool_int, kt_bool_bool, kt_bool_str, kt_bool_tuple, kt_bool_list, kt_int_int, kt_int_bool, kt_int_str, kt_int_tuple, kt_int_list, kt_str_int, kt_str_bool, kt_str_str, kt_str_tuple, kt_str_list, kt_tuple_int, kt_tuple_bool, kt_tuple_str, kt_tuple_tuple, kt_tuple_list, kt_list_int, kt_list_bool, kt_list_str, kt_list_tuple, kt_list_list, kt_dict_int, kt_dict_bool, kt_dict_str, kt_dict_tuple, kt_dict_list, h1]
  have w : m_law_round_refusal [some d, some n, none, none] S = .rt (.tup [.str "BadVotes", .int (-1)]) S := by
    unfold m_law_round_refusal
    exact seq_rt (if_yes c (ret_to neg1_to))
  unfold f_law_round_refusal
  exact run_to rfl w rfl
theorem rr_len {S : Sto} {xs : List D} {n : D} {b : Bool} (hb : b = !(decide (3 ≤ xs.length) && decide (xs.length ≤ 200))) : (mOrT (mNotT (mTest (mIsTy "tuple" (mVar 0)))) (mOrT (mTest (mOp opLt (mCall fLen (mCons (mVar 0) mNil)) (pureM (.int 3)))) (mTest (mOp opGt (mCall fLen (mCons (mVar 0) mNil)) (pureM (.int 200)))))) [some (.tup xs), some n, none, none] S = .ok b S := by
  subst hb
  have c1 : decide ((xs.length : Int) < 3) = !decide (3 ≤ xs.length) := by
    rw [← decide_not]
    exact decide_eq_decide.mpr (by omega)
  have c2 : decide ((200 : Int) < (xs.length : Int)) = !decide (xs.length ≤ 200) := by
    rw [← decide_not]
    exact decide_eq_decide.mpr (by omega)
  by_cases h1 : 3 ≤ xs.length
  · simp only [fin, sSeq, sNil, sPass, sIf, sRet, sRetN, sExpr, sAsg, bindS, PI.bindM, pureM, mVar, mOp, mTest, mNotT, mAndT, mOrT, mAndV, mOrV, mNotV, mIf, mNeg, mChain, mNil, mCons, mCall, mCallF, bindP, bindPs, Bool.not_true, Bool.not_false, List.getElem?_cons_zero, List.getElem?_cons_succ, List.set_cons_zero, List.set_cons_succ, List.length_cons, List.length_nil, Nat.zero_add, Nat.reduceAdd, if_true, if_false, Bool.false_eq_true, reduceIte, mIsTy, tyD, Option.bind_some, kt_NoneType_int, kt_NoneType_bool, kt_NoneType_str, kt_NoneType_tuple, kt_NoneType_list, kt_bool_int, kt_bool_bool, kt_bool_str, kt_bool_tuple, kt_bool_list, kt_int_int, kt_int_bool, kt_int_str, kt_int_tuple, kt_int_list, kt_str_int, kt_str_bool, kt_str_str, kt_str_tuple, kt_str_list, kt_tuple_int, kt_tuple_bool, kt_tuple_str, kt_tuple_tuple, kt_tuple_list, kt_list_int, kt_list_bool, kt_list_str, kt_list_tuple, kt_list_list, kt_dict_int, kt_dict_bool, kt_dict_str, kt_dict_tuple, kt_dict_list, fLen, seqD, opLt, opGt, opB, c1, c2, decide_eq_true h1, Bool.true_and]
  · simp only [fin, sSeq, sNil, sPass, sIf, sRet, sRetN, sExpr, sAsg, bindS, PI.bindM, pureM, mVar, mOp, mTest, mNotT, mAndT, mOrT, mAndV, mOrV, mNotV, mIf, mNeg, mChain, mNil, mCons, mCall, mCallF, bindP, bindPs, Bool.not_true, Bool.not_false, List.getElem?_cons_zero, List.getElem?_cons_succ, List.set_cons_zero, List.set_cons_succ, List.length_cons, List.length_nil, Nat.zero_add, Nat.reduceAdd, if_true, if_false, Bool.false_eq_true, reduceIte, mIsTy, tyD, Option.bind_some, kt_NoneType_int, kt_NoneType_bool, kt_NoneType_str, kt_NoneType_tuple, kt_NoneType_list, kt_bool_int, kt_bool_bool, kt_bool_str, kt_bool_tuple, kt_bool_list, kt_int_int, kt_int_bool, kt_int_str, kt_int_tuple, kt_int_list, kt_str_int, kt_str_bool, kt_str_str, kt_str_tuple, kt_str_list, kt_tuple_int, kt_tuple_bool, kt_tuple_str, kt_tuple_tuple, kt_tuple_list, kt_list_int, kt_list_bool, kt_list_str, kt_list_tuple, kt_list_list, kt_dict_int, kt_dict_bool, kt_dict_str, kt_dict_tuple, kt_dict_list, fLen, seqD, opLt, opGt, opB, c1, c2, decide_eq_false h1, Bool.false_and]
theorem rr_lc {S : Sto} {xs : List D} {n : D} (hf : xs.all flat = true) (h2 : xs.length ≤ 200) : mLc (.name 3) [3] (mRange1 (mCons (mCall fLen (mCons (mVar 0) mNil)) mNil)) (mOrT (mNotT (mTest (mCallF 1 f_law_is_whole (mCons (mOp opIx (mVar 0) (mVar 3)) mNil)))) (mTest (mOp opLt (mOp opIx (mVar 0) (mVar 3)) (pureM (.int 0))))) (mVar 3) [some (.tup xs), some n, none, none] S =
    .ok (.loc S.length) (S ++ [.lst ((bads 0 xs).map iD)]) := by
  have hs : xs.length ≤ sizeLine := small_le (Nat.le_trans h2 (by decide))
  have a0 : mRange1 (mCons (mCall fLen (mCons (mVar 0) mNil)) mNil) [some (.tup xs), some n, none, none] S = .ok ⟨rangeD ((0 : Nat) : Int) xs.length, []⟩ S := by
    refine range_to ?_ hs
    simp only [fin, sSeq, sNil, sPass, sIf, sRet, sRetN, sExpr, sAsg, bindS, PI.bindM, pureM, mVar, mOp, mTest, mNotT, mAndT, mOrT, mAndV, mOrV, mNotV, mIf, mNeg, mChain, mNil, mCons, mCall, mCallF, bindP, bindPs, Bool.not_true, Bool.not_false, List.getElem?_cons_zero, List.getElem?_cons_succ, List.set_cons_zero, List.set_cons_succ, List.length_cons, List.length_nil, Nat.zero_add, Nat.reduceAdd, if_true, if_false, Bool.false_eq_true, reduceIte, fLen, seqD]
  have a1 := lc_to (p := .name 3) (own := [3]) (mt := mOrT (mNotT (mTest (mCallF 1 f_law_is_whole (mCons (mOp opIx (mVar 0) (mVar 3)) mNil)))) (mTest (mOp opLt (mOp opIx (mVar 0) (mVar 3)) (pureM (.int 0))))) (me := mVar 3) (tB xs) (fun d => d) a0 (by rw [rangeD_len']; exact hs) (fun d hd => by
    obtain ⟨k, _, hk, rfl⟩ := mem_rangeD hd
    have hk' : k < xs.length := by omega
    refine ⟨[some (.tup xs), some n, none, some (iD k)], rfl, fun l => ⟨?_, fun _ => by simp only [fin, sSeq, sNil, sPass, sIf, sRet, sRetN, sExpr, sAsg, bindS, PI.bindM, pureM, mVar, mOp, mTest, mNotT, mAndT, mOrT, mAndV, mOrV, mNotV, mIf, mNeg, mChain, mNil, mCons, mCall, mCallF, bindP, bindPs, Bool.not_true, Bool.not_false, List.getElem?_cons_zero, List.getElem?_cons_succ, List.set_cons_zero, List.set_cons_succ, List.length_cons, List.length_nil, Nat.zero_add, Nat.reduceAdd, if_true, if_false, Bool.false_eq_true, reduceIte]⟩⟩
    have fx : flat xs[k] = true := List.all_eq_true.mp hf _ (List.getElem_mem hk')
    have e : tB xs (iD k) = !(least 0 xs[k]) := by
      show (!(least 0 (xs.getD (k : Int).toNat .non))) = _
      rw [Int.toNat_natCast, List.getD_eq_getElem?_getD, List.getElem?_eq_getElem hk']
      rfl
    rw [e]
    simp only [fin, sSeq, sNil, sPass, sIf, sRet, sRetN, sExpr, sAsg, bindS, PI.bindM, pureM, mVar, mOp, mTest, mNotT, mAndT, mOrT, mAndV, mOrV, mNotV, mIf, mNeg, mChain, mNil, mCons, mCall, mCallF, bindP, bindPs, Bool.not_true, Bool.not_false, List.getElem?_cons_zero, List.getElem?_cons_succ, List.set_cons_zero, List.set_cons_succ, List.length_cons, List.length_nil, Nat.zero_add, Nat.reduceAdd, if_true, if_false, Bool.false_eq_true, reduceIte, opIx, seqD, at_nat hk', law_is_whole_ok fx]
    cases hx : xs[k] with
    | int i =>
      have c : decide (i < 0) = !decide (0 ≤ i) := by
        rw [← decide_not]
        exact decide_eq_decide.mpr (by omega)
      simp only [isI, least, opLt, opB, c, at_nat hk', hx, fin, sSeq, sNil, sPass, sIf, sRet, sRetN, sExpr, sAsg, bindS, PI.bindM, pureM, mVar, mOp, mTest, mNotT, mAndT, mOrT, mAndV, mOrV, mNotV, mIf, mNeg, mChain, mNil, mCons, mCall, mCallF, bindP, bindPs, Bool.not_true, Bool.not_false, List.getElem?_cons_zero, List.getElem?_cons_succ, List.set_cons_zero, List.set_cons_succ, List.length_cons, List.length_nil, Nat.zero_add, Nat.reduceAdd, if_true, if_false, Bool.false_eq_true, reduceIte]
    | _ => simp only [isI, least, fin, sSeq, sNil, sPass, sIf, sRet, sRetN, sExpr, sAsg, bindS, PI.bindM, pureM, mVar, mOp, mTest, mNotT, mAndT, mOrT, mAndV, mOrV, mNotV, mIf, mNeg, mChain, mNil, mCons, mCall, mCallF, bindP, bindPs, Bool.not_true, Bool.not_false, List.getElem?_cons_zero, List.getElem?_cons_succ, List.set_cons_zero, List.set_cons_succ, List.length_cons, List.length_nil, Nat.zero_add, Nat.reduceAdd, if_true, if_false, Bool.false_eq_true, reduceIte])
  have e := filt_bads (xs := xs) xs 0 (fun j hj => by
    rw [Nat.zero_add, List.getD_eq_getElem?_getD, List.getElem?_eq_getElem hj]
    rfl)
  rw [e, List.map_id'] at a1
  exact a1
theorem rr_need {S : Sto} {d n w : D} {x : Option D} (hn : flat n = true) : (mIf (mAndT (mTest (mCallF 1 f_law_is_whole (mCons (mVar 1) mNil))) (mTest (mOp opGt (mVar 1) (pureM (.int 0))))) (pureM .non) (mTup (mCons (pureM (.str "BadNeed")) (mCons (mVar 1) mNil)))) [some d, some n, some w, x] S = .ok (if least 1 n then .non else .tup [.str "BadNeed", n]) S := by
  have c : mAndT (mTest (mCallF 1 f_law_is_whole (mCons (mVar 1) mNil))) (mTest (mOp opGt (mVar 1) (pureM (.int 0)))) [some d, some n, some w, x] S = .ok (least 1 n) S := by
    simp only [fin, sSeq, sNil, sPass, sIf, sRet, sRetN, sExpr, sAsg, bindS, PI.bindM, pureM, mVar, mOp, mTest, mNotT, mAndT, mOrT, mAndV, mOrV, mNotV, mIf, mNeg, mChain, mNil, mCons, mCall, mCallF, bindP, bindPs, Bool.not_true, Bool.not_false, List.getElem?_cons_zero, List.getElem?_cons_succ, List.set_cons_zero, List.set_cons_succ, List.length_cons, List.length_nil, Nat.zero_add, Nat.reduceAdd, if_true, if_false, Bool.false_eq_true, reduceIte, law_is_whole_ok hn]
    cases n with
    | int i =>
      have e : decide (0 < i) = decide (1 ≤ i) := decide_eq_decide.mpr (by omega)
      simp only [isI, least, opGt, opB, e, fin, sSeq, sNil, sPass, sIf, sRet, sRetN, sExpr, sAsg, bindS, PI.bindM, pureM, mVar, mOp, mTest, mNotT, mAndT, mOrT, mAndV, mOrV, mNotV, mIf, mNeg, mChain, mNil, mCons, mCall, mCallF, bindP, bindPs, Bool.not_true, Bool.not_false, List.getElem?_cons_zero, List.getElem?_cons_succ, List.set_cons_zero, List.set_cons_succ, List.length_cons, List.length_nil, Nat.zero_add, Nat.reduceAdd, if_true, if_false, Bool.false_eq_true, reduceIte]
    | _ => simp only [isI, least, fin, sSeq, sNil, sPass, sIf, sRet, sRetN, sExpr, sAsg, bindS, PI.bindM, pureM, mVar, mOp, mTest, mNotT, mAndT, mOrT, mAndV, mOrV, mNotV, mIf, mNeg, mChain, mNil, mCons, mCall, mCallF, bindP, bindPs, Bool.not_true, Bool.not_false, List.getElem?_cons_zero, List.getElem?_cons_succ, List.set_cons_zero, List.set_cons_succ, List.length_cons, List.length_nil, Nat.zero_add, Nat.reduceAdd, if_true, if_false, Bool.false_eq_true, reduceIte]
  unfold mIf PI.bindM
  rw [c]
  cases least 1 n with
  | true => simp only [fin, sSeq, sNil, sPass, sIf, sRet, sRetN, sExpr, sAsg, bindS, PI.bindM, pureM, mVar, mOp, mTest, mNotT, mAndT, mOrT, mAndV, mOrV, mNotV, mIf, mNeg, mChain, mNil, mCons, mCall, mCallF, bindP, bindPs, Bool.not_true, Bool.not_false, List.getElem?_cons_zero, List.getElem?_cons_succ, List.set_cons_zero, List.set_cons_succ, List.length_cons, List.length_nil, Nat.zero_add, Nat.reduceAdd, if_true, if_false, Bool.false_eq_true, reduceIte]
  | false => simp only [mTup, fin, sSeq, sNil, sPass, sIf, sRet, sRetN, sExpr, sAsg, bindS, PI.bindM, pureM, mVar, mOp, mTest, mNotT, mAndT, mOrT, mAndV, mOrV, mNotV, mIf, mNeg, mChain, mNil, mCons, mCall, mCallF, bindP, bindPs, Bool.not_true, Bool.not_false, List.getElem?_cons_zero, List.getElem?_cons_succ, List.set_cons_zero, List.set_cons_succ, List.length_cons, List.length_nil, Nat.zero_add, Nat.reduceAdd, if_true, if_false, Bool.false_eq_true, reduceIte, two_le]
def refD : Option (Nat × D) → D
  | none => .non
  | some (c, w) => .tup [.str (clN.getD c ""), w]
theorem clN2 : clN.getD 2 "" = "BadVotes" := by decide +kernel
theorem clN4 : clN.getD 4 "" = "BadNeed" := by decide +kernel
theorem refusal_ok {S : Sto} {d n : D} (A : AskV S d) (hn : flat n = true) : ∃ T, f_law_round_refusal [d, n] S = .ok (refD (refO d n)) (S ++ T) := by
  by_cases ht : isTup d = true
  · cases d with
    | tup xs =>
      have hf : xs.all flat = true := by
        cases A with
        | tup h => exact h
        | flat _ h => cases h
      by_cases hl : 3 ≤ xs.length ∧ xs.length ≤ 200
      · have c := rr_len (S := S) (xs := xs) (n := n) (b := false) (by rw [decide_eq_true hl.1, decide_eq_true hl.2]; rfl)
        have g := rr_lc (S := S) (n := n) hf hl.2
        have g2 := ne_lc (m := mVar 2) (ρ := [some (.tup xs), some n, some (.loc S.length), none]) (S := S ++ [.lst ((bads 0 xs).map iD)]) (S1 := S ++ [.lst ((bads 0 xs).map iD)]) (n := S.length) (is := (bads 0 xs).map fun n : Nat => (n : Int)) (by simp only [fin, sSeq, sNil, sPass, sIf, sRet, sRetN, sExpr, sAsg, bindS, PI.bindM, pureM, mVar, mOp, mTest, mNotT, mAndT, mOrT, mAndV, mOrV, mNotV, mIf, mNeg, mChain, mNil, mCons, mCall, mCallF, bindP, bindPs, Bool.not_true, Bool.not_false, List.getElem?_cons_zero, List.getElem?_cons_succ, List.set_cons_zero, List.set_cons_succ, List.length_cons, List.length_nil, Nat.zero_add, Nat.reduceAdd, if_true, if_false, Bool.false_eq_true, reduceIte]) (by rw [← nat_ints]; simp)
        refine ⟨[.lst ((bads 0 xs).map iD)] ++ [.lst []], ?_⟩
        have e : refO (.tup xs) n = (match bads 0 xs with
          | i :: _ => some (2, .int i)
          | [] => if least 1 n then none else some (4, n)) := by
          rw [refO_tup, if_pos hl]
        have w : m_law_round_refusal [some (.tup xs), some n, none, none] S = .rt (refD (refO (.tup xs) n)) (S ++ ([.lst ((bads 0 xs).map iD)] ++ [.lst []])) := by
          rw [← List.append_assoc, e]
          unfold m_law_round_refusal
          refine seq_to (if_no c rfl) (seq_to (asg_to g rfl) ?_)
          cases eb : bads 0 xs with
          | nil =>
            rw [eb] at g2
            refine seq_to (if_no g2 rfl) (ret_to ?_)
            refine (rr_need hn).trans ?_
            cases least 1 n with
            | true => rfl
            | false => simp only [refD, clN4, Bool.false_eq_true, if_false]
          | cons i l =>
            rw [eb] at g2
            refine seq_rt (if_yes g2 (ret_to ?_))
            have h1 : (S ++ [O.lst ((i :: l).map iD)] ++ [O.lst []])[S.length]? = some (.lst ((i :: l).map iD)) := by simp
            have h2 : L2.atI ((i :: l).map iD) 0 = some (iD i) := at_iD (k := 0) (by simp)
            simp only [mTup, fin, sSeq, sNil, sPass, sIf, sRet, sRetN, sExpr, sAsg, bindS, PI.bindM, pureM, mVar, mOp, mTest, mNotT, mAndT, mOrT, mAndV, mOrV, mNotV, mIf, mNeg, mChain, mNil, mCons, mCall, mCallF, bindP, bindPs, Bool.not_true, Bool.not_false, List.getElem?_cons_zero, List.getElem?_cons_succ, List.set_cons_zero, List.set_cons_succ, List.length_cons, List.length_nil, Nat.zero_add, Nat.reduceAdd, if_true, if_false, Bool.false_eq_true, reduceIte, opIx, seqD, h1, h2, two_le, refD, clN2]
        unfold f_law_round_refusal
        exact run_to rfl w rfl
      · have c := rr_len (S := S) (xs := xs) (n := n) (b := true) (by
          by_cases h3 : 3 ≤ xs.length
          · rw [decide_eq_false (show ¬ xs.length ≤ 200 from fun h => hl ⟨h3, h⟩), Bool.and_false]
            rfl
          · rw [decide_eq_false h3, Bool.false_and]
            rfl)
        refine ⟨[], ?_⟩
        have e : refO (.tup xs) n = some (2, .int (-1)) := by rw [refO_tup, if_neg hl]
        have w : m_law_round_refusal [some (.tup xs), some n, none, none] S = .rt (.tup [.str "BadVotes", .int (-1)]) S := by
          unfold m_law_round_refusal
          exact seq_rt (if_yes c (ret_to neg1_to))
        rw [e, List.append_nil]
        simp only [refD, clN2]
        unfold f_law_round_refusal
        exact run_to rfl w rfl
    | _ => cases ht
  · have hf : isTup d = false := by simpa using ht
    refine ⟨[], ?_⟩
    rw [refO_not hf, List.append_nil]
    simp only [refD, clN2]
    exact rr_not A hf
/-! ### _law_heard, _law_tells, _law_meets -/
theorem ne_str {a b : Str} (h : SeqAt.shaped (PyData.str a) = true) (h2 : SeqAt.shaped (PyData.str b) = true) (S : Sto) : opNe (.str a) (.str b) S = .ok (.bl (!(a == b))) S := by
  simp only [opNe, opB, eqD, toPD, h, h2, Bool.and_self, if_true, Option.map_some, PyData.eqv]
theorem heard_ok {lam : Sto → ER D} {S S1 : Sto} {v : D} (h : lam S = .ok v S1) : F_law_heard lam [] S = .ok (.tup [.str "told", v]) S1 := by
  unfold F_law_heard
  simp only [h]
theorem heard_ex {lam : Sto → ER D} {S S1 : Sto} {c : Nat} {w : D} (h : lam S = .ex c w S1) (hk : knownL c = true) : F_law_heard lam [] S = .ok (.tup [.str (clN.getD c ""), w]) (S1 ++ [.lst ((rowsOf c).map rowD), .lst [.str (clN.getD c "")]]) := by
  unfold F_law_heard
  simp only [h, hk, if_true]
theorem sh_told : SeqAt.shaped (PyData.str ("told" : Str)) = true := by decide +kernel
theorem good_two {s : Str} {v : D} (hs : SeqAt.shaped (PyData.str s) = true) (hv : good 7 v = true) : good 8 (.tup [.str s, v]) = true := by
  show (decide ([D.str s, v].length ≤ sizeLine) && [D.str s, v].all (good 7)) = true
  have e : decide ([D.str s, v].length ≤ sizeLine) = true := decide_eq_true two_le
  have e2 : good 7 (.str s) = true := hs
  rw [e, List.all_cons, List.all_cons, List.all_nil, e2, hv]
  rfl
theorem tells_ok {lam : Sto → ER D} {S S1 : Sto} {v : D} (h : lam S = .ok v S1) (hv : good 7 v = true) : F_law_tells lam [v] S = .ok (.bl true) S1 := by
  have w : m_law_tells 0 lam [some (.fn 0), some v] S = .rt (.bl true) S1 := by
    unfold m_law_tells
    refine ret_to ?_
    simp only [fin, sSeq, sNil, sPass, sIf, sRet, sRetN, sExpr, sAsg, bindS, PI.bindM, pureM, mVar, mOp, mTest, mNotT, mAndT, mOrT, mAndV, mOrV, mNotV, mIf, mNeg, mChain, mNil, mCons, mCall, mCallF, bindP, bindPs, Bool.not_true, Bool.not_false, List.getElem?_cons_zero, List.getElem?_cons_succ, List.set_cons_zero, List.set_cons_succ, List.length_cons, List.length_nil, Nat.zero_add, Nat.reduceAdd, if_true, if_false, Bool.false_eq_true, reduceIte, mCallLive, mTup, heard_ok h, two_le, law_same_ok (good_two sh_told hv)]
  unfold F_law_tells
  exact run_to rfl w rfl
theorem meets_ok {lam : Sto → ER D} {S S1 : Sto} {c : Nat} {v : D} (h : lam S = .ex c v S1) (hk : knownL c = true) (hs : SeqAt.shaped (PyData.str (clN.getD c "")) = true) (hne : ((clN.getD c "") == ("told" : Str)) = false) (hv : good 7 v = true) :
    F_law_meets lam [.tup [.str (clN.getD c ""), v]] S = .ok (.bl true) (S1 ++ [.lst ((rowsOf c).map rowD), .lst [.str (clN.getD c "")]]) := by
  have i0 : L2.atI [D.str (clN.getD c ""), v] 0 = some (.str (clN.getD c "")) := at_nat (k := 0) (by simp)
  have w : m_law_meets 0 lam [some (.fn 0), some (.tup [.str (clN.getD c ""), v])] S = .rt (.bl true) (S1 ++ [.lst ((rowsOf c).map rowD), .lst [.str (clN.getD c "")]]) := by
    unfold m_law_meets
    refine ret_to ?_
    simp only [fin, sSeq, sNil, sPass, sIf, sRet, sRetN, sExpr, sAsg, bindS, PI.bindM, pureM, mVar, mOp, mTest, mNotT, mAndT, mOrT, mAndV, mOrV, mNotV, mIf, mNeg, mChain, mNil, mCons, mCall, mCallF, bindP, bindPs, Bool.not_true, Bool.not_false, List.getElem?_cons_zero, List.getElem?_cons_succ, List.set_cons_zero, List.set_cons_succ, List.length_cons, List.length_nil, Nat.zero_add, Nat.reduceAdd, if_true, if_false, Bool.false_eq_true, reduceIte, opIx, seqD, i0, ne_str hs sh_told, hne, mCallLive, heard_ex h hk, law_same_ok (good_two hs hv)]
  unfold F_law_meets
  exact run_to rfl w rfl
/-! ### _law_asked -/
theorem AskV.app {S : Sto} {d : D} (A : AskV S d) (T : Sto) : AskV (S ++ T) d := by
  cases A with
  | tup h => exact .tup h
  | flat h1 h2 => exact .flat h1 h2
  | list h => exact .list (by rw [List.getElem?_append_left (List.getElem?_eq_some_iff.mp h).1]; exact h)
theorem refO_cls {d n : D} {c : Nat} {w : D} (hn : good 7 n = true) (h : refO d n = some (c, w)) : (c = 2 ∨ c = 4) ∧ good 7 w = true := by
  cases d with
  | tup xs =>
    rw [refO_tup] at h
    by_cases hl : 3 ≤ xs.length ∧ xs.length ≤ 200
    · rw [if_pos hl] at h
      cases eb : bads 0 xs with
      | cons i l =>
        simp only [eb] at h
        cases h
        exact ⟨.inl rfl, rfl⟩
      | nil =>
        simp only [eb] at h
        cases el : least 1 n with
        | true => simp [el] at h
        | false =>
          simp only [el, Bool.false_eq_true, if_false] at h
          cases h
          exact ⟨.inr rfl, hn⟩
    · rw [if_neg hl] at h
      cases h
      exact ⟨.inl rfl, rfl⟩
  | _ =>
    cases h
    exact ⟨.inl rfl, rfl⟩
theorem cls_ok {c : Nat} (h : c = 2 ∨ c = 4) : knownL c = true ∧ SeqAt.shaped (PyData.str (clN.getD c "")) = true ∧ ((clN.getD c "") == ("told" : Str)) = false := by
  rcases h with rfl | rfl
  · exact ⟨by decide +kernel, by decide +kernel, by decide +kernel⟩
  · exact ⟨by decide +kernel, by decide +kernel, by decide +kernel⟩
theorem good_tN {l : List Nat} (h : l.length ≤ sizeLine) : good 7 (tN l) = true := by
  show (decide ((l.map iD).length ≤ sizeLine) && (l.map iD).all (good 6)) = true
  rw [decide_eq_true (by simpa using h)]
  simp only [Bool.true_and, List.all_map]
  exact List.all_eq_true.mpr fun _ _ => rfl
theorem asked_ok {S : Sto} {d n : D} (A : AskV S d) (hn : flat n = true) (hg : good 7 n = true) : ∃ T, f_law_asked [d, n] S = .ok (.bl true) (S ++ T) := by
  obtain ⟨T1, h1⟩ := refusal_ok A hn
  have c1 : mCallF 2 f_law_round_refusal (mCons (mVar 0) (mCons (mVar 1) mNil)) [some d, some n, none, none] S = .ok (refD (refO d n)) (S ++ T1) := by
    simp only [fin, sSeq, sNil, sPass, sIf, sRet, sRetN, sExpr, sAsg, bindS, PI.bindM, pureM, mVar, mOp, mTest, mNotT, mAndT, mOrT, mAndV, mOrV, mNotV, mIf, mNeg, mChain, mNil, mCons, mCall, mCallF, bindP, bindPs, Bool.not_true, Bool.not_false, List.getElem?_cons_zero, List.getElem?_cons_succ, List.set_cons_zero, List.set_cons_succ, List.length_cons, List.length_nil, Nat.zero_add, Nat.reduceAdd, if_true, if_false, Bool.false_eq_true, reduceIte]
    exact h1
  cases e : refO d n with
  | some cw =>
    obtain ⟨c, w⟩ := cw
    rw [e] at c1
    obtain ⟨hc, hw⟩ := refO_cls hg e
    obtain ⟨k1, k2, k3⟩ := cls_ok hc
    have hl : (fun S' => mCallF 2 f_ring_crew (mCons (mVar 0) (mCons (mVar 1) mNil)) [some d, some n, some (refD (some (c, w))), none] S') (S ++ T1) = .ex c w (S ++ T1) := by
      simp only [fin, sSeq, sNil, sPass, sIf, sRet, sRetN, sExpr, sAsg, bindS, PI.bindM, pureM, mVar, mOp, mTest, mNotT, mAndT, mOrT, mAndV, mOrV, mNotV, mIf, mNeg, mChain, mNil, mCons, mCall, mCallF, bindP, bindPs, Bool.not_true, Bool.not_false, List.getElem?_cons_zero, List.getElem?_cons_succ, List.set_cons_zero, List.set_cons_succ, List.length_cons, List.length_nil, Nat.zero_add, Nat.reduceAdd, if_true, if_false, Bool.false_eq_true, reduceIte]
      exact ring_crew_ref (A.app T1) hn e
    have m := meets_ok hl k1 k2 k3 hw
    refine ⟨T1 ++ [.lst ((rowsOf c).map rowD), .lst [.str (clN.getD c "")]], ?_⟩
    have w1 : m_law_asked [some d, some n, none, none] S = .rt (.bl true) (S ++ (T1 ++ [.lst ((rowsOf c).map rowD), .lst [.str (clN.getD c "")]])) := by
      rw [← List.append_assoc]
      unfold m_law_asked
      refine seq_to (asg_to c1 rfl) (seq_rt (if_yes (S1 := S ++ T1) ?_ (ret_to ?_)))
      · simp only [fin, sSeq, sNil, sPass, sIf, sRet, sRetN, sExpr, sAsg, bindS, PI.bindM, pureM, mVar, mOp, mTest, mNotT, mAndT, mOrT, mAndV, mOrV, mNotV, mIf, mNeg, mChain, mNil, mCons, mCall, mCallF, bindP, bindPs, Bool.not_true, Bool.not_false, List.getElem?_cons_zero, List.getElem?_cons_succ, List.set_cons_zero, List.set_cons_succ, List.length_cons, List.length_nil, Nat.zero_add, Nat.reduceAdd, if_true, if_false, Bool.false_eq_true, reduceIte, refD, opIsNot, opB, PI.isNon]
      · simp only [mCallLam, fin, sSeq, sNil, sPass, sIf, sRet, sRetN, sExpr, sAsg, bindS, PI.bindM, pureM, mVar, mOp, mTest, mNotT, mAndT, mOrT, mAndV, mOrV, mNotV, mIf, mNeg, mChain, mNil, mCons, mCall, mCallF, bindP, bindPs, Bool.not_true, Bool.not_false, List.getElem?_cons_zero, List.getElem?_cons_succ, List.set_cons_zero, List.set_cons_succ, List.length_cons, List.length_nil, Nat.zero_add, Nat.reduceAdd, if_true, if_false, Bool.false_eq_true, reduceIte]
        exact m
    unfold f_law_asked
    exact run_to rfl w1 rfl
  | none =>
    rw [e] at c1
    obtain ⟨ns, need, rfl, rfl, l1, l2, l3⟩ := refO_none e
    obtain ⟨crew, hc, hr⟩ := ring_crew_ok l1 l2 l3
    have F := crewF (by omega) l2 l3 hc
    obtain ⟨T2, h2⟩ := hr (S ++ T1)
    obtain ⟨T3, h3⟩ := is_round_crew_ok F l2 (S ++ T1 ++ T2)
    obtain ⟨T4, h4⟩ := hr (S ++ T1 ++ T2 ++ T3)
    refine ⟨T1 ++ (T2 ++ (T3 ++ T4)), ?_⟩
    have i0 : L2.atI [D.str "told", tN crew] 0 = some (.str "told") := at_nat (k := 0) (by simp)
    have i1 : L2.atI [D.str "told", tN crew] 1 = some (tN crew) := at_nat (k := 1) (by simp)
    have w1 : m_law_asked [some (tN ns), some (iD need), none, none] S = .rt (.bl true) (S ++ T1 ++ T2 ++ T3 ++ T4) := by
      unfold m_law_asked
      refine seq_to (asg_to c1 rfl) (seq_to (if_no (S1 := S ++ T1) ?_ rfl) (seq_to (asg_to (d := .tup [.str "told", tN crew]) (S1 := S ++ T1 ++ T2) ?_ rfl) (seq_to (if_no (S1 := S ++ T1 ++ T2 ++ T3) ?_ rfl) (ret_to ?_))))
      · simp only [fin, sSeq, sNil, sPass, sIf, sRet, sRetN, sExpr, sAsg, bindS, PI.bindM, pureM, mVar, mOp, mTest, mNotT, mAndT, mOrT, mAndV, mOrV, mNotV, mIf, mNeg, mChain, mNil, mCons, mCall, mCallF, bindP, bindPs, Bool.not_true, Bool.not_false, List.getElem?_cons_zero, List.getElem?_cons_succ, List.set_cons_zero, List.set_cons_succ, List.length_cons, List.length_nil, Nat.zero_add, Nat.reduceAdd, if_true, if_false, Bool.false_eq_true, reduceIte, refD, opIsNot, opB, PI.isNon]
      · simp only [mCallLam, mNil, pureM, PI.bindM, List.length_nil, if_true]
        refine heard_ok ?_
        simp only [fin, sSeq, sNil, sPass, sIf, sRet, sRetN, sExpr, sAsg, bindS, PI.bindM, pureM, mVar, mOp, mTest, mNotT, mAndT, mOrT, mAndV, mOrV, mNotV, mIf, mNeg, mChain, mNil, mCons, mCall, mCallF, bindP, bindPs, Bool.not_true, Bool.not_false, List.getElem?_cons_zero, List.getElem?_cons_succ, List.set_cons_zero, List.set_cons_succ, List.length_cons, List.length_nil, Nat.zero_add, Nat.reduceAdd, if_true, if_false, Bool.false_eq_true, reduceIte]
        exact h2
      · simp only [fin, sSeq, sNil, sPass, sIf, sRet, sRetN, sExpr, sAsg, bindS, PI.bindM, pureM, mVar, mOp, mTest, mNotT, mAndT, mOrT, mAndV, mOrV, mNotV, mIf, mNeg, mChain, mNil, mCons, mCall, mCallF, bindP, bindPs, Bool.not_true, Bool.not_false, List.getElem?_cons_zero, List.getElem?_cons_succ, List.set_cons_zero, List.set_cons_succ, List.length_cons, List.length_nil, Nat.zero_add, Nat.reduceAdd, if_true, if_false, Bool.false_eq_true, reduceIte, opIx, seqD, i0, i1, ne_str sh_told sh_told, h3]
        rw [show (("told" : Str) == ("told" : Str)) = true by decide +kernel]
        simp only [fin, sSeq, sNil, sPass, sIf, sRet, sRetN, sExpr, sAsg, bindS, PI.bindM, pureM, mVar, mOp, mTest, mNotT, mAndT, mOrT, mAndV, mOrV, mNotV, mIf, mNeg, mChain, mNil, mCons, mCall, mCallF, bindP, bindPs, Bool.not_true, Bool.not_false, List.getElem?_cons_zero, List.getElem?_cons_succ, List.set_cons_zero, List.set_cons_succ, List.length_cons, List.length_nil, Nat.zero_add, Nat.reduceAdd, if_true, if_false, Bool.false_eq_true, reduceIte, opIx, seqD, i1, h3]
      · simp only [mCallLam, fin, sSeq, sNil, sPass, sIf, sRet, sRetN, sExpr, sAsg, bindS, PI.bindM, pureM, mVar, mOp, mTest, mNotT, mAndT, mOrT, mAndV, mOrV, mNotV, mIf, mNeg, mChain, mNil, mCons, mCall, mCallF, bindP, bindPs, Bool.not_true, Bool.not_false, List.getElem?_cons_zero, List.getElem?_cons_succ, List.set_cons_zero, List.set_cons_succ, List.length_cons, List.length_nil, Nat.zero_add, Nat.reduceAdd, if_true, if_false, Bool.false_eq_true, reduceIte, opIx, seqD, i1]
        refine tells_ok ?_ (good_tN (crew_small F l2))
        simp only [mCallK, fin, sSeq, sNil, sPass, sIf, sRet, sRetN, sExpr, sAsg, bindS, PI.bindM, pureM, mVar, mOp, mTest, mNotT, mAndT, mOrT, mAndV, mOrV, mNotV, mIf, mNeg, mChain, mNil, mCons, mCall, mCallF, bindP, bindPs, Bool.not_true, Bool.not_false, List.getElem?_cons_zero, List.getElem?_cons_succ, List.set_cons_zero, List.set_cons_succ, List.length_cons, List.length_nil, Nat.zero_add, Nat.reduceAdd, if_true, if_false, Bool.false_eq_true, reduceIte]
        exact h4
    rw [List.append_assoc, List.append_assoc, List.append_assoc] at w1
    unfold f_law_asked
    exact run_to rfl w1 rfl
end LawT

end
section
set_option Elab.async false
set_option linter.all false
set_option maxRecDepth 100000
set_option maxHeartbeats 2000000
/-! K08M12: the jar -/
namespace LawT
open PySem PySem.Spec PyProof.Rows L2 PI LamX Crew
theorem op_to {f : D → D → Sto → ER D} {ma mb : M D} {ρ : Rho} {S S1 S2 : Sto} {x y : D} {r : ER D} (ha : ma ρ S = .ok x S1) (hb : mb ρ S1 = .ok y S2) (hf : f x y S2 = r) : mOp f ma mb ρ S = r := by
  unfold mOp PI.bindM
  rw [ha]
  simp only []
  rw [hb]
  exact hf
theorem call_to {f : List D → Sto → ER D} {ma : M (List D)} {ρ : Rho} {S S1 : Sto} {ds : List D} {r : ER D} (h : ma ρ S = .ok ds S1) (h2 : f ds S1 = r) : mCall f ma ρ S = r := by
  unfold mCall PI.bindM
  rw [h]
  exact h2
theorem tup_to {ma : M (List D)} {ρ : Rho} {S S1 : Sto} {ds : List D} (h : ma ρ S = .ok ds S1) (hl : ds.length ≤ 1000) : mTup ma ρ S = .ok (.tup ds) S1 := by
  unfold mTup PI.bindM
  rw [h]
  simp only [small_le hl, if_true]
theorem lst_to {ma : M (List D)} {ρ : Rho} {S S1 : Sto} {ds : List D} (h : ma ρ S = .ok ds S1) (hl : ds.length ≤ 1000) : mLst ma ρ S = .ok (.loc S1.length) (S1 ++ [.lst ds]) := by
  unfold mLst PI.bindM newO
  rw [h]
  simp only [small_le hl, if_true]
theorem neg_to {m : M D} {ρ : Rho} {S S1 : Sto} {i : Int} (h : m ρ S = .ok (.int i) S1) : mNeg m ρ S = .ok (.int (-i)) S1 := by
  unfold mNeg PI.bindM
  rw [h]
  rfl
def Jar (S : Sto) (j : Nat) : Prop := ∃ a b : Nat, b < 2147483647 ∧ S[j]? = some (.lst [iD a, iD b])
/-- what the jar's owners do to the store: all else stays -/
structure Kp (j : Nat) (S S' : Sto) : Prop where
  old : ∀ i o, i ≠ j → S[i]? = some o → S'[i]? = some o
  jar : Jar S' j
theorem Kp.refl {j : Nat} {S : Sto} (J : Jar S j) : Kp j S S := ⟨fun _ _ _ h => h, J⟩
theorem Kp.trans {j : Nat} {S S1 S2 : Sto} (a : Kp j S S1) (b : Kp j S1 S2) : Kp j S S2 := ⟨fun i o h1 h2 => b.old i o h1 (a.old i o h1 h2), b.jar⟩
theorem get_app {S T : Sto} {i : Nat} {o : O} (h : S[i]? = some o) : (S ++ T)[i]? = some o := by
  rw [List.getElem?_append_left (List.getElem?_eq_some_iff.mp h).1]
  exact h
theorem Jar.app {j : Nat} {S : Sto} (J : Jar S j) (T : Sto) : Jar (S ++ T) j := by
  obtain ⟨a, b, h1, h2⟩ := J
  exact ⟨a, b, h1, get_app h2⟩
theorem Jar.lt {j : Nat} {S : Sto} (J : Jar S j) : j < S.length := by
  obtain ⟨a, b, h1, h2⟩ := J
  exact (List.getElem?_eq_some_iff.mp h2).1
theorem Kp.app {j : Nat} {S : Sto} (J : Jar S j) (T : Sto) : Kp j S (S ++ T) := ⟨fun _ _ _ h => get_app h, J.app T⟩
theorem Kp.set {j a b : Nat} {S : Sto} (J : Jar S j) (hb : b < 2147483647) : Kp j S (S.set j (.lst [iD a, iD b])) := by
  refine ⟨fun i o h1 h2 => ?_, a, b, hb, List.getElem?_set_self J.lt⟩
  rw [List.getElem?_set_ne (Ne.symm h1)]
  exact h2
/-! ### _law_take -/
theorem set_two0 {j : Nat} {S : Sto} {x y v : D} (h : S[j]? = some (.lst [x, y])) : opSetIx (.loc j) (.int 0) v S = some (S.set j (.lst [v, y])) := by
  unfold opSetIx
  simp only [h]
  rfl
theorem set_two1 {j : Nat} {S : Sto} {x y v : D} (h : S[j]? = some (.lst [x, y])) : opSetIx (.loc j) (.int 1) v S = some (S.set j (.lst [x, v])) := by
  unfold opSetIx
  simp only [h]
  rfl
theorem two0 (x y : D) : L2.atI [x, y] 0 = some x := at_nat (k := 0) (by simp)
theorem two1 (x y : D) : L2.atI [x, y] 1 = some y := at_nat (k := 1) (by simp)
theorem mulOk_r {i j : Int} (h1 : -(2 ^ 64) < j) (h2 : j < 2 ^ 64) : mulOk i j = true := by
  unfold mulOk
  rw [decide_eq_true h1, decide_eq_true h2]
  simp
theorem mulOk_nat {i : Int} {n : Nat} (h : n < 4294967296) : mulOk i (n : Int) = true := mulOk_r (by omega) (by omega)
theorem fdivOk_top {n : Nat} (h : 0 < n) (h2 : n < 1073741824) : fdivOk (n : Int) = true := fdivOk_nat h h2
theorem take_ok {S : Sto} {j top : Nat} (J : Jar S j) (h : 0 < top) (h2 : top < 1073741824) : ∃ r S', r < top ∧ Kp j S S' ∧ f_law_take [.loc j, iD top] S = .ok (iD r) S' := by
  obtain ⟨a, b, hb, e⟩ := J
  have ht : ¬ ((top : Int) = 0) := by omega
  have fd := fdivOk_top h h2
  by_cases ha : 0 < a
  · refine ⟨a % top, S.set j (.lst [iD (a / top), iD b]), Nat.mod_lt _ h, Kp.set ⟨a, b, hb, e⟩ hb, ?_⟩
    have c : mTest (mOp opGt (mOp opIx (mVar 0) (pureM (.int 0))) (pureM (.int 0))) [some (.loc j), some (iD top), none] S = .ok true S := by
      simp only [fin, sSeq, sNil, sPass, sIf, sRet, sRetN, sExpr, sAsg, bindS, PI.bindM, pureM, mVar, mOp, mTest, mNotT, mAndT, mOrT, mAndV, mOrV, mNotV, mIf, mNeg, mChain, mNil, mCons, mCall, mCallF, bindP, bindPs, Bool.not_true, Bool.not_false, List.getElem?_cons_zero, List.getElem?_cons_succ, List.set_cons_zero, List.set_cons_succ, List.length_cons, List.length_nil, Nat.zero_add, Nat.reduceAdd, if_true, if_false, Bool.false_eq_true, reduceIte, opIx, seqD, e, two0, opGt, opB, decide_eq_true (show (0 : Int) < (a : Int) by omega)]
    have c2 : (mOp opMod (mCall fInt (mCons (mOp opIx (mVar 0) (pureM (.int 0))) mNil)) (mVar 1)) [some (.loc j), some (iD top), none] S = .ok (iD (a % top)) S := by
      simp only [fin, sSeq, sNil, sPass, sIf, sRet, sRetN, sExpr, sAsg, bindS, PI.bindM, pureM, mVar, mOp, mTest, mNotT, mAndT, mOrT, mAndV, mOrV, mNotV, mIf, mNeg, mChain, mNil, mCons, mCall, mCallF, bindP, bindPs, Bool.not_true, Bool.not_false, List.getElem?_cons_zero, List.getElem?_cons_succ, List.set_cons_zero, List.set_cons_succ, List.length_cons, List.length_nil, Nat.zero_add, Nat.reduceAdd, if_true, if_false, Bool.false_eq_true, reduceIte, opIx, seqD, e, two0, fint_int, opMod, ht, fmod_nat]
    have c3 : sSetIx (mVar 0) (pureM (.int 0)) (mOp opFdiv (mOp opIx (mVar 0) (pureM (.int 0))) (mVar 1)) [some (.loc j), some (iD top), some (iD (a % top))] S = .nx [some (.loc j), some (iD top), some (iD (a % top))] (S.set j (.lst [iD (a / top), iD b])) := by
      simp only [sSetIx, fin, sSeq, sNil, sPass, sIf, sRet, sRetN, sExpr, sAsg, bindS, PI.bindM, pureM, mVar, mOp, mTest, mNotT, mAndT, mOrT, mAndV, mOrV, mNotV, mIf, mNeg, mChain, mNil, mCons, mCall, mCallF, bindP, bindPs, Bool.not_true, Bool.not_false, List.getElem?_cons_zero, List.getElem?_cons_succ, List.set_cons_zero, List.set_cons_succ, List.length_cons, List.length_nil, Nat.zero_add, Nat.reduceAdd, if_true, if_false, Bool.false_eq_true, reduceIte, opIx, seqD, e, two0, opFdiv, fd, fdiv_nat, set_two0 e]
    have w : m_law_take [some (.loc j), some (iD top), none] S = .rt (iD (a % top)) (S.set j (.lst [iD (a / top), iD b])) := by
      unfold m_law_take
      exact seq_rt (if_yes c (seq_to (asg_to c2 rfl) (seq_to c3 (ret_to rfl))))
    unfold f_law_take
    exact run_to rfl w rfl
  · obtain rfl : a = 0 := by omega
    obtain ⟨b2, e2⟩ : ∃ b2, b2 = (b * 39373 + 7) % 2147483647 := ⟨_, rfl⟩
    have hb2 : b2 < 2147483647 := by rw [e2]; exact Nat.mod_lt _ (by decide)
    have c : mTest (mOp opGt (mOp opIx (mVar 0) (pureM (.int 0))) (pureM (.int 0))) [some (.loc j), some (iD top), none] S = .ok false S := by
      simp only [fin, sSeq, sNil, sPass, sIf, sRet, sRetN, sExpr, sAsg, bindS, PI.bindM, pureM, mVar, mOp, mTest, mNotT, mAndT, mOrT, mAndV, mOrV, mNotV, mIf, mNeg, mChain, mNil, mCons, mCall, mCallF, bindP, bindPs, Bool.not_true, Bool.not_false, List.getElem?_cons_zero, List.getElem?_cons_succ, List.set_cons_zero, List.set_cons_succ, List.length_cons, List.length_nil, Nat.zero_add, Nat.reduceAdd, if_true, if_false, Bool.false_eq_true, reduceIte, opIx, seqD, e, two0, opGt, opB]
      rfl
    have m1 : mulOk (b : Int) 39373 = true := mulOk_nat (n := 39373) (by decide)
    have m2 : mulOk (b2 : Int) (b2 : Int) = true := mulOk_nat (by omega)
    have f1 : ((b : Int) * 39373 + 7).fmod 2147483647 = (b2 : Int) := by
      have := fmod_nat (b * 39373 + 7) 2147483647
      rw [← e2] at this
      rw [← this]
      congr 1
    have n1 : ¬ ((2147483647 : Int) = 0) := by decide
    have n2 : ¬ ((2147483629 : Int) = 0) := by decide
    have c3 : sSetIx (mVar 0) (pureM (.int 1)) (mOp opMod (mCall fInt (mCons (mOp opAdd (mOp opMul (mOp opIx (mVar 0) (pureM (.int 1))) (pureM (.int 39373))) (pureM (.int 7))) mNil)) (pureM (.int 2147483647))) [some (.loc j), some (iD top), none] S = .nx [some (.loc j), some (iD top), none] (S.set j (.lst [iD 0, iD b2])) := by
      simp only [sSetIx, fin, sSeq, sNil, sPass, sIf, sRet, sRetN, sExpr, sAsg, bindS, PI.bindM, pureM, mVar, mOp, mTest, mNotT, mAndT, mOrT, mAndV, mOrV, mNotV, mIf, mNeg, mChain, mNil, mCons, mCall, mCallF, bindP, bindPs, Bool.not_true, Bool.not_false, List.getElem?_cons_zero, List.getElem?_cons_succ, List.set_cons_zero, List.set_cons_succ, List.length_cons, List.length_nil, Nat.zero_add, Nat.reduceAdd, if_true, if_false, Bool.false_eq_true, reduceIte, opIx, seqD, e, two1, opMul, m1, opAdd, fint_int, opMod, n1, f1, set_two1 e]
    have g : (S.set j (.lst [iD 0, iD b2]))[j]? = some (.lst [iD 0, iD b2]) := List.getElem?_set_self (List.getElem?_eq_some_iff.mp e).1
    have f2 : ((b2 : Int) * (b2 : Int)).fmod 2147483629 = ((b2 * b2 % 2147483629 : Nat) : Int) := by
      rw [← fmod_nat, Int.natCast_mul]
      rfl
    have d32 : fdivOk (32 : Int) = true := fdivOk_nat (n := 32) (by decide) (by decide)
    have f3 : ((b2 * b2 % 2147483629 : Nat) : Int).fdiv 32 = ((b2 * b2 % 2147483629 / 32 : Nat) : Int) := fdiv_nat _ 32
    have c4 : (mOp opMod (mCall fInt (mCons (mOp opFdiv (mOp opMod (mCall fInt (mCons (mOp opMul (mOp opIx (mVar 0) (pureM (.int 1))) (mOp opIx (mVar 0) (pureM (.int 1)))) mNil)) (pureM (.int 2147483629))) (pureM (.int 32))) mNil)) (mVar 1)) [some (.loc j), some (iD top), none] (S.set j (.lst [iD 0, iD b2])) = .ok (iD (b2 * b2 % 2147483629 / 32 % top)) (S.set j (.lst [iD 0, iD b2])) := by
      simp only [fin, sSeq, sNil, sPass, sIf, sRet, sRetN, sExpr, sAsg, bindS, PI.bindM, pureM, mVar, mOp, mTest, mNotT, mAndT, mOrT, mAndV, mOrV, mNotV, mIf, mNeg, mChain, mNil, mCons, mCall, mCallF, bindP, bindPs, Bool.not_true, Bool.not_false, List.getElem?_cons_zero, List.getElem?_cons_succ, List.set_cons_zero, List.set_cons_succ, List.length_cons, List.length_nil, Nat.zero_add, Nat.reduceAdd, if_true, if_false, Bool.false_eq_true, reduceIte, opIx, seqD, g, two1, opMul, m2, fint_int, opMod, n2, f2, opFdiv, d32, f3, ht, fmod_nat]
    refine ⟨b2 * b2 % 2147483629 / 32 % top, S.set j (.lst [iD 0, iD b2]), Nat.mod_lt _ h, Kp.set ⟨0, b, hb, e⟩ hb2, ?_⟩
    have w : m_law_take [some (.loc j), some (iD top), none] S = .rt (iD (b2 * b2 % 2147483629 / 32 % top)) (S.set j (.lst [iD 0, iD b2])) := by
      unfold m_law_take
      exact seq_to (if_no c rfl) (seq_to c3 (ret_to c4))
    unfold f_law_take
    exact run_to rfl w rfl
/-! ### expressions that draw -/
/-- m ends well, P holds of what it tells, and all but the jar stays -/
def Ev {α : Type} (j : Nat) (m : M α) (ρ : Rho) (S : Sto) (P : α → Sto → Prop) : Prop := ∃ a S', m ρ S = .ok a S' ∧ Kp j S S' ∧ P a S'
section
variable {α β : Type} {j : Nat} {ρ : Rho} {S : Sto}
theorem Ev.of {m : M α} {a : α} {P : α → Sto → Prop} (J : Jar S j) (h : m ρ S = .ok a S) (p : P a S) : Ev j m ρ S P := ⟨a, S, h, .refl J, p⟩
theorem Ev.bind {m : M α} {k : α → M β} {P : α → Sto → Prop} {Q : β → Sto → Prop} (h : Ev j m ρ S P) (h2 : ∀ a S', Kp j S S' → P a S' → Ev j (k a) ρ S' Q) : Ev j (PI.bindM m k) ρ S Q := by
  obtain ⟨a, S1, e1, k1, p1⟩ := h
  obtain ⟨b, S2, e2, k2, p2⟩ := h2 a S1 k1 p1
  refine ⟨b, S2, ?_, k1.trans k2, p2⟩
  unfold PI.bindM
  rw [e1]
  exact e2
theorem Ev.imp {m : M α} {P Q : α → Sto → Prop} (h : Ev j m ρ S P) (i : ∀ a S', Kp j S S' → P a S' → Q a S') : Ev j m ρ S Q := by
  obtain ⟨a, S1, e1, k1, p1⟩ := h
  exact ⟨a, S1, e1, k1, i a S1 k1 p1⟩
theorem Ev.pure {a : α} {P : α → Sto → Prop} (J : Jar S j) (p : P a S) : Ev j (pureM a) ρ S P := .of J rfl p
theorem Ev.var {i : Nat} {d : D} {P : D → Sto → Prop} (J : Jar S j) (h : ρ[i]? = some (some d)) (p : P d S) : Ev j (mVar i) ρ S P := .of J (by unfold mVar; rw [h]) p
theorem Ev.op {f : D → D → Sto → ER D} {ma mb : M D} {P Q R : D → Sto → Prop} (ha : Ev j ma ρ S P) (hb : ∀ x S1, Kp j S S1 → P x S1 → Ev j mb ρ S1 fun y S2 => Ev j (fun _ S => f x y S) ρ S2 R) : Ev j (mOp f ma mb) ρ S R :=
  ha.bind fun x S1 k1 p1 => (hb x S1 k1 p1).bind fun y S2 k2 p2 => p2
theorem Ev.nil {P : List D → Sto → Prop} (J : Jar S j) (p : P [] S) : Ev j mNil ρ S P := .of J rfl p
theorem Ev.cons {ma : M D} {mr : M (List D)} {P : D → Sto → Prop} {Q : List D → Sto → Prop} (ha : Ev j ma ρ S P) (hr : ∀ x S1, Kp j S S1 → P x S1 → Ev j mr ρ S1 fun xs S2 => Q (x :: xs) S2) : Ev j (mCons ma mr) ρ S Q :=
  ha.bind fun x S1 k1 p1 => (hr x S1 k1 p1).bind fun xs S2 k2 p2 => .pure k2.jar p2
/-- displays whose parts are all of a kind -/
theorem Ev.all_nil {q : D → Prop} (J : Jar S j) : Ev j mNil ρ S fun xs _ => (∀ x ∈ xs, q x) ∧ xs.length = 0 := .nil J ⟨fun x h => (List.not_mem_nil h).elim, rfl⟩
theorem Ev.all_cons {ma : M D} {mr : M (List D)} {q : D → Prop} {n : Nat} (ha : Ev j ma ρ S fun x _ => q x) (hr : ∀ S1, Kp j S S1 → Ev j mr ρ S1 fun xs _ => (∀ x ∈ xs, q x) ∧ xs.length = n) : Ev j (mCons ma mr) ρ S fun xs _ => (∀ x ∈ xs, q x) ∧ xs.length = n + 1 :=
  .cons ha fun x S1 k1 hx => (hr S1 k1).imp fun xs S2 k2 ⟨h1, h2⟩ => ⟨fun y hy => by
    rcases List.mem_cons.mp hy with h | h
    · rw [h]; exact hx
    · exact h1 y h, by rw [List.length_cons, h2]⟩
/-- where a list of the store stands -/
def IsL (j : Nat) (S : Sto) (d : D) (xs : List D) : Prop := ∃ n, d = .loc n ∧ n ≠ j ∧ S[n]? = some (.lst xs)
theorem IsL.kp {S' : Sto} {d : D} {xs : List D} (h : IsL j S d xs) (k : Kp j S S') : IsL j S' d xs := by
  obtain ⟨n, h1, h2, h3⟩ := h
  exact ⟨n, h1, h2, k.old n _ h2 h3⟩
theorem Ev.newO {xs : List D} (J : Jar S j) : Ev j (fun _ S => PI.newO (.lst xs) S) ρ S fun d S' => IsL j S' d xs ∧ d = .loc S.length := by
  refine ⟨.loc S.length, S ++ [.lst xs], rfl, Kp.app J _, ⟨S.length, rfl, ?_, by simp⟩, rfl⟩
  have := J.lt
  omega
theorem Ev.lst {mr : M (List D)} {P : List D → Prop} (h : Ev j mr ρ S fun xs _ => P xs) (hl : ∀ xs, P xs → xs.length ≤ sizeLine) : Ev j (mLst mr) ρ S fun d S' => ∃ xs, P xs ∧ IsL j S' d xs := by
  refine h.bind fun xs S1 k1 p1 => ?_
  simp only [hl xs p1, if_true]
  exact (Ev.newO k1.jar).imp fun d S2 k2 h2 => ⟨xs, p1, h2.1⟩
theorem Ev.take {v top : Nat} {m : M D} (J : Jar S j) (hv : ρ[v]? = some (some (.loc j))) (hm : m ρ S = .ok (iD top) S) (h : 0 < top) (h2 : top < 1073741824) : Ev j (mCallF 2 f_law_take (mCons (mVar v) (mCons m mNil))) ρ S fun d _ => ∃ r, r < top ∧ d = iD r := by
  obtain ⟨r, S2, h3, h4, h5⟩ := take_ok J h h2
  refine ⟨iD r, S2, ?_, h4, r, h3, rfl⟩
  unfold mCallF mCons mVar mNil PI.bindM pureM
  simp only [hv, hm]
  exact h5
/-! ### _law_one -/
theorem one_ok {d : D} {xs : List D} (J : Jar S j) (hx : IsL j S d xs) (h0 : 0 < xs.length) (h1 : xs.length < 1073741824) : ∃ x S', x ∈ xs ∧ Kp j S S' ∧ f_law_one [.loc j, d] S = .ok x S' := by
  obtain ⟨n, rfl, hn, e⟩ := hx
  have hm : mCall fLen (mCons (mVar 1) mNil) [some (.loc j), some (.loc n)] S = .ok (iD xs.length) S := by
    simp only [fin, sSeq, sNil, sPass, sIf, sRet, sRetN, sExpr, sAsg, bindS, PI.bindM, pureM, mVar, mOp, mTest, mNotT, mAndT, mOrT, mAndV, mOrV, mNotV, mIf, mNeg, mChain, mNil, mCons, mCall, mCallF, bindP, bindPs, Bool.not_true, Bool.not_false, List.getElem?_cons_zero, List.getElem?_cons_succ, List.set_cons_zero, List.set_cons_succ, List.length_cons, List.length_nil, Nat.zero_add, Nat.reduceAdd, if_true, if_false, Bool.false_eq_true, reduceIte, fLen, seqD, e]
  obtain ⟨_, S2, e2, k2, r, hr, rfl⟩ := Ev.take (v := 0) J rfl hm h0 h1
  refine ⟨xs[r], S2, List.getElem_mem hr, k2, ?_⟩
  have e3 := k2.old n _ hn e
  have w : m_law_one [some (.loc j), some (.loc n)] S = .rt xs[r] S2 := by
    unfold m_law_one
    refine ret_to (op_to (x := .loc n) rfl e2 ?_)
    simp only [opIx, seqD, e3, at_nat hr]
  unfold f_law_one
  exact run_to rfl w rfl
theorem Ev.one {v : Nat} {m : M D} {P : List D → Prop} (hv : ρ[v]? = some (some (.loc j))) (hm : Ev j m ρ S fun d S' => ∃ xs, P xs ∧ IsL j S' d xs) (h : ∀ xs, P xs → 0 < xs.length ∧ xs.length < 1073741824) : Ev j (mCallF 2 f_law_one (mCons (mVar v) (mCons m mNil))) ρ S fun d _ => ∃ xs, P xs ∧ d ∈ xs := by
  obtain ⟨d, S1, e1, k1, xs, p1, l1⟩ := hm
  obtain ⟨h0, h1⟩ := h xs p1
  obtain ⟨x, S2, h3, h4, h5⟩ := one_ok k1.jar l1 h0 h1
  refine ⟨x, S2, ?_, k1.trans h4, xs, p1, h3⟩
  unfold mCallF mCons mVar mNil PI.bindM pureM
  simp only [hv, e1]
  exact h5
/-! ### comprehensions that draw -/
theorem lc_jar {it : IterD} {p : Pat} {me : M D} {q : D → Prop} {S0 : Sto} (J : Jar S0 j) (ok : ∀ S', Kp j S0 S' → it.okB S') : ∀ (ds : List D) (acc : List D) (S : Sto), acc.length + ds.length ≤ sizeLine → Kp j S0 S → S[S0.length]? = some (.lst acc) →
    (∀ d ∈ ds, ∃ ρ1, bindP p d ρ = some ρ1 ∧ ∀ S', Kp j S0 S' → Ev j me ρ1 S' fun y _ => q y) →
    ∃ S' xs, lcL it p mYes me S0.length ds ρ S = some S' ∧ Kp j S0 S' ∧ S'[S0.length]? = some (.lst (acc ++ xs)) ∧ xs.length = ds.length ∧ ∀ x ∈ xs, q x
  | [], acc, S, _, k, g, _ => ⟨S, [], by rw [lcL, if_pos (ok S k)], k, by simpa using g, rfl, fun x h => (List.not_mem_nil h).elim⟩
  | d :: ds, acc, S, hl, k, g, h => by
    obtain ⟨ρ1, e1, e2⟩ := h d (List.mem_cons_self ..)
    obtain ⟨y, S2, e3, k2, hq⟩ := e2 S k
    rw [List.length_cons] at hl
    have ne : S0.length ≠ j := by have := J.lt; omega
    have g2 := k2.old _ _ ne g
    have k3 := k.trans k2
    have l2 : S0.length < S2.length := (List.getElem?_eq_some_iff.mp g2).1
    have k4 : Kp j S0 (S2.set S0.length (.lst (acc ++ [y]))) := by
      refine ⟨fun i o h1 h2 => ?_, ?_⟩
      · have hi := (List.getElem?_eq_some_iff.mp h2).1
        rw [List.getElem?_set_ne (by omega)]
        exact k3.old i o h1 h2
      · obtain ⟨a, b, h1, h2⟩ := k3.jar
        exact ⟨a, b, h1, by rw [List.getElem?_set_ne ne]; exact h2⟩
    obtain ⟨S', xs, h1, h2, h3, h4, h5⟩ := lc_jar J ok ds (acc ++ [y]) (S2.set S0.length (.lst (acc ++ [y]))) (by simp; omega) k4 (List.getElem?_set_self l2) (fun x hx => h x (List.mem_cons_of_mem _ hx))
    refine ⟨S', y :: xs, ?_, h2, by simpa using h3, by simp [h4], fun x hx => ?_⟩
    · have g3 : acc.length < sizeLine := by omega
      rw [lcL, if_pos (ok S k)]
      simp only [e1, mYes, pureM, e3, g2, g3, if_true]
      exact h1
    · rcases List.mem_cons.mp hx with h | h
      · rw [h]; exact hq
      · exact h5 x h
theorem Ev.lc {p : Pat} {own : List Nat} {mi : M IterD} {me : M D} {it : IterD} {q : D → Prop} (J : Jar S j) (hi : mi ρ S = .ok it S) (ok : ∀ S', Kp j S S' → it.okB S') (hl : it.items.length ≤ sizeLine)
    (h : ∀ d ∈ it.items, ∃ ρ1, bindP p d (wipeR ρ own) = some ρ1 ∧ ∀ S', Kp j S S' → Ev j me ρ1 S' fun y _ => q y) : Ev j (mLc p own mi mYes me) ρ S fun d S' => ∃ xs, d = .loc S.length ∧ IsL j S' d xs ∧ xs.length = it.items.length ∧ ∀ x ∈ xs, q x := by
  obtain ⟨S', xs, h1, h2, h3, h4, h5⟩ := lc_jar (ρ := wipeR ρ own) J ok it.items [] (S ++ [.lst []]) (by simpa using hl) (.app J _) (by simp) h
  refine ⟨.loc S.length, S', ?_, h2, xs, rfl, ⟨S.length, rfl, ?_, by simpa using h3⟩, h4, h5⟩
  · unfold mLc PI.bindM
    rw [hi]
    simp only [h1]
  · have := J.lt
    omega
end
end LawT

end
section
set_option Elab.async false
set_option linter.all false
set_option maxRecDepth 100000
set_option maxHeartbeats 2000000
/-! K08M13: _law_drawn_round -/
namespace LawT
open PySem PySem.Spec PyProof.Rows L2 PI LamX Crew
/-! ### numbers -/
theorem pow_to (e : Nat) (h : e ≤ 1000) (ρ : Rho) (S : Sto) : mOp opPow (pureM (.int 10)) (pureM (.int (e : Int))) ρ S = .ok (iD (10 ^ e)) S := by
  have p : powOk 10 (e : Int) = true := by
    unfold powOk
    rw [decide_eq_true (show (0 : Int) ≤ (e : Int) by omega), decide_eq_true (show (e : Int) ≤ 1000000 by omega), decide_eq_true (show (10 : Int).natAbs < 2 ^ 64 by decide)]
    rfl
  refine op_to rfl rfl ?_
  simp only [opPow, p, if_true, Int.toNat_natCast]
  exact congrArg (fun z => ER.ok (D.int z) S) (Int.natCast_pow 10 e).symm
theorem log2_le {a x : Nat} (h : a < 2 ^ x) : a.log2 ≤ x := by
  by_cases ha : a = 0
  · subst ha
    rw [Nat.log2_zero]
    omega
  · exact Nat.le_of_lt ((Nat.log2_lt ha).mpr h)
theorem mulOk_log {a b x y : Nat} (ha : a < 2 ^ x) (hb : b < 2 ^ y) (h : x + y < 1000000) : mulOk (a : Int) (b : Int) = true := by
  unfold mulOk
  have e : decide ((a : Int).natAbs.log2 + (b : Int).natAbs.log2 < 1000000) = true := by
    rw [Int.natAbs_natCast, Int.natAbs_natCast]
    have h1 := log2_le ha
    have h2 := log2_le hb
    exact decide_eq_true (by omega)
  rw [e]
  rfl
theorem mul_nat {a b x y : Nat} (ha : a < 2 ^ x) (hb : b < 2 ^ y) (h : x + y < 1000000) (S : Sto) : opMul (iD a) (iD b) S = .ok (iD (a * b)) S := by
  simp only [opMul, mulOk_log ha hb h, if_true]
  exact congrArg (fun z => ER.ok (D.int z) S) (Int.natCast_mul a b).symm
theorem lt_two_mul {a b x y : Nat} (ha : a < 2 ^ x) (hb : b < 2 ^ y) : a * b < 2 ^ (x + y) := by
  rw [Nat.pow_add]
  exact Nat.mul_lt_mul'' ha hb
theorem ten60 : 10 ^ 60 < 2 ^ 200 := by decide +kernel
section
variable {j : Nat} {ρ : Rho} {S : Sto}
/-- a number -/
def isN (p : Nat → Prop) (d : D) : Prop := ∃ m : Nat, p m ∧ d = iD m
theorem Ev.con {p : Nat → Prop} (J : Jar S j) (k : Nat) (h : p k) : Ev j (pureM (.int (k : Int))) ρ S fun d _ => isN p d := .pure J ⟨k, h, rfl⟩
theorem Ev.add {p : Nat → Prop} {ma mb : M D} {a : Nat} {q : Nat → Prop} (J : Jar S j) (ha : ma ρ S = .ok (iD a) S) (hb : Ev j mb ρ S fun d _ => isN q d) (h : ∀ m, q m → p (a + m)) : Ev j (mOp opAdd ma mb) ρ S fun d _ => isN p d := by
  obtain ⟨d, S1, e1, k1, m, hm, rfl⟩ := hb
  refine ⟨iD (a + m), S1, ?_, k1, a + m, h m hm, rfl⟩
  unfold mOp PI.bindM
  rw [ha]
  simp only [e1, opAdd]
  exact congrArg (fun z => ER.ok (D.int z) S1) (Int.natCast_add a m).symm
theorem Ev.sub {p : Nat → Prop} {ma mb : M D} {a : Nat} {q : Nat → Prop} (J : Jar S j) (ha : ma ρ S = .ok (iD a) S) (hb : Ev j mb ρ S fun d _ => isN q d) (h : ∀ m, q m → m ≤ a ∧ p (a - m)) : Ev j (mOp opSub ma mb) ρ S fun d _ => isN p d := by
  obtain ⟨d, S1, e1, k1, m, hm, rfl⟩ := hb
  obtain ⟨h1, h2⟩ := h m hm
  refine ⟨iD (a - m), S1, ?_, k1, a - m, h2, rfl⟩
  unfold mOp PI.bindM
  rw [ha]
  simp only [e1, opSub]
  exact congrArg (fun z => ER.ok (D.int z) S1) (Int.natCast_sub h1).symm
theorem Ev.takeN {v top : Nat} {m : M D} (J : Jar S j) (hv : ρ[v]? = some (some (.loc j))) (hm : m ρ S = .ok (iD top) S) (h : 0 < top) (h2 : top < 1073741824) : Ev j (mCallF 2 f_law_take (mCons (mVar v) (mCons m mNil))) ρ S fun d _ => isN (· < top) d :=
  Ev.take J hv hm h h2
theorem Ev.oneN {v n : Nat} {mr : M (List D)} {p : Nat → Prop} (hv : ρ[v]? = some (some (.loc j))) (h : Ev j mr ρ S fun xs _ => (∀ x ∈ xs, isN p x) ∧ xs.length = n) (h0 : 0 < n) (h1 : n ≤ 1000) : Ev j (mCallF 2 f_law_one (mCons (mVar v) (mCons (mLst mr) mNil))) ρ S fun d _ => isN p d :=
  (Ev.one hv (Ev.lst (P := fun xs => (∀ x ∈ xs, isN p x) ∧ xs.length = n) h fun xs hx => by rw [hx.2]; exact small_le h1) fun xs hx => by rw [hx.2]; omega).imp fun d _ _ ⟨xs, h1, h2⟩ => h1.1 d h2
theorem dr_many (J : Jar S j) (hv : ρ[0]? = some (some (.loc j))) : Ev j (mCallF 2 f_law_one (mCons (mVar 0) (mCons (mLst (mCons (pureM (.int 3)) (mCons (pureM (.int 4)) (mCons (pureM (.int 5)) (mCons (pureM (.int 6)) (mCons (pureM (.int 7)) (mCons (pureM (.int 9)) (mCons (pureM (.int 12)) (mCons (mOp opAdd (pureM (.int 20)) (mCallF 2 f_law_take (mCons (mVar 0) (mCons (pureM (.int 30)) mNil)))) (mCons (mOp opSub (pureM (.int 200)) (mCallF 2 f_law_take (mCons (mVar 0) (mCons (pureM (.int 60)) mNil)))) (mCons (pureM (.int 200)) mNil))))))))))) mNil))) ρ S
    fun d _ => isN (fun m => 3 ≤ m ∧ m ≤ 200) d := by
  refine Ev.oneN (n := 10) hv ?_ (by decide) (by decide)
  refine .all_cons (.con J 3 (by decide)) fun S1 k1 => ?_
  refine .all_cons (.con k1.jar 4 (by decide)) fun S2 k2 => ?_
  refine .all_cons (.con k2.jar 5 (by decide)) fun S3 k3 => ?_
  refine .all_cons (.con k3.jar 6 (by decide)) fun S4 k4 => ?_
  refine .all_cons (.con k4.jar 7 (by decide)) fun S5 k5 => ?_
  refine .all_cons (.con k5.jar 9 (by decide)) fun S6 k6 => ?_
  refine .all_cons (.con k6.jar 12 (by decide)) fun S7 k7 => ?_
  refine .all_cons (.add (a := 20) k7.jar rfl (.takeN (top := 30) k7.jar hv rfl (by decide) (by decide)) fun m hm => by omega) fun S8 k8 => ?_
  refine .all_cons (.sub (a := 200) k8.jar rfl (.takeN (top := 60) k8.jar hv rfl (by decide) (by decide)) fun m hm => by omega) fun S9 k9 => ?_
  exact .all_cons (.con k9.jar 200 (by decide)) fun S10 k10 => .all_nil k10.jar
theorem dr_top (J : Jar S j) (hv : ρ[0]? = some (some (.loc j))) : Ev j (mCallF 2 f_law_one (mCons (mVar 0) (mCons (mLst (mCons (pureM (.int 2)) (mCons (pureM (.int 3)) (mCons (pureM (.int 4)) (mCons (pureM (.int 10)) (mCons (mOp opPow (pureM (.int 10)) (pureM (.int 9))) mNil)))))) mNil))) ρ S
    fun d _ => isN (fun m => 2 ≤ m ∧ m ≤ 1000000000) d := by
  refine Ev.oneN (n := 5) hv ?_ (by decide) (by decide)
  refine .all_cons (.con J 2 (by decide)) fun S1 k1 => ?_
  refine .all_cons (.con k1.jar 3 (by decide)) fun S2 k2 => ?_
  refine .all_cons (.con k2.jar 4 (by decide)) fun S3 k3 => ?_
  refine .all_cons (.con k3.jar 10 (by decide)) fun S4 k4 => ?_
  exact .all_cons (.of k4.jar (pow_to 9 (by decide) _ _) ⟨10 ^ 9, by decide, rfl⟩) fun S5 k5 => .all_nil k5.jar
/-! ### the votes -/
theorem of_isN {p : Nat → Prop} : ∀ xs : List D, (∀ x ∈ xs, isN p x) → ∃ ns : List Nat, xs = ns.map iD ∧ ∀ v ∈ ns, p v
  | [], _ => ⟨[], rfl, fun v h => (List.not_mem_nil h).elim⟩
  | x :: xs, h => by
    obtain ⟨m, hm, rfl⟩ := h x (List.mem_cons_self ..)
    obtain ⟨ns, rfl, h2⟩ := of_isN xs fun y hy => h y (List.mem_cons_of_mem _ hy)
    exact ⟨m :: ns, rfl, fun v hv => by
      rcases List.mem_cons.mp hv with h | h
      · rw [h]; exact hm
      · exact h2 v h⟩
theorem _root_.LawT.Kp.len {S0 : Sto} (k : Kp j S0 S) : S0.length ≤ S.length := by
  refine Nat.le_of_not_lt fun hlt => ?_
  have h4 : S.length ≠ j := by have := k.jar.lt; omega
  have := k.old S.length _ h4 (List.getElem?_eq_getElem hlt)
  rw [List.getElem?_eq_none (Nat.le_refl _)] at this
  cases this
def smallV (v : Nat) : Prop := v < 1000000000
def anyV (v : Nat) : Prop := True
abbrev rV (j m t : Nat) (vs f a5 a6 a7 a8 a9 : Option D) : Rho := [some (.loc j), some (iD m), some (iD t), vs, f, a5, a6, a7, a8, a9, none, none]
theorem dr_votes {m t : Nat} {f : Option D} (J : Jar S j) (hm : m ≤ 200) (h2 : 2 ≤ t) (h3 : t ≤ 1000000000) : Ev j (mLc (.name 10) [10] (mRange1 (mCons (mVar 1) mNil)) mYes (mCallF 2 f_law_take (mCons (mVar 0) (mCons (mVar 2) mNil)))) (rV j m t f none none none none none none) S
    fun d S' => ∃ ns : List Nat, d = .loc S.length ∧ IsL j S' d (ns.map iD) ∧ ns.length = m ∧ ∀ v ∈ ns, smallV v := by
  have hs : m ≤ sizeLine := small_le (by omega)
  have hi : mRange1 (mCons (mVar 1) mNil) (rV j m t f none none none none none none) S = .ok ⟨rangeD ((0 : Nat) : Int) m, []⟩ S := range_to rfl hs
  refine (Ev.lc (q := isN smallV) J hi (fun _ _ => okB_nil) (by rw [rangeD_len']; exact hs) fun d hd => ⟨_, rfl, fun S' k' => ?_⟩).imp fun d S' k' ⟨xs, h1, h2, h3, h4⟩ => ?_
  · exact (Ev.takeN (top := t) k'.jar rfl rfl (by omega) (by omega)).imp fun d S2 k2 ⟨r, hr, e⟩ => ⟨r, by unfold smallV; omega, e⟩
  · obtain ⟨ns, rfl, h5⟩ := of_isN xs h4
    rw [rangeD_len'] at h3
    exact ⟨ns, h1, h2, by simpa using h3, h5⟩
/-- the votes stand at n, a place that was not there at first -/
structure VS (j m t : Nat) (S0 : Sto) (p : Nat → Prop) (f : Nat) (ρ : Rho) (S : Sto) : Prop where
  ex : ∃ (n : Nat) (ns : List Nat), ρ = rV j m t (some (.loc n)) (some (iD f)) none none none none none ∧ S0.length ≤ n ∧ n ≠ j ∧ S[n]? = some (.lst (ns.map iD)) ∧ ns.length = m ∧ ∀ v ∈ ns, p v
  kp : Kp j S0 S
theorem VS.imp {m t f : Nat} {S0 : Sto} {p q : Nat → Prop} (V : VS j m t S0 p f ρ S) (h : ∀ v, p v → q v) : VS j m t S0 q f ρ S := by
  obtain ⟨⟨n, ns, h1, h2, h3, h4, h5, h6⟩, k⟩ := V
  exact ⟨⟨n, ns, h1, h2, h3, h4, h5, fun v hv => h v (h6 v hv)⟩, k⟩
theorem form_test {m t f k : Nat} {S0 : Sto} {p : Nat → Prop} (V : VS j m t S0 p f ρ S) : mTest (mOp opEq (mVar 4) (pureM (.int (k : Int)))) ρ S = .ok (decide (f = k)) S := by
  obtain ⟨⟨n, ns, rfl, _⟩, _⟩ := V
  simp only [rV, fin, sSeq, sNil, sPass, sIf, sRet, sRetN, sExpr, sAsg, bindS, PI.bindM, pureM, mVar, mOp, mTest, mNotT, mAndT, mOrT, mAndV, mOrV, mNotV, mIf, mNeg, mChain, mNil, mCons, mCall, mCallF, bindP, bindPs, Bool.not_true, Bool.not_false, List.getElem?_cons_zero, List.getElem?_cons_succ, List.set_cons_zero, List.set_cons_succ, List.length_cons, List.length_nil, Nat.zero_add, Nat.reduceAdd, if_true, if_false, Bool.false_eq_true, reduceIte, eq_int]
  congr 1
  rw [Bool.eq_iff_iff, beq_iff_eq, decide_eq_true_iff]
  omega
theorem mul_list {n k : Nat} {x : D} (h : S[n]? = some (.lst [x])) (hk : k ≤ 1000) : opMul (.loc n) (iD k) S = PI.newO (.lst (List.replicate k x)) S := by
  have e : [x].length * ((k : Int)).toNat ≤ sizeLine ∧ (k : Int) ≤ 16777216 ∧ -16777216 ≤ (k : Int) := by
    refine ⟨?_, by omega, by omega⟩
    rw [Int.toNat_natCast]
    simp
    exact small_le hk
  simp only [opMul, h]
  rw [if_pos e, Int.toNat_natCast, List.flatten_replicate_singleton]
theorem dr_f0 {m t f : Nat} {S0 : Sto} (V : VS j m t S0 smallV f ρ S) (hm : m ≤ 200) (h2 : 2 ≤ t) (h3 : t ≤ 1000000000) : ∃ ρ' S', sIf (mTest (mOp opEq (mVar 4) (pureM (.int 0)))) (sAsg (.name 3) (mOp opMul (mLst (mCons (mCallF 2 f_law_take (mCons (mVar 0) (mCons (mVar 2) mNil))) mNil)) (mVar 1))) sNil ρ S = .nx ρ' S' ∧ VS j m t S0 smallV f ρ' S' := by
  have c := form_test (k := 0) V
  by_cases hf : f = 0
  · rw [decide_eq_true hf] at c
    obtain ⟨⟨n, ns, rfl, g1, g2, g3, g4, g5⟩, kp⟩ := V
    obtain ⟨d, S1, e1, k1, r, hr, rfl⟩ := Ev.takeN (v := 0) (m := mVar 2) (ρ := rV j m t (some (.loc n)) (some (iD f)) none none none none none) (top := t) kp.jar rfl rfl (by omega) (by omega)
    have one : (1 : Nat) ≤ sizeLine := small_le (by decide)
    have J1 := k1.jar
    have kk := kp.trans k1
    have l0 := kk.len
    have x1 : (mOp opMul (mLst (mCons (mCallF 2 f_law_take (mCons (mVar 0) (mCons (mVar 2) mNil))) mNil)) (mVar 1)) (rV j m t (some (.loc n)) (some (iD f)) none none none none none) S = .ok (.loc (S1 ++ [O.lst [iD r]]).length) (S1 ++ [O.lst [iD r]] ++ [.lst (List.replicate m (iD r))]) := by
      have x2 := lst_to (cons_to e1 (rfl : mNil _ S1 = .ok [] S1)) (show ([iD r] : List D).length ≤ 1000 by simp)
      have x3 : (S1 ++ [O.lst [iD r]])[S1.length]? = some (.lst [iD r]) := by simp
      exact op_to (y := iD m) x2 rfl (mul_list x3 (show m ≤ 1000 by omega))
    refine ⟨_, _, if_yes c (asg_to x1 rfl), ⟨⟨(S1 ++ [O.lst [iD r]]).length, List.replicate m r, rfl, by simp; omega, by have := J1.lt; simp; omega, by simp, by simp, fun v hv => ?_⟩, kk.trans ((Kp.app J1 _).trans (Kp.app (J1.app _) _))⟩⟩
    have := List.eq_of_mem_replicate hv
    subst this
    unfold smallV
    omega
  · rw [decide_eq_false hf] at c
    exact ⟨ρ, S, if_no c rfl, V⟩
theorem set_vs {n r : Nat} {S0 : Sto} {xs : List D} (k : Kp j S0 S) (h0 : S0.length ≤ n) (hn : n ≠ j) : Kp j S0 (S.set n (.lst xs)) := by
  refine ⟨fun i o h1 h2 => ?_, ?_⟩
  · have hi := (List.getElem?_eq_some_iff.mp h2).1
    rw [List.getElem?_set_ne (by omega)]
    exact k.old i o h1 h2
  · obtain ⟨a, b, h1, h2⟩ := k.jar
    exact ⟨a, b, h1, by rw [List.getElem?_set_ne hn]; exact h2⟩
theorem setIx_at {n r : Nat} {xs : List D} {v : D} (h : S[n]? = some (.lst xs)) (hr : r < xs.length) : opSetIx (.loc n) (iD r) v S = some (S.set n (.lst (xs.set r v))) := by
  have e : L2.ixN xs.length (r : Int) = some r := by
    unfold L2.ixN
    rw [if_pos (by omega), if_pos (by omega), Int.toNat_natCast]
  unfold opSetIx
  simp only [h, e]
theorem dr_f1 {m t f : Nat} {S0 : Sto} (V : VS j m t S0 smallV f ρ S) (hm0 : 0 < m) (hm : m ≤ 200) : ∃ ρ' S', sIf (mTest (mOp opEq (mVar 4) (pureM (.int 1)))) (sSeq (sAsg (.name 3) (mOp opMul (mLst (mCons (pureM (.int 0)) mNil)) (mVar 1))) (sSetIx (mVar 3) (mCallF 2 f_law_take (mCons (mVar 0) (mCons (mVar 1) mNil))) (mOp opAdd (pureM (.int 1)) (mCallF 2 f_law_take (mCons (mVar 0) (mCons (pureM (.int 5)) mNil)))))) sNil ρ S = .nx ρ' S' ∧ VS j m t S0 smallV f ρ' S' := by
  have c := form_test (k := 1) V
  by_cases hf : f = 1
  · rw [decide_eq_true hf] at c
    obtain ⟨⟨n, ns, rfl, g1, g2, g3, g4, g5⟩, kp⟩ := V
    have one : (1 : Nat) ≤ sizeLine := small_le (by decide)
    have J := kp.jar
    have x1 : (mOp opMul (mLst (mCons (pureM (.int 0)) mNil)) (mVar 1)) (rV j m t (some (.loc n)) (some (iD f)) none none none none none) S = .ok (.loc (S ++ [O.lst [iD 0]]).length) (S ++ [O.lst [iD 0]] ++ [.lst (List.replicate m (iD 0))]) := by
      have x2 := lst_to (S := S) (ρ := rV j m t (some (.loc n)) (some (iD f)) none none none none none) (cons_to (rfl : pureM (.int 0) _ S = .ok (iD 0) S) (rfl : mNil _ S = .ok [] S)) (show ([iD 0] : List D).length ≤ 1000 by simp)
      have x3 : (S ++ [O.lst [iD 0]])[S.length]? = some (.lst [iD 0]) := by simp
      exact op_to (y := iD m) x2 rfl (mul_list x3 (show m ≤ 1000 by omega))
    have n0 := kp.len
    have nj : (S ++ [O.lst [iD 0]]).length ≠ j := by have := J.lt; simp; omega
    have k1 : Kp j S (S ++ [O.lst [iD 0]] ++ [.lst (List.replicate m (iD 0))]) := (Kp.app J _).trans (Kp.app (J.app _) _)
    have b0 : (S ++ [O.lst [iD 0]] ++ [O.lst (List.replicate m (iD 0))])[(S ++ [O.lst [iD 0]]).length]? = some (.lst (List.replicate m (iD 0))) := by simp
    obtain ⟨_, S3, e3, k3, w, _, rfl⟩ := Ev.add (j := j) (ρ := rV j m t (some (.loc (S ++ [O.lst [iD 0]]).length)) (some (iD f)) none none none none none) (a := 1) (ma := pureM (.int 1)) (p := smallV) k1.jar rfl (.takeN (v := 0) (m := pureM (.int 5)) (top := 5) k1.jar rfl rfl (by decide) (by decide)) (fun m hm => by unfold smallV; omega)
    rename_i hw
    obtain ⟨_, S4, e4, k4, r, hr, rfl⟩ := Ev.takeN (v := 0) (m := mVar 1) (ρ := rV j m t (some (.loc (S ++ [O.lst [iD 0]]).length)) (some (iD f)) none none none none none) (top := m) k3.jar rfl rfl hm0 (by omega)
    have b4 := k4.old _ _ nj (k3.old _ _ nj b0)
    have st := setIx_at (r := r) (v := iD w) b4 (by simpa using hr)
    have kk := kp.trans (k1.trans (k3.trans k4))
    have hn : S0.length ≤ (S ++ [O.lst [iD 0]]).length := by simp; omega
    refine ⟨_, _, if_yes c (seq_to (asg_to x1 rfl) ?_), ⟨⟨(S ++ [O.lst [iD 0]]).length, (List.replicate m 0).set r w, rfl, hn, nj, ?_, by simp, fun v hv => ?_⟩, set_vs (r := r) (xs := (List.replicate m (iD 0)).set r (iD w)) kk hn nj⟩⟩
    · unfold sSetIx bindS
      have e5 : mVar 3 (rV j m t (some (.loc (S ++ [O.lst [iD 0]]).length)) (some (iD f)) none none none none none) S3 = .ok (.loc (S ++ [O.lst [iD 0]]).length) S3 := rfl
      have q : (List.set (rV j m t (some (.loc n)) (some (iD f)) none none none none none) 3 (some (D.loc (S ++ [O.lst [iD 0]]).length))) = rV j m t (some (.loc (S ++ [O.lst [iD 0]]).length)) (some (iD f)) none none none none none := rfl
      rw [q, e3]
      simp only [e5, e4, st]
    · rw [List.getElem?_set_self (List.getElem?_eq_some_iff.mp b4).1, List.map_set, List.map_replicate]
    · rcases List.mem_or_eq_of_mem_set hv with h | h
      · have := List.eq_of_mem_replicate h
        subst this
        unfold smallV
        omega
      · rw [h]
        assumption
  · rw [decide_eq_false hf] at c
    exact ⟨ρ, S, if_no c rfl, V⟩
noncomputable def bigE : M D := mOp opAdd (mOp opMul (mOp opMul (mOp opMul (mVar 11) (mOp opPow (pureM (.int 10)) (pureM (.int 60)))) (mOp opPow (pureM (.int 10)) (pureM (.int 60)))) (mOp opPow (pureM (.int 10)) (pureM (.int 60)))) (mCallF 2 f_law_take (mCons (mVar 0) (mCons (mOp opPow (pureM (.int 10)) (pureM (.int 6))) mNil)))
theorem big_mul {v : Nat} (hv : v < 2 ^ 30) (h11 : ρ[11]? = some (some (iD v))) : (mOp opMul (mOp opMul (mOp opMul (mVar 11) (mOp opPow (pureM (.int 10)) (pureM (.int 60)))) (mOp opPow (pureM (.int 10)) (pureM (.int 60)))) (mOp opPow (pureM (.int 10)) (pureM (.int 60)))) ρ S = .ok (iD (v * 10 ^ 60 * 10 ^ 60 * 10 ^ 60)) S := by
  have p : ∀ S, mOp opPow (pureM (.int 10)) (pureM (.int 60)) ρ S = .ok (iD (10 ^ 60)) S := fun S => pow_to 60 (by decide) ρ S
  have h1 := mul_nat hv ten60 (by decide) S
  have l1 := lt_two_mul hv ten60
  have h2 := mul_nat l1 ten60 (by decide) S
  have l2 := lt_two_mul l1 ten60
  have h3 := mul_nat l2 ten60 (by decide) S
  have e0 : mVar 11 ρ S = .ok (iD v) S := by unfold mVar; rw [h11]
  generalize mOp opPow (pureM (.int 10)) (pureM (.int 60)) = mp at p ⊢
  unfold mOp PI.bindM
  simp only [e0, p, h1, h2, h3]
theorem dr_f2 {m t f : Nat} {S0 : Sto} (V : VS j m t S0 smallV f ρ S) (hm : m ≤ 200) : ∃ ρ' S', sIf (mTest (mOp opEq (mVar 4) (pureM (.int 2)))) (sAsg (.name 3) (mLc (.name 11) [11] (mSeqI (mVar 3)) mYes bigE)) sNil ρ S = .nx ρ' S' ∧ VS j m t S0 anyV f ρ' S' := by
  have c := form_test (k := 2) V
  by_cases hf : f = 2
  · rw [decide_eq_true hf] at c
    obtain ⟨⟨n, ns, rfl, g1, g2, g3, g4, g5⟩, kp⟩ := V
    have hi : mSeqI (mVar 3) (rV j m t (some (.loc n)) (some (iD f)) none none none none none) S = .ok ⟨ns.map iD, [(n, ns.map iD)]⟩ S := by
      simp only [mSeqI, rV, fin, sSeq, sNil, sPass, sIf, sRet, sRetN, sExpr, sAsg, bindS, PI.bindM, pureM, mVar, mOp, mTest, mNotT, mAndT, mOrT, mAndV, mOrV, mNotV, mIf, mNeg, mChain, mNil, mCons, mCall, mCallF, bindP, bindPs, Bool.not_true, Bool.not_false, List.getElem?_cons_zero, List.getElem?_cons_succ, List.set_cons_zero, List.set_cons_succ, List.length_cons, List.length_nil, Nat.zero_add, Nat.reduceAdd, if_true, if_false, Bool.false_eq_true, reduceIte, seqIter, seqD, g3]
    have J := kp.jar
    obtain ⟨d, S1, e1, k1, xs, rfl, ⟨n1, en, nj, h1⟩, h2, h3⟩ := Ev.lc (p := .name 11) (own := [11]) (me := bigE) (q := isN anyV) J hi (fun S' k' p hp => by
      rw [List.mem_singleton] at hp
      subst hp
      exact .inl (k'.old _ _ g2 g3)) (by
      show (ns.map iD).length ≤ sizeLine
      rw [List.length_map, g4]
      exact small_le (by omega)) (fun d hd => by
      obtain ⟨v, hv, rfl⟩ := List.mem_map.mp hd
      refine ⟨_, rfl, fun S' k' => ?_⟩
      have h30 : v < 2 ^ 30 := by
        have := g5 v hv
        unfold smallV at this
        omega
      unfold bigE
      exact Ev.add k'.jar (big_mul h30 rfl) (.takeN k'.jar rfl (pow_to 6 (by decide) _ _) (by decide) (by decide)) fun _ _ => trivial)
    cases en
    obtain ⟨ms, rfl, h4⟩ := of_isN xs h3
    refine ⟨_, _, if_yes c (asg_to e1 rfl), ⟨⟨S.length, ms, rfl, kp.len, nj, h1, ?_, h4⟩, kp.trans k1⟩⟩
    have h5 : (ms.map iD).length = (ns.map iD).length := h2
    rw [List.length_map, List.length_map] at h5
    omega
  · rw [decide_eq_false hf] at c
    exact ⟨ρ, S, if_no c rfl, V.imp fun _ _ => trivial⟩
/-! ### stretches -/
theorem cut_map {α β : Type} (f : α → β) (l : List α) (lo hi : Option Int) : PI.cutD (l.map f) lo hi = (PI.cutD l lo hi).map f := by
  unfold PI.cutD
  rw [List.length_map, List.map_take, List.map_drop]
theorem fsum_loc {n : Nat} {l : List Nat} (h : S[n]? = some (.lst (l.map iD))) : fSum [.loc n] S = .ok (iD l.sum) S := by
  simp only [fSum, seqD, h, Option.bind_some, ints_iD, sum_iD]
theorem sumcut {n : Nat} {ns : List Nat} {a : Nat} {mlo mhi : M D} (J : Jar S j) (hv : ρ[3]? = some (some (.loc n))) (h : S[n]? = some (.lst (ns.map iD))) (hl : ns.length + ns.length ≤ sizeLine)
    (hlo : ∀ S1, Kp j S S1 → mlo ρ S1 = .ok (iD a) S1) (hhi : ∀ S1, Kp j S S1 → Ev j mhi ρ S1 fun d _ => isN anyV d) : Ev j (mCall fSum (mCons (mSl (mOp opAdd (mVar 3) (mVar 3)) (mSomeO mlo) (mSomeO mhi)) mNil)) ρ S fun d _ => isN anyV d := by
  have x1 : mOp opAdd (mVar 3) (mVar 3) ρ S = .ok (.loc S.length) (S ++ [.lst ((ns ++ ns).map iD)]) := by
    have e : mVar 3 ρ S = .ok (.loc n) S := by unfold mVar; rw [hv]
    refine op_to e e ?_
    simp only [opAdd, h, List.length_map, hl, if_true, PI.newO, List.map_append]
  obtain ⟨d, S2, e2, k2, b, _, rfl⟩ := hhi _ (Kp.app J _)
  have k3 := (Kp.app J [O.lst ((ns ++ ns).map iD)]).trans k2
  have ne : S.length ≠ j := by have := J.lt; omega
  have g := k2.old S.length (.lst ((ns ++ ns).map iD)) ne (by simp)
  have g2 : (S2 ++ [O.lst ((PI.cutD (ns ++ ns) (some (a : Int)) (some (b : Int))).map iD)])[S2.length]? = some (.lst ((PI.cutD (ns ++ ns) (some (a : Int)) (some (b : Int))).map iD)) := by simp
  refine ⟨iD (PI.cutD (ns ++ ns) (some (a : Int)) (some (b : Int))).sum, S2 ++ [O.lst ((PI.cutD (ns ++ ns) (some (a : Int)) (some (b : Int))).map iD)], ?_, k3.trans (Kp.app k2.jar _), _, trivial, rfl⟩
  have el := hlo _ (Kp.app J [O.lst ((ns ++ ns).map iD)])
  unfold mCall mCons mNil mSl mSomeO PI.bindM pureM
  simp only [x1, el, e2, opSl, seqD, g, cut_map, PI.newO, fsum_loc g2]
end
end LawT

end
section
set_option Elab.async false
set_option linter.all false
set_option maxRecDepth 100000
set_option maxHeartbeats 2000000
/-! K08M14: _law_drawn_round, _law_odd_votes -/
namespace LawT
open PySem PySem.Spec PyProof.Rows L2 PI LamX Crew
section
variable {j : Nat} {ρ : Rho} {S : Sto}
noncomputable def tS1 : MS := sPar 5 6 (mCons (mCallF 2 f_law_take (mCons (mVar 0) (mCons (mVar 1) mNil))) (mCons (mOp opAdd (pureM (.int 1)) (mCallF 2 f_law_take (mCons (mVar 0) (mCons (mVar 1) mNil)))) mNil))
noncomputable def tE7 : M D := mCall fSum (mCons (mSl (mOp opAdd (mVar 3) (mVar 3)) (mSomeO (mVar 5)) (mSomeO (mOp opAdd (mVar 5) (mVar 6)))) mNil)
noncomputable def tE8 : M D := mCall fSum (mCons (mSl (mOp opAdd (mVar 3) (mVar 3)) (mSomeO (mVar 5)) (mSomeO (mOp opAdd (mOp opAdd (mVar 5) (pureM (.int 1))) (mCallF 2 f_law_take (mCons (mVar 0) (mCons (mCall fMin2 (mCons (mVar 1) (mCons (pureM (.int 5)) mNil))) mNil)))))) mNil)
noncomputable def tE9 : M D := mCallF 2 f_law_one (mCons (mVar 0) (mCons (mLst (mCons (mVar 8) (mCons (mVar 8) (mCons (mOp opAdd (mVar 8) (pureM (.int 1))) (mCons (mVar 7) (mCons (mCall fSum (mCons (mVar 3) mNil)) (mCons (mOp opAdd (mCall fSum (mCons (mVar 3) mNil)) (pureM (.int 1))) (mCons (pureM (.int 1)) (mCons (pureM (.int 2)) mNil))))))))) mNil))
noncomputable def tER : M D := mTup (mCons (mCall fTuple (mCons (mVar 3) mNil)) (mCons (mCall fMax2 (mCons (pureM (.int 1)) (mCons (mVar 9) mNil))) mNil))
noncomputable def tS : MS := sSeq tS1 (sSeq (sAsg (.name 7) tE7) (sSeq (sAsg (.name 8) tE8) (sSeq (sAsg (.name 9) tE9) (sRet tER))))
theorem addN (a b : Nat) (S : Sto) : opAdd (iD a) (iD b) S = .ok (iD (a + b)) S := by
  simp only [opAdd]
  exact congrArg (fun z => ER.ok (D.int z) S) (Int.natCast_add a b).symm
theorem min2N (a b : Nat) (S : Sto) : fMin2 [iD a, iD b] S = .ok (iD (min a b)) S := by
  simp only [fMin2]
  congr 2
  by_cases h : (b : Int) < (a : Int)
  · rw [if_pos h, Nat.min_eq_right (by omega)]
  · rw [if_neg h, Nat.min_eq_left (by omega)]
theorem max2N (a b : Nat) (S : Sto) : fMax2 [iD a, iD b] S = .ok (iD (max a b)) S := by
  simp only [fMax2]
  congr 2
  by_cases h : (b : Int) > (a : Int)
  · rw [if_pos h, Nat.max_eq_right (by omega)]
  · rw [if_neg h, Nat.max_eq_left (by omega)]
theorem Ev.conOf {p : Nat → Prop} {m : M D} {k : Nat} (J : Jar S j) (e : m ρ S = .ok (iD k) S) (h : p k) : Ev j m ρ S fun d _ => isN p d := .of J e ⟨k, h, rfl⟩
theorem dr_tail {m t f : Nat} {S0 : Sto} (V : VS j m t S0 anyV f ρ S) (h3 : 3 ≤ m) (hm : m ≤ 200) : ∃ ns need S', tS ρ S = .rt (.tup [tN ns, iD need]) S' ∧ Kp j S0 S' ∧ ns.length = m ∧ 1 ≤ need := by
  obtain ⟨⟨n, ns, rfl, g1, g2, g3, g4, g5⟩, kp⟩ := V
  have J := kp.jar
  have hl : ns.length + ns.length ≤ sizeLine := small_le (by omega)
  -- first, size
  obtain ⟨_, S1, e1, k1, a, ha, rfl⟩ := Ev.takeN (v := 0) (m := mVar 1) (ρ := rV j m t (some (.loc n)) (some (iD f)) none none none none none) (top := m) J rfl rfl (by omega) (by omega)
  obtain ⟨_, S2, e2, k2, b, hb, rfl⟩ := Ev.add (p := anyV) (j := j) (ρ := rV j m t (some (.loc n)) (some (iD f)) none none none none none) (a := 1) (ma := pureM (.int 1)) k1.jar rfl (.takeN (v := 0) (m := mVar 1) (top := m) k1.jar rfl rfl (by omega) (by omega)) (fun m hm => trivial)
  have s1 : tS1 (rV j m t (some (.loc n)) (some (iD f)) none none none none none) S = .nx (rV j m t (some (.loc n)) (some (iD f)) (some (iD a)) (some (iD b)) none none none) S2 := by
    have e3 : (mCons (mCallF 2 f_law_take (mCons (mVar 0) (mCons (mVar 1) mNil))) (mCons (mOp opAdd (pureM (.int 1)) (mCallF 2 f_law_take (mCons (mVar 0) (mCons (mVar 1) mNil)))) mNil)) (rV j m t (some (.loc n)) (some (iD f)) none none none none none) S = .ok [iD a, iD b] S2 := by
      exact cons_to e1 (cons_to e2 rfl)
    unfold tS1 sPar bindS
    rw [e3]
    rfl
  have q2 := k2.old n _ g2 (k1.old n _ g2 g3)
  -- stretch
  obtain ⟨_, S3, e3, k3, c, _, rfl⟩ := sumcut (ρ := rV j m t (some (.loc n)) (some (iD f)) (some (iD a)) (some (iD b)) none none none) (mlo := mVar 5) (mhi := mOp opAdd (mVar 5) (mVar 6)) k2.jar rfl q2 hl (fun _ _ => rfl) (fun S1 k1 => .conOf (k := a + b) k1.jar (addN a b S1) trivial)
  have q3 := k3.old n _ g2 q2
  -- few
  obtain ⟨_, S4, e4, k4, d, _, rfl⟩ := sumcut (ρ := rV j m t (some (.loc n)) (some (iD f)) (some (iD a)) (some (iD b)) (some (iD c)) none none) (mlo := mVar 5) (mhi := mOp opAdd (mOp opAdd (mVar 5) (pureM (.int 1))) (mCallF 2 f_law_take (mCons (mVar 0) (mCons (mCall fMin2 (mCons (mVar 1) (mCons (pureM (.int 5)) mNil))) mNil)))) k3.jar rfl q3 hl (fun _ _ => rfl)
    (fun S1 k1 => .add (a := a + 1) k1.jar (addN a 1 S1) (.takeN (top := min m 5) k1.jar rfl (min2N m 5 S1) (by omega) (by omega)) fun _ _ => trivial)
  have q4 := k4.old n _ g2 q3
  -- need
  have ev9 : Ev j tE9 (rV j m t (some (.loc n)) (some (iD f)) (some (iD a)) (some (iD b)) (some (iD c)) (some (iD d)) none) S4 fun d _ => isN anyV d := by
    have fs : ∀ S', Kp j S4 S' → mCall fSum (mCons (mVar 3) mNil) (rV j m t (some (.loc n)) (some (iD f)) (some (iD a)) (some (iD b)) (some (iD c)) (some (iD d)) none) S' = .ok (iD ns.sum) S' := fun S' k' => by
      have := fsum_loc (k'.old n _ g2 q4)
      simp only [rV, fin, sSeq, sNil, sPass, sIf, sRet, sRetN, sExpr, sAsg, bindS, PI.bindM, pureM, mVar, mOp, mTest, mNotT, mAndT, mOrT, mAndV, mOrV, mNotV, mIf, mNeg, mChain, mNil, mCons, mCall, mCallF, bindP, bindPs, Bool.not_true, Bool.not_false, List.getElem?_cons_zero, List.getElem?_cons_succ, List.set_cons_zero, List.set_cons_succ, List.length_cons, List.length_nil, Nat.zero_add, Nat.reduceAdd, if_true, if_false, Bool.false_eq_true, reduceIte]
      exact this
    refine Ev.oneN (n := 8) rfl ?_ (by decide) (by decide)
    refine .all_cons (.conOf (k := d) k4.jar rfl trivial) fun S5 k5 => ?_
    refine .all_cons (.conOf (k := d) k5.jar rfl trivial) fun S6 k6 => ?_
    refine .all_cons (.conOf (k := d + 1) k6.jar (addN d 1 S6) trivial) fun S7 k7 => ?_
    refine .all_cons (.conOf (k := c) k7.jar rfl trivial) fun S8 k8 => ?_
    have k58 := k5.trans (k6.trans (k7.trans k8))
    refine .all_cons (.conOf k8.jar (fs S8 k58) trivial) fun S9 k9 => ?_
    refine .all_cons (.conOf (k := ns.sum + 1) k9.jar ?_ trivial) fun S10 k10 => ?_
    · have := fs S9 (k58.trans k9)
      unfold mOp PI.bindM
      rw [this]
      exact addN _ 1 S9
    refine .all_cons (.con k10.jar 1 trivial) fun S11 k11 => ?_
    exact .all_cons (.con k11.jar 2 trivial) fun S12 k12 => .all_nil k12.jar
  obtain ⟨_, S5, e5, k5, x, _, rfl⟩ := ev9
  have q5 := k5.old n _ g2 q4
  have e6 : tER (rV j m t (some (.loc n)) (some (iD f)) (some (iD a)) (some (iD b)) (some (iD c)) (some (iD d)) (some (iD x))) S5 = .ok (.tup [tN ns, iD (max 1 x)]) S5 := by
    have e7 : fMax2 [.int 1, iD x] S5 = .ok (iD (max 1 x)) S5 := max2N 1 x S5
    simp only [tER, rV, fin, sSeq, sNil, sPass, sIf, sRet, sRetN, sExpr, sAsg, bindS, PI.bindM, pureM, mVar, mOp, mTest, mNotT, mAndT, mOrT, mAndV, mOrV, mNotV, mIf, mNeg, mChain, mNil, mCons, mCall, mCallF, bindP, bindPs, Bool.not_true, Bool.not_false, List.getElem?_cons_zero, List.getElem?_cons_succ, List.set_cons_zero, List.set_cons_succ, List.length_cons, List.length_nil, Nat.zero_add, Nat.reduceAdd, if_true, if_false, Bool.false_eq_true, reduceIte, mTup, ftuple_loc q5, e7, two_le]
  refine ⟨ns, max 1 x, S5, ?_, kp.trans (k1.trans (k2.trans (k3.trans (k4.trans k5)))), g4, by omega⟩
  unfold tS
  exact seq_to s1 (seq_to (asg_to e3 rfl) (seq_to (asg_to e4 rfl) (seq_to (asg_to e5 rfl) (ret_to e6))))
noncomputable def manyE : M D := mCallF 2 f_law_one (mCons (mVar 0) (mCons (mLst (mCons (pureM (.int 3)) (mCons (pureM (.int 4)) (mCons (pureM (.int 5)) (mCons (pureM (.int 6)) (mCons (pureM (.int 7)) (mCons (pureM (.int 9)) (mCons (pureM (.int 12)) (mCons (mOp opAdd (pureM (.int 20)) (mCallF 2 f_law_take (mCons (mVar 0) (mCons (pureM (.int 30)) mNil)))) (mCons (mOp opSub (pureM (.int 200)) (mCallF 2 f_law_take (mCons (mVar 0) (mCons (pureM (.int 60)) mNil)))) (mCons (pureM (.int 200)) mNil))))))))))) mNil))
noncomputable def topE : M D := mCallF 2 f_law_one (mCons (mVar 0) (mCons (mLst (mCons (pureM (.int 2)) (mCons (pureM (.int 3)) (mCons (pureM (.int 4)) (mCons (pureM (.int 10)) (mCons (mOp opPow (pureM (.int 10)) (pureM (.int 9))) mNil)))))) mNil))
noncomputable def votE : M D := mLc (.name 10) [10] (mRange1 (mCons (mVar 1) mNil)) mYes (mCallF 2 f_law_take (mCons (mVar 0) (mCons (mVar 2) mNil)))
noncomputable def forE : M D := mCallF 2 f_law_take (mCons (mVar 0) (mCons (pureM (.int 8)) mNil))
noncomputable def if0 : MS := sIf (mTest (mOp opEq (mVar 4) (pureM (.int 0)))) (sAsg (.name 3) (mOp opMul (mLst (mCons (mCallF 2 f_law_take (mCons (mVar 0) (mCons (mVar 2) mNil))) mNil)) (mVar 1))) sNil
noncomputable def if1 : MS := sIf (mTest (mOp opEq (mVar 4) (pureM (.int 1)))) (sSeq (sAsg (.name 3) (mOp opMul (mLst (mCons (pureM (.int 0)) mNil)) (mVar 1))) (sSetIx (mVar 3) (mCallF 2 f_law_take (mCons (mVar 0) (mCons (mVar 1) mNil))) (mOp opAdd (pureM (.int 1)) (mCallF 2 f_law_take (mCons (mVar 0) (mCons (pureM (.int 5)) mNil)))))) sNil
noncomputable def if2 : MS := sIf (mTest (mOp opEq (mVar 4) (pureM (.int 2)))) (sAsg (.name 3) (mLc (.name 11) [11] (mSeqI (mVar 3)) mYes bigE)) sNil
theorem dr_def : m_law_drawn_round = sSeq (sAsg (.name 1) manyE) (sSeq (sAsg (.name 2) topE) (sSeq (sPar 3 4 (mCons votE (mCons forE mNil))) (sSeq if0 (sSeq if1 (sSeq if2 tS))))) := by
  unfold m_law_drawn_round manyE topE votE forE if0 if1 if2 bigE tS tS1 tE7 tE8 tE9 tER
  rfl
theorem par_to {i j : Nat} {ma : M (List D)} {ρ : Rho} {S S1 : Sto} {d e : D} (h : ma ρ S = .ok [d, e] S1) : sPar i j ma ρ S = .nx ((ρ.set i (some d)).set j (some e)) S1 := by
  unfold sPar bindS
  rw [h]
theorem dr_run {e1 e2 e3 e4 : M D} {i0 i1 i2 t : MS} {ρ0 ρ4 ρ5 ρ6 : Rho} {S S1 S2 S3 S4 S5 S6 S7 S8 : Sto} {m tp v f d : D}
    (h1 : e1 ρ0 S = .ok m S1) (h2 : e2 (ρ0.set 1 (some m)) S1 = .ok tp S2) (h3 : e3 ((ρ0.set 1 (some m)).set 2 (some tp)) S2 = .ok v S3) (h4 : e4 ((ρ0.set 1 (some m)).set 2 (some tp)) S3 = .ok f S4)
    (h5 : i0 ((((ρ0.set 1 (some m)).set 2 (some tp)).set 3 (some v)).set 4 (some f)) S4 = .nx ρ4 S5) (h6 : i1 ρ4 S5 = .nx ρ5 S6) (h7 : i2 ρ5 S6 = .nx ρ6 S7) (h8 : t ρ6 S7 = .rt d S8) :
    sSeq (sAsg (.name 1) e1) (sSeq (sAsg (.name 2) e2) (sSeq (sPar 3 4 (mCons e3 (mCons e4 mNil))) (sSeq i0 (sSeq i1 (sSeq i2 t))))) ρ0 S = .rt d S8 :=
  seq_to (asg_to h1 rfl) (seq_to (asg_to h2 rfl) (seq_to (par_to (cons_to h3 (cons_to h4 rfl))) (seq_to h5 (seq_to h6 (seq_to h7 h8)))))
theorem drawn_ok (J : Jar S j) : ∃ ns need S', f_law_drawn_round [.loc j] S = .ok (.tup [tN ns, iD need]) S' ∧ Kp j S S' ∧ 3 ≤ ns.length ∧ ns.length ≤ 200 ∧ 1 ≤ need := by
  obtain ⟨_, S1, e1, k1, m, ⟨h1, h2⟩, rfl⟩ := dr_many (ρ := [some (.loc j), none, none, none, none, none, none, none, none, none, none, none]) J rfl
  obtain ⟨_, S2, e2, k2, t, ⟨h3, h4⟩, rfl⟩ := dr_top (ρ := [some (.loc j), some (iD m), none, none, none, none, none, none, none, none, none, none]) k1.jar rfl
  obtain ⟨_, S3, e3, k3, ns0, rfl, ⟨n, en, nj, g⟩, h5, h6⟩ := dr_votes (m := m) (f := none) k2.jar h2 h3 h4
  cases en
  obtain ⟨_, S4, e4, k4, f, _, rfl⟩ := Ev.takeN (v := 0) (m := pureM (.int 8)) (ρ := rV j m t none none none none none none none) (top := 8) k3.jar rfl rfl (by decide) (by decide)
  have k12 := k1.trans k2
  have V : VS j m t S smallV f (rV j m t (some (.loc S2.length)) (some (iD f)) none none none none none) S4 := ⟨⟨S2.length, ns0, rfl, k12.len, nj, k4.old _ _ nj g, h5, h6⟩, k12.trans (k3.trans k4)⟩
  obtain ⟨ρ1, S5, f0, V1⟩ := dr_f0 V h2 h3 h4
  obtain ⟨ρ2, S6, f1, V2⟩ := dr_f1 V1 (by omega) h2
  obtain ⟨ρ3, S7, f2, V3⟩ := dr_f2 V2 h2
  obtain ⟨ns, need, S8, f3, k8, l8, n8⟩ := dr_tail V3 h1 h2
  refine ⟨ns, need, S8, ?_, k8, by omega, by omega, n8⟩
  have w := dr_run (e1 := manyE) (e2 := topE) (e3 := votE) (e4 := forE) (i0 := if0) (i1 := if1) (i2 := if2) (t := tS) e1 e2 e3 e4 f0 f1 f2 f3
  rw [← dr_def] at w
  unfold f_law_drawn_round
  exact run_to rfl w rfl
/-! ### _law_odd_votes -/
inductive AskJ (j : Nat) (S : Sto) : D → Prop where
  | tup {xs : List D} : xs.all flat = true → AskJ j S (.tup xs)
  | flat {d : D} : flat d = true → isTup d = false → AskJ j S d
  | list {n : Nat} {xs : List D} : n ≠ j → S[n]? = some (.lst xs) → AskJ j S (.loc n)
theorem AskJ.kp {S' : Sto} {d : D} (A : AskJ j S d) (k : Kp j S S') : AskJ j S' d := by
  cases A with
  | tup h => exact .tup h
  | flat h1 h2 => exact .flat h1 h2
  | list h1 h2 => exact .list h1 (k.old _ _ h1 h2)
theorem AskJ.ask {d : D} (A : AskJ j S d) : AskV S d := by
  cases A with
  | tup h => exact .tup h
  | flat h1 h2 => exact .flat h1 h2
  | list h1 h2 => exact .list h2
theorem cut_len {α : Type} (xs : List α) (lo hi : Option Int) : (PI.cutD xs lo hi).length ≤ xs.length := by
  unfold PI.cutD
  rw [List.length_take, List.length_drop]
  omega
theorem cut_flat {xs : List D} (h : xs.all flat = true) (lo hi : Option Int) : (PI.cutD xs lo hi).all flat = true := by
  unfold PI.cutD
  exact List.all_eq_true.mpr fun x hx => List.all_eq_true.mp h x (List.mem_of_mem_drop (List.mem_of_mem_take hx))
/-- votes[:a] + (x,) + votes[a + 1:] -/
theorem odd_to {xs : List D} {i1 i2 a : Nat} {S1 : Sto} (J : Jar S j) (hv : ρ[i1]? = some (some (.tup xs))) (ha : ρ[i2]? = some (some (iD a))) (hj : ρ[0]? = some (some (.loc j))) (h4 : ∃ d ys, ρ[4]? = some (some d) ∧ IsL j S d ys ∧ (∀ y ∈ ys, flat y = true) ∧ 0 < ys.length ∧ ys.length ≤ 1000) (hf : xs.all flat = true) (hl : xs.length ≤ 450) :
    Ev j (mOp opAdd (mOp opAdd (mSl (mVar i1) mNoO (mSomeO (mVar i2))) (mTup (mCons (mCallF 2 f_law_one (mCons (mVar 0) (mCons (mVar 4) mNil))) mNil))) (mSl (mVar i1) (mSomeO (mOp opAdd (mVar i2) (pureM (.int 1)))) mNoO)) ρ S fun d _ => ∃ zs, d = .tup zs ∧ zs.all flat = true ∧ zs.length ≤ 2 * xs.length + 1 := by
  obtain ⟨d, ys, h5, h6, h7, h8, h9⟩ := h4
  have ev : Ev j (mVar 4) ρ S fun d S' => ∃ ys, ((∀ y ∈ ys, flat y = true) ∧ 0 < ys.length ∧ ys.length ≤ 1000) ∧ IsL j S' d ys := .var J h5 ⟨ys, ⟨h7, h8, h9⟩, h6⟩
  obtain ⟨x, S2, e2, k2, zs, ⟨z1, z2, z3⟩, hx⟩ := Ev.one (P := fun ys => (∀ y ∈ ys, flat y = true) ∧ 0 < ys.length ∧ ys.length ≤ 1000) hj ev (fun _ h => ⟨h.2.1, by omega⟩)
  have fx := z1 x hx
  have e0 : ∀ S, mVar i1 ρ S = .ok (.tup xs) S := fun S => by unfold mVar; rw [hv]
  have e1 : ∀ S, mVar i2 ρ S = .ok (iD a) S := fun S => by unfold mVar; rw [ha]
  have one : (1 : Nat) ≤ sizeLine := small_le (by decide)
  have l1 := cut_len xs none (some (a : Int))
  have l2 := cut_len xs (some ((a : Int) + 1)) none
  have c1 : (PI.cutD xs none (some (a : Int))).length + 1 ≤ sizeLine := small_le (by omega)
  have c2 : (PI.cutD xs none (some (a : Int))).length + 1 + (PI.cutD xs (some ((a : Int) + 1)) none).length ≤ sizeLine := small_le (by omega)
  refine ⟨.tup (PI.cutD xs none (some (a : Int)) ++ [x] ++ PI.cutD xs (some ((a : Int) + 1)) none), S2, ?_, k2, _, rfl, ?_, ?_⟩
  · have t1 : mTup (mCons (mCallF 2 f_law_one (mCons (mVar 0) (mCons (mVar 4) mNil))) mNil) ρ S = .ok (.tup [x]) S2 := by
      exact tup_to (cons_to e2 (rfl : mNil ρ S2 = .ok [] S2)) (by simp)
    generalize mTup (mCons (mCallF 2 f_law_one (mCons (mVar 0) (mCons (mVar 4) mNil))) mNil) = mt at t1 ⊢
    have lx : ([x] : List D).length = 1 := rfl
    simp only [mOp, mSl, mSomeO, mNoO, PI.bindM, pureM, e0, e1, opSl, t1, opAdd, lx, c1, c2, if_true, List.length_append]
  · rw [List.all_append, List.all_append, cut_flat hf, cut_flat hf, List.all_cons, fx]
    rfl
  · rw [List.length_append, List.length_append, List.length_cons, List.length_nil]
    omega
theorem pow_nat {e : Nat} (h : e ≤ 1000) (S : Sto) : opPow (.int 10) (.int (e : Int)) S = .ok (iD (10 ^ e)) S := by
  have := pow_to e h [] S
  simpa only [mOp, PI.bindM, pureM] using this
noncomputable def tS2 : MS := sPar 2 3 (mCons (mCallF 2 f_law_take (mCons (mVar 0) (mCons (mCall fLen (mCons (mVar 1) mNil)) mNil))) (mCons (mCallF 2 f_law_take (mCons (mVar 0) (mCons (mCall fLen (mCons (mVar 1) mNil)) mNil))) mNil))
noncomputable def oddsE : M D := mLst (mCons (mNeg (pureM (.int 1))) (mCons (pureM (.bl true)) (mCons (pureM .non) (mCons (pureM (.str "1")) (mCons (mTup (mCons (pureM (.int 1)) mNil)) (mCons (pureM (.bl false)) (mCons (mNeg (mOp opPow (pureM (.int 10)) (pureM (.int 30)))) mNil)))))))
theorem odds_ok (J : Jar S j) : Ev j oddsE ρ S fun d S' => ∃ ys, IsL j S' d ys ∧ (∀ y ∈ ys, flat y = true) ∧ 0 < ys.length ∧ ys.length ≤ 1000 := by
  have one : (1 : Nat) ≤ sizeLine := small_le (by decide)
  refine (Ev.lst (P := fun xs => (∀ x ∈ xs, flat x = true) ∧ xs.length = 7) ?_ fun xs h => by rw [h.2]; exact small_le (by decide)).imp fun d S' _ ⟨xs, h1, h2⟩ => ⟨xs, h2, h1.1, by omega, by omega⟩
  refine .all_cons (.of J (a := .int (-1)) (by simp only [fin, sSeq, sNil, sPass, sIf, sRet, sRetN, sExpr, sAsg, bindS, PI.bindM, pureM, mVar, mOp, mTest, mNotT, mAndT, mOrT, mAndV, mOrV, mNotV, mIf, mNeg, mChain, mNil, mCons, mCall, mCallF, bindP, bindPs, Bool.not_true, Bool.not_false, List.getElem?_cons_zero, List.getElem?_cons_succ, List.set_cons_zero, List.set_cons_succ, List.length_cons, List.length_nil, Nat.zero_add, Nat.reduceAdd, if_true, if_false, Bool.false_eq_true, reduceIte]) rfl) fun S1 k1 => ?_
  refine .all_cons (.pure k1.jar rfl) fun S2 k2 => ?_
  refine .all_cons (.pure k2.jar rfl) fun S3 k3 => ?_
  refine .all_cons (.pure k3.jar rfl) fun S4 k4 => ?_
  refine .all_cons (.of k4.jar (a := .tup [.int 1]) (by simp only [mTup, fin, sSeq, sNil, sPass, sIf, sRet, sRetN, sExpr, sAsg, bindS, PI.bindM, pureM, mVar, mOp, mTest, mNotT, mAndT, mOrT, mAndV, mOrV, mNotV, mIf, mNeg, mChain, mNil, mCons, mCall, mCallF, bindP, bindPs, Bool.not_true, Bool.not_false, List.getElem?_cons_zero, List.getElem?_cons_succ, List.set_cons_zero, List.set_cons_succ, List.length_cons, List.length_nil, Nat.zero_add, Nat.reduceAdd, if_true, if_false, Bool.false_eq_true, reduceIte, one]) rfl) fun S5 k5 => ?_
  refine .all_cons (.pure k5.jar rfl) fun S6 k6 => ?_
  exact .all_cons (.of k6.jar (neg_to (pow_to 30 (by decide) ρ S6)) rfl) fun S7 k7 => .all_nil k7.jar
end
end LawT

end
section
set_option Elab.async false
set_option linter.all false
set_option maxRecDepth 100000
set_option maxHeartbeats 2000000
/-! K08M15: _law_odd_votes, _law_pool, law -/
namespace LawT
open PySem PySem.Spec PyProof.Rows L2 PI LamX Crew
section
variable {j : Nat} {ρ : Rho} {S : Sto}
noncomputable def othersE : M D := mLst (mCons (mCall fList (mCons (mVar 1) mNil)) (mCons (mSl (mVar 1) mNoO (mSomeO (pureM (.int 2)))) (mCons (mTup mNil) (mCons (pureM .non) (mCons (pureM (.str "111")) (mCons (mOp opAdd (mSl (mOp opMul (mVar 1) (pureM (.int 70))) mNoO (mSomeO (pureM (.int 200)))) (mTup (mCons (pureM (.int 1)) mNil))) (mCons (mOp opMul (mTup (mCons (pureM .non) mNil)) (pureM (.int 201))) (mCons (mSl (mVar 1) mNoO (mSomeO (pureM (.int 1)))) mNil))))))))
theorem mul_tup {xs : List D} {k : Nat} (h : xs ≠ []) (h2 : 2 ≤ k) (h3 : k ≤ 1000) (h4 : xs.length ≤ 1000) (S : Sto) : opMul (.tup xs) (iD k) S = .ok (.tup (List.replicate k xs).flatten) S := by
  have e : xs ≠ [] ∧ (2 : Int) ≤ (k : Int) ∧ (k : Int) ≤ 1000 ∧ xs.length ≤ 1000 := ⟨h, by omega, by omega, h4⟩
  simp only [opMul]
  rw [if_pos e, Int.toNat_natCast]
theorem rep_flat {xs : List D} (h : xs.all flat = true) (k : Nat) : (List.replicate k xs).flatten.all flat = true := by
  refine List.all_eq_true.mpr fun x hx => ?_
  obtain ⟨l, h1, h2⟩ := List.mem_flatten.mp hx
  have := List.eq_of_mem_replicate h1
  subst this
  exact List.all_eq_true.mp h x h2
theorem many_to {i1 : Nat} {xs : List D} (hv : ∀ S, mVar i1 ρ S = .ok (.tup xs) S) (h : xs ≠ []) (h4 : xs.length ≤ 1000) (S : Sto) : mSl (mOp opMul (mVar i1) (pureM (.int 70))) mNoO (mSomeO (pureM (.int 200))) ρ S = .ok (.tup (PI.cutD (List.replicate 70 xs).flatten none (some 200))) S := by
  have m := mul_tup h (show 2 ≤ 70 by decide) (by decide) h4 S
  have m' : opMul (.tup xs) (.int 70) S = .ok (.tup (List.replicate 70 xs).flatten) S := m
  simp only [mSl, mOp, mNoO, mSomeO, PI.bindM, pureM, hv, m', opSl]
theorem cut200 (xs : List D) : (PI.cutD xs none (some 200)).length ≤ 200 := by
  unfold PI.cutD
  rw [List.length_take]
  have := HT.sIx_nat xs.length xs.length 200
  have e : HT.sIx xs.length xs.length (some (200 : Int)) = min 200 xs.length := this
  rw [e]
  omega
/-- what the last list may hold -/
def isA (L : Nat) (d : D) : Prop := (∃ xs, d = .tup xs ∧ xs.all flat = true) ∨ (flat d = true ∧ isTup d = false) ∨ d = .loc L
theorem others_ok {xs : List D} (J : Jar S j) (hv : ρ[1]? = some (some (.tup xs))) (hf : xs.all flat = true) (hne : xs ≠ []) (hl : xs.length ≤ 500) : Ev j othersE ρ S fun d S' => ∃ ys L, IsL j S' d ys ∧ (∀ y ∈ ys, isA L y) ∧ ys.length = 8 ∧ L ≠ j ∧ S'[L]? = some (.lst xs) := by
  have one : (1 : Nat) ≤ sizeLine := small_le (by decide)
  have e0 : ∀ S, mVar 1 ρ S = .ok (.tup xs) S := fun S => by unfold mVar; rw [hv]
  have ne : S.length ≠ j := by have := J.lt; omega
  have sl : ∀ (k : Nat) (S : Sto), mSl (mVar 1) mNoO (mSomeO (pureM (.int (k : Int)))) ρ S = .ok (.tup (PI.cutD xs none (some (k : Int)))) S := fun k S => by
    simp only [mSl, mNoO, mSomeO, PI.bindM, pureM, e0, opSl]
  have ev : Ev j (mCons (mCall fList (mCons (mVar 1) mNil)) (mCons (mSl (mVar 1) mNoO (mSomeO (pureM (.int 2)))) (mCons (mTup mNil) (mCons (pureM .non) (mCons (pureM (.str "111")) (mCons (mOp opAdd (mSl (mOp opMul (mVar 1) (pureM (.int 70))) mNoO (mSomeO (pureM (.int 200)))) (mTup (mCons (pureM (.int 1)) mNil))) (mCons (mOp opMul (mTup (mCons (pureM .non) mNil)) (pureM (.int 201))) (mCons (mSl (mVar 1) mNoO (mSomeO (pureM (.int 1)))) mNil)))))))) ρ S
      fun zs S' => ((∀ z ∈ zs, isA S.length z) ∧ zs.length = 8) ∧ S'[S.length]? = some (.lst xs) := by
    refine .cons (P := fun d S1 => d = .loc S.length ∧ S1[S.length]? = some (.lst xs)) ?_ fun d S1 k1 ⟨hd, g1⟩ => ?_
    · refine ⟨.loc S.length, S ++ [.lst xs], ?_, .app J _, rfl, by simp⟩
      simp only [mCall, mCons, mNil, PI.bindM, pureM, e0, fList, seqD, PI.newO]
    · have r : Ev j (mCons (mSl (mVar 1) mNoO (mSomeO (pureM (.int 2)))) (mCons (mTup mNil) (mCons (pureM .non) (mCons (pureM (.str "111")) (mCons (mOp opAdd (mSl (mOp opMul (mVar 1) (pureM (.int 70))) mNoO (mSomeO (pureM (.int 200)))) (mTup (mCons (pureM (.int 1)) mNil))) (mCons (mOp opMul (mTup (mCons (pureM .non) mNil)) (pureM (.int 201))) (mCons (mSl (mVar 1) mNoO (mSomeO (pureM (.int 1)))) mNil))))))) ρ S1
          fun zs _ => (∀ z ∈ zs, isA S.length z) ∧ zs.length = 7 := by
        refine .all_cons (.of k1.jar (sl 2 S1) (.inl ⟨_, rfl, cut_flat hf _ _⟩)) fun S2 k2 => ?_
        refine .all_cons (.of k2.jar (a := .tup []) (by simp only [mTup, mNil, PI.bindM, pureM, List.length_nil, Nat.zero_le, if_true]) (.inl ⟨_, rfl, rfl⟩)) fun S3 k3 => ?_
        refine .all_cons (.pure k3.jar (.inr (.inl ⟨rfl, rfl⟩))) fun S4 k4 => ?_
        refine .all_cons (.pure k4.jar (.inr (.inl ⟨rfl, rfl⟩))) fun S5 k5 => ?_
        refine .all_cons (.of k5.jar (a := .tup (PI.cutD (List.replicate 70 xs).flatten none (some 200) ++ [.int 1])) ?_ (.inl ⟨_, rfl, ?_⟩)) fun S6 k6 => ?_
        · have c2 := cut200 (List.replicate 70 xs).flatten
          have c3 : (PI.cutD (List.replicate 70 xs).flatten none (some 200)).length + 1 ≤ sizeLine := small_le (by omega)
          have t1 : mTup (mCons (pureM (.int 1)) mNil) ρ S5 = .ok (.tup [.int 1]) S5 := by simp only [mTup, mCons, mNil, PI.bindM, pureM, List.length_cons, List.length_nil, Nat.zero_add, one, if_true]
          have lx : ([D.int 1] : List D).length = 1 := rfl
          refine op_to (many_to e0 hne (by omega) S5) t1 ?_
          simp only [opAdd, lx, c3, if_true]
        · rw [List.all_append, cut_flat (rep_flat hf 70)]
          rfl
        refine .all_cons (.of k6.jar (a := .tup (List.replicate 201 [D.non]).flatten) ?_ (.inl ⟨_, rfl, rep_flat rfl 201⟩)) fun S7 k7 => ?_
        · have t1 : mTup (mCons (pureM .non) mNil) ρ S6 = .ok (.tup [.non]) S6 := by simp only [mTup, mCons, mNil, PI.bindM, pureM, List.length_cons, List.length_nil, Nat.zero_add, one, if_true]
          have m : opMul (.tup [.non]) (.int 201) S6 = _ := mul_tup (xs := [D.non]) (k := 201) (by simp) (by decide) (by decide) (by decide) S6
          exact op_to t1 rfl m
        exact .all_cons (.of k7.jar (sl 1 S7) (.inl ⟨_, rfl, cut_flat hf _ _⟩)) fun S8 k8 => .all_nil k8.jar
      refine r.imp fun zs S' k' ⟨h1, h2⟩ => ⟨⟨fun z hz => ?_, by rw [List.length_cons, h2]⟩, k'.old _ _ ne g1⟩
      rcases List.mem_cons.mp hz with h | h
      · rw [h, hd]; exact .inr (.inr rfl)
      · exact h1 z h
  unfold othersE mLst
  refine ev.bind fun zs S1 k1 ⟨⟨h1, h2⟩, h3⟩ => ?_
  have hs : zs.length ≤ sizeLine := by rw [h2]; exact small_le (by decide)
  simp only [hs, if_true]
  exact (Ev.newO k1.jar).imp fun d S2 k2 ⟨h4, h5⟩ => ⟨zs, S.length, h4, h1, h2, ne, k2.old _ _ ne h3⟩
noncomputable def tE : M D := mCallF 2 f_law_one (mCons (mVar 0) (mCons (mOp opAdd (mLst (mCons (mVar 5) (mCons (mVar 5) (mCons (mVar 6) mNil)))) (mVar 7)) mNil))
theorem odd_ok {xs : List D} (J : Jar S j) (hf : xs.all flat = true) (h0 : 0 < xs.length) (hl : xs.length ≤ 200) : ∃ d S', f_law_odd_votes [.loc j, .tup xs] S = .ok d S' ∧ Kp j S S' ∧ AskJ j S' d := by
  have hne : xs ≠ [] := fun e => by rw [e] at h0; cases h0
  have ln : ∀ (S : Sto) (r : Rho), r[1]? = some (some (.tup xs)) → mCall fLen (mCons (mVar 1) mNil) r S = .ok (iD xs.length) S := fun S r h => by
    simp only [mCall, mCons, mNil, mVar, PI.bindM, pureM, h, fLen, seqD]
  obtain ⟨_, S1, e1, k1, a, ha, rfl⟩ := Ev.takeN (v := 0) (ρ := [some (.loc j), some (.tup xs), none, none, none, none, none, none]) J rfl (ln S _ rfl) h0 (by omega)
  obtain ⟨_, S2, e2, k2, b, hb, rfl⟩ := Ev.takeN (v := 0) (ρ := [some (.loc j), some (.tup xs), none, none, none, none, none, none]) k1.jar rfl (ln S1 _ rfl) h0 (by omega)
  have s2 : tS2 [some (.loc j), some (.tup xs), none, none, none, none, none, none] S = .nx [some (.loc j), some (.tup xs), some (iD a), some (iD b), none, none, none, none] S2 := by
    have e3 : (mCons (mCallF 2 f_law_take (mCons (mVar 0) (mCons (mCall fLen (mCons (mVar 1) mNil)) mNil))) (mCons (mCallF 2 f_law_take (mCons (mVar 0) (mCons (mCall fLen (mCons (mVar 1) mNil)) mNil))) mNil)) [some (.loc j), some (.tup xs), none, none, none, none, none, none] S = .ok [iD a, iD b] S2 := by
      exact cons_to e1 (cons_to e2 rfl)
    unfold tS2 sPar bindS
    rw [e3]
    rfl
  obtain ⟨d4, S3, e4, k3, ys, i4, f4, p4, l4⟩ := odds_ok (ρ := [some (.loc j), some (.tup xs), some (iD a), some (iD b), none, none, none, none]) k2.jar
  obtain ⟨_, S4, e5, k4, z1, rfl, f5, l5⟩ := odd_to (i1 := 1) (i2 := 2) (ρ := [some (.loc j), some (.tup xs), some (iD a), some (iD b), some d4, none, none, none]) (S1 := S3) k3.jar rfl rfl rfl ⟨d4, ys, rfl, i4, f4, p4, l4⟩ hf (by omega)
  obtain ⟨_, S5, e6, k5, z2, rfl, f6, l6⟩ := odd_to (i1 := 5) (i2 := 3) (ρ := [some (.loc j), some (.tup xs), some (iD a), some (iD b), some d4, some (.tup z1), none, none]) (S1 := S4) k4.jar rfl rfl rfl ⟨d4, ys, rfl, i4.kp k4, f4, p4, l4⟩ f5 (by omega)
  obtain ⟨d7, S6, e7, k6, zs, L, i7, f7, l7, nL, g7⟩ := others_ok (ρ := [some (.loc j), some (.tup xs), some (iD a), some (iD b), some d4, some (.tup z1), some (.tup z2), none]) k5.jar rfl hf hne (by omega)
  obtain ⟨n7, rfl, nj7, g8⟩ := i7
  have ev : Ev j (mOp opAdd (mLst (mCons (mVar 5) (mCons (mVar 5) (mCons (mVar 6) mNil)))) (mVar 7)) [some (.loc j), some (.tup xs), some (iD a), some (iD b), some d4, some (.tup z1), some (.tup z2), some (.loc n7)] S6 fun d S' => ∃ ws, ((∀ w ∈ ws, isA L w) ∧ ws.length = 11) ∧ IsL j S' d ws := by
    have three : (3 : Nat) ≤ sizeLine := small_le (by decide)
    have c : 3 + zs.length ≤ sizeLine := small_le (by omega)
    have g9 : (S6 ++ [O.lst [.tup z1, .tup z1, .tup z2]])[n7]? = some (.lst zs) := get_app g8
    have g10 : (S6 ++ [O.lst [.tup z1, .tup z1, .tup z2]])[S6.length]? = some (.lst [.tup z1, .tup z1, .tup z2]) := by simp
    refine ⟨.loc (S6 ++ [O.lst [.tup z1, .tup z1, .tup z2]]).length, S6 ++ [O.lst [.tup z1, .tup z1, .tup z2]] ++ [.lst ([.tup z1, .tup z1, .tup z2] ++ zs)], ?_, (Kp.app k6.jar _).trans (.app (k6.jar.app _) _), [.tup z1, .tup z1, .tup z2] ++ zs, ⟨fun w hw => ?_, by simp; omega⟩, ⟨_, rfl, ?_, by simp⟩⟩
    · have lx : ([D.tup z1, .tup z1, .tup z2] : List D).length = 3 := rfl
      simp only [mOp, mLst, fin, sSeq, sNil, sPass, sIf, sRet, sRetN, sExpr, sAsg, bindS, PI.bindM, pureM, mVar, mOp, mTest, mNotT, mAndT, mOrT, mAndV, mOrV, mNotV, mIf, mNeg, mChain, mNil, mCons, mCall, mCallF, bindP, bindPs, Bool.not_true, Bool.not_false, List.getElem?_cons_zero, List.getElem?_cons_succ, List.set_cons_zero, List.set_cons_succ, List.length_cons, List.length_nil, Nat.zero_add, Nat.reduceAdd, if_true, if_false, Bool.false_eq_true, reduceIte, PI.newO, three, opAdd, g9, g10, lx, c]
    · rcases List.mem_append.mp hw with h | h
      · simp only [List.mem_cons, List.not_mem_nil, or_false] at h
        rcases h with h | h | h
        · exact .inl ⟨_, h, f5⟩
        · exact .inl ⟨_, h, f5⟩
        · exact .inl ⟨_, h, f6⟩
      · exact f7 w h
    · have := k6.jar.lt
      simp
      omega
  obtain ⟨d, S7, e8, k7, ws, ⟨h1, h2⟩, hd⟩ := Ev.one (v := 0) rfl ev (fun ws h => by rw [h.2]; exact ⟨by decide, by decide⟩)
  refine ⟨d, S7, ?_, k1.trans (k2.trans (k3.trans (k4.trans (k5.trans (k6.trans k7))))), ?_⟩
  · have w : m_law_odd_votes [some (.loc j), some (.tup xs), none, none, none, none, none, none] S = .rt d S7 := by
      unfold m_law_odd_votes
      exact seq_to s2 (seq_to (asg_to e4 rfl) (seq_to (asg_to e5 rfl) (seq_to (asg_to e6 rfl) (seq_to (asg_to e7 rfl) (ret_to e8)))))
    unfold f_law_odd_votes
    exact run_to rfl w rfl
  · rcases h1 d hd with ⟨us, rfl, h3⟩ | ⟨h3, h4⟩ | h3
    · exact .tup h3
    · exact .flat h3 h4
    · rw [h3]
      exact .list nL (k7.old _ _ nL g7)
end
end LawT

end
section
set_option Elab.async false
set_option linter.all false
set_option maxRecDepth 100000
set_option maxHeartbeats 2000000
/-! K08M16: _law_pool, law -/
namespace LawT
open PySem PySem.Spec PyProof.Rows L2 PI LamX Crew
def Scr (S : Sto) (is : List Int) : Prop := S[0]? = some (.lst (is.map D.int)) ∨ S[0]? = some (.fro (is.map D.int))
theorem Scr.seq {S : Sto} {is : List Int} (h : Scr S is) : seqD S (.loc 0) = some (is.map D.int) := by
  rcases h with h | h <;> simp only [seqD, h]
theorem Scr.app {S : Sto} {is : List Int} (h : Scr S is) (T : Sto) : Scr (S ++ T) is := h.imp get_app get_app
theorem Scr.kp {j : Nat} {S S' : Sto} {is : List Int} (h : Scr S is) (hj : j ≠ 0) (k : Kp j S S') : Scr S' is := h.imp (k.old _ _ (Ne.symm hj)) (k.old _ _ (Ne.symm hj))
theorem int_at {is : List Int} {k : Nat} (h : k < is.length) : L2.atI (is.map D.int) (k : Int) = some (.int is[k]) := by
  rw [at_nat (by simpa using h)]
  simp
theorem mulN {a b : Nat} (h : b < 4294967296) (S : Sto) : opMul (iD a) (iD b) S = .ok (iD (a * b)) S := by
  simp only [opMul, mulOk_nat h, if_true]
  exact congrArg (fun z => ER.ok (D.int z) S) (Int.natCast_mul a b).symm
theorem modN {a b : Nat} (h : 0 < b) (S : Sto) : opMod (iD a) (iD b) S = .ok (iD (a % b)) S := by
  have e : ¬ ((b : Int) = 0) := by omega
  simp only [opMod, e, if_false, fmod_nat]
section
variable {S : Sto} {is : List Int} {k : Nat}
abbrev rP (k : Nat) (c b m : Option D) : Rho := [some (.loc 0), some (iD k), c, b, m]
noncomputable def pS1 : MS := sIf (mTest (mOp opLt (mVar 1) (mCall fLen (mCons (mVar 0) mNil)))) (sAsg (.name 2) (mOp opIx (mVar 0) (mVar 1))) (sIf (mTest (mOp opNe (mVar 0) (mLst mNil))) (sAsg (.name 2) (mOp opIx (mVar 0) (pureM (.int 0)))) sNil)
theorem lenS (h : Scr S is) (ρ : Rho) (h0 : ρ[0]? = some (some (.loc 0))) : mCall fLen (mCons (mVar 0) mNil) ρ S = .ok (iD is.length) S := by
  simp only [mCall, mCons, mNil, mVar, PI.bindM, pureM, h0, fLen, h.seq, List.length_map]
theorem pool1 (h : Scr S is) : ∃ c T, pS1 (rP k (some (.int 0)) none none) S = .nx (rP k (some (.int c)) none none) (S ++ T) := by
  have l := lenS h (rP k (some (.int 0)) none none) rfl
  have c1 : mTest (mOp opLt (mVar 1) (mCall fLen (mCons (mVar 0) mNil))) (rP k (some (.int 0)) none none) S = .ok (decide (k < is.length)) S := by
    have e : mVar 1 (rP k (some (.int 0)) none none) S = .ok (iD k) S := rfl
    have g : mOp opLt (mVar 1) (mCall fLen (mCons (mVar 0) mNil)) (rP k (some (.int 0)) none none) S = .ok (.bl (decide ((k : Int) < (is.length : Int)))) S := op_to e l rfl
    unfold mTest PI.bindM
    rw [g]
    exact congrArg (fun b => ER.ok b S) (decide_eq_decide.mpr (by omega))
  by_cases hk : k < is.length
  · rw [decide_eq_true hk] at c1
    refine ⟨is[k], [], ?_⟩
    rw [List.append_nil]
    refine if_yes c1 (asg_to (d := .int is[k]) (S1 := S) ?_ rfl)
    simp only [rP, fin, sSeq, sNil, sPass, sIf, sRet, sRetN, sExpr, sAsg, bindS, PI.bindM, pureM, mVar, mOp, mTest, mNotT, mAndT, mOrT, mAndV, mOrV, mNotV, mIf, mNeg, mChain, mNil, mCons, mCall, mCallF, bindP, bindPs, Bool.not_true, Bool.not_false, List.getElem?_cons_zero, List.getElem?_cons_succ, List.set_cons_zero, List.set_cons_succ, List.length_cons, List.length_nil, Nat.zero_add, Nat.reduceAdd, if_true, if_false, Bool.false_eq_true, reduceIte, opIx, h.seq, int_at hk]
  · rw [decide_eq_false hk] at c1
    have ne := ne_nil (S := S ++ [.lst []]) (n := 0) (m := S.length) (is := is) (h.app _) (by simp)
    have e0 : (0 : Nat) ≤ sizeLine := Nat.zero_le _
    have c2 : mTest (mOp opNe (mVar 0) (mLst mNil)) (rP k (some (.int 0)) none none) S = .ok (!is.isEmpty) (S ++ [.lst []]) := by
      simp only [rP, mTest, mOp, PI.bindM, mVar, List.getElem?_cons_zero, mLst, mNil, pureM, List.length_nil, e0, if_true, newO, ne]
    cases is with
    | nil => exact ⟨0, [.lst []], if_no c1 (if_no c2 rfl)⟩
    | cons x xs =>
      refine ⟨x, [.lst []], if_no c1 (if_yes c2 (asg_to (d := .int x) (S1 := S ++ [.lst []]) ?_ rfl))⟩
      have i0 : L2.atI ((x :: xs).map D.int) 0 = some (.int x) := int_at (k := 0) (by simp)
      simp only [rP, fin, sSeq, sNil, sPass, sIf, sRet, sRetN, sExpr, sAsg, bindS, PI.bindM, pureM, mVar, mOp, mTest, mNotT, mAndT, mOrT, mAndV, mOrV, mNotV, mIf, mNeg, mChain, mNil, mCons, mCall, mCallF, bindP, bindPs, Bool.not_true, Bool.not_false, List.getElem?_cons_zero, List.getElem?_cons_succ, List.set_cons_zero, List.set_cons_succ, List.length_cons, List.length_nil, Nat.zero_add, Nat.reduceAdd, if_true, if_false, Bool.false_eq_true, reduceIte, opIx, (h.app [O.lst []]).seq, i0]
theorem pool_big (c : Int) : ∃ b : Nat, (mCall fMax2 (mCons (mCall fInt (mCons (mVar 2) mNil)) (mCons (mCall fInt (mCons (mOp opSub (mNeg (pureM (.int 1))) (mVar 2)) mNil)) mNil))) (rP k (some (.int c)) none none) S = .ok (iD b) S := by
  refine ⟨(if (-1 - c) > c then -1 - c else c).toNat, ?_⟩
  have e : (((if (-1 - c) > c then -1 - c else c).toNat : Nat) : Int) = if (-1 - c) > c then -1 - c else c := Int.toNat_of_nonneg (by split <;> omega)
  simp only [rP, fin, sSeq, sNil, sPass, sIf, sRet, sRetN, sExpr, sAsg, bindS, PI.bindM, pureM, mVar, mOp, mTest, mNotT, mAndT, mOrT, mAndV, mOrV, mNotV, mIf, mNeg, mChain, mNil, mCons, mCall, mCallF, bindP, bindPs, Bool.not_true, Bool.not_false, List.getElem?_cons_zero, List.getElem?_cons_succ, List.set_cons_zero, List.set_cons_succ, List.length_cons, List.length_nil, Nat.zero_add, Nat.reduceAdd, if_true, if_false, Bool.false_eq_true, reduceIte, fint_int, opSub, fMax2]
  exact congrArg (fun z => ER.ok (D.int z) S) e.symm
noncomputable def mixE : M D := mOp opMod (mCall fInt (mCons (mOp opMul (mOp opAdd (mOp opAdd (mOp opAdd (mOp opMod (mCall fInt (mCons (mVar 3) mNil)) (pureM (.int 2147483629))) (mOp opMul (mOp opMul (pureM (.int 7919)) (mVar 1)) (mVar 1))) (mOp opMul (pureM (.int 31)) (mVar 1))) (pureM (.int 17))) (pureM (.int 48271))) mNil)) (pureM (.int 2147483647))
theorem pool_mix {c : D} (hk : k < 4) (b : Nat) : ∃ m : Nat, m < 2147483647 ∧ mixE (rP k (some c) (some (iD b)) none) S = .ok (iD m) S := by
  refine ⟨(b % 2147483629 + 7919 * k * k + 31 * k + 17) * 48271 % 2147483647, Nat.mod_lt _ (by decide), ?_⟩
  have k4 : k < 4294967296 := by omega
  have a1 : opMod (iD b) (.int 2147483629) S = .ok (iD (b % 2147483629)) S := modN (by decide) S
  have a2 : opMul (.int 7919) (iD k) S = .ok (iD (7919 * k)) S := mulN (a := 7919) k4 S
  have a3 := mulN (a := 7919 * k) k4 S
  have a4 : opMul (.int 31) (iD k) S = .ok (iD (31 * k)) S := mulN (a := 31) k4 S
  have a5 := addN (b % 2147483629) (7919 * k * k) S
  have a6 := addN (b % 2147483629 + 7919 * k * k) (31 * k) S
  have a7 : opAdd (iD (b % 2147483629 + 7919 * k * k + 31 * k)) (.int 17) S = .ok (iD (b % 2147483629 + 7919 * k * k + 31 * k + 17)) S := addN _ 17 S
  have a8 : opMul (iD (b % 2147483629 + 7919 * k * k + 31 * k + 17)) (.int 48271) S = .ok (iD ((b % 2147483629 + 7919 * k * k + 31 * k + 17) * 48271)) S := mulN (b := 48271) (by decide) S
  have a9 : opMod (iD ((b % 2147483629 + 7919 * k * k + 31 * k + 17) * 48271)) (.int 2147483647) S = .ok (iD ((b % 2147483629 + 7919 * k * k + 31 * k + 17) * 48271 % 2147483647)) S := modN (b := 2147483647) (by decide) S
  simp only [mixE, rP, fin, sSeq, sNil, sPass, sIf, sRet, sRetN, sExpr, sAsg, bindS, PI.bindM, pureM, mVar, mOp, mTest, mNotT, mAndT, mOrT, mAndV, mOrV, mNotV, mIf, mNeg, mChain, mNil, mCons, mCall, mCallF, bindP, bindPs, Bool.not_true, Bool.not_false, List.getElem?_cons_zero, List.getElem?_cons_succ, List.set_cons_zero, List.set_cons_succ, List.length_cons, List.length_nil, Nat.zero_add, Nat.reduceAdd, if_true, if_false, Bool.false_eq_true, reduceIte, fint_int, a1, a2, a3, a4, a5, a6, a7, a8, a9]
noncomputable def bigE2 : M D := mOp opMul (mVar 3) (mCall fInt (mCons (mAndV (mOp opGe (mVar 3) (mOp opPow (pureM (.int 10)) (pureM (.int 18)))) (mOp opLt (mVar 1) (mCall fLen (mCons (mVar 0) mNil)))) mNil))
theorem pool_and (h : Scr S is) {c m : Option D} (b : Nat) : ∃ x : Bool, mAndV (mOp opGe (mVar 3) (mOp opPow (pureM (.int 10)) (pureM (.int 18)))) (mOp opLt (mVar 1) (mCall fLen (mCons (mVar 0) mNil))) (rP k c (some (iD b)) m) S = .ok (.bl x) S := by
  have p : mOp opPow (pureM (.int 10)) (pureM (.int 18)) (rP k c (some (iD b)) m) S = .ok (iD (10 ^ 18)) S := pow_to 18 (by decide) _ S
  have l := lenS h (rP k c (some (iD b)) m) rfl
  have e1 : mVar 3 (rP k c (some (iD b)) m) S = .ok (iD b) S := rfl
  have e2 : mVar 1 (rP k c (some (iD b)) m) S = .ok (iD k) S := rfl
  have g : mOp opGe (mVar 3) (mOp opPow (pureM (.int 10)) (pureM (.int 18))) (rP k c (some (iD b)) m) S = .ok (.bl (decide (((10 ^ 18 : Nat) : Int) ≤ (b : Int)))) S := by
    exact op_to e1 p rfl
  have g2 : mOp opLt (mVar 1) (mCall fLen (mCons (mVar 0) mNil)) (rP k c (some (iD b)) m) S = .ok (.bl (decide ((k : Int) < (is.length : Int)))) S := by
    exact op_to e2 l rfl
  generalize decide (((10 ^ 18 : Nat) : Int) ≤ (b : Int)) = q at g
  rw [mAndV, PI.bindM, g]
  cases q with
  | true => exact ⟨_, g2⟩
  | false => exact ⟨false, rfl⟩
theorem pool_bigE (h : Scr S is) {c m : Option D} (b : Nat) : ∃ x : Nat, bigE2 (rP k c (some (iD b)) m) S = .ok (iD x) S := by
  obtain ⟨x, hx⟩ := pool_and (k := k) (c := c) (m := m) h b
  have e1 : mVar 3 (rP k c (some (iD b)) m) S = .ok (iD b) S := rfl
  have m0 : opMul (iD b) (.int 0) S = .ok (iD (b * 0)) S := mulN (b := 0) (by decide) S
  have m1 : opMul (iD b) (.int 1) S = .ok (iD (b * 1)) S := mulN (b := 1) (by decide) S
  cases x with
  | true =>
    refine ⟨b * 1, ?_⟩
    exact op_to e1 (call_to (cons_to hx rfl) rfl) m1
  | false =>
    refine ⟨b * 0, ?_⟩
    exact op_to e1 (call_to (cons_to hx rfl) rfl) m0
theorem pool_ok (h : Scr S is) (hk : k < 4) : ∃ j S', f_law_pool [.loc 0, iD k] S = .ok (.loc j) S' ∧ Jar S' j ∧ j ≠ 0 ∧ Scr S' is := by
  obtain ⟨c, T, h1⟩ := pool1 (k := k) h
  have hS := h.app T
  obtain ⟨b, h2⟩ := pool_big (k := k) (S := S ++ T) c
  obtain ⟨m, hm, h3⟩ := pool_mix (S := S ++ T) (c := .int c) hk b
  obtain ⟨x, h4⟩ := pool_bigE (k := k) (c := some (.int c)) (m := some (iD m)) hS b
  have l0 : 0 < S.length := by
    rcases h with h | h
    · exact (List.getElem?_eq_some_iff.mp h).1
    · exact (List.getElem?_eq_some_iff.mp h).1
  refine ⟨(S ++ T).length, S ++ T ++ [.lst [iD x, iD m]], ?_, ⟨x, m, hm, by simp⟩, by rw [List.length_append]; omega, hS.app _⟩
  have h5 : mLst (mCons bigE2 (mCons (mVar 4) mNil)) (rP k (some (.int c)) (some (iD b)) (some (iD m))) (S ++ T) = .ok (.loc (S ++ T).length) (S ++ T ++ [.lst [iD x, iD m]]) := by
    exact lst_to (cons_to h4 (cons_to rfl rfl)) (by simp)
  have w : m_law_pool [some (.loc 0), some (iD k), none, none, none] S = .rt (.loc (S ++ T).length) (S ++ T ++ [.lst [iD x, iD m]]) := by
    unfold m_law_pool
    exact seq_to (asg_to (d := .int 0) (S1 := S) rfl rfl) (seq_to h1 (seq_to (asg_to h2 rfl) (seq_to (asg_to h3 rfl) (ret_to h5))))
  unfold f_law_pool
  exact run_to rfl w rfl
end
/-! ### law -/
theorem forL_consW {it : IterD} {p : Pat} {b : MS} {d : D} {ds : List D} {ρ ρ1 ρ2 : Rho} {S S2 : Sto} {r : SR} (ok : it.okB S) (h1 : bindP p d ρ = some ρ1) (h2 : b ρ1 S = .nx ρ2 S2) (h3 : forL it p b ds ρ2 S2 = r) : forL it p b (d :: ds) ρ S = r := by
  rw [forL, if_pos ok, h1]
  simp only [h2]
  exact h3
theorem forL_invW {it : IterD} {p : Pat} {b : MS} (I : Rho → Sto → Prop) (ok : ∀ ρ S, I ρ S → it.okB S) : ∀ (ds : List D) (ρ : Rho) (S : Sto), I ρ S → (∀ d ∈ ds, ∀ ρ S, I ρ S → ∃ ρ1 ρ2 S2, bindP p d ρ = some ρ1 ∧ b ρ1 S = .nx ρ2 S2 ∧ I ρ2 S2) →
    ∃ ρ' S', forL it p b ds ρ S = .nx ρ' S' ∧ I ρ' S'
  | [], ρ, S, h, _ => ⟨ρ, S, by rw [forL, if_pos (ok ρ S h)], h⟩
  | d :: ds, ρ, S, h, k => by
    obtain ⟨ρ1, ρ2, S2, h1, h2, h3⟩ := k d (List.mem_cons_self ..) ρ S h
    obtain ⟨ρ', S', h4, h5⟩ := forL_invW I ok ds ρ2 S2 h3 (fun x hx => k x (List.mem_cons_of_mem _ hx))
    exact ⟨ρ', S', forL_consW (ok ρ S h) h1 h2 h4, h5⟩
section
variable {j : Nat} {ρ : Rho} {S : Sto}
def isO (d : D) : Prop := flat d = true ∧ good 7 d = true
theorem isO_int (i : Int) : isO (.int i) := ⟨rfl, rfl⟩
theorem sh_one : SeqAt.shaped (PyData.str ("1" : Str)) = true := by decide +kernel
noncomputable def oddE : M D := mCallF 2 f_law_one (mCons (mVar 2) (mCons (mLst (mCons (pureM (.int 0)) (mCons (mNeg (pureM (.int 1))) (mCons (pureM (.bl true)) (mCons (pureM .non) (mCons (pureM (.str "1")) (mCons (mTup (mCons (pureM (.int 1)) mNil)) (mCons (mNeg (mOp opPow (pureM (.int 10)) (pureM (.int 30)))) mNil)))))))) mNil))
theorem oddE_ok (J : Jar S j) (hv : ρ[2]? = some (some (.loc j))) : Ev j oddE ρ S fun d _ => isO d := by
  have one : (1 : Nat) ≤ sizeLine := small_le (by decide)
  refine (Ev.one (P := fun xs => (∀ x ∈ xs, isO x) ∧ xs.length = 7) hv (Ev.lst ?_ fun xs h => by rw [h.2]; exact small_le (by decide)) fun xs h => by rw [h.2]; exact ⟨by decide, by decide⟩).imp fun d _ _ ⟨xs, h1, h2⟩ => h1.1 d h2
  refine .all_cons (.pure J (isO_int _)) fun S1 k1 => ?_
  refine .all_cons (.of k1.jar (a := .int (-1)) (by simp only [fin, sSeq, sNil, sPass, sIf, sRet, sRetN, sExpr, sAsg, bindS, PI.bindM, pureM, mVar, mOp, mTest, mNotT, mAndT, mOrT, mAndV, mOrV, mNotV, mIf, mNeg, mChain, mNil, mCons, mCall, mCallF, bindP, bindPs, Bool.not_true, Bool.not_false, List.getElem?_cons_zero, List.getElem?_cons_succ, List.set_cons_zero, List.set_cons_succ, List.length_cons, List.length_nil, Nat.zero_add, Nat.reduceAdd, if_true, if_false, Bool.false_eq_true, reduceIte]) (isO_int _)) fun S2 k2 => ?_
  refine .all_cons (.pure k2.jar ⟨rfl, rfl⟩) fun S3 k3 => ?_
  refine .all_cons (.pure k3.jar ⟨rfl, rfl⟩) fun S4 k4 => ?_
  refine .all_cons (.pure k4.jar ⟨rfl, sh_one⟩) fun S5 k5 => ?_
  refine .all_cons (.of k5.jar (a := .tup [.int 1]) (by simp only [mTup, fin, sSeq, sNil, sPass, sIf, sRet, sRetN, sExpr, sAsg, bindS, PI.bindM, pureM, mVar, mOp, mTest, mNotT, mAndT, mOrT, mAndV, mOrV, mNotV, mIf, mNeg, mChain, mNil, mCons, mCall, mCallF, bindP, bindPs, Bool.not_true, Bool.not_false, List.getElem?_cons_zero, List.getElem?_cons_succ, List.set_cons_zero, List.set_cons_succ, List.length_cons, List.length_nil, Nat.zero_add, Nat.reduceAdd, if_true, if_false, Bool.false_eq_true, reduceIte, one]) ⟨rfl, ?_⟩) fun S6 k6 => ?_
  · show (decide (([D.int 1] : List D).length ≤ sizeLine) && [D.int 1].all (good 6)) = true
    rw [decide_eq_true (show ([D.int 1] : List D).length ≤ sizeLine from one)]
    rfl
  exact .all_cons (.of k6.jar (neg_to (pow_to 30 (by decide) ρ S6)) (isO_int _)) fun S7 k7 => .all_nil k7.jar
theorem flat_tN (ns : List Nat) : AskV S (tN ns) := .tup (flat_nat ns)
theorem asked_at {i1 i2 : Nat} {d n : D} (J : Jar S j) (h1 : ρ[i1]? = some (some d)) (h2 : ρ[i2]? = some (some n)) (A : AskV S d) (O : isO n) : ∃ S', mNotT (mTest (mCallF 2 f_law_asked (mCons (mVar i1) (mCons (mVar i2) mNil)))) ρ S = .ok false S' ∧ Kp j S S' := by
  obtain ⟨T, h3⟩ := asked_ok A O.1 O.2
  refine ⟨S ++ T, ?_, .app J T⟩
  simp only [mNotT, mTest, mCallF, mCons, mNil, mVar, PI.bindM, pureM, h1, h2, List.length_cons, List.length_nil, Nat.zero_add, Nat.reduceAdd, if_true, h3, Bool.not_true]
noncomputable def gB : MS := sIf (mNotT (mTest (mCallF 2 f_law_asked (mCons (mVar 7) (mCons (mVar 8) mNil))))) (sRet (pureM (.bl false))) sNil
abbrev rL (k j g : Nat) (ns : List Nat) (need : Nat) (o a7 a8 a9 : Option D) : Rho := [some (.loc 0), some (iD k), some (.loc j), some (iD g), some (tN ns), some (iD need), o, a7, a8, a9]
noncomputable def gI : M IterD := mSeqI (mLst (mCons (mTup (mCons (mVar 4) (mCons (mVar 5) mNil))) (mCons (mTup (mCons (mVar 4) (mCons (mOp opAdd (pureM (.int 1)) (mCallF 2 f_law_take (mCons (mVar 2) (mCons (pureM (.int 4)) mNil)))) mNil))) (mCons (mTup (mCons (mVar 4) (mCons (mVar 6) mNil))) mNil))))
theorem gI_ok {k g need : Nat} {ns : List Nat} {o : D} {a7 a8 a9 : Option D} (J : Jar S j) (O : isO o) : ∃ S1 n xs, gI (rL k j g ns need (some o) a7 a8 a9) S = .ok ⟨xs, [(n, xs)]⟩ S1 ∧ Kp j S S1 ∧ n ≠ j ∧ S1[n]? = some (.lst xs) ∧ ∀ x ∈ xs, ∃ w, isO w ∧ x = .tup [tN ns, w] := by
  have ev : Ev j (mLst (mCons (mTup (mCons (mVar 4) (mCons (mVar 5) mNil))) (mCons (mTup (mCons (mVar 4) (mCons (mOp opAdd (pureM (.int 1)) (mCallF 2 f_law_take (mCons (mVar 2) (mCons (pureM (.int 4)) mNil)))) mNil))) (mCons (mTup (mCons (mVar 4) (mCons (mVar 6) mNil))) mNil)))) (rL k j g ns need (some o) a7 a8 a9) S
      fun d S' => ∃ xs, ((∀ x ∈ xs, ∃ w, isO w ∧ x = .tup [tN ns, w]) ∧ xs.length = 3) ∧ IsL j S' d xs := by
    refine Ev.lst ?_ fun xs h => by rw [h.2]; exact small_le (by decide)
    refine .all_cons (.of J (a := .tup [tN ns, iD need]) (by simp only [rL, mTup, fin, sSeq, sNil, sPass, sIf, sRet, sRetN, sExpr, sAsg, bindS, PI.bindM, pureM, mVar, mOp, mTest, mNotT, mAndT, mOrT, mAndV, mOrV, mNotV, mIf, mNeg, mChain, mNil, mCons, mCall, mCallF, bindP, bindPs, Bool.not_true, Bool.not_false, List.getElem?_cons_zero, List.getElem?_cons_succ, List.set_cons_zero, List.set_cons_succ, List.length_cons, List.length_nil, Nat.zero_add, Nat.reduceAdd, if_true, if_false, Bool.false_eq_true, reduceIte, two_le]) ⟨_, isO_int _, rfl⟩) fun S1 k1 => ?_
    refine .all_cons ?_ fun S2 k2 => ?_
    · obtain ⟨_, S2, e2, k2, w, _, rfl⟩ := Ev.add (p := anyV) (j := j) (ρ := rL k j g ns need (some o) a7 a8 a9) (a := 1) (ma := pureM (.int 1)) k1.jar rfl (.takeN (v := 2) (m := pureM (.int 4)) (top := 4) k1.jar rfl rfl (by decide) (by decide)) (fun m hm => trivial)
      refine ⟨.tup [tN ns, iD w], S2, ?_, k2, _, isO_int _, rfl⟩
      generalize (mOp opAdd (pureM (.int 1)) (mCallF 2 f_law_take (mCons (mVar 2) (mCons (pureM (.int 4)) mNil)))) = mt at e2 ⊢
      have e3 : mVar 4 (rL k j g ns need (some o) a7 a8 a9) S1 = .ok (tN ns) S1 := rfl
      simp only [mTup, mCons, mNil, PI.bindM, pureM, e3, e2, List.length_cons, List.length_nil, Nat.zero_add, Nat.reduceAdd, two_le, if_true]
    · exact .all_cons (.of k2.jar (a := .tup [tN ns, o]) (by simp only [rL, mTup, fin, sSeq, sNil, sPass, sIf, sRet, sRetN, sExpr, sAsg, bindS, PI.bindM, pureM, mVar, mOp, mTest, mNotT, mAndT, mOrT, mAndV, mOrV, mNotV, mIf, mNeg, mChain, mNil, mCons, mCall, mCallF, bindP, bindPs, Bool.not_true, Bool.not_false, List.getElem?_cons_zero, List.getElem?_cons_succ, List.set_cons_zero, List.set_cons_succ, List.length_cons, List.length_nil, Nat.zero_add, Nat.reduceAdd, if_true, if_false, Bool.false_eq_true, reduceIte, two_le]) ⟨_, O, rfl⟩) fun S3 k3 => .all_nil k3.jar
  obtain ⟨_, S1, e1, k1, xs, ⟨h1, _⟩, n, rfl, h3, h4⟩ := ev
  refine ⟨S1, n, xs, ?_, k1, h3, h4, h1⟩
  rw [gI, mSeqI, PI.bindM, e1]
  simp only [seqIter, seqD, h4]
theorem three_ok {k g need : Nat} {ns : List Nat} {o : D} {a7 a8 a9 : Option D} (J : Jar S j) (O : isO o) : ∃ a7' a8' S', sFor (.tup [.name 7, .name 8]) gI gB (rL k j g ns need (some o) a7 a8 a9) S = .nx (rL k j g ns need (some o) a7' a8' a9) S' ∧ Kp j S S' := by
  obtain ⟨S1, n, xs, e1, k1, h3, h4, h1⟩ := gI_ok (k := k) (g := g) (need := need) (ns := ns) (a7 := a7) (a8 := a8) (a9 := a9) J O
  obtain ⟨ρ', S', f1, ⟨b7, b8, rfl⟩, kk, _⟩ := forL_invW (it := ⟨xs, [(n, xs)]⟩) (p := .tup [.name 7, .name 8]) (b := gB) (fun ρ S2 => (∃ b7 b8, ρ = rL k j g ns need (some o) b7 b8 a9) ∧ Kp j S S2 ∧ S2[n]? = some (.lst xs)) (fun ρ S2 ⟨_, _, h⟩ p hp => by
    rw [List.mem_singleton] at hp
    subst hp
    exact .inl h) xs _ S1 ⟨⟨a7, a8, rfl⟩, k1, h4⟩ (fun d hd ρ S2 ⟨⟨b7, b8, er⟩, kk, hn⟩ => by
    obtain ⟨w, hw, rfl⟩ := h1 d hd
    subst er
    obtain ⟨S3, e3, k3⟩ := asked_at (i1 := 7) (i2 := 8) (ρ := rL k j g ns need (some o) (some (tN ns)) (some w) a9) kk.jar rfl rfl (flat_tN ns) hw
    exact ⟨_, _, S3, rfl, if_no e3 rfl, ⟨_, _, rfl⟩, kk.trans k3, k3.old _ _ h3 hn⟩)
  exact ⟨b7, b8, S', for_to e1 f1, kk⟩
theorem or_to {a b : M Bool} {ρ : Rho} {S S1 : Sto} {r : ER Bool} (h : a ρ S = .ok false S1) (h2 : b ρ S1 = r) : mOrT a b ρ S = r := by
  unfold mOrT PI.bindM
  rw [h]
  exact h2
noncomputable def lastC : M Bool := mOrT (mNotT (mTest (mCallF 2 f_law_asked (mCons (mVar 9) (mCons (mVar 6) mNil))))) (mOrT (mNotT (mTest (mCallF 2 f_law_asked (mCons (mVar 9) (mCons (mVar 5) mNil))))) (mNotT (mTest (mCallF 2 f_law_asked (mCons (mSl (mOp opMul (mVar 4) (pureM (.int 70))) mNoO (mSomeO (pureM (.int 200)))) (mCons (mVar 5) mNil))))))
theorem last_ok {k g need : Nat} {ns : List Nat} {o od : D} {a7 a8 : Option D} (J : Jar S j) (O : isO o) (A : AskJ j S od) (h0 : 0 < ns.length) (hl : ns.length ≤ 200) : ∃ S', lastC (rL k j g ns need (some o) a7 a8 (some od)) S = .ok false S' ∧ Kp j S S' := by
  obtain ⟨S1, e1, k1⟩ := asked_at (i1 := 9) (i2 := 6) (ρ := rL k j g ns need (some o) a7 a8 (some od)) J rfl rfl A.ask O
  obtain ⟨S2, e2, k2⟩ := asked_at (i1 := 9) (i2 := 5) (n := iD need) (ρ := rL k j g ns need (some o) a7 a8 (some od)) k1.jar rfl rfl (A.kp k1).ask (isO_int _)
  have hne : ns.map iD ≠ [] := fun e => by
    have := congrArg List.length e
    rw [List.length_map, List.length_nil] at this
    omega
  have m := many_to (i1 := 4) (ρ := rL k j g ns need (some o) a7 a8 (some od)) (xs := ns.map iD) (fun _ => rfl) hne (by simp; omega) S2
  obtain ⟨T, e3⟩ := asked_ok (S := S2) (d := .tup (PI.cutD (List.replicate 70 (ns.map iD)).flatten none (some 200))) (n := iD need) (.tup (cut_flat (rep_flat (flat_nat ns) 70) _ _)) rfl rfl
  have e4 : mNotT (mTest (mCallF 2 f_law_asked (mCons (mSl (mOp opMul (mVar 4) (pureM (.int 70))) mNoO (mSomeO (pureM (.int 200)))) (mCons (mVar 5) mNil)))) (rL k j g ns need (some o) a7 a8 (some od)) S2 = .ok false (S2 ++ T) := by
    generalize mSl (mOp opMul (mVar 4) (pureM (.int 70))) mNoO (mSomeO (pureM (.int 200))) = mt at m ⊢
    have e5 : mVar 5 (rL k j g ns need (some o) a7 a8 (some od)) S2 = .ok (iD need) S2 := rfl
    simp only [mNotT, mTest, mCallF, mCons, mNil, PI.bindM, pureM, m, e5, List.length_cons, List.length_nil, Nat.zero_add, Nat.reduceAdd, if_true, e3, Bool.not_true]
  refine ⟨S2 ++ T, ?_, k1.trans (k2.trans (.app k2.jar T))⟩
  exact or_to e1 (or_to e2 e4)
noncomputable def goB : MS := sSeq (sAsg (.tup [.name 4, .name 5]) (mCallF 1 f_law_drawn_round (mCons (mVar 2) mNil))) (sSeq (sAsg (.name 6) oddE) (sSeq (sFor (.tup [.name 7, .name 8]) gI gB) (sSeq (sAsg (.name 9) (mCallF 2 f_law_odd_votes (mCons (mVar 2) (mCons (mVar 4) mNil)))) (sIf lastC (sRet (pureM (.bl false))) sNil))))
def GoI (k j : Nat) (ρ : Rho) : Prop := ∃ g a4 a5 a6 a7 a8 a9, ρ = [some (.loc 0), some (iD k), some (.loc j), g, a4, a5, a6, a7, a8, a9]
theorem go_ok {k g : Nat} {a4 a5 a6 a7 a8 a9 : Option D} (J : Jar S j) : ∃ ρ' S', goB [some (.loc 0), some (iD k), some (.loc j), some (iD g), a4, a5, a6, a7, a8, a9] S = .nx ρ' S' ∧ GoI k j ρ' ∧ Kp j S S' := by
  obtain ⟨ns, need, S1, e1, k1, l1, l2, n1⟩ := drawn_ok J
  have x1 : mCallF 1 f_law_drawn_round (mCons (mVar 2) mNil) [some (.loc 0), some (iD k), some (.loc j), some (iD g), a4, a5, a6, a7, a8, a9] S = .ok (.tup [tN ns, iD need]) S1 := by
    simp only [fin, sSeq, sNil, sPass, sIf, sRet, sRetN, sExpr, sAsg, bindS, PI.bindM, pureM, mVar, mOp, mTest, mNotT, mAndT, mOrT, mAndV, mOrV, mNotV, mIf, mNeg, mChain, mNil, mCons, mCall, mCallF, bindP, bindPs, Bool.not_true, Bool.not_false, List.getElem?_cons_zero, List.getElem?_cons_succ, List.set_cons_zero, List.set_cons_succ, List.length_cons, List.length_nil, Nat.zero_add, Nat.reduceAdd, if_true, if_false, Bool.false_eq_true, reduceIte]
    exact e1
  obtain ⟨o, S2, e2, k2, O⟩ := oddE_ok (ρ := rL k j g ns need a6 a7 a8 a9) k1.jar rfl
  obtain ⟨b7, b8, S3, e3, k3⟩ := three_ok (k := k) (g := g) (need := need) (ns := ns) (a7 := a7) (a8 := a8) (a9 := a9) k2.jar O
  obtain ⟨od, S4, e4, k4, A⟩ := odd_ok (xs := ns.map iD) k3.jar (flat_nat ns) (by simp; omega) (by simp; omega)
  have x4 : mCallF 2 f_law_odd_votes (mCons (mVar 2) (mCons (mVar 4) mNil)) (rL k j g ns need (some o) b7 b8 a9) S3 = .ok od S4 := by
    simp only [rL, fin, sSeq, sNil, sPass, sIf, sRet, sRetN, sExpr, sAsg, bindS, PI.bindM, pureM, mVar, mOp, mTest, mNotT, mAndT, mOrT, mAndV, mOrV, mNotV, mIf, mNeg, mChain, mNil, mCons, mCall, mCallF, bindP, bindPs, Bool.not_true, Bool.not_false, List.getElem?_cons_zero, List.getElem?_cons_succ, List.set_cons_zero, List.set_cons_succ, List.length_cons, List.length_nil, Nat.zero_add, Nat.reduceAdd, if_true, if_false, Bool.false_eq_true, reduceIte]
    exact e4
  obtain ⟨S5, e5, k5⟩ := last_ok (k := k) (g := g) (need := need) (ns := ns) (a7 := b7) (a8 := b8) k4.jar O A (by omega) l2
  refine ⟨rL k j g ns need (some o) b7 b8 (some od), S5, ?_, ⟨_, _, _, _, _, _, _, rfl⟩, k1.trans (k2.trans (k3.trans (k4.trans k5)))⟩
  unfold goB
  exact seq_to (asg_to x1 rfl) (seq_to (asg_to e2 rfl) (seq_to e3 (seq_to (asg_to x4 rfl) (if_no e5 rfl))))
theorem four_r (ρ : Rho) (S : Sto) : mRange1 (mCons (pureM (.int 4)) mNil) ρ S = .ok ⟨rangeD ((0 : Nat) : Int) 4, []⟩ S := range_to (n := 4) rfl (small_le (by decide))
theorem turn_ok {is : List Int} {k : Nat} {a2 a3 a4 a5 a6 a7 a8 a9 : Option D} (h : Scr S is) (hk : k < 4) : ∃ ρ' S', sSeq (sAsg (.name 2) (mCallF 2 f_law_pool (mCons (mVar 0) (mCons (mVar 1) mNil)))) (sFor (.name 3) (mRange1 (mCons (pureM (.int 4)) mNil)) goB) [some (.loc 0), some (iD k), a2, a3, a4, a5, a6, a7, a8, a9] S = .nx ρ' S' ∧ (∃ j, GoI k j ρ') ∧ Scr S' is := by
  obtain ⟨j, S1, e1, J, j0, h1⟩ := pool_ok h hk
  have x1 : mCallF 2 f_law_pool (mCons (mVar 0) (mCons (mVar 1) mNil)) [some (.loc 0), some (iD k), a2, a3, a4, a5, a6, a7, a8, a9] S = .ok (.loc j) S1 := by
    simp only [fin, sSeq, sNil, sPass, sIf, sRet, sRetN, sExpr, sAsg, bindS, PI.bindM, pureM, mVar, mOp, mTest, mNotT, mAndT, mOrT, mAndV, mOrV, mNotV, mIf, mNeg, mChain, mNil, mCons, mCall, mCallF, bindP, bindPs, Bool.not_true, Bool.not_false, List.getElem?_cons_zero, List.getElem?_cons_succ, List.set_cons_zero, List.set_cons_succ, List.length_cons, List.length_nil, Nat.zero_add, Nat.reduceAdd, if_true, if_false, Bool.false_eq_true, reduceIte]
    exact e1
  obtain ⟨ρ', S', f1, g1, k1⟩ := forL_inv (its := rangeD ((0 : Nat) : Int) 4) (p := .name 3) (b := goB) (fun ρ S2 => GoI k j ρ ∧ Kp j S1 S2) (rangeD ((0 : Nat) : Int) 4) [some (.loc 0), some (iD k), some (.loc j), a3, a4, a5, a6, a7, a8, a9] S1 ⟨⟨_, _, _, _, _, _, _, rfl⟩, .refl J⟩ (fun d hd ρ S2 ⟨⟨g, b4, b5, b6, b7, b8, b9, er⟩, k2⟩ => by
    obtain ⟨g', _, _, rfl⟩ := mem_rangeD hd
    subst er
    obtain ⟨ρ2, S3, e3, g3, k3⟩ := go_ok (k := k) (g := g') (a4 := b4) (a5 := b5) (a6 := b6) (a7 := b7) (a8 := b8) (a9 := b9) k2.jar
    exact ⟨_, ρ2, S3, rfl, e3, g3, k2.trans k3⟩)
  exact ⟨ρ', S', seq_to (asg_to x1 rfl) (for_to (four_r _ _) f1), ⟨j, g1⟩, h1.kp j0 k1⟩
def LaI (ρ : Rho) : Prop := ∃ a1 a2 a3 a4 a5 a6 a7 a8 a9, ρ = [some (.loc 0), a1, a2, a3, a4, a5, a6, a7, a8, a9]
theorem law_ok {is : List Int} (h : Scr S is) : ∃ S', f_law [.loc 0] S = .ok (.bl true) S' := by
  obtain ⟨ρ', S', f1, _, _⟩ := forL_inv (its := rangeD ((0 : Nat) : Int) 4) (p := .name 1) (b := sSeq (sAsg (.name 2) (mCallF 2 f_law_pool (mCons (mVar 0) (mCons (mVar 1) mNil)))) (sFor (.name 3) (mRange1 (mCons (pureM (.int 4)) mNil)) goB)) (fun ρ S2 => LaI ρ ∧ Scr S2 is) (rangeD ((0 : Nat) : Int) 4) [some (.loc 0), none, none, none, none, none, none, none, none, none] S ⟨⟨_, _, _, _, _, _, _, _, _, rfl⟩, h⟩ (fun d hd ρ S2 ⟨⟨a1, a2, a3, a4, a5, a6, a7, a8, a9, er⟩, h2⟩ => by
    obtain ⟨k, _, hk, rfl⟩ := mem_rangeD hd
    subst er
    obtain ⟨ρ2, S3, e3, ⟨j, g, b4, b5, b6, b7, b8, b9, er⟩, h3⟩ := turn_ok (k := k) (a2 := a2) (a3 := a3) (a4 := a4) (a5 := a5) (a6 := a6) (a7 := a7) (a8 := a8) (a9 := a9) h2 (by omega)
    subst er
    exact ⟨_, _, S3, rfl, e3, ⟨_, _, _, _, _, _, _, _, _, rfl⟩, h3⟩)
  have w : m_law [some (.loc 0), none, none, none, none, none, none, none, none, none] S = .rt (.bl true) S' := by
    unfold m_law
    exact seq_to (for_to (four_r _ _) f1) (ret_to rfl)
  refine ⟨S', ?_⟩
  unfold f_law
  exact run_to rfl w rfl
end
end LawT

end
section
set_option Elab.async false
set_option linter.all false
set_option maxRecDepth 100000
set_option maxHeartbeats 2000000
/-! the end: what the head says, the law's walk -/
namespace LawT
open PySem PySem.Spec PyProof.Rows L2 PI LamX
def clA (K : PySem.W.Frag) (k : Nat) : Addr := He.ga K (clN.getD k "")
def tq (K : PySem.W.Frag) : List (Addr × Str) := [((He.cT K ("_law_asked", none)).2, ("_law_asked.<locals>.<lambda>" : Str))]
abbrev gK (K : PySem.W.Frag) : G := ⟨K, clA K, Tabs (tq K), []⟩
theorem raN_ok : ∀ c ∈ raL, clN.getD c "" ∈ raN := by decide +kernel
theorem cl_mem {k : Nat} (h : k < 62) : clN.getD k "" ∈ clN := by
  have e : clN.length = 62 := rfl
  rw [List.getD_eq_getElem?_getD, List.getElem?_eq_getElem (by rw [e]; exact h)]
  exact List.getElem_mem _
theorem cl_nref : ∀ k, k < 62 → 0 < k → clN.getD k "" ≠ ("Refused" : Str) := by decide +kernel
theorem cl_dec : ∀ c ∈ raL, ∀ k, k < 62 → decide (clN.getD c "" = clN.getD k "") = decide (c = k) := by decide +kernel
theorem faC_eq : faC = clN.map He.Fa.glo := rfl
section
variable {w : World} {h : Heap} {K : PySem.W.Frag} {mg : Str → Option Value}
theorem obs_ok (c : SaysP tf obL vaL h K) : obB K = true ∧ (∀ (i : Nat) (d : He.DefD), fn[i]? = some d → He.fnW K d.at_ = d.val) ∧ fnI K (fI K) = vaL.2.2 := by
  have e := c.t
  unfold obL vaL at e
  obtain ⟨e1, e2⟩ := Prod.mk.inj e
  obtain ⟨e2, e3⟩ := Prod.mk.inj e2
  refine ⟨e1, fun i d hi => ?_, e3⟩
  have e4 := congrArg (fun l : List He.FnW => l[i]?) e2
  simp only [List.getElem?_map, hi, Option.map_some] at e4
  exact Option.some.inj e4
theorem def_ok (c : SaysP tf obL vaL h K) (X : K.In h) (G : h.Ns mainGlobals mg) (i : Nat) {d : He.DefD} (hi : fn[i]? = some d) (x : Str) (ha : d.at_ = (x, none)) (hf : faD[i]? = some (.glo x)) : ∃ fa fd, FunD K d.name d.qual d.params d.body d.scope (d.dvs K) (d.kws K) fa fd ∧ mg x = some (.ref fa) := by
  obtain ⟨b, q, _⟩ := obs_ok c
  obtain ⟨_, b⟩ := He.ba b
  obtain ⟨_, b⟩ := He.ba b
  obtain ⟨b1, b⟩ := He.ba b
  obtain ⟨_, b⟩ := He.ba b
  obtain ⟨_, b⟩ := He.ba b
  obtain ⟨_, b⟩ := He.ba b
  obtain ⟨b2, b⟩ := He.ba b
  obtain ⟨fd, F⟩ := He.DefD.funD (q i d hi) (List.all_eq_true.mp b2 d (List.mem_of_getElem? hi))
  refine ⟨_, fd, F, ?_⟩
  rw [ha]
  exact He.glo_ok X G (List.all_eq_true.mp b1 _ (List.mem_of_getElem? hf))
theorem init_hev {p0 p1 p2 p3 : Pos} (hl : (p2.endLine == p3.line) = true) : ∃ pl : Env → Sem Bool, ∀ env : Env, eval (.Call (.Attribute (.Call (.Name "super" p0) [] [] p1) "__init__" p2) [] [] p3) env = (do
      let ov ← attributeBase (.Call (.Name "super" p0) [] [] p1) "__init__" env (eval (.Call (.Name "super" p0) [] [] p1) env)
      standAt p2.atName
      let (f, first) ← holding [ov] (getMethod ov "__init__" (pl env))
      callWith p3 f first (backTo p3 (starEach [] env)) []) := by
  refine ⟨L2.plainOf (.Call (.Name "super" p0) [] [] p1), fun env => ?_⟩
  rw [arm_eval_Call]
  exact congrArg (fun k : Value → Sem Value => attributeBase (.Call (.Name "super" p0) [] [] p1) "__init__" env (eval (.Call (.Name "super" p0) [] [] p1) env) >>= k) (funext fun ov => congrArg (fun k : Sem Value => standAt p2.atName >>= fun _ => k) (L2.mcall_line rfl hl))
theorem law_f (c : SaysP tf obL vaL h K) (X : K.In h) (G : h.Ns mainGlobals mg) {base : Heap} (XB : K.In base) (GB : base.Ns mainGlobals mg) : LawF w mg base K (clA K) := by
  obtain ⟨b, q, qi⟩ := obs_ok c
  obtain ⟨_, b⟩ := He.ba b
  obtain ⟨_, b⟩ := He.ba b
  obtain ⟨b1, b⟩ := He.ba b
  obtain ⟨b2, b⟩ := He.ba b
  obtain ⟨b3, b⟩ := He.ba b
  obtain ⟨b4, b⟩ := He.ba b
  obtain ⟨b5, b⟩ := He.ba b
  obtain ⟨b6, b⟩ := He.ba b
  obtain ⟨b7, b⟩ := He.ba b
  obtain ⟨b8, b9⟩ := He.ba b
  have fr : ∀ (i : Nat) (x : Str), faF[i]? = some (He.Fa.free x) → mg x = none := fun i x e => He.free_ok X G (List.all_eq_true.mp b3 _ (List.mem_of_getElem? e))
  have cl : ∀ k, k < 62 → mg (clN.getD k "") = some (.ref (clA K k)) := fun k hk => He.glo_ok X G (List.all_eq_true.mp b2 _ (by rw [faC_eq]; exact List.mem_map_of_mem (cl_mem hk)))
  have ex : ∀ c, c ∈ raL → ∃ fI, ExcF K (clA K c) (clA K 0) fI := fun c hc => ⟨fI K, excB_ok (List.all_eq_true.mp b7 _ (raN_ok c hc)) b6⟩
  have su : mg "super" = none := fr 12 "super" rfl
  obtain ⟨fdI, FI, SI, hB⟩ := initB_ok (P := Pg) (mg := mg) b9 qi (NdefX.nscope_by (by decide +kernel)) rfl ⟨_, rfl, rfl⟩ (fun _ _ _ _ _ us hl => match us, hl with | [_, _], _ => rfl) su (by decide +kernel)
  have ok : FnOk Pg w K mg base (L2N.CX Pg w) 1 (fI K) fdI iP (spI K (clA K 0)) := init_ok (k := 0) SI (hB.trans rfl) (init_hev rfl)
  have bi : Binds K fdI iP [] := by
    obtain ⟨_, _, _, doc, pm, ctv, _, e⟩ := SI.lk
    rw [e]
    exact .all fun us hl => SI.hb doc pm ctv us hl
  have xe : ∀ c, c ∈ raL → ∃ fI fd D, SupOf K (clA K c) D ∧ PySem.W.findIn K (.ref (clA K c)) "__init__" = some (some (.ref fI)) ∧ PySem.W.typeIn K (.ref fI) = some (.type "function") ∧ FnOk Pg w K mg base (L2N.CX Pg w) 1 fI fd iP (spI K D) ∧ Binds K fd iP [] := fun c hc => by
    have E := excB_ok (List.all_eq_true.mp b7 _ (raN_ok c hc)) b6
    exact ⟨fI K, fdI, clA K 0, E.sup, E.init, E.fn, ok, bi⟩
  exact ⟨fr 0 "bool" rfl,
    fr 1 "enumerate" rfl,
    fr 2 "int" rfl,
    fr 3 "isinstance" rfl,
    fr 4 "len" rfl,
    fr 5 "list" rfl,
    fr 6 "max" rfl,
    fr 7 "min" rfl,
    fr 8 "range" rfl,
    fr 9 "sorted" rfl,
    fr 10 "str" rfl,
    fr 11 "sum" rfl,
    fr 12 "super" rfl,
    fr 13 "tuple" rfl,
    He.int_ok X G (List.all_eq_true.mp b4 _ (List.mem_of_getElem? (i := 0) rfl)),
    He.int_ok X G (List.all_eq_true.mp b4 _ (List.mem_of_getElem? (i := 1) rfl)),
    def_ok c X G 0 rfl "is_whole" rfl rfl,
    def_ok c X G 1 rfl "is_from" rfl rfl,
    def_ok c X G 2 rfl "is_count" rfl rfl,
    def_ok c X G 3 rfl "wrong_votes" rfl rfl,
    def_ok c X G 4 rfl "check_votes" rfl rfl,
    def_ok c X G 5 rfl "check_need" rfl rfl,
    def_ok c X G 6 rfl "check_ring" rfl rfl,
    def_ok c X G 7 rfl "step" rfl rfl,
    def_ok c X G 8 rfl "walk_of" rfl rfl,
    def_ok c X G 9 rfl "steps" rfl rfl,
    def_ok c X G 10 rfl "crew_round" rfl rfl,
    def_ok c X G 11 rfl "ring_crew" rfl rfl,
    def_ok c X G 12 rfl "_law_is_whole" rfl rfl,
    def_ok c X G 13 rfl "_law_same" rfl rfl,
    def_ok c X G 14 rfl "_law_classes" rfl rfl,
    def_ok c X G 15 rfl "_law_heard" rfl rfl,
    def_ok c X G 16 rfl "_law_tells" rfl rfl,
    def_ok c X G 17 rfl "_law_meets" rfl rfl,
    def_ok c X G 18 rfl "_law_pool" rfl rfl,
    def_ok c X G 19 rfl "_law_take" rfl rfl,
    def_ok c X G 20 rfl "_law_one" rfl rfl,
    def_ok c X G 21 rfl "_law_steps" rfl rfl,
    def_ok c X G 22 rfl "_law_walk" rfl rfl,
    def_ok c X G 23 rfl "_law_ring_crew_size" rfl rfl,
    def_ok c X G 24 rfl "_law_drawn_round" rfl rfl,
    def_ok c X G 25 rfl "_law_is_round_crew" rfl rfl,
    def_ok c X G 26 rfl "_law_round_refusal" rfl rfl,
    def_ok c X G 27 rfl "_law_asked" rfl rfl,
    def_ok c X G 28 rfl "_law_odd_votes" rfl rfl,
    def_ok c X G 29 rfl "law" rfl rfl,
    (by obtain ⟨fI, fd, D, z1, z2, z3, z4, z5⟩ := xe 2 (by decide); exact ⟨fI, fd, D, z1, z2, z3, z4, z5, cl 2 (by decide)⟩),
    (by obtain ⟨fI, fd, D, z1, z2, z3, z4, z5⟩ := xe 4 (by decide); exact ⟨fI, fd, D, z1, z2, z3, z4, z5, cl 4 (by decide)⟩),
    cl,
    ex,
    fun c hc k h0 hk => by
      have z := List.all_eq_true.mp (List.all_eq_true.mp b8 _ (raN_ok c hc)) (clN.getD k "") (List.mem_filter.mpr ⟨cl_mem hk, decide_eq_true (cl_nref k hk h0)⟩)
      have z2 := of_decide_eq_true z
      rw [cl_dec c hc k hk] at z2
      exact z2⟩
theorem law_t (c : SaysP tf obL vaL h K) (X : K.In h) (G : h.Ns mainGlobals mg) {base : Heap} (TB : ∀ p ∈ tf, TabB base mg (He.cT K p).1 (He.cT K p).2) : LTab mg base (gK K) (tq K) := by
  have UQ : ∀ (p : Addr × Str) (hp : p ∈ tq K) {P : Addr}, p.1 = P → p.2 = ("_law_asked.<locals>.<lambda>" : Str) := fun p hp P _ => by
    unfold tq at hp
    simp only [List.mem_cons, List.not_mem_nil, or_false] at hp
    rw [hp]
  refine ⟨fun _ h => h, fun _ _ _ _ h => h, ?_⟩
  · obtain ⟨fa0, fd0, FD0, hm0⟩ := def_ok c X G 27 rfl "_law_asked" rfl rfl
    have e0 : fa0 = He.ga K "_law_asked" := by
      obtain ⟨b, _⟩ := obs_ok c
      obtain ⟨_, b⟩ := He.ba b
      obtain ⟨_, b⟩ := He.ba b
      obtain ⟨b1, b⟩ := He.ba b
      have hg := He.glo_ok X G (List.all_eq_true.mp b1 (.glo "_law_asked") (List.mem_of_getElem? (i := 27) rfl))
      rw [hm0] at hg
      cases hg
      rfl
    subst e0
    refine ⟨_, _, TB ("_law_asked", none) (by decide +kernel), by unfold tq; simp, fun p hp he => UQ p hp he, fun fa hfa => ?_⟩
    rw [hm0] at hfa
    cases hfa
    exact code_of FD0
end
/-- what the mirror of the law must do -/
def LawGood : Prop := ∀ ns : List Int, ns.length ≤ 63 → (∀ z ∈ ns, Builtin.Int.intBits z ≤ 1048576) → ∀ S : Sto, (S[0]? = some (.lst (ns.map D.int)) ∨ S[0]? = some (.fro (ns.map D.int))) → ∃ S', f_law [.loc 0] S = .ok (.bl true) S'
theorem law_at (good : LawGood) {w : World} {mg : Str → Option Value} {fa : Addr} {h : Heap} {K : PySem.W.Frag} (X : K.In h) (c : SaysP tf obL vaL h K) (G : h.Ns mainGlobals mg) (hmg : mg "law" = some (.ref fa)) :
    LawAtS PySem.Challenge.rw_ringsapart_k08_crews_of_a_ring w K (L2N.CX Pg w) 12 63 "script" mg fa h := by
  obtain ⟨fa0, fd, FD, hm⟩ := def_ok c X G 29 rfl "law" rfl rfl
  rw [hm] at hmg
  cases hmg
  refine ⟨fd, tf.map (He.cT K), spOf (gK K) 1 f_law, fun p hp => ?_, fun p hp => ?_, fun p hp => ?_, fun s u => FunD.bindsA (ps := ["script"]) FD (fun _ _ _ _ _ _ us hl => match us, hl with | [_], _ => rfl) s [u] rfl, fun H a ns hl hb ht hS => ?_, fun base XB GB TB => ?_⟩
  · obtain ⟨q, hq, rfl⟩ := List.mem_map.mp hp
    exact c.empty q hq
  · obtain ⟨q, hq, rfl⟩ := List.mem_map.mp hp
    exact c.out q hq
  · obtain ⟨q, hq, rfl⟩ := List.mem_map.mp hp
    exact PySem.W.codeHd_of_K X (c.hd q hq)
  · have nl := (He.ba (obs_ok c).1).1
    refine script_in (fun p hp => ?_) hS (noL_sql nl hS) (good ns hl hb)
    unfold tq at hp
    simp only [List.mem_cons, List.not_mem_nil, or_false] at hp
    rw [hp]
    exact TabS.nil (ht _ (List.mem_map_of_mem (f := He.cT K) (a := (("_law_asked", none) : He.Defn)) (l := tf) (by decide +kernel)))
  · exact okF_law (g := gK K) (law_f c X G XB GB) tabs_gok tabs_thaw (law_t c X G fun p hp => TB _ (List.mem_map_of_mem hp)) FD
end LawT
open PySem PySem.W PySem.Calls PyProof.Rows
theorem law_ends (good : LawT.LawGood) : PySem.Challenge.rw_ringsapart_k08_crews_of_a_ring.Holds := by
  w_on; o_law
  refine HandSHeadRun.head_any (r := OpenLaw.row PySem.Challenge.rw_ringsapart_k08_crews_of_a_ring) (q := view (OpenLaw.row PySem.Challenge.rw_ringsapart_k08_crews_of_a_ring).prog [99]) (H := LawT.hk) (ob := LawT.ob) (M := 20000) (loose := LawT.loose) (d := HandSHeadRun.topDef (OpenLaw.row PySem.Challenge.rw_ringsapart_k08_crews_of_a_ring).prog 99) (kwd := []) LawT.ob_eq
    (by kernel_rfl) (fun s => by kernel_rfl) LawT.run (by kernel_rfl) (by kernel_rfl) (by kernel_rfl) (by rfl) (by first | assumption | decide +kernel) (by decide +kernel) ⟨rfl, rfl, rfl, rfl, rfl, by decide +kernel⟩ ?hw ?hc
  case hw => w_witness2
  case hc =>
    refine LamX.walk_ofTsE (l := PySem.Challenge.rw_ringsapart_k08_crews_of_a_ring) (n := 63) (k := 12) (x := "script") (CX := fun w => L2N.CX LawT.Pg w) rfl (by decide) (by kernel_rfl) ⟨rfl, by decide, by decide⟩ ?F ?E
    case F =>
      intro w mg fa h Y G hmg0
      obtain ⟨K, KX, c⟩ := Y
      have hmg : mg ("law" : PySem.Str) = some (.ref fa) := by
        have e : (HandSHeadRun.topDef (OpenLaw.row PySem.Challenge.rw_ringsapart_k08_crews_of_a_ring).prog 99).name = ("law" : PySem.Str) := by kernel_rfl
        rw [← e]
        exact hmg0
      exact ⟨K, KX, LawT.law_at good KX c G hmg⟩
    case E =>
      intro w H s e s' z
      obtain ⟨_, _, _, _, _, _, _, _, _, _, _, _, _, _, _, _, z⟩ := z

end
section
namespace LawT
theorem lawGood : LawGood := fun _ _ _ _ h => law_ok h
end LawT

end
theorem PySem.Challenge.cw_ringsapart_k08_crews_of_a_ring_holds : PySem.Challenge.rw_ringsapart_k08_crews_of_a_ring.Holds := by
  exact law_ends LawT.lawGood
