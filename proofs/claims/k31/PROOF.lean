import PyProof.Rows.All
import Wide.All
import OpenK.AllK
import Wide.FinOn
import KE.KStateDown
import HandS.Head0
import HandS.Head1
import HandS.Head2
import HandS.HeadHook1
import HandS.HeadHook2
import HandS.EndBits
import HandS.Words
import HandS.EndTab
import HandS.HeadWalk
import KE.KNestM
import HandS.ForMost
import HandS.ForExc
import HandS.Wide
import HandS.Dict
import HandS.Lambda
import KE.KeyNested
import HandS.Text
import HandS.TupAny
import KE.IntBitsLaws
import HandS.TupMul
import HandS.IsInst
import HandS.ExcIs
import HandS.SetFor
import HandS.SortInts
import HandS.Replace
import HandS.StrMore
import HandS.WideBits
import Wide.Txt
import KE.IntTextLaws
import HandS.Defaults
import HandS.More
import PyProof.SeqI3
import HandS.Rev
import HandS.RevTup
import HandS.Deep
import HandS.Style
import HandS.ExcInit
import HandS.ExcField
import KE.KExcIs
import KE.SortData
import HandS.Conv
import PyProof.StrCalls6
import PyProof.StrBlock2
import PyProof.Rows.StrJoinRep
import HandS.TryMany
import HandS.Iter
import HandS.DictComp
import HandS.TryOnly
import HandS.SortKw
import KE.KDictCopyH
import KE.KDictList
import KE.KDictKeyed
import HandS.TupLen
import HandS.Nested
import PySem.Challenge.RW_stoke_k31_conditions_put_together
set_option Elab.async false
set_option linter.all false
set_option maxRecDepth 100000
set_option maxHeartbeats 2000000
namespace Q
open PySem PySem.Spec PyProof.Rows L2
abbrev AlH : Type := Bool × List He.FnW
def obsH (ck : PySem.W.Frag → Bool) (fn : List He.DefD) (K : PySem.W.Frag) : AlH := (ck K && fn.all fun d => d.ok K, fn.map fun d => He.fnW K d.at_)
def valH (fn : List He.DefD) : AlH := (true, fn.map He.DefD.val)
def SaysH (ck : PySem.W.Frag → Bool) (fn : List He.DefD) (K : PySem.W.Frag) : Prop := obsH ck fn K = valH fn
def asH (lo n : Nat) : List Addr := mainGlobals :: List.range' lo (n - lo)
section
variable {ck : PySem.W.Frag → Bool} {fn : List He.DefD} {K : PySem.W.Frag}
theorem SaysH.chk (c : SaysH ck fn K) : ck K = true := (He.ba (show (ck K && fn.all fun d => d.ok K) = true from congrArg (fun z : AlH => z.1) c)).1
theorem SaysH.def_ (c : SaysH ck fn K) (i : Nat) {d : He.DefD} (h : fn[i]? = some d) : ∃ fd, FunD K d.name d.qual d.params d.body d.scope (d.dvs K) (d.kws K) (He.fAd K d.at_) fd := by
  have c2 := (He.ba (show (ck K && fn.all fun d => d.ok K) = true from congrArg (fun z : AlH => z.1) c)).2
  have e : fn.map (fun d => He.fnW K d.at_) = fn.map He.DefD.val := congrArg (fun z : AlH => z.2) c
  have e2 : (fn.map fun d => He.fnW K d.at_)[i]? = (fn.map He.DefD.val)[i]? := by rw [e]
  rw [List.getElem?_map, List.getElem?_map, h] at e2
  exact He.DefD.funD (Option.some.inj e2) (List.all_eq_true.mp c2 d (List.mem_of_getElem? h))
end
theorem fun_of {K : PySem.W.Frag} {x q : Str} {st : Stmt} {f : Addr} {fd : FuncData} (F : FunD K x q (defArgs st) (defBody st) (defScope st) [] [] f fd) : Fun K x q st f fd := by
  obtain ⟨oc, od, dV, kV, doc, pm, an, cdv, ct, osl, rfl, lk, hcd, hd, _⟩ := F.ex
  rcases hd with ⟨_, rfl⟩ | ⟨h, _⟩
  · exact ⟨⟨oc, od, kV, doc, pm, an, cdv, ct, osl, rfl, lk, hcd⟩, F.kp⟩
  · exact absurd rfl h
end Q

set_option maxHeartbeats 2000000
namespace Q
open PySem PySem.Spec PyProof.Rows L2 LamX
def isTab : Option Obj → Bool
  | some ⟨.none, none, .fields a, sl⟩ => a.size == 0 && sl.size == 0
  | _ => false
theorem isTab_ok {o : Option Obj} (h : isTab o = true) : o = some (PySem.W.tabObj #[]) := by
  unfold isTab at h
  split at h
  · rename_i a sl
    simp only [Bool.and_eq_true, beq_iff_eq] at h
    rw [Array.eq_empty_of_size_eq_zero h.1, Array.eq_empty_of_size_eq_zero h.2]
  · cases h
def asT (g : Addr → Option Obj) (lo n : Nat) : List Addr := (asH lo n).filter fun a => !isTab (g a)
def codeOf (K : PySem.W.Frag) (f : Addr) : Option Addr := match K.lookup f with
  | some ⟨_, _, .func fd, _⟩ => (match fd.code with
    | .ref c => some c
    | _ => none)
  | _ => none
def codeA (K : PySem.W.Frag) (f : Addr) : Addr := (codeOf K f).getD 0
def tabA (K : PySem.W.Frag) (f : Addr) : Addr := match K.lookup (codeA K f) with
  | some ⟨_, _, .fields vs, _⟩ => (match (vs[11]? : Option Value) with
    | some (.ref P) => P
    | _ => 0)
  | _ => 0
def tbB (g : Addr → Option Obj) (K : PySem.W.Frag) (mk : List (Str × Option Str)) : Bool := mk.all fun a => isTab (g (tabA K (He.fAd K a))) && PySem.W.codeHdIn K (codeA K (He.fAd K a)) (tabA K (He.fAd K a))
def obsT (ck : PySem.W.Frag → Bool) (fn : List He.DefD) (mk : List (Str × Option Str)) (g : Addr → Option Obj) (lo n : Nat) : AlH :=
  (tbB g (He.frG g (asT g lo n)) mk && (ck (He.frG g (asT g lo n)) && fn.all fun d => d.ok (He.frG g (asT g lo n))), fn.map fun d => He.fnW (He.frG g (asT g lo n)) d.at_)
theorem lk_mem {a : Addr} {o : Obj} : ∀ {l : List (Addr × Obj)}, l.lookup a = some o → (a, o) ∈ l
  | [], h => by cases h
  | (b, u) :: l, h => by
    by_cases e : a = b
    · subst e
      rw [List.lookup_cons_self] at h
      cases h
      exact List.mem_cons_self
    · rw [List.lookup_cons, beq_eq_false_iff_ne.mpr e] at h
      exact List.mem_cons_of_mem _ (lk_mem h)
theorem frG_as {g : Addr → Option Obj} {as : List Addr} {a : Addr} {o : Obj} (h : (He.frG g as).lookup a = some o) : a ∈ as := by
  have m : (a, o) ∈ He.frG g as := lk_mem h
  obtain ⟨b, hb, e⟩ := List.mem_filterMap.mp m
  cases q : g b with
  | none => rw [q] at e; cases e
  | some u =>
    rw [q] at e
    cases e
    exact hb
def SaysT (ck : PySem.W.Frag → Bool) (fn : List He.DefD) (mk : List (Str × Option Str)) (h : Heap) (K : PySem.W.Frag) : Prop :=
  SaysH ck fn K ∧ ∀ a ∈ mk, h.get? (tabA K (He.fAd K a)) = some (PySem.W.tabObj #[]) ∧ K.lookup (tabA K (He.fAd K a)) = none ∧ PySem.W.codeHdIn K (codeA K (He.fAd K a)) (tabA K (He.fAd K a)) = true
theorem saysT_of {ck : PySem.W.Frag → Bool} {fn : List He.DefD} {mk : List (Str × Option Str)} {lo n : Nat} {h : Heap} (e : obsT ck fn mk h.get? lo n = valH fn) : SaysT ck fn mk h (He.frG h.get? (asT h.get? lo n)) := by
  have e1 : (tbB h.get? (He.frG h.get? (asT h.get? lo n)) mk && (ck (He.frG h.get? (asT h.get? lo n)) && fn.all fun d => d.ok (He.frG h.get? (asT h.get? lo n)))) = true := congrArg (fun z : AlH => z.1) e
  have e2 : (fn.map fun d => He.fnW (He.frG h.get? (asT h.get? lo n)) d.at_) = fn.map He.DefD.val := congrArg (fun z : AlH => z.2) e
  obtain ⟨t, c⟩ := He.ba e1
  refine ⟨Prod.ext c e2, fun a ha => ?_⟩
  obtain ⟨t1, t2⟩ := He.ba (List.all_eq_true.mp t a ha)
  refine ⟨isTab_ok t1, ?_, t2⟩
  cases q : (He.frG h.get? (asT h.get? lo n)).lookup (tabA (He.frG h.get? (asT h.get? lo n)) (He.fAd (He.frG h.get? (asT h.get? lo n)) a)) with
  | none => rfl
  | some o =>
    have m2 : (!isTab (h.get? (tabA (He.frG h.get? (asT h.get? lo n)) (He.fAd (He.frG h.get? (asT h.get? lo n)) a)))) = true := (List.mem_filter.mp (show _ ∈ (asH lo n).filter fun a => !isTab (h.get? a) from frG_as q)).2
    rw [t1] at m2
    cases m2
def hookT (lo : Nat) (ck : PySem.W.Frag → Bool) (fn : List He.DefD) (mk : List (Str × Option Str)) : PySem.W.Hook where
  α := AlH
  obs := fun s => obsT ck fn mk s.heap.get? lo s.heap.objs.size
  val := fun _ => valH fn
  says := fun _ h => ∃ K : PySem.W.Frag, K.In h ∧ SaysT ck fn mk h K
  of := fun _ _ e => ⟨_, He.frG_in, saysT_of e⟩
  keeps := fun _ _ _ ⟨K, hK, c⟩ k => ⟨K, PySem.W.Frag.In.keeps hK k, c.1, fun a ha => ⟨k _ _ (c.2 a ha).1, (c.2 a ha).2⟩⟩
def obsTs (lo : Nat) (ck : PySem.W.Frag → Bool) (fn : List He.DefD) (mk : List (Str × Option Str)) (s : PySem.W.SharedT) : AlH := obsT ck fn mk (HandSHeadRun.getT s) lo s.n
theorem obsTs_eq (lo : Nat) (ck : PySem.W.Frag → Bool) (fn : List He.DefD) (mk : List (Str × Option Str)) (s : PySem.W.SharedT) : obsTs lo ck fn mk s = (hookT lo ck fn mk).obs s.abs := by
  show obsT ck fn mk (HandSHeadRun.getT s) lo s.n = obsT ck fn mk s.abs.heap.get? lo s.abs.heap.objs.size
  have e : HandSHeadRun.getT s = s.abs.heap.get? := funext (HandSHeadRun.getT_eq s)
  have e2 : s.abs.heap.objs.size = s.n := PySem.W.absHeap_size s.tree s.n s.life
  rw [e, e2]
theorem runCT {o : Option PySem.W.SharedT} {ck : PySem.W.Frag → Bool} {fn : List He.DefD} {mk : List (Str × Option Str)} (a : o.map (fun s => ck (He.frG (HandSHeadRun.getT s) (asT (HandSHeadRun.getT s) 0 s.n))) = some true) (b : o.map (fun s => fn.all fun d => d.ok (He.frG (HandSHeadRun.getT s) (asT (HandSHeadRun.getT s) 0 s.n))) = some true)
    (c : o.map (fun s => tbB (HandSHeadRun.getT s) (He.frG (HandSHeadRun.getT s) (asT (HandSHeadRun.getT s) 0 s.n)) mk) = some true) : o.map (fun s => (obsTs 0 ck fn mk s).1) = some (valH fn).1 := by
  cases o with
  | none => cases a
  | some s =>
    have a1 := Option.some.inj a
    have b1 := Option.some.inj b
    have c1 := Option.some.inj c
    simp only [] at a1 b1 c1
    exact congrArg some (show (tbB (HandSHeadRun.getT s) (He.frG (HandSHeadRun.getT s) (asT (HandSHeadRun.getT s) 0 s.n)) mk && (ck (He.frG (HandSHeadRun.getT s) (asT (HandSHeadRun.getT s) 0 s.n)) && fn.all fun d => d.ok (He.frG (HandSHeadRun.getT s) (asT (HandSHeadRun.getT s) 0 s.n)))) = true by rw [a1, b1, c1]; rfl)
end Q

namespace K31
open PySem PySem.Spec PyProof.Rows L2 Q
def topS (i : Nat) : Stmt := PySem.Challenge.pw_stoke_k31_conditions_put_together.main.body.getD i (.Pass ⟨0, 0, 0, 0⟩)
abbrev s_colder : Stmt := topS 3
abbrev s_has_room : Stmt := topS 1
abbrev s_burns : Stmt := topS 4
abbrev s_rested : Stmt := topS 5
abbrev s_stocked : Stmt := topS 6
abbrev s_both_of : Stmt := topS 7
abbrev s_one_of : Stmt := topS 8
abbrev s_unlike : Stmt := topS 9
abbrev s__law_stream : Stmt := topS 12
abbrev s__law_cell_at : Stmt := topS 11
abbrev s__law_state : Stmt := topS 14
abbrev s__law_leaf : Stmt := topS 15
abbrev s__law_made_leaf : Stmt := topS 16
abbrev s__law_in_bits : Stmt := topS 13
abbrev s__law_holds : Stmt := topS 17
abbrev s__law_more__p : Stmt := topS 19
abbrev s__law_asked : Stmt := topS 18
abbrev s_law : Stmt := topS 20
abbrev fA1 (K : PySem.W.Frag) : Addr := He.fAd K ("colder", none)
abbrev fA2 (K : PySem.W.Frag) : Addr := He.fAd K ("has_room", none)
abbrev fA3 (K : PySem.W.Frag) : Addr := He.fAd K ("burns", none)
abbrev fA4 (K : PySem.W.Frag) : Addr := He.fAd K ("rested", none)
abbrev fA5 (K : PySem.W.Frag) : Addr := He.fAd K ("stocked", none)
abbrev fA6 (K : PySem.W.Frag) : Addr := He.fAd K ("both_of", none)
abbrev fA7 (K : PySem.W.Frag) : Addr := He.fAd K ("one_of", none)
abbrev fA8 (K : PySem.W.Frag) : Addr := He.fAd K ("unlike", none)
abbrev fA9 (K : PySem.W.Frag) : Addr := He.fAd K ("_law_stream", none)
abbrev fA10 (K : PySem.W.Frag) : Addr := He.fAd K ("_law_cell_at", none)
abbrev fA11 (K : PySem.W.Frag) : Addr := He.fAd K ("_law_state", none)
abbrev fA12 (K : PySem.W.Frag) : Addr := He.fAd K ("_law_leaf", none)
abbrev fA13 (K : PySem.W.Frag) : Addr := He.fAd K ("_law_made_leaf", none)
abbrev fA14 (K : PySem.W.Frag) : Addr := He.fAd K ("_law_in_bits", none)
abbrev fA15 (K : PySem.W.Frag) : Addr := He.fAd K ("_law_holds", none)
abbrev fA16 (K : PySem.W.Frag) : Addr := He.fAd K ("_law_more", none)
abbrev fA17 (K : PySem.W.Frag) : Addr := He.fAd K ("_law_asked", none)
abbrev fA18 (K : PySem.W.Frag) : Addr := He.fAd K ("law", none)
abbrev cg0 (K : PySem.W.Frag) : Prop :=
    (PySem.W.nsIn K mainGlobals "colder" = some (some (.ref (fA1 K)))) ∧
    (PySem.W.nsIn K mainGlobals "has_room" = some (some (.ref (fA2 K)))) ∧
    (PySem.W.nsIn K mainGlobals "burns" = some (some (.ref (fA3 K)))) ∧
    (PySem.W.nsIn K mainGlobals "rested" = some (some (.ref (fA4 K)))) ∧
    (PySem.W.nsIn K mainGlobals "stocked" = some (some (.ref (fA5 K)))) ∧
    (PySem.W.nsIn K mainGlobals "both_of" = some (some (.ref (fA6 K)))) ∧
    (PySem.W.nsIn K mainGlobals "one_of" = some (some (.ref (fA7 K)))) ∧
    (PySem.W.nsIn K mainGlobals "unlike" = some (some (.ref (fA8 K)))) ∧
    (PySem.W.nsIn K mainGlobals "_law_stream" = some (some (.ref (fA9 K)))) ∧
    (PySem.W.nsIn K mainGlobals "_law_cell_at" = some (some (.ref (fA10 K)))) ∧
    (PySem.W.nsIn K mainGlobals "_law_state" = some (some (.ref (fA11 K)))) ∧
    (PySem.W.nsIn K mainGlobals "_law_leaf" = some (some (.ref (fA12 K)))) ∧
    (PySem.W.nsIn K mainGlobals "_law_made_leaf" = some (some (.ref (fA13 K)))) ∧
    (PySem.W.nsIn K mainGlobals "_law_in_bits" = some (some (.ref (fA14 K)))) ∧
    (PySem.W.nsIn K mainGlobals "_law_holds" = some (some (.ref (fA15 K)))) ∧
    (PySem.W.nsIn K mainGlobals "_law_more" = some (some (.ref (fA16 K)))) ∧
    (PySem.W.nsIn K mainGlobals "_law_asked" = some (some (.ref (fA17 K)))) ∧
    (PySem.W.nsIn K mainGlobals "law" = some (some (.ref (fA18 K)))) ∧
    (PySem.W.nsIn K mainGlobals "bool" = some none) ∧
    (PySem.W.nsIn K mainGlobals "isinstance" = some none)
abbrev cg1 (K : PySem.W.Frag) : Prop :=
    (PySem.W.nsIn K mainGlobals "len" = some none) ∧
    (PySem.W.nsIn K mainGlobals "range" = some none) ∧
    (PySem.W.nsIn K mainGlobals "tuple" = some none) ∧
    (codeOf K (fA1 K) = some (codeA K (fA1 K))) ∧
    (codeOf K (fA3 K) = some (codeA K (fA3 K))) ∧
    (codeOf K (fA4 K) = some (codeA K (fA4 K))) ∧
    (codeOf K (fA5 K) = some (codeA K (fA5 K))) ∧
    (codeOf K (fA6 K) = some (codeA K (fA6 K))) ∧
    (codeOf K (fA7 K) = some (codeA K (fA7 K))) ∧
    (codeOf K (fA8 K) = some (codeA K (fA8 K))) ∧
    ([tabA K (fA1 K), tabA K (fA3 K), tabA K (fA4 K), tabA K (fA5 K), tabA K (fA6 K), tabA K (fA7 K), tabA K (fA8 K)].Nodup)
def hd1 : He.DefD := ⟨("colder", none), "colder", "colder", defArgs s_colder, defBody s_colder, defScope s_colder, [], []⟩
def hd2 : He.DefD := ⟨("has_room", none), "has_room", "has_room", defArgs s_has_room, defBody s_has_room, defScope s_has_room, [], []⟩
def hd3 : He.DefD := ⟨("burns", none), "burns", "burns", defArgs s_burns, defBody s_burns, defScope s_burns, [], []⟩
def hd4 : He.DefD := ⟨("rested", none), "rested", "rested", defArgs s_rested, defBody s_rested, defScope s_rested, [], []⟩
def hd5 : He.DefD := ⟨("stocked", none), "stocked", "stocked", defArgs s_stocked, defBody s_stocked, defScope s_stocked, [], []⟩
def hd6 : He.DefD := ⟨("both_of", none), "both_of", "both_of", defArgs s_both_of, defBody s_both_of, defScope s_both_of, [], []⟩
def hd7 : He.DefD := ⟨("one_of", none), "one_of", "one_of", defArgs s_one_of, defBody s_one_of, defScope s_one_of, [], []⟩
def hd8 : He.DefD := ⟨("unlike", none), "unlike", "unlike", defArgs s_unlike, defBody s_unlike, defScope s_unlike, [], []⟩
def hd9 : He.DefD := ⟨("_law_stream", none), "_law_stream", "_law_stream", defArgs s__law_stream, defBody s__law_stream, defScope s__law_stream, [], []⟩
def hd10 : He.DefD := ⟨("_law_cell_at", none), "_law_cell_at", "_law_cell_at", defArgs s__law_cell_at, defBody s__law_cell_at, defScope s__law_cell_at, [], []⟩
def hd11 : He.DefD := ⟨("_law_state", none), "_law_state", "_law_state", defArgs s__law_state, defBody s__law_state, defScope s__law_state, [], []⟩
def hd12 : He.DefD := ⟨("_law_leaf", none), "_law_leaf", "_law_leaf", defArgs s__law_leaf, defBody s__law_leaf, defScope s__law_leaf, [], []⟩
def hd13 : He.DefD := ⟨("_law_made_leaf", none), "_law_made_leaf", "_law_made_leaf", defArgs s__law_made_leaf, defBody s__law_made_leaf, defScope s__law_made_leaf, [], []⟩
def hd14 : He.DefD := ⟨("_law_in_bits", none), "_law_in_bits", "_law_in_bits", defArgs s__law_in_bits, defBody s__law_in_bits, defScope s__law_in_bits, [], []⟩
def hd15 : He.DefD := ⟨("_law_holds", none), "_law_holds", "_law_holds", defArgs s__law_holds, defBody s__law_holds, defScope s__law_holds, [], []⟩
def hd16 : He.DefD := ⟨("_law_more", none), "_law_more", "_law_more", defArgs s__law_more__p, defBody s__law_more__p, defScope s__law_more__p, [], []⟩
def hd17 : He.DefD := ⟨("_law_asked", none), "_law_asked", "_law_asked", defArgs s__law_asked, defBody s__law_asked, defScope s__law_asked, [], []⟩
def hd18 : He.DefD := ⟨("law", none), "law", "law", defArgs s_law, defBody s_law, defScope s_law, [], []⟩
def hfn0 : List He.DefD := [hd1, hd2, hd3, hd4, hd5, hd6, hd7, hd8, hd9, hd10, hd11, hd12, hd13, hd14, hd15, hd16, hd17, hd18]
def hfn : List He.DefD := hfn0
def hck (K : PySem.W.Frag) : Bool := decide (cg0 K) && (decide (cg1 K))
def hnm0 : List PySem.Str := ["__name__", "has_room", "colder", "burns", "rested", "stocked", "both_of", "one_of", "unlike", "_law_cell_at", "_law_stream", "_law_in_bits", "_law_state", "_law_leaf", "_law_made_leaf", "_law_holds", "_law_asked", "_law_more"]
def hnm : List PySem.Str := hnm0
abbrev R : PySem.W.OpenRow := PySem.W.OpenLaw.row PySem.Challenge.rw_stoke_k31_conditions_put_together
def hmk : List (Str × Option Str) := [("colder", none), ("burns", none), ("rested", none), ("stocked", none), ("both_of", none), ("one_of", none), ("unlike", none)]
abbrev hk : PySem.W.Hook := Q.hookT 0 hck hfn hmk
def hob (s : PySem.W.SharedT) : Q.AlH := Q.obsTs 0 hck hfn hmk s
theorem hob_eq (s : PySem.W.SharedT) : hob s = hk.obs s.abs := Q.obsTs_eq 0 hck hfn hmk s
abbrev hq : Program := PySem.W.view R.prog [20]
noncomputable def hE (w : World) (os : OsState) : Option PySem.W.SharedT := HandSHeadRun.endF (HandSHeadRun.stepQ (HandSHeadRun.denQ HandSHeadRun.tabQ) R.prog w) 12000 R.prog w os
theorem run3 {α β γ δ : Type} {o : Option α} {f : α → β} {g : α → γ} {h : α → δ} {x : β} {y : γ} {z : δ} (a : o.map f = some x) (b : o.map g = some y) (c : o.map h = some z) : o.map (fun s => (f s, g s, h s)) = some (x, y, z) := by
  cases o with
  | none => cases a
  | some s =>
    cases a
    cases b
    cases c
    rfl
theorem runPair {α β γ : Type} {o : Option α} {h : α → β × γ} {v : β × γ} (a : o.map (fun s => (h s).1) = some v.1) (b : o.map (fun s => (h s).2) = some v.2) : o.map h = some v := by
  cases o with
  | none => cases a
  | some s =>
    have a1 : (h s).1 = v.1 := Option.some.inj a
    have b1 : (h s).2 = v.2 := Option.some.inj b
    exact congrArg some (Prod.ext a1 b1)
section
open PySem.W PySem.Calls
set_option maxHeartbeats 0 in
theorem hrunA (w : World) (os : OsState) : (hE w os).map (fun s => HandSHeadRun.looksF R.prog (boot_heap w.params) s.abs) = some true := by
  kernel_rfl
set_option maxHeartbeats 0 in
theorem hrunB (w : World) (os : OsState) : (hE w os).map (fun s => HandSHeadRun.seenQ hq hnm (importedModules R.prog.main.body) (fun s => xlAt hq [] s && recOk R.toRowW.records s) s.abs) = some (PySem.W.openGood hq hnm) := by
  kernel_rfl
end
set_option maxHeartbeats 0 in
theorem hrunC1 (w : World) (os : OsState) : (hE w os).map (fun s => hck (He.frG (HandSHeadRun.getT s) (Q.asT (HandSHeadRun.getT s) 0 s.n))) = some true := by
  kernel_rfl
set_option maxHeartbeats 0 in
theorem hrunC2 (w : World) (os : OsState) : (hE w os).map (fun s => hfn.all fun d => d.ok (He.frG (HandSHeadRun.getT s) (Q.asT (HandSHeadRun.getT s) 0 s.n))) = some true := by
  kernel_rfl
set_option maxHeartbeats 0 in
theorem hrunC3 (w : World) (os : OsState) : (hE w os).map (fun s => Q.tbB (HandSHeadRun.getT s) (He.frG (HandSHeadRun.getT s) (Q.asT (HandSHeadRun.getT s) 0 s.n)) hmk) = some true := by
  kernel_rfl
theorem hrunC (w : World) (os : OsState) : (hE w os).map (fun s => (Q.obsTs 0 hck hfn hmk s).1) = some (Q.valH hfn).1 := Q.runCT (hrunC1 w os) (hrunC2 w os) (hrunC3 w os)
set_option maxHeartbeats 0 in
theorem hrunD (w : World) (os : OsState) : (hE w os).map (fun s => (hob s).2) = some (hk.val w).2 := by
  kernel_rfl
theorem hrun (w : World) : HandSHeadRun.RunEq R hq hk hob 12000 hnm w := by
  intro os
  exact run3 (hrunA w os) (hrunB w os) (runPair (h := hob) (v := hk.val w) (hrunC w os) (hrunD w os))
end K31

namespace Q
open PySem PySem.Spec PyProof.Rows L2
inductive D where
  | non | bl (b : Bool) | int (i : Int) | str (x : Str)
  | tup (l : List D) | lst (l : List D) | scr (l : List D) | dct (l : List (D × D))
  | obj (n : Nat) | fn (k : Nat) (l : List D) | gone (k : Nat)
structure Ob where
  cls : Nat
  fs : List (Str × D)
abbrev Store := List Ob
abbrev Env := List (Option D)
structure Exc where
  cls : Nat
  args : List (Str × D)
inductive RE where
  | ok (d : D) (S : Store)
  | exc (x : Exc) (S : Store)
  | no
inductive RL where
  | ok (ds : List D) (S : Store)
  | exc (x : Exc) (S : Store)
  | no
inductive RS where
  | nx (ρ : Env) (S : Store)
  | bk (ρ : Env) (S : Store)
  | ct (ρ : Env) (S : Store)
  | rt (d : D) (ρ : Env) (S : Store)
  | exc (x : Exc) (ρ : Env) (S : Store)
  | no
abbrev FE := Env → Store → RE
abbrev FL := Env → Store → RL
abbrev FS := Env → Store → RS
structure Lam where
  qual : Str
  params : Arguments
  body : Expr
  scope : Scope
  fr : List Str
instance : Inhabited Lam := ⟨⟨"", ⟨[], [], none, [], [], none, []⟩, .Constant .none 0 ⟨0, 0, 0, 0⟩, { kind := .function, names := [], isGenerator := false, isCoroutine := false, more := [] }, []⟩⟩
structure Th where
  K : PySem.W.Frag
  pr : Program
  w : World
  cA : Nat → Addr
  nc : Nat
  fm : Nat → Str → Nat
  tb : List (Addr × Str)
  lm : Nat → Lam
structure G where
  N : Nat
  μ : Nat → Addr
  O : Addr → Prop
  F : Nat → Addr → Prop
  B : Addr → Prop
  BF : Nat → Str → Addr → Prop
  P : Nat → V
def G.Z (g : G) (k : Nat) : V := g.P (1000000 + k)
def G.U (g : G) (a : Addr) : Prop := g.O a ∨ (∃ i, g.F i a) ∨ g.B a
def WrL (K : PySem.W.Frag) (a : Addr) (xs : List V) : Prop := ∃ (o : Obj) (its : Array Value) (n : Nat), K.lookup a = some o ∧ o.cls = .type "list" ∧ o.dict = none ∧ o.data = .seq its n ∧ its.size ≤ sizeLine ∧ Vals xs its.toList
def WrT (K : PySem.W.Frag) (a : Addr) (xs : List V) : Prop := ∃ (o : Obj) (its : Array Value) (n : Nat), K.lookup a = some o ∧ o.cls = .type "tuple" ∧ o.data = .seq its n ∧ its.size ≤ sizeLine ∧ Vals xs its.toList
def LkL (K : PySem.W.Frag) (U : Addr → Prop) (H : Hp) (a : Addr) (xs : List V) : Prop := (Rd H a (.lst xs) ∧ ¬ U a) ∨ WrL K a xs
def LkT (K : PySem.W.Frag) (U : Addr → Prop) (H : Hp) (a : Addr) (xs : List V) : Prop := (Rd H a (.tup xs) ∧ ¬ U a) ∨ WrT K a xs
theorem LkL.sq {K : PySem.W.Frag} {U : Addr → Prop} {H : Hp} {a : Addr} {xs : List V} (h : LkL K U H a xs) : SqL K H a xs := h.imp (·.1) id
theorem LkT.sq {K : PySem.W.Frag} {U : Addr → Prop} {H : Hp} {a : Addr} {xs : List V} (h : LkT K U H a xs) : SqT K H a xs := h.imp (·.1) id

mutual
def nk : D → Option PySem.NestedKey
  | .non => some .none
  | .bl b => some (.num (if b = true then 1 else 0))
  | .int i => some (.num i)
  | .str x => some (.text x)
  | .tup l => (nkL l).map .tup
  | _ => none
def nkL : List D → Option (List PySem.NestedKey)
  | [] => some []
  | d :: r => match nk d, nkL r with
    | some k, some ks => some (k :: ks)
    | _, _ => none
end
def dN (P : Program) (w : World) (a : Addr) (ps : List (PySem.NestedKey × Addr × V)) : HO := .ext fun h => ps.length ≤ sizeLine ∧ (a == sysModules) = false ∧ ∃ (o : Obj) (es : Array DictEntry) (ep : Nat) (xs : List (PySem.NestedKey × Addr × Value)), h.get? a = some o ∧ o.ExactDict ∧ o.data = .dict es ep ∧ es.toList = xs.map (PySem.entryOfKey (PySem.nestedKind P w)) ∧ (xs.map (·.1)).Nodup ∧
  Paired (fun (p : PySem.NestedKey × Addr × V) (x : PySem.NestedKey × Addr × Value) => p.1 = x.1 ∧ p.2.1 = x.2.1 ∧ RelV p.2.2 x.2.2) ps xs
def DRep (T : Th) (H : Hp) (a : Addr) (l : List (D × D)) (kvs : List (V × V)) : Prop :=
  (∃ ks : List (Key × V), H a = some (.dK ks) ∧ kvs = ks.map fun p => (kV p.1, p.2)) ∨
  (∃ ps : List (PySem.NestedKey × Addr × V), H a = some (dN T.pr T.w a ps) ∧ kvs = (ps.map fun p => (V.ref p.2.1, p.2.2)) ∧ ps.map (fun p => some p.1) = (l.map fun p => nk p.1) ∧ ps ≠ [] ∧ ∀ p ∈ ps, p.1.depth ≤ 8)
theorem DRep.at {T : Th} {H H' : Hp} {a : Addr} {l : List (D × D)} {kvs : List (V × V)} (h : DRep T H a l kvs) (k : ∀ o, H a = some o → H' a = some o) : DRep T H' a l kvs := by
  rcases h with ⟨ks, h1, h2⟩ | ⟨ps, h1, h2, h3⟩
  · exact .inl ⟨ks, k _ h1, h2⟩
  · exact .inr ⟨ps, k _ h1, h2, h3⟩
def DShr (T : Th) (H : Hp) (a : Addr) (l : List (D × D)) (kvs : List (V × V)) : Prop :=
  (∃ ks : List (Key × V), Rd H a (.dK ks) ∧ kvs = ks.map fun p => (kV p.1, p.2)) ∨
  (∃ ps : List (PySem.NestedKey × Addr × V), Rd H a (dN T.pr T.w a ps) ∧ kvs = (ps.map fun p => (V.ref p.2.1, p.2.2)) ∧ ps.map (fun p => some p.1) = (l.map fun p => nk p.1) ∧ ps ≠ [] ∧ ∀ p ∈ ps, p.1.depth ≤ 8)
theorem DShr.at {T : Th} {H H' : Hp} {a : Addr} {l : List (D × D)} {kvs : List (V × V)} (h : DShr T H a l kvs) (k : ∀ o, Rd H a o → Rd H' a o) : DShr T H' a l kvs := by
  rcases h with ⟨ks, h1, h2⟩ | ⟨ps, h1, h2, h3⟩
  · exact .inl ⟨ks, k _ h1, h2⟩
  · exact .inr ⟨ps, k _ h1, h2, h3⟩
theorem DShr.there {T : Th} {H : Hp} {a : Addr} {l : List (D × D)} {kvs : List (V × V)} (h : DShr T H a l kvs) : ∃ o, Rd H a o := by
  rcases h with ⟨ks, h1, h2⟩ | ⟨ps, h1, h2, h3⟩
  · exact ⟨_, h1⟩
  · exact ⟨_, h1⟩
theorem DRep.shr {T : Th} {H : Hp} {a : Addr} {l : List (D × D)} {kvs : List (V × V)} (h : DRep T H a l kvs) : DShr T H a l kvs := by
  rcases h with ⟨ks, h1, h2⟩ | ⟨ps, h1, h2, h3⟩
  · exact .inl ⟨ks, .of h1, h2⟩
  · exact .inr ⟨ps, .of h1, h2, h3⟩
def flatKs (l : List (D × D)) : Bool := l.all fun p => match p.1 with
  | .int _ => true
  | .str _ => true
  | _ => false
theorem DRep.there {T : Th} {H : Hp} {a : Addr} {l : List (D × D)} {kvs : List (V × V)} (h : DRep T H a l kvs) : ∃ o, H a = some o := by
  rcases h with ⟨ks, h1, h2⟩ | ⟨ps, h1, h2, h3⟩
  · exact ⟨_, h1⟩
  · exact ⟨_, h1⟩

abbrev fzo (o : Obj) : HO := .frz o (.own 0)
mutual
def Clo (T : Th) (g : G) (H : Hp) : Nat → D → V → Prop
  | _, .int i, v => v = .int i
  | m, .fn k l, v => ∃ (f c : Addr) (cl : List (Str × Addr)) (vs : List V) (pm ctv : Value), v = .ref f ∧ f < m ∧ ¬ g.U f ∧ ¬ g.U c ∧
      H f = some (fzo (PySem.W.kla_obj "<lambda>" (T.lm k).qual (T.lm k).params (T.lm k).body (T.lm k).scope cl pm c ctv)) ∧ H c = some (LamX.CodeO c (T.lm k).qual) ∧
      (∀ x y a, cl.lookup x = some a → cl.lookup y = some a → x = y) ∧ (∀ y a, cl.lookup y = some a → y ∈ (T.lm k).fr) ∧ vs.length = (T.lm k).fr.length ∧
      (∀ (i : Nat) (y : Str) (w : V), (T.lm k).fr[i]? = some y → vs[i]? = some w → ∃ (a : Addr) (oc : Obj) (u : Value), cl.lookup y = some a ∧ a < m ∧ ¬ g.U a ∧ H a = some (fzo oc) ∧ oc.data = .cell (some u) ∧ RelV w u) ∧
      ∃ m', m' ≤ m ∧ (∀ y a, cl.lookup y = some a → m' ≤ a) ∧ CloL T g H m' l vs
  | _, _, _ => False
def CloL (T : Th) (g : G) (H : Hp) : Nat → List D → List V → Prop
  | _, [], vs => vs = []
  | m, d :: ds, vs => ∃ v ws, vs = v :: ws ∧ Clo T g H m d v ∧ CloL T g H m ds ws
end
mutual
def Shr (T : Th) (g : G) (H : Hp) : D → V → Prop
  | .non, v => v = .non
  | .bl b, v => v = .bl b
  | .int i, v => v = .int i
  | .str x, v => v = .str x
  | .tup l, v => ∃ a vs, v = .ref a ∧ LkT T.K g.U H a vs ∧ ShrL T g H l vs
  | .lst l, v => ∃ a vs, v = .ref a ∧ (H a = some (.lst vs) ∧ ¬ g.U a) ∧ ShrL T g H l vs
  | .scr l, v => ∃ a vs, v = .ref a ∧ LkL T.K g.U H a vs ∧ ShrL T g H l vs
  | .dct l, v => ∃ a kvs, v = .ref a ∧ (DShr T H a l kvs ∧ ¬ g.U a) ∧ ShrK T g H l kvs
  | .obj n, v => n < g.N ∧ v = .ref (g.μ n)
  | .fn k l, v => ∃ m, Clo T g H m (.fn k l) v
  | .gone _, _ => False
def ShrL (T : Th) (g : G) (H : Hp) : List D → List V → Prop
  | [], vs => vs = []
  | d :: ds, vs => ∃ v ws, vs = v :: ws ∧ Shr T g H d v ∧ ShrL T g H ds ws
def ShrK (T : Th) (g : G) (H : Hp) : List (D × D) → List (V × V) → Prop
  | [], vs => vs = []
  | (k, d) :: ds, vs => ∃ u v ws, vs = (u, v) :: ws ∧ Shr T g H k u ∧ Shr T g H d v ∧ ShrK T g H ds ws
end

structure Stay (g : G) (H : Hp) (g' : G) (H' : Hp) : Prop where
  keep : ∀ a o, H a = some o → ¬ g.U a → H' a = some o
  own : ∀ a, g'.U a → g.U a ∨ H a = none
  N : g.N ≤ g'.N
  μ : ∀ n, n < g.N → g'.μ n = g.μ n
  Z : g'.Z = g.Z
theorem Stay.refl (g : G) (H : Hp) : Stay g H g H := ⟨fun _ _ h _ => h, fun _ h => .inl h, Nat.le_refl _, fun _ _ => rfl, rfl⟩
theorem Stay.off {g : G} {H : Hp} {g' : G} {H' : Hp} (s : Stay g H g' H') {a : Addr} {o : HO} (h : H a = some o) (hu : ¬ g.U a) : ¬ g'.U a := fun z => by
  rcases s.own a z with z | z
  · exact hu z
  · rw [h] at z; cases z
theorem Stay.rd {g : G} {H : Hp} {g' : G} {H' : Hp} (s : Stay g H g' H') {a : Addr} {u : HO} (h : Rd H a u) (hu : ¬ g.U a) : Rd H' a u ∧ ¬ g'.U a := by
  rcases h with h | ⟨o, h⟩
  · exact ⟨.inl (s.keep a _ h hu), s.off h hu⟩
  · exact ⟨.inr ⟨o, s.keep a _ h hu⟩, s.off h hu⟩
theorem Stay.trans {g g1 g2 : G} {H H1 H2 : Hp} (a : Stay g H g1 H1) (b : Stay g1 H1 g2 H2) : Stay g H g2 H2 where
  keep := fun x o h hu => b.keep x o (a.keep x o h hu) (a.off h hu)
  own := fun x h => by
    rcases b.own x h with h | h
    · exact a.own x h
    · cases e : H x with
      | none => exact .inr rfl
      | some o =>
        by_cases hu : g.U x
        · exact .inl hu
        · have := a.keep x o e hu
          rw [h] at this; cases this
  N := Nat.le_trans a.N b.N
  μ := fun n h => (b.μ n (Nat.lt_of_lt_of_le h a.N)).trans (a.μ n h)
  Z := b.Z.trans a.Z
section
variable {T : Th} {g g' : G} {H H' : Hp}
theorem Clo.of {T' : Th} (el : T'.lm = T.lm) (hf : ∀ a o, H a = some (fzo o) → ¬ g.U a → H' a = some (fzo o) ∧ ¬ g'.U a) (hc : ∀ a q, H a = some (LamX.CodeO a q) → ¬ g.U a → H' a = some (LamX.CodeO a q) ∧ ¬ g'.U a) : ∀ (d : D) (m : Nat) (v : V), Clo T g H m d v → Clo T' g' H' m d v := by
  have key : ∀ (n : Nat) (d : D) (m : Nat) (v : V), sizeOf d < n → Clo T g H m d v → Clo T' g' H' m d v := by
    intro n
    induction n with
    | zero => intro d m v h; omega
    | succ n ih =>
      have ihL : ∀ (l : List D) (m : Nat) (vs : List V), (∀ d ∈ l, sizeOf d < n) → CloL T g H m l vs → CloL T' g' H' m l vs := by
        intro l
        induction l with
        | nil => intro m vs _ h; simpa only [CloL] using h
        | cons d l ihl =>
          intro m vs hs h
          simp only [CloL] at h ⊢
          obtain ⟨v, ws, e, h1, h2⟩ := h
          exact ⟨v, ws, e, ih d m v (hs d List.mem_cons_self) h1, ihl m ws (fun x hx => hs x (List.mem_cons_of_mem _ hx)) h2⟩
      intro d m v hn h
      cases d with
      | int i => simpa only [Clo] using h
      | fn k l =>
        simp only [Clo, el] at h ⊢
        obtain ⟨f, c, cl, vs, pm, ctv, e, h1, h2, h3, h4, h5, h6, h7, h8, h9, m', h10, h11, h12⟩ := h
        obtain ⟨f1, f2⟩ := hf _ _ h4 h2
        obtain ⟨c1, c2⟩ := hc _ _ h5 h3
        refine ⟨f, c, cl, vs, pm, ctv, e, h1, f2, c2, f1, c1, h6, h7, h8, fun i y w a b => ?_, m', h10, h11, ihL l m' vs (fun d hd => ?_) h12⟩
        · obtain ⟨x, oc, u, k1, k2, k3, k4, k5⟩ := h9 i y w a b
          obtain ⟨x1, x2⟩ := hf _ _ k4 k3
          exact ⟨x, oc, u, k1, k2, x2, x1, k5⟩
        · have := List.sizeOf_lt_of_mem hd
          have e := D.fn.sizeOf_spec k l
          omega
      | _ => simp only [Clo] at h
  exact fun d m v h => key (sizeOf d + 1) d m v (Nat.lt_succ_self _) h
theorem Clo.stay (s : Stay g H g' H') {d : D} {m : Nat} {v : V} (h : Clo T g H m d v) : Clo T g' H' m d v :=
  Clo.of rfl (fun a o e hu => ⟨s.keep _ _ e hu, s.off e hu⟩) (fun a q e hu => ⟨s.keep _ _ e hu, s.off e hu⟩) d m v h
mutual
theorem Shr.stay (s : Stay g H g' H') : ∀ (d : D) (v : V), Shr T g H d v → Shr T g' H' d v
  | .non, _, h => by simpa only [Shr] using h
  | .bl _, _, h => by simpa only [Shr] using h
  | .int _, _, h => by simpa only [Shr] using h
  | .str _, _, h => by simpa only [Shr] using h
  | .tup l, v, h => by
    simp only [Shr] at h ⊢
    obtain ⟨a, vs, e, q, r⟩ := h
    exact ⟨a, vs, e, q.imp (fun z => s.rd z.1 z.2) id, ShrL.stay s l vs r⟩
  | .lst l, v, h => by
    simp only [Shr] at h ⊢
    obtain ⟨a, vs, e, q, r⟩ := h
    exact ⟨a, vs, e, ⟨s.keep _ _ q.1 q.2, s.off q.1 q.2⟩, ShrL.stay s l vs r⟩
  | .scr l, v, h => by
    simp only [Shr] at h ⊢
    obtain ⟨a, vs, e, q, r⟩ := h
    exact ⟨a, vs, e, q.imp (fun z => s.rd z.1 z.2) id, ShrL.stay s l vs r⟩
  | .dct l, v, h => by
    simp only [Shr] at h ⊢
    obtain ⟨a, vs, e, q, r⟩ := h
    obtain ⟨o, h0⟩ := q.1.there
    exact ⟨a, vs, e, ⟨q.1.at fun o h => (s.rd h q.2).1, (s.rd h0 q.2).2⟩, ShrK.stay s l vs r⟩
  | .obj n, v, h => by
    simp only [Shr] at h ⊢
    exact ⟨Nat.lt_of_lt_of_le h.1 s.N, by rw [s.μ n h.1]; exact h.2⟩
  | .fn _ _, v, h => by
    simp only [Shr] at h ⊢
    exact h.imp fun m z => z.stay s
  | .gone _, v, h => by simp only [Shr] at h
theorem ShrL.stay (s : Stay g H g' H') : ∀ (ds : List D) (vs : List V), ShrL T g H ds vs → ShrL T g' H' ds vs
  | [], _, h => by simpa only [ShrL] using h
  | d :: ds, vs, h => by
    simp only [ShrL] at h ⊢
    obtain ⟨v, ws, e, q, r⟩ := h
    exact ⟨v, ws, e, Shr.stay s d v q, ShrL.stay s ds ws r⟩
theorem ShrK.stay (s : Stay g H g' H') : ∀ (ds : List (D × D)) (vs : List (V × V)), ShrK T g H ds vs → ShrK T g' H' ds vs
  | [], _, h => by simpa only [ShrK] using h
  | (k, d) :: ds, vs, h => by
    simp only [ShrK] at h ⊢
    obtain ⟨u, v, ws, e, p, q, r⟩ := h
    exact ⟨u, v, ws, e, Shr.stay s k u p, Shr.stay s d v q, ShrK.stay s ds ws r⟩
end
end
section
variable {T : Th} {g : G} {H : Hp}
theorem ShrL.length : ∀ {ds : List D} {vs : List V}, ShrL T g H ds vs → ds.length = vs.length
  | [], _, h => by simp only [ShrL] at h; subst h; rfl
  | d :: ds, vs, h => by
    simp only [ShrL] at h
    obtain ⟨v, ws, rfl, _, r⟩ := h
    simp only [List.length_cons, ShrL.length r]
theorem ShrL.get : ∀ {ds : List D} {vs : List V} {i : Nat} {d : D}, ShrL T g H ds vs → ds[i]? = some d → ∃ v, vs[i]? = some v ∧ Shr T g H d v
  | [], _, _, _, _, e => by simp at e
  | d :: ds, vs, i, d', h, e => by
    simp only [ShrL] at h
    obtain ⟨v, ws, rfl, q, r⟩ := h
    cases i with
    | zero => simp at e; subst e; exact ⟨v, rfl, q⟩
    | succ i =>
      obtain ⟨w, h1, h2⟩ := ShrL.get (i := i) r (by simpa using e)
      exact ⟨w, by simpa using h1, h2⟩
theorem ShrL.of {ds : List D} {vs : List V} (hl : ds.length = vs.length) (h : ∀ (i : Nat) d v, ds[i]? = some d → vs[i]? = some v → Shr T g H d v) : ShrL T g H ds vs := by
  induction ds generalizing vs with
  | nil =>
    simp only [ShrL]
    cases vs with
    | nil => rfl
    | cons _ _ => simp at hl
  | cons d ds ih =>
    cases vs with
    | nil => simp at hl
    | cons v vs =>
      simp only [ShrL]
      exact ⟨v, vs, rfl, h 0 d v rfl rfl, ih (by simpa using hl) fun i a b p q => h (i + 1) a b (by simpa using p) (by simpa using q)⟩
theorem ShrL.append {ds es : List D} {vs ws : List V} (h : ShrL T g H ds vs) (h' : ShrL T g H es ws) : ShrL T g H (ds ++ es) (vs ++ ws) := by
  induction ds generalizing vs with
  | nil => simp only [ShrL] at h; subst h; exact h'
  | cons d ds ih =>
    simp only [ShrL] at h
    obtain ⟨v, us, rfl, q, r⟩ := h
    show ShrL T g H (d :: (ds ++ es)) (v :: (us ++ ws))
    simp only [ShrL]
    exact ⟨v, _, rfl, q, ih r⟩
theorem ShrL.nil : ShrL T g H [] [] := by simp only [ShrL]
theorem ShrL.cons {d : D} {v : V} {ds : List D} {vs : List V} (h : Shr T g H d v) (r : ShrL T g H ds vs) : ShrL T g H (d :: ds) (v :: vs) := by
  simp only [ShrL]; exact ⟨v, vs, rfl, h, r⟩
theorem ShrL.take {ds : List D} {vs : List V} (n : Nat) (h : ShrL T g H ds vs) : ShrL T g H (ds.take n) (vs.take n) := by
  refine .of (by rw [List.length_take, List.length_take, h.length]) fun i d v e1 e2 => ?_
  rw [List.getElem?_take] at e1 e2
  split at e1
  · rename_i hi
    rw [if_pos hi] at e2
    obtain ⟨w, h1, h2⟩ := h.get e1
    rw [e2] at h1; cases h1
    exact h2
  · cases e1
theorem ShrL.drop {ds : List D} {vs : List V} (n : Nat) (h : ShrL T g H ds vs) : ShrL T g H (ds.drop n) (vs.drop n) := by
  refine .of (by rw [List.length_drop, List.length_drop, h.length]) fun i d v e1 e2 => ?_
  rw [List.getElem?_drop] at e1 e2
  obtain ⟨w, h1, h2⟩ := h.get e1
  rw [e2] at h1; cases h1
  exact h2
end
section
variable {T : Th} {g : G} {H : Hp}
theorem ShrK.length : ∀ {ds : List (D × D)} {vs : List (V × V)}, ShrK T g H ds vs → ds.length = vs.length
  | [], _, h => by simp only [ShrK] at h; subst h; rfl
  | (k, d) :: ds, vs, h => by
    simp only [ShrK] at h
    obtain ⟨u, v, ws, rfl, _, _, r⟩ := h
    simp only [List.length_cons, ShrK.length r]
theorem ShrK.get : ∀ {ds : List (D × D)} {vs : List (V × V)} {i : Nat} {d : D × D}, ShrK T g H ds vs → ds[i]? = some d → ∃ w : V × V, vs[i]? = some w ∧ Shr T g H d.1 w.1 ∧ Shr T g H d.2 w.2
  | [], _, _, _, _, e => by simp at e
  | (k, d) :: ds, vs, i, d', h, e => by
    simp only [ShrK] at h
    obtain ⟨u, v, ws, rfl, p, q, r⟩ := h
    cases i with
    | zero => simp at e; subst e; exact ⟨(u, v), rfl, p, q⟩
    | succ i =>
      obtain ⟨w, h1, h2⟩ := ShrK.get (i := i) r (by simpa using e)
      exact ⟨w, by simpa using h1, h2⟩
theorem ShrK.of {ds : List (D × D)} {vs : List (V × V)} (hl : ds.length = vs.length) (h : ∀ (i : Nat) (d : D × D) (v : V × V), ds[i]? = some d → vs[i]? = some v → Shr T g H d.1 v.1 ∧ Shr T g H d.2 v.2) : ShrK T g H ds vs := by
  induction ds generalizing vs with
  | nil =>
    simp only [ShrK]
    cases vs with
    | nil => rfl
    | cons _ _ => simp at hl
  | cons d ds ih =>
    cases vs with
    | nil => simp at hl
    | cons v vs =>
      obtain ⟨k, d⟩ := d
      obtain ⟨u, v⟩ := v
      simp only [ShrK]
      obtain ⟨h1, h2⟩ := h 0 (k, d) (u, v) rfl rfl
      exact ⟨u, v, vs, rfl, h1, h2, ih (by simpa using hl) fun i a b p q => h (i + 1) a b (by simpa using p) (by simpa using q)⟩
end
def Own (T : Th) (g : G) (H : Hp) : Nat → (Addr → Prop) → D → V → Prop
  | k + 1, F, .lst l, v => ∃ p vs, v = .ref p ∧ F p ∧ H p = some (.lst vs) ∧ l.length = vs.length ∧ ∃ Gs : Nat → Addr → Prop, (∀ j q, Gs j q → F q ∧ q ≠ p) ∧ (∀ i j q, Gs i q → Gs j q → i = j) ∧ ∀ (j : Nat) d w, l[j]? = some d → vs[j]? = some w → Own T g H k (Gs j) d w
  | k + 1, F, .dct l, v => ∃ p vs, v = .ref p ∧ F p ∧ DRep T H p l vs ∧ l.length = vs.length ∧ ∃ Gs : Nat → Addr → Prop, (∀ j q, Gs j q → F q ∧ q ≠ p) ∧ (∀ i j q, Gs i q → Gs j q → i = j) ∧ ∀ (j : Nat) (d : D × D) (w : V × V), l[j]? = some d → vs[j]? = some w → Shr T g H d.1 w.1 ∧ Own T g H k (Gs j) d.2 w.2
  | _, _, d, v => Shr T g H d v
inductive Md where

  | s | o (k : Nat) | r (k : Nat) | p (k : Nat) | e (v : V) | l | x (v : V) (dd : Addr) (fs : List (Str × V))
def G.bare (g : G) : G := { g with O := fun _ => False }
def RepM (T : Th) (g : G) (H : Hp) (i : Nat) : Md → D → V → Prop
  | .s, d, v => Shr T g H d v
  | .o k, d, v => Own T g H k (g.F i) d v
  | .r k, d, v => Own T g H k g.O d v
  | .p k, d, v => v = g.P i ∧ Own T g H k (g.F i) d v
  | .e w, _, v => v = w
  | .l, d, v => Shr T g.bare H d v
  | .x w dd fs, _, v => v = w ∧ H dd = some (.xd fs) ∧ ¬ g.U dd
def TabG (g : G) (H : Hp) (p : Addr × Str) : Prop := g.B p.1 ∧ (∀ n f, ¬ g.BF n f p.1) ∧ ∃ ps : Array Value, H p.1 = some (.tbl ps) ∧ TriplesOk ps.toList ∧ ∀ (pos : Pos) (cv : Value), codeAmong pos ps.toList = some cv → ∃ c, cv = .ref c ∧ H c = some (LamX.CodeO c p.2) ∧ ¬ g.U c
structure SR (T : Th) (g : G) (S : Store) (H : Hp) : Prop where
  N : g.N = S.length
  inj : ∀ m n, m < g.N → n < g.N → g.μ m = g.μ n → m = n
  mB : ∀ n, n < g.N → g.B (g.μ n)
  bB : ∀ n f a, g.BF n f a → g.B a ∧ ∀ m, m < g.N → a ≠ g.μ m
  bd : ∀ n f m e a, g.BF n f a → g.BF m e a → n = m ∧ f = e
  nd : ∀ (n : Nat) (o : Ob), S[n]? = some o → (o.fs.map (·.1)).Nodup
  ob : ∀ n o, S[n]? = some o → ∃ dx fs, H (g.μ n) = some (.ins (T.cA o.cls) dx fs) ∧ fs.map (·.1) = o.fs.map (·.1) ∧ ∀ (j : Nat) (d : Str × D) (w : Str × V), o.fs[j]? = some d → fs[j]? = some w → Own T g H (T.fm o.cls d.1) (g.BF n d.1) d.2 w.2
  tb : ∀ p ∈ T.tb, TabG g H p
structure Rel (T : Th) (g : G) (Γ : List Md) (ρ : Env) (S : Store) (σ : L2.St) (H : Hp) : Prop where
  len : ρ.length = σ.length
  slot : ∀ (i : Nat) d, ρ[i]? = some (some d) → ∃ v, σ[i]? = some (some v) ∧ RepM T g H i (Γ.getD i .s) d v
  dF : ∀ i j a, g.F i a → g.F j a → i = j
  dFO : ∀ i a, g.F i a → ¬ g.O a
  dFB : ∀ i a, g.F i a → ¬ g.B a
  dOB : ∀ a, g.O a → ¬ g.B a
  dom : ∀ a, g.U a → ∃ o, H a = some o
  st : SR T g S H
  nt : ∀ a, g.U a → ∀ u, ¬ Rd H a (.tup u)
end Q

namespace Q
open PySem PySem.Spec PyProof.Rows L2
abbrev Exx (H H' : Hp) : Prop := ∀ a o, H a = some o → H' a = some o
theorem Exx.nt {H H' : Hp} {U : Addr → Prop} (dm : ∀ a, U a → ∃ o, H a = some o) (nt : ∀ a, U a → ∀ u, ¬ Rd H a (.tup u)) (e : Exx H H') : ∀ a, U a → ∀ u, ¬ Rd H' a (.tup u) := fun a h u r => by
  obtain ⟨o, q⟩ := dm a h
  have q' := e a o q
  refine nt a h u (r.imp (fun z => ?_) fun ⟨b, z⟩ => ⟨b, ?_⟩)
  · rw [q'] at z; cases z; exact q
  · rw [q'] at z; cases z; exact q
theorem Exx.refl (H : Hp) : Exx H H := fun _ _ h => h
theorem Exx.new {H : Hp} {p : Addr} {o : HO} (h : H p = none) : Exx H (upd H p o) := fun a u e => by
  rw [upd_ne (ne_of_none e h)]; exact e
theorem Exx.trans {H H1 H2 : Hp} (a : Exx H H1) (b : Exx H1 H2) : Exx H H2 := fun x o h => b x o (a x o h)
section
variable {T : Th} {g g' : G} {H H' : Hp}
theorem Stay.ex (e : Exx H H') : Stay g H g H' := ⟨fun a o h _ => e a o h, fun _ h => .inl h, Nat.le_refl _, fun _ _ => rfl, rfl⟩
theorem Own.keep (st : Stay g H g' H') (ke : ∀ (F : Addr → Prop) a o, F a → H a = some o → H' a = some o) : ∀ (k : Nat) (F : Addr → Prop) (d : D) (v : V), Own T g H k F d v → Own T g' H' k F d v := by
  intro k
  induction k with
  | zero =>
    intro F d v h
    simp only [Own] at h ⊢
    exact h.stay st
  | succ k ih =>
    intro F d v h
    cases d with
    | lst l =>
      simp only [Own] at h ⊢
      obtain ⟨p, vs, e, hF, hH, hl, Gs, h1, h2, h3⟩ := h
      exact ⟨p, vs, e, hF, ke F p _ hF hH, hl, Gs, h1, h2, fun j d w a b => ih (Gs j) d w (h3 j d w a b)⟩
    | dct l =>
      simp only [Own] at h ⊢
      obtain ⟨p, vs, e, hF, hH, hl, Gs, h1, h2, h3⟩ := h
      exact ⟨p, vs, e, hF, hH.at fun o z => ke F p o hF z, hl, Gs, h1, h2, fun j d w a b => ⟨(h3 j d w a b).1.stay st, ih (Gs j) d.2 w.2 (h3 j d w a b).2⟩⟩
    | _ => simp only [Own] at h ⊢; exact h.stay st
theorem Own.keepF (st : Stay g H g' H') : ∀ (k : Nat) (F : Addr → Prop) (d : D) (v : V), (∀ a o, F a → H a = some o → H' a = some o) → Own T g H k F d v → Own T g' H' k F d v := by
  intro k
  induction k with
  | zero =>
    intro F d v ke h
    simp only [Own] at h ⊢
    exact h.stay st
  | succ k ih =>
    intro F d v ke h
    cases d with
    | lst l =>
      simp only [Own] at h ⊢
      obtain ⟨p, vs, e, hF, hH, hl, Gs, h1, h2, h3⟩ := h
      exact ⟨p, vs, e, hF, ke p _ hF hH, hl, Gs, h1, h2, fun j d w a b => ih (Gs j) d w (fun a o z q => ke a o (h1 j a z).1 q) (h3 j d w a b)⟩
    | dct l =>
      simp only [Own] at h ⊢
      obtain ⟨p, vs, e, hF, hH, hl, Gs, h1, h2, h3⟩ := h
      exact ⟨p, vs, e, hF, hH.at fun o z => ke p o hF z, hl, Gs, h1, h2, fun j d w a b => ⟨(h3 j d w a b).1.stay st, ih (Gs j) d.2 w.2 (fun a o z q => ke a o (h1 j a z).1 q) (h3 j d w a b).2⟩⟩
    | _ => simp only [Own] at h ⊢; exact h.stay st
theorem Own.wide : ∀ (k : Nat) (F F' : Addr → Prop) (d : D) (v : V), (∀ a, F a → F' a) → Own T g H k F d v → Own T g H k F' d v := by
  intro k F F' d v hf h
  cases k with
  | zero => simpa only [Own] using h
  | succ k =>
    cases d with
    | lst l =>
      simp only [Own] at h ⊢
      obtain ⟨p, vs, e, hF, hH, hl, Gs, h1, h2, h3⟩ := h
      exact ⟨p, vs, e, hf _ hF, hH, hl, Gs, fun j q z => ⟨hf _ (h1 j q z).1, (h1 j q z).2⟩, h2, h3⟩
    | dct l =>
      simp only [Own] at h ⊢
      obtain ⟨p, vs, e, hF, hH, hl, Gs, h1, h2, h3⟩ := h
      exact ⟨p, vs, e, hf _ hF, hH, hl, Gs, fun j q z => ⟨hf _ (h1 j q z).1, (h1 j q z).2⟩, h2, h3⟩
    | _ => simpa only [Own] using h
theorem TabG.stay {p : Addr × Str} (t : TabG g H p) (st : Stay g H g' H') (k : ∀ o, H p.1 = some o → H' p.1 = some o) (hB : g.B p.1 → g'.B p.1) (hBF : ∀ n f, g'.BF n f p.1 → g.BF n f p.1) : TabG g' H' p := by
  obtain ⟨h1, h2, ps, h3, h4, h5⟩ := t
  refine ⟨hB h1, fun n f z => h2 n f (hBF n f z), ps, k _ h3, h4, fun pos cv e => ?_⟩
  obtain ⟨c, e1, e2, e3⟩ := h5 pos cv e
  exact ⟨c, e1, st.keep _ _ e2 e3, st.off e2 e3⟩
theorem SR.keep {S : Store} (r : SR T g S H) (st : Stay g H g' H') (ke : ∀ a o, g.B a → H a = some o → H' a = some o) (hN : g'.N = g.N) (hB : g'.B = g.B) (hBF : g'.BF = g.BF) (hμ : ∀ n, n < g.N → g'.μ n = g.μ n) : SR T g' S H' where
  N := hN.trans r.N
  inj := fun m n hm hn e => by
    rw [hN] at hm hn
    rw [hμ m hm, hμ n hn] at e
    exact r.inj m n hm hn e
  mB := fun n hn => by rw [hN] at hn; rw [hμ n hn, hB]; exact r.mB n hn
  bB := fun n f a h => by
    rw [hBF] at h
    rw [hB]
    exact ⟨(r.bB n f a h).1, fun m hm => by rw [hN] at hm; rw [hμ m hm]; exact (r.bB n f a h).2 m hm⟩
  bd := fun n f m e a h h' => by rw [hBF] at h h'; exact r.bd n f m e a h h'
  nd := r.nd
  ob := fun n o e => by
    have hn : n < g.N := by rw [r.N]; exact (List.getElem?_eq_some_iff.mp e).1
    obtain ⟨dx, fs, h1, h2, h3⟩ := r.ob n o e
    refine ⟨dx, fs, ?_, h2, fun j d w a b => ?_⟩
    · rw [hμ n hn]; exact ke _ _ (r.mB n hn) h1
    · rw [hBF]
      exact Own.keepF st _ _ _ _ (fun a o z q => ke a o (r.bB n _ a z).1 q) (h3 j d w a b)
  tb := fun p hp => (r.tb p hp).stay st (fun o e => ke _ _ (r.tb p hp).1 e) (fun z => by rw [hB]; exact z) fun n f z => by rw [hBF] at z; exact z
theorem Rel.ex {Γ : List Md} {ρ : Env} {S : Store} {σ : L2.St} (r : Rel T g Γ ρ S σ H) (e : Exx H H') : Rel T g Γ ρ S σ H' where
  len := r.len
  slot := fun i d h => by
    obtain ⟨v, h1, h2⟩ := r.slot i d h
    refine ⟨v, h1, ?_⟩
    cases hm : Γ.getD i .s <;> rw [hm] at h2 <;> simp only [RepM] at h2 ⊢
    · exact h2.stay (.ex e)
    · exact Own.keepF (.ex e) _ _ _ _ (fun a o _ q => e a o q) h2
    · exact Own.keepF (.ex e) _ _ _ _ (fun a o _ q => e a o q) h2
    · exact ⟨h2.1, Own.keepF (.ex e) _ _ _ _ (fun a o _ q => e a o q) h2.2⟩
    · exact h2
    · exact h2.stay (.ex e)
    · exact ⟨h2.1, e _ _ h2.2.1, h2.2.2⟩
  dF := r.dF
  dFO := r.dFO
  dFB := r.dFB
  dOB := r.dOB
  dom := fun a h => by obtain ⟨o, q⟩ := r.dom a h; exact ⟨o, e a o q⟩
  st := r.st.keep (.ex e) (fun a o _ q => e a o q) rfl rfl rfl fun _ _ => rfl
  nt := e.nt r.dom r.nt
end
theorem bare_sub {g g2 : G} {H : Hp} (hN : g.N = g2.N) (hμ : g2.μ = g.μ) (hF : ∀ i a, g2.F i a → ∃ j, g.F j a) (hB : ∀ a, g2.B a → g.B a) (hZ : g2.Z = g.Z := by rfl) : Stay g.bare H g2.bare H := ⟨fun _ _ h _ => h, fun a h => .inl (by
  rcases h with h | ⟨i, h⟩ | h
  · exact h.elim
  · exact .inr (.inl (hF i a h))
  · exact .inr (.inr (hB a h))), by show g.N ≤ g2.N; rw [hN]; exact Nat.le_refl _, fun n _ => by show g2.μ n = g.μ n; rw [hμ], hZ⟩
structure FrE (g : G) (H : Hp) (g' : G) (H' : Hp) : Prop where
  keep : ∀ a o, H a = some o → ¬ g.B a → H' a = some o
  B : ∀ a, g'.B a → g.B a ∨ H a = none
  F : g'.F = g.F
  O : g'.O = g.O
  P : g'.P = g.P
  N : g.N ≤ g'.N
  μ : ∀ n, n < g.N → g'.μ n = g.μ n
  dom : ∀ a o, H a = some o → ∃ o', H' a = some o'
section
variable {T : Th} {g g1 g2 : G} {H H1 H2 : Hp}
theorem FrE.refl (g : G) (H : Hp) : FrE g H g H := ⟨fun _ _ h _ => h, fun _ h => .inl h, rfl, rfl, rfl, Nat.le_refl _, fun _ _ => rfl, fun _ o h => ⟨o, h⟩⟩
theorem FrE.ex (e : Exx H H1) : FrE g H g H1 := ⟨fun a o h _ => e a o h, fun _ h => .inl h, rfl, rfl, rfl, Nat.le_refl _, fun _ _ => rfl, fun a o h => ⟨o, e a o h⟩⟩
theorem FrE.Z (f : FrE g H g1 H1) : g1.Z = g.Z := by funext k; show g1.P _ = g.P _; rw [f.P]
theorem FrE.stay (f : FrE g H g1 H1) : Stay g H g1 H1 where
  Z := f.Z
  keep := fun a o h hu => f.keep a o h fun z => hu (.inr (.inr z))
  own := fun a h => by
    rcases h with h | h | h
    · rw [f.O] at h; exact .inl (.inl h)
    · rw [f.F] at h; exact .inl (.inr (.inl h))
    · exact (f.B a h).imp (fun z => .inr (.inr z)) id
  N := f.N
  μ := f.μ
theorem FrE.bare (f : FrE g H g1 H1) : Stay g.bare H g1.bare H1 where
  Z := f.Z
  keep := fun a o h hu => f.keep a o h fun z => hu (.inr (.inr z))
  own := fun a h => by
    rcases h with h | h | h
    · exact h.elim
    · have h : ∃ i, g1.F i a := h
      rw [f.F] at h; exact .inl (.inr (.inl h))
    · exact (f.B a h).imp (fun z => .inr (.inr z)) id
  N := f.N
  μ := f.μ
theorem FrE.trans (a : FrE g H g1 H1) (b : FrE g1 H1 g2 H2) : FrE g H g2 H2 where
  keep := fun x o h hb => b.keep x o (a.keep x o h hb) fun z => by
    rcases a.B x z with z | z
    · exact hb z
    · rw [h] at z; cases z
  B := fun x h => by
    rcases b.B x h with h | h
    · exact a.B x h
    · cases e : H x with
      | none => exact .inr rfl
      | some o =>
        by_cases hb : g.B x
        · exact .inl hb
        · have := a.keep x o e hb
          rw [h] at this; cases this
  F := b.F.trans a.F
  O := b.O.trans a.O
  P := b.P.trans a.P
  N := Nat.le_trans a.N b.N
  μ := fun n h => (b.μ n (Nat.lt_of_lt_of_le h a.N)).trans (a.μ n h)
  dom := fun x o h => by
    obtain ⟨o', h'⟩ := a.dom x o h
    exact b.dom x o' h'
end
def ExcR (T : Th) (g : G) (H : Hp) (x : Exc) (c : Value) (dd : Option Addr) : Prop :=
  x.cls < T.nc ∧ c = .ref (T.cA x.cls) ∧ ((x.args = [] ∧ dd = none) ∨ ∃ d fs, x.args ≠ [] ∧ dd = some d ∧ H d = some (.xd fs) ∧ fs.map (·.1) = x.args.map (·.1) ∧ ShrL T g H (x.args.map (·.2)) (fs.map (·.2)) ∧ ¬ g.U d)
def GoodE (T : Th) (W : WX) (Γ : List Md) (ρ : Env) (σ : L2.St) (g : G) (H : Hp) : RE → VK → Prop
  | .ok d S', Q => ∀ v g' H', Rel T g' Γ ρ S' σ H' → FrE g H g' H' → Shr T g' H' d v → Q v H'
  | .exc x S', _ => ∀ c dd g' H', Rel T g' Γ ρ S' σ H' → FrE g H g' H' → ExcR T g' H' x c dd → W c dd σ H'
  | .no, _ => False
def GoodL (T : Th) (W : WX) (Γ : List Md) (ρ : Env) (σ : L2.St) (g : G) (H : Hp) : RL → (List V → Hp → Prop) → Prop
  | .ok d S', Q => ∀ v g' H', Rel T g' Γ ρ S' σ H' → FrE g H g' H' → ShrL T g' H' d v → Q v H'
  | .exc x S', _ => ∀ c dd g' H', Rel T g' Γ ρ S' σ H' → FrE g H g' H' → ExcR T g' H' x c dd → W c dd σ H'
  | .no, _ => False
def GoodT (T : Th) (W : WX) (Γ : List Md) (ρ : Env) (σ : L2.St) (g : G) (H : Hp) : RE → (Bool → Hp → Prop) → Prop
  | .ok d S', Q => ∃ b, d = .bl b ∧ ∀ g' H', Rel T g' Γ ρ S' σ H' → FrE g H g' H' → Q b H'
  | .exc x S', _ => ∀ c dd g' H', Rel T g' Γ ρ S' σ H' → FrE g H g' H' → ExcR T g' H' x c dd → W c dd σ H'
  | .no, _ => False
def tX (T : Th) (W : WX) (Γ : List Md) (F : FE) : TE := fun σ H Q => ∃ g ρ S, Rel T g Γ ρ S σ H ∧ GoodE T W Γ ρ σ g H (F ρ S) Q
def tXL (T : Th) (W : WX) (Γ : List Md) (F : FL) : TA := fun σ H Q => ∃ g ρ S, Rel T g Γ ρ S σ H ∧ GoodL T W Γ ρ σ g H (F ρ S) Q
def tXT (T : Th) (W : WX) (Γ : List Md) (F : FE) : TT := fun σ H Q => ∃ g ρ S, Rel T g Γ ρ S σ H ∧ GoodT T W Γ ρ σ g H (F ρ S) Q
abbrev XE (X : Cx) (T : Th) (W : WX) (Γ : List Md) (e : Expr) (F : FE) : Prop := PE X e (tX T W Γ F)
abbrev XL (X : Cx) (T : Th) (W : WX) (Γ : List Md) (es : List Expr) (F : FL) : Prop := PA X es (tXL T W Γ F)
abbrev XT (X : Cx) (T : Th) (W : WX) (Γ : List Md) (e : Expr) (F : FE) : Prop := PT X e (tXT T W Γ F)
theorem pe_imp {X : Cx} {e : Expr} {t t' : TE} (h : PE X e t) (i : ∀ σ H Q, t' σ H Q → t σ H Q) : PE X e t' := ⟨fun pins s σ H Q I q => h.run pins s σ H Q I (i σ H Q q)⟩
theorem pt_imp {X : Cx} {e : Expr} {t t' : TT} (h : PT X e t) (i : ∀ σ H Q, t' σ H Q → t σ H Q) : PT X e t' := ⟨fun pins s σ H Q I q => h.run pins s σ H Q I (i σ H Q q)⟩
theorem pw_imp {X : Cx} {e : Expr} {t t' : TT} (h : PW X e t) (i : ∀ σ H Q, t' σ H Q → t σ H Q) : PW X e t' := ⟨fun w pins s σ H Q I q => h.run w pins s σ H Q I (i σ H Q q)⟩
theorem pa_imp {X : Cx} {e : List Expr} {t t' : TA} (h : PA X e t) (i : ∀ σ H Q, t' σ H Q → t σ H Q) : PA X e t' := ⟨fun pos pins s σ H Q I q => h.run pos pins s σ H Q I (i σ H Q q)⟩
def RE.bind : RE → (D → Store → RE) → RE
  | .ok d S, k => k d S
  | .exc x S, _ => .exc x S
  | .no, _ => .no
def RE.of (S : Store) : Option D → RE
  | some d => .ok d S
  | none => .no
def eC (d : D) : FE := fun _ S => .ok d S
def eVar (i : Nat) : FE := fun ρ S => match ρ[i]? with
  | some (some d) => .ok d S
  | _ => .no
def eOp (h : D → D → Option D) (a b : FE) : FE := fun ρ S => (a ρ S).bind fun x S1 => (b ρ S1).bind fun y S2 => .of S2 (h x y)
def eUn (h : D → Option D) (a : FE) : FE := fun ρ S => (a ρ S).bind fun x S1 => .of S1 (h x)
def lNil : FL := fun _ S => .ok [] S
def lCons (a : FE) (r : FL) : FL := fun ρ S => match a ρ S with
  | .ok x S1 => (match r ρ S1 with
    | .ok xs S2 => .ok (x :: xs) S2
    | .exc x S2 => .exc x S2
    | .no => .no)
  | .exc x S1 => .exc x S1
  | .no => .no
def eL (h : List D → Option D) (a : FL) : FE := fun ρ S => match a ρ S with
  | .ok xs S1 => .of S1 (h xs)
  | .exc x S1 => .exc x S1
  | .no => .no
def eTup (a : FL) : FE := eL (fun ds => if ds.length ≤ 1000000 then some (.tup ds) else none) a
def eLst (a : FL) : FE := eL (fun ds => if ds.length ≤ 1000000 then some (.lst ds) else none) a
def eAnd (a b : FE) : FE := fun ρ S => (a ρ S).bind fun x S1 => match x with
  | .bl true => b ρ S1
  | .bl false => .ok (.bl false) S1
  | _ => .no
def eOr (a b : FE) : FE := fun ρ S => (a ρ S).bind fun x S1 => match x with
  | .bl true => .ok (.bl true) S1
  | .bl false => b ρ S1
  | _ => .no
def eNot (a : FE) : FE := fun ρ S => (a ρ S).bind fun x S1 => match x with
  | .bl b => .ok (.bl (!b)) S1
  | _ => .no
def eIf (c a b : FE) : FE := fun ρ S => (c ρ S).bind fun x S1 => match x with
  | .bl true => a ρ S1
  | .bl false => b ρ S1
  | _ => .no
section
variable {X : Cx} {T : Th} {W : WX} {Γ : List Md}
theorem good_bind {ρ : Env} {σ : L2.St} {g : G} {H : Hp} {r : RE} {k : D → Store → RE} {Q Q' : VK} (h : GoodE T W Γ ρ σ g H (r.bind k) Q)
    (hk : ∀ d S v g' H', r = .ok d S → Rel T g' Γ ρ S σ H' → FrE g H g' H' → Shr T g' H' d v → GoodE T W Γ ρ σ g' H' (k d S) Q → Q' v H') : GoodE T W Γ ρ σ g H r Q' := by
  cases r with
  | ok d S =>
    intro v g' H' R f s
    refine hk d S v g' H' rfl R f s ?_
    have h' : GoodE T W Γ ρ σ g H (k d S) Q := h
    cases e : k d S with
    | ok d2 S2 =>
      rw [e] at h'
      exact fun v2 g2 H2 R2 f2 s2 => h' v2 g2 H2 R2 (f.trans f2) s2
    | exc x S2 =>
      rw [e] at h'
      exact fun c dd g2 H2 R2 f2 s2 => h' c dd g2 H2 R2 (f.trans f2) s2
    | no => rw [e] at h'; exact h'
  | exc x S => exact h
  | no => exact h
theorem good_of {ρ : Env} {σ : L2.St} {g : G} {H : Hp} {S : Store} {o : Option D} {Q : VK} (h : GoodE T W Γ ρ σ g H (.of S o) Q) : ∃ d, o = some d ∧ GoodE T W Γ ρ σ g H (.ok d S) Q := by
  cases o with
  | none => exact h.elim
  | some d => exact ⟨d, rfl, h⟩
theorem xe_c {d : D} {v : V} {e : Expr} (he : PE X e (tC v)) (hs : ∀ g H, Shr T g H d v) : XE X T W Γ e (eC d) := pe_imp he fun σ H Q ⟨g, ρ, S, R, h⟩ => h v g H R (.refl g H) (hs g H)
theorem xe_int {i : Int} {j : Nat} {pos : Pos} : XE X T W Γ (.Constant (.int i) j pos) (eC (.int i)) := xe_c pe_int fun _ _ => by simp only [Shr]
theorem xe_str {x : Str} {j : Nat} {pos : Pos} : XE X T W Γ (.Constant (.str x) j pos) (eC (.str x)) := xe_c pe_str fun _ _ => by simp only [Shr]
theorem xe_bl {b : Bool} {j : Nat} {pos : Pos} : XE X T W Γ (.Constant (.bool b) j pos) (eC (.bl b)) := xe_c pe_bl fun _ _ => by simp only [Shr]
theorem xe_var {i : Nat} {e : Expr} (he : PE X e (tVar i)) (hm : Γ.getD i .s = .s) : XE X T W Γ e (eVar i) := pe_imp he fun σ H Q ⟨g, ρ, S, R, h⟩ => by
  have h : GoodE T W Γ ρ σ g H (match ρ[i]? with | some (some d) => RE.ok d S | _ => .no) Q := h
  split at h
  · rename_i d e
    obtain ⟨v, h1, h2⟩ := R.slot i d e
    rw [hm] at h2
    exact ⟨v, h1, h v g H R (.refl g H) h2⟩
  · exact h.elim
def OpOk (T : Th) (r : R2) (h : D → D → Option D) : Prop := ∀ (g : G) (H : Hp) (x y z : D) (v w : V), Shr T g H x v → Shr T g H y w → h x y = some z → (∀ a, g.U a → ∃ o, H a = some o) → ∀ Q : VK, (∀ u H', Exx H H' → Shr T g H' z u → Q u H') → r v w H Q
def UnOk (T : Th) (r : V → Hp → VK → Prop) (h : D → Option D) : Prop := ∀ (g : G) (H : Hp) (x z : D) (v : V), Shr T g H x v → h x = some z → (∀ a, g.U a → ∃ o, H a = some o) → ∀ Q : VK, (∀ u H', Exx H H' → Shr T g H' z u → Q u H') → r v H Q
def LsOk (T : Th) (r : List V → Hp → VK → Prop) (h : List D → Option D) : Prop := ∀ (g : G) (H : Hp) (xs : List D) (z : D) (vs : List V), ShrL T g H xs vs → h xs = some z → (∀ a, g.U a → ∃ o, H a = some o) → ∀ Q : VK, (∀ u H', Exx H H' → Shr T g H' z u → Q u H') → r vs H Q
theorem xe_op {e : Expr} {r : R2} {h : D → D → Option D} {a b : Expr} {A B : FE} (ok : OpOk T r h) (ha : XE X T W Γ a A) (hb : XE X T W Γ b B)
    (he : PE X a (tX T W Γ A) → PE X b (tX T W Γ B) → PE X e (tOp r (tX T W Γ A) (tX T W Γ B))) : XE X T W Γ e (eOp h A B) := pe_imp (he ha hb) fun σ H Q ⟨g, ρ, S, R, hg⟩ =>
  ⟨g, ρ, S, R, good_bind hg fun x S1 v g1 H1 _ R1 f1 s1 hg1 => ⟨g1, ρ, S1, R1, good_bind hg1 fun y S2 w g2 H2 _ R2 f2 s2 hg2 => by
    obtain ⟨z, ez, hg3⟩ := good_of hg2
    exact ok g2 H2 x y z v w (s1.stay f2.stay) s2 ez R2.dom Q fun u H' ex su => hg3 u g2 H' (R2.ex ex) (.ex ex) su⟩⟩
theorem xe_un {e : Expr} {r : V → Hp → VK → Prop} {h : D → Option D} {a : Expr} {A : FE} (ok : UnOk T r h) (ha : XE X T W Γ a A) (he : PE X a (tX T W Γ A) → PE X e (tUn r (tX T W Γ A))) : XE X T W Γ e (eUn h A) := pe_imp (he ha) fun σ H Q ⟨g, ρ, S, R, hg⟩ =>
  ⟨g, ρ, S, R, good_bind hg fun x S1 v g1 H1 _ R1 f1 s1 hg1 => by
    obtain ⟨z, ez, hg3⟩ := good_of hg1
    exact ok g1 H1 x z v s1 ez R1.dom Q fun u H' ex su => hg3 u g1 H' (R1.ex ex) (.ex ex) su⟩
theorem goodL_then {ρ : Env} {σ : L2.St} {g : G} {H : Hp} {A : FL} {h : List D → Option D} {S : Store} {Q : VK} {Q' : List V → Hp → Prop} (hg : GoodE T W Γ ρ σ g H (eL h A ρ S) Q)
    (hk : ∀ ds S' z vs g' H', h ds = some z → Rel T g' Γ ρ S' σ H' → FrE g H g' H' → ShrL T g' H' ds vs → GoodE T W Γ ρ σ g' H' (.ok z S') Q → Q' vs H') : GoodL T W Γ ρ σ g H (A ρ S) Q' := by
  unfold eL at hg
  cases e : A ρ S with
  | ok ds S' =>
    rw [e] at hg
    intro vs g' H' R f s
    obtain ⟨z, ez, hg⟩ := good_of hg
    exact hk ds S' z vs g' H' ez R f s fun v2 g2 H2 R2 f2 s2 => hg v2 g2 H2 R2 (f.trans f2) s2
  | exc x S' => rw [e] at hg; exact hg
  | no => rw [e] at hg; exact hg
theorem xe_L {e : Expr} {r : List V → Hp → VK → Prop} {h : List D → Option D} {as : List Expr} {A : FL} (ok : LsOk T r h) (ha : XL X T W Γ as A) (he : PA X as (tXL T W Γ A) → PE X e (tCB r (tXL T W Γ A))) : XE X T W Γ e (eL h A) := pe_imp (he ha) fun σ H Q ⟨g, ρ, S, R, hg⟩ =>
  ⟨g, ρ, S, R, goodL_then hg fun ds S1 z vs g1 H1 ez R1 f1 s1 hg1 => ok g1 H1 ds z vs s1 ez R1.dom Q fun u H' ex su => hg1 u g1 H' (R1.ex ex) (.ex ex) su⟩
theorem xl_nil : XL X T W Γ [] lNil := pa_imp pa_nil fun σ H Q ⟨g, ρ, S, R, hg⟩ => hg [] g H R (.refl g H) .nil
theorem xl_cons {e : Expr} {es : List Expr} {A : FE} {B : FL} (ha : XE X T W Γ e A) (hb : XL X T W Γ es B) (hx : PE X e (tX T W Γ A) → PA X es (tXL T W Γ B) → PA X (e :: es) (tCons (tX T W Γ A) (tXL T W Γ B))) : XL X T W Γ (e :: es) (lCons A B) := pa_imp (hx ha hb) fun σ H Q ⟨g, ρ, S, R, hg⟩ => by
  refine ⟨g, ρ, S, R, ?_⟩
  unfold lCons at hg
  cases e : A ρ S with
  | ok x S1 =>
    rw [e] at hg
    intro v g1 H1 R1 f1 s1
    refine ⟨g1, ρ, S1, R1, ?_⟩
    cases e2 : B ρ S1 with
    | ok xs S2 =>
      have hg : GoodL T W Γ ρ σ g H (match B ρ S1 with | .ok xs S2 => .ok (x :: xs) S2 | .exc x S2 => .exc x S2 | .no => .no) Q := hg
      rw [e2] at hg
      exact fun vs g2 H2 R2 f2 s2 => hg (v :: vs) g2 H2 R2 (f1.trans f2) (.cons (s1.stay f2.stay) s2)
    | exc y S2 =>
      have hg : GoodL T W Γ ρ σ g H (match B ρ S1 with | .ok xs S2 => .ok (x :: xs) S2 | .exc x S2 => .exc x S2 | .no => .no) Q := hg
      rw [e2] at hg
      exact fun c dd g2 H2 R2 f2 s2 => hg c dd g2 H2 R2 (f1.trans f2) s2
    | no =>
      have hg : GoodL T W Γ ρ σ g H (match B ρ S1 with | .ok xs S2 => .ok (x :: xs) S2 | .exc x S2 => .exc x S2 | .no => .no) Q := hg
      rw [e2] at hg
      exact hg
  | exc y S1 => rw [e] at hg; exact hg
  | no => rw [e] at hg; exact hg
end
end Q

namespace Q
open PySem PySem.Spec PyProof.Rows L2
theorem opr_or {X : Cx} {f : Value → Value → Sem Value} {r1 r2 : R2} (a : OpR X f r1) (b : OpR X f r2) : OpR X f (fun x y H Q => r1 x y H Q ∨ r2 x y H Q) := fun pins s σ H x y v u Q I rx ry h =>
  h.elim (a pins s σ H x y v u Q I rx ry) (b pins s σ H x y v u Q I rx ry)
theorem callr_or {X : Cx} {f : Value} {r1 r2 : List V → Hp → VK → Prop} (a : CallR X f r1) (b : CallR X f r2) : CallR X f (fun x H Q => r1 x H Q ∨ r2 x H Q) := fun pins s σ H xs us Q I r h =>
  h.elim (a pins s σ H xs us Q I r) (b pins s σ H xs us Q I r)
theorem ixr_or {X : Cx} {r1 r2 : R2} (a : IxR X r1) (b : IxR X r2) : IxR X (fun x y H Q => r1 x y H Q ∨ r2 x y H Q) := fun value slice pins s σ H x y v u Q I rx ry h =>
  h.elim (a value slice pins s σ H x y v u Q I rx ry) (b value slice pins s σ H x y v u Q I rx ry)
section
variable {T : Th} {g : G} {H : Hp}
theorem shr_int {i : Int} {v : V} : Shr T g H (.int i) v ↔ v = .int i := by simp only [Shr]
theorem shr_bl {i : Bool} {v : V} : Shr T g H (.bl i) v ↔ v = .bl i := by simp only [Shr]
theorem shr_str {i : Str} {v : V} : Shr T g H (.str i) v ↔ v = .str i := by simp only [Shr]
theorem shr_non {v : V} : Shr T g H .non v ↔ v = .non := by simp only [Shr]
theorem shr_tup {l : List D} {v : V} : Shr T g H (.tup l) v ↔ ∃ a vs, v = .ref a ∧ LkT T.K g.U H a vs ∧ ShrL T g H l vs := by simp only [Shr]
theorem shr_lst {l : List D} {v : V} : Shr T g H (.lst l) v ↔ ∃ a vs, v = .ref a ∧ (H a = some (.lst vs) ∧ ¬ g.U a) ∧ ShrL T g H l vs := by simp only [Shr]
theorem shr_scr {l : List D} {v : V} : Shr T g H (.scr l) v ↔ ∃ a vs, v = .ref a ∧ LkL T.K g.U H a vs ∧ ShrL T g H l vs := by simp only [Shr]
theorem shr_newT {l : List D} {vs : List V} {p : Addr} (h : ShrL T g H l vs) (hp : H p = none) (hd : ∀ a, g.U a → ∃ o, H a = some o) : Shr T g (upd H p (.tup vs)) (.tup l) (.ref p) := shr_tup.mpr
  ⟨p, vs, rfl, .inl ⟨.inl upd_same, fun u => by obtain ⟨o, e⟩ := hd p u; rw [hp] at e; cases e⟩, h.stay (.ex (Exx.new hp)) _ _⟩
theorem shr_newL {l : List D} {vs : List V} {p : Addr} (h : ShrL T g H l vs) (hp : H p = none) (hd : ∀ a, g.U a → ∃ o, H a = some o) : Shr T g (upd H p (.lst vs)) (.lst l) (.ref p) := shr_lst.mpr
  ⟨p, vs, rfl, ⟨upd_same, fun u => by obtain ⟨o, e⟩ := hd p u; rw [hp] at e; cases e⟩, h.stay (.ex (Exx.new hp)) _ _⟩
end
def oI (f : Int → Int → Option D) : D → D → Option D
  | .int a, .int b => f a b
  | _, _ => none
theorem oI_ok {T : Th} {C : Int → Int → Prop} {g : Int → Int → V} {f : Int → Int → Option D} (h : ∀ a b z, f a b = some z → C a b ∧ ∀ (g' : G) (H : Hp), Shr T g' H z (g a b)) : OpOk T (rI C g) (oI f) := by
  intro g' H x y z v w sx sy e hd Q q
  cases x <;> cases y <;> simp only [oI] at e <;> first | cases e | skip
  obtain ⟨c, s⟩ := h _ _ _ e
  exact ⟨_, _, shr_int.mp sx, shr_int.mp sy, c, q _ H (.refl H) (s g' H)⟩
theorem oI0_ok {T : Th} {g : Int → Int → V} {f : Int → Int → Option D} (h : ∀ a b z, f a b = some z → ∀ (g' : G) (H : Hp), Shr T g' H z (g a b)) : OpOk T (rI0 g) (oI f) := by
  intro g' H x y z v w sx sy e hd Q q
  cases x <;> cases y <;> simp only [oI] at e <;> first | cases e | skip
  exact ⟨_, _, shr_int.mp sx, shr_int.mp sy, q _ H (.refl H) (h _ _ _ e g' H)⟩
theorem op_fdivA {X : Cx} : OpR X (binaryOp .FloorDiv) (rI (fun _ j => j ≠ 0 ∧ j.natAbs.log2 < 9000) fun i j => .int (i.fdiv j)) := opI fun i j _ _ _ _ _ hc q => floordiv_int hc.1 q (.inl (PyProof.noPylong_of_log2 hc.2))
def hSub := oI fun a b => some (.int (a - b))
def hMod := oI fun a b => if 0 < b then some (.int (a % b)) else none
def hDiv := oI fun a b => if b = 0 ∨ 9000 ≤ b.natAbs.log2 then none else some (.int (a.fdiv b))
def hPow := oI fun a b => if 0 ≤ b ∧ b ≤ 1000000 ∧ a.natAbs < 2 ^ 64 then some (.int (a ^ b.toNat)) else none
def hShr := oI fun a b => if 0 ≤ b then some (.int (a / 2 ^ b.toNat)) else none
def hLt := oI fun a b => some (.bl (decide (a < b)))
def hLe := oI fun a b => some (.bl (decide (a ≤ b)))
def hGt := oI fun a b => some (.bl (decide (b < a)))
def hGe := oI fun a b => some (.bl (decide (b ≤ a)))
section
variable {T : Th}
theorem ok_sub : OpOk T (rI0 fun i j => .int (i - j)) hSub := oI0_ok fun _ _ _ e _ _ => by cases e; exact shr_int.mpr rfl
theorem ok_mod : OpOk T (rI (fun _ j => 0 < j) fun i j => .int (i % j)) hMod := oI_ok fun _ _ _ e => by
  split at e
  · cases e; exact ⟨by assumption, fun _ _ => shr_int.mpr rfl⟩
  · cases e
theorem ok_div : OpOk T (rI (fun _ j => j ≠ 0 ∧ j.natAbs.log2 < 9000) fun i j => .int (i.fdiv j)) hDiv := oI_ok fun _ _ _ e => by
  split at e
  · cases e
  · rename_i h
    cases e
    exact ⟨⟨fun z => h (.inl z), Nat.lt_of_not_le fun z => h (.inr z)⟩, fun _ _ => shr_int.mpr rfl⟩
theorem ok_pow : OpOk T (rI CPow fun i j => .int (i ^ j.toNat)) hPow := oI_ok fun _ _ _ e => by
  split at e
  · cases e; exact ⟨by assumption, fun _ _ => shr_int.mpr rfl⟩
  · cases e
theorem ok_shr : OpOk T (rI (fun _ j => 0 ≤ j) fun i j => .int (i / 2 ^ j.toNat)) hShr := oI_ok fun _ _ _ e => by
  split at e
  · cases e; exact ⟨by assumption, fun _ _ => shr_int.mpr rfl⟩
  · cases e
theorem ok_lt : OpOk T (rI0 fun i j => .bl (decide (i < j))) hLt := oI0_ok fun _ _ _ e _ _ => by cases e; exact shr_bl.mpr rfl
theorem ok_le : OpOk T (rI0 fun i j => .bl (decide (i ≤ j))) hLe := oI0_ok fun _ _ _ e _ _ => by cases e; exact shr_bl.mpr rfl
theorem ok_gt : OpOk T (rI0 fun i j => .bl (decide (j < i))) hGt := oI0_ok fun _ _ _ e _ _ => by cases e; exact shr_bl.mpr rfl
theorem ok_ge : OpOk T (rI0 fun i j => .bl (decide (j ≤ i))) hGe := oI0_ok fun _ _ _ e _ _ => by cases e; exact shr_bl.mpr rfl
end
def hAdd : D → D → Option D
  | .int a, .int b => some (.int (a + b))
  | .str a, .str b => if a.length + b.length ≤ 1000000 then some (.str (a ++ b)) else none
  | .tup a, .tup b => if a.length + b.length ≤ 1000000 then some (.tup (a ++ b)) else none
  | .lst a, .lst b => if a.length + b.length ≤ 1000000 then some (.lst (a ++ b)) else none
  | _, _ => none
theorem sz6 {n : Nat} (h : n ≤ 1000000) : n ≤ sizeLine := by rw [sizeLine_eq]; omega
theorem hAdd_int (a b : Int) : hAdd (.int a) (.int b) = some (.int (a + b)) := rfl
abbrev rAddA (K : PySem.W.Frag) : R2 := fun x y H Q => rI0 (fun i j => .int (i + j)) x y H Q ∨ (∃ a b, x = .str a ∧ y = .str b ∧ a.length + b.length ≤ sizeLine ∧ Q (.str (a ++ b)) H) ∨ rCatA K x y H Q ∨ rCat x y H Q
theorem op_addA {X : Cx} : OpR X (binaryOp .Add) (rAddA X.K) := opr_or op_add (opr_or op_add_str (opr_or op_catA op_cat))
theorem ok_add {T : Th} : OpOk T (rAddA T.K) hAdd := by
  intro g H x y z v w sx sy e hd Q q
  cases x <;> cases y <;> simp only [hAdd] at e <;> first | cases e | skip
  · exact .inl ⟨_, _, shr_int.mp sx, shr_int.mp sy, q _ H (.refl H) (shr_int.mpr rfl)⟩
  · split at e
    · rename_i hl
      cases e
      exact .inr (.inl ⟨_, _, shr_str.mp sx, shr_str.mp sy, sz6 hl, q _ H (.refl H) (shr_str.mpr rfl)⟩)
    · cases e
  · split at e
    · rename_i hl
      obtain ⟨a, vs, rfl, la, ra⟩ := shr_tup.mp sx
      obtain ⟨b, ws, rfl, lb, rb⟩ := shr_tup.mp sy
      have l1 := ra.length
      have l2 := rb.length
      cases e
      refine .inr (.inr (.inl ⟨a, b, vs, ws, rfl, rfl, la.sq, lb.sq, by rw [← l1, ← l2]; exact sz6 hl, fun hx => ?_, fun _ hw => ?_, fun _ _ p hp => q _ _ (Exx.new hp) (shr_newT (ra.append rb) hp hd)⟩))
      · subst hx
        exact q _ H (.refl H) (by rw [List.length_eq_zero_iff.mp l1]; exact sy)
      · subst hw
        exact q _ H (.refl H) (by rw [List.length_eq_zero_iff.mp l2, List.append_nil]; exact sx)
    · cases e
  · split at e
    · rename_i hl
      cases e
      obtain ⟨a, vs, rfl, la, ra⟩ := shr_lst.mp sx
      obtain ⟨b, ws, rfl, lb, rb⟩ := shr_lst.mp sy
      have l1 := ra.length
      have l2 := rb.length
      exact .inr (.inr (.inr ⟨a, b, vs, ws, rfl, rfl, la.1, lb.1, by rw [← l1, ← l2]; exact sz6 hl, fun p hp => q _ _ (Exx.new hp) (shr_newL (ra.append rb) hp hd)⟩))
    · cases e
end Q

namespace Q
open PySem PySem.Spec PyProof.Rows L2
section
variable {T : Th} {g : G} {H : Hp}
abbrev rIxA (K : PySem.W.Frag) : R2 := fun x y H Q => rIxL K x y H Q ∨ rIxT K x y H Q ∨ rIxS x y H Q
theorem ix_A {X : Cx} : IxR X (rIxA X.K) := ixr_or ix_list (ixr_or ix_tup ix_str)
def hIx : D → D → Option D
  | .lst l, .int i => atI l i
  | .scr l, .int i => atI l i
  | .tup l, .int i => atI l i
  | .str z, .int i => if z.length ≤ 1000000 then (atI z.cps.toList i).map fun c => .str ⟨#[c]⟩ else none
  | _, _ => none
theorem atI_shr {l : List D} {vs : List V} {i : Int} {d : D} (h : ShrL T g H l vs) (e : atI l i = some d) : ∃ v, atI vs i = some v ∧ Shr T g H d v := by
  unfold atI at e ⊢
  rw [← h.length]
  cases q : ixN l.length i with
  | none => rw [q] at e; cases e
  | some j =>
    rw [q] at e
    exact h.get e
theorem ok_ix : OpOk T (rIxA T.K) hIx := by
  intro g H x y z v w sx sy e hd Q q
  cases x <;> cases y <;> simp only [hIx] at e <;> first | cases e | skip
  · split at e
    · rename_i hl
      obtain ⟨c, e1, e2⟩ := Option.map_eq_some_iff.mp e
      subst e2
      exact .inr (.inr ⟨_, _, c, shr_str.mp sx, shr_int.mp sy, sz6 hl, e1, q _ H (.refl H) (shr_str.mpr rfl)⟩)
    · cases e
  · obtain ⟨a, vs, rfl, la, ra⟩ := shr_tup.mp sx
    obtain ⟨u, h1, h2⟩ := atI_shr ra e
    exact .inr (.inl ⟨a, vs, _, u, rfl, shr_int.mp sy, la.sq, h1, q u H (.refl H) h2⟩)
  · obtain ⟨a, vs, rfl, la, ra⟩ := shr_lst.mp sx
    obtain ⟨u, h1, h2⟩ := atI_shr ra e
    exact .inl ⟨a, vs, _, u, rfl, shr_int.mp sy, .of la.1, h1, q u H (.refl H) h2⟩
  · obtain ⟨a, vs, rfl, la, ra⟩ := shr_scr.mp sx
    obtain ⟨u, h1, h2⟩ := atI_shr ra e
    exact .inl ⟨a, vs, _, u, rfl, shr_int.mp sy, la.sq, h1, q u H (.refl H) h2⟩
theorem tuple_mulW1 (l : Addr) (items : Array Value) (n : Nat) (dd : Option Addr) (sl : Array (Option Value)) (u : Tok) :
    Meets (Builtin.«tuple.__mul__» ⟨[.ref l, .int 1 u], []⟩) (fun _ R s => s.heap.get? l = some { cls := .type "tuple", dict := dd, data := .seq items n, slots := sl } ∧ R (.ok (.ret (Value.ref l))) s) :=
  .of_wp fun prog w A R s h => by
    obtain ⟨hp, g, d, tk, os⟩ := s
    obtain ⟨hl, h⟩ := h
    have f1 := AutoSeq1.idx_int
    have c1 : (items.isEmpty || (1 : Int) == 1) = true := by simp
    have c0 : (decide ((1 : Int) < -(2 ^ 63)) || decide ((1 : Int) ≥ 2 ^ 63)) = false := by decide
    wp_walk using wpAny_loadPart' hl
    repeat (first
      | (refine wpAny_ite_false (decide_eq_false (by rw [c0]; exact Bool.false_ne_true)) ?_; wp_walk using wpAny_loadPart' hl)
      | (refine wpAny_ite_true (decide_eq_true c1) ?_; wp_walk using wpAny_loadPart' hl))
    exact ⟨_, rfl, h⟩
def rRepT1 (K : PySem.W.Frag) : R2 := fun x y H Q => ∃ l xs, x = .ref l ∧ y = .int 1 ∧ SqT K H l xs ∧ Q (.ref l) H
theorem op_repT1 {X : Cx} : OpR X (binaryOp .Mult) (rRepT1 X.K) := by
  intro pins s σ H x y v u Q I rx ry h
  obtain ⟨l, xs, rfl, rfl, hT, q⟩ := h
  cases rx
  obtain ⟨t, rfl⟩ := ry
  obtain ⟨its, r, ⟨⟨cls, dd, data, sl⟩, ho, hc, n, hd⟩, hs⟩ := I.tuple hT
  simp only at hc hd
  subst hc hd
  refine wpAny_binaryOp_repeat_ref (T := "tuple") (U := "int") (by decide) ⟨_, ho, rfl⟩ (fun s' => typeIs_int s' 1 t) noFill_tuple_mul F.fills_int_mul F.slot_int_rmul repeat_tuple F.slot_int_index.lookup
    (call_meets F.slot_int_rmul (typeIs_int s 1 t) F.entry_int_rmul (F.args_int_rmul_2 _ _) (int_rmul_tuple 1 t l its.toArray n dd sl)
      ⟨ho, rfl, ⟨_, ho, rfl⟩, call_meets F.slot_tuple_mul ⟨_, ho, rfl⟩ F.entry_tuple_mul (F.args_tuple_mul_2 _ _) (tuple_mulW1 l its.toArray n dd sl t) ⟨ho, ?_⟩⟩)
  exact ⟨.ref l, H, I, rfl, q⟩
def CMulB (i j : Int) : Prop := i.natAbs.log2 + j.natAbs.log2 < 134000000
theorem CMulB.ok {i j : Int} (h : CMulB i j) : IntMulOk i j := by
  have b : ∀ x : Int, Builtin.Int.intBits x ≤ x.natAbs.log2 + 1 := fun x => by
    unfold Builtin.Int.intBits
    split <;> omega
  have h3 : i.natAbs.log2 + j.natAbs.log2 < 134000000 := h
  exact PySem.IntMulOk.of_le (b i) (b j) (by omega)
theorem op_mulB {X : Cx} : OpR X (binaryOp .Mult) (rI CMulB fun i j => .int (i * j)) := opI fun _ _ _ _ _ _ _ hc q => mul_int q hc.ok
abbrev rMulA (K : PySem.W.Frag) : R2 := fun x y H Q => rI CMulB (fun i j => .int (i * j)) x y H Q ∨ rRep x y H Q ∨ rRepT K x y H Q ∨ rRepT1 K x y H Q
theorem op_mulA {X : Cx} : OpR X (binaryOp .Mult) (rMulA X.K) := opr_or op_mulB (opr_or op_rep (opr_or op_repT op_repT1))
def rep (l : List D) (k : Nat) : List D := (List.replicate k l).flatten
def hMul : D → D → Option D
  | .int a, .int b => if a.natAbs.log2 + b.natAbs.log2 < 134000000 then some (.int (a * b)) else none
  | .lst l, .int k => if 0 ≤ k ∧ k ≤ 1000000 ∧ l.length * k.toNat ≤ 1000000 then some (.lst (rep l k.toNat)) else none
  | .tup l, .int k => if (1 ≤ k ∧ k ≤ 1000) ∧ 0 < l.length ∧ l.length ≤ 1000 then some (.tup (rep l k.toNat)) else none
  | _, _ => none
theorem shrL_rep {l : List D} {vs : List V} (h : ShrL T g H l vs) : ∀ k : Nat, ShrL T g H (rep l k) (List.replicate k vs).flatten
  | 0 => .nil
  | k + 1 => by
    unfold rep
    rw [List.replicate_succ, List.replicate_succ, List.flatten_cons, List.flatten_cons]
    exact h.append (shrL_rep h k)
theorem ok_rept {l : List D} {k : Int} {v w : V} (sx : Shr T g H (.tup l) v) (sy : Shr T g H (.int k) w) (hl : (1 ≤ k ∧ k ≤ 1000) ∧ 0 < l.length ∧ l.length ≤ 1000) (hd : ∀ a, g.U a → ∃ o, H a = some o) {Q : VK} (q : ∀ u H', Exx H H' → Shr T g H' (.tup (rep l k.toNat)) u → Q u H') : rRepT T.K v w H Q ∨ rRepT1 T.K v w H Q := by
  obtain ⟨a, vs, rfl, la, ra⟩ := shr_tup.mp sx
  have hr := ra.length
  have hn : vs ≠ [] := fun z => by
    rw [z, List.length_nil] at hr
    have := hl.2.1
    omega
  have hk := shr_int.mp sy
  by_cases c : k = 1
  · subst c
    refine .inr ⟨a, vs, rfl, hk, la.sq, q _ H (.refl H) ?_⟩
    have e : ∀ l : List D, rep l (1 : Int).toNat = l := fun l => by show (List.replicate 1 l).flatten = l; simp
    rw [e]
    exact sx
  · exact .inl ⟨a, k, vs, rfl, hk, la.sq, hn, by omega, by omega, by rw [← hr]; exact hl.2.2, fun p hp => q _ _ (Exx.new hp) (shr_newT (shrL_rep ra _) hp hd)⟩
theorem ok_mul : OpOk T (rMulA T.K) hMul := by
  intro g H x y z v w sx sy e hd Q q
  cases x <;> cases y <;> simp only [hMul] at e <;> first | cases e | skip
  · split at e
    · rename_i hl
      cases e
      exact .inl ⟨_, _, shr_int.mp sx, shr_int.mp sy, hl, q _ H (.refl H) (shr_int.mpr rfl)⟩
    · cases e
  · split at e
    · rename_i hl
      cases e
      exact .inr (.inr (ok_rept sx sy hl hd q))
    · cases e
  · split at e
    · rename_i hl
      cases e
      obtain ⟨a, vs, rfl, la, ra⟩ := shr_lst.mp sx
      refine .inr (.inl ⟨a, _, vs, rfl, shr_int.mp sy, la.1, by omega, by omega, by rw [← ra.length]; exact sz6 hl.2.2, fun p hp => ?_⟩)
      exact q _ _ (Exx.new hp) (shr_newL (shrL_rep ra _) hp hd)
    · cases e
def hNeg : D → Option D
  | .int a => some (.int (-a))
  | _ => none
abbrev rLenA (K : PySem.W.Frag) : List V → Hp → VK → Prop := fun xs H Q => (∃ p ys, xs = [.ref p] ∧ (SqL K H p ys ∨ SqT K H p ys) ∧ Q (.int ys.length) H) ∨ (∃ z, xs = [.str z] ∧ z.length ≤ sizeLine ∧ Q (.int z.length) H)
theorem call_lenA {X : Cx} : CallR X (.builtin "len") (rLenA X.K) := callr_or call_len_seq call_len_str
def hLen : List D → Option D
  | [.lst l] => some (.int l.length)
  | [.scr l] => some (.int l.length)
  | [.tup l] => some (.int l.length)
  | [.str z] => if z.length ≤ 1000000 then some (.int z.length) else none
  | _ => none
theorem shrL1 {x : D} {vs : List V} (h : ShrL T g H [x] vs) : ∃ v, vs = [v] ∧ Shr T g H x v := by
  simp only [ShrL] at h
  obtain ⟨v, ws, rfl, s, rfl⟩ := h
  exact ⟨v, rfl, s⟩
theorem ok_len : LsOk T (rLenA T.K) hLen := by
  intro g H xs z vs sx e hd Q q
  unfold hLen at e
  split at e <;> first | cases e | skip
  · obtain ⟨v, rfl, s⟩ := shrL1 sx
    obtain ⟨a, us, rfl, la, ra⟩ := shr_lst.mp s
    exact .inl ⟨a, us, rfl, .inl (.of la.1), by rw [← ra.length]; exact q _ H (.refl H) (shr_int.mpr rfl)⟩
  · obtain ⟨v, rfl, s⟩ := shrL1 sx
    obtain ⟨a, us, rfl, la, ra⟩ := shr_scr.mp s
    exact .inl ⟨a, us, rfl, .inl la.sq, by rw [← ra.length]; exact q _ H (.refl H) (shr_int.mpr rfl)⟩
  · obtain ⟨v, rfl, s⟩ := shrL1 sx
    obtain ⟨a, us, rfl, la, ra⟩ := shr_tup.mp s
    exact .inl ⟨a, us, rfl, .inr la.sq, by rw [← ra.length]; exact q _ H (.refl H) (shr_int.mpr rfl)⟩
  · split at e
    · rename_i hl
      cases e
      obtain ⟨v, rfl, s⟩ := shrL1 sx
      rw [shr_str.mp s]
      exact .inr ⟨_, rfl, sz6 hl, q _ H (.refl H) (shr_int.mpr rfl)⟩
    · cases e
def hAbs : List D → Option D
  | [.int a] => some (.int (if a < 0 then -a else a))
  | _ => none
def hTru : D → Option D
  | .non => some (.bl false)
  | .bl b => some (.bl b)
  | .int i => some (.bl (i != 0))
  | .str z => if z.length ≤ 1000000 then some (.bl ((z.length : Int) != 0)) else none
  | .lst l => some (.bl !l.isEmpty)
  | .scr l => some (.bl !l.isEmpty)
  | .tup l => some (.bl !l.isEmpty)
  | _ => none
mutual
def toPy : D → Option PyData
  | .non => some .none
  | .bl b => some (.bool b)
  | .int i => some (.int i)
  | .str x => some (.str x)
  | .tup l => (toPyL l).map .tuple
  | .lst l => (toPyL l).map .list
  | _ => none
def toPyL : List D → Option (List PyData)
  | [] => some []
  | d :: ds => match toPy d, toPyL ds with
    | some p, some ps => some (p :: ps)
    | _, _ => none
end
mutual
theorem Shr.dp : ∀ (d : D) (v : V) (p : PyData), Shr T g H d v → toPy d = some p → Dp T.K H v p
  | .non, v, p, s, e => by simp only [toPy] at e; cases e; rw [shr_non.mp s]; exact .non
  | .bl b, v, p, s, e => by simp only [toPy] at e; cases e; rw [shr_bl.mp s]; exact .bl b
  | .int i, v, p, s, e => by simp only [toPy] at e; cases e; rw [shr_int.mp s]; exact .int i
  | .str i, v, p, s, e => by simp only [toPy] at e; cases e; rw [shr_str.mp s]; exact .str i
  | .tup l, v, p, s, e => by
    simp only [toPy] at e
    obtain ⟨ps, e1, e2⟩ := Option.map_eq_some_iff.mp e
    subst e2
    obtain ⟨a, us, rfl, la, ra⟩ := shr_tup.mp s
    exact .tup la.sq (ShrL.dp l us ps ra e1)
  | .lst l, v, p, s, e => by
    simp only [toPy] at e
    obtain ⟨ps, e1, e2⟩ := Option.map_eq_some_iff.mp e
    subst e2
    obtain ⟨a, us, rfl, la, ra⟩ := shr_lst.mp s
    exact .lst (.of la.1) (ShrL.dp l us ps ra e1)
  | .scr l, v, p, s, e => by simp [toPy] at e
  | .dct l, v, p, s, e => by simp [toPy] at e
  | .obj l, v, p, s, e => by simp [toPy] at e
  | .fn k l, v, p, s, e => by simp [toPy] at e
  | .gone k, v, p, s, e => by simp [toPy] at e
theorem ShrL.dp : ∀ (ds : List D) (vs : List V) (ps : List PyData), ShrL T g H ds vs → toPyL ds = some ps → DpAll T.K H vs ps
  | [], vs, ps, s, e => by
    simp only [toPyL] at e; cases e
    simp only [ShrL] at s; subst s
    exact .nil
  | d :: ds, vs, ps, s, e => by
    simp only [toPyL] at e
    simp only [ShrL] at s
    obtain ⟨v, ws, rfl, s1, s2⟩ := s
    split at e
    · rename_i p ps' e1 e2
      cases e
      exact .cons (Shr.dp d v p s1 e1) (ShrL.dp ds ws ps' s2 e2)
    · cases e
end
def hEq (x y : D) : Option D := match toPy x, toPy y with
  | some p, some q => if SeqAt.shaped p = true ∧ SeqAt.shaped q = true then some (.bl (PyData.eqv p q)) else none
  | _, _ => none
def hNe (x y : D) : Option D := match toPy x, toPy y with
  | some p, some q => if SeqAt.shaped p = true ∧ SeqAt.shaped q = true then some (.bl (!PyData.eqv p q)) else none
  | _, _ => none
theorem ok_eq : OpOk T (rEqD T.K) hEq := by
  intro g H x y z v w sx sy e hd Q q
  unfold hEq at e
  split at e
  · rename_i p p' e1 e2
    split at e
    · rename_i h
      cases e
      exact ⟨p, p', sx.dp _ _ _ e1, sy.dp _ _ _ e2, h.1, h.2, q _ H (.refl H) (shr_bl.mpr rfl)⟩
    · cases e
  · cases e
theorem ok_ne : OpOk T (rNeD T.K) hNe := by
  intro g H x y z v w sx sy e hd Q q
  unfold hNe at e
  split at e
  · rename_i p p' e1 e2
    split at e
    · rename_i h
      cases e
      exact ⟨p, p', sx.dp _ _ _ e1, sy.dp _ _ _ e2, h.1, h.2, q _ H (.refl H) (shr_bl.mpr rfl)⟩
    · cases e
  · cases e
end
end Q

namespace Q
open PySem PySem.Spec PyProof.Rows L2
section
variable {X : Cx} {T : Th} {W : WX} {Γ : List Md}
theorem goodT_bind {ρ : Env} {σ : L2.St} {g : G} {H : Hp} {r : RE} {k : D → Store → RE} {Q : Bool → Hp → Prop} {Q' : VK} (h : GoodT T W Γ ρ σ g H (r.bind k) Q)
    (hk : ∀ d S v g' H', r = .ok d S → Rel T g' Γ ρ S σ H' → FrE g H g' H' → Shr T g' H' d v → GoodT T W Γ ρ σ g' H' (k d S) Q → Q' v H') : GoodE T W Γ ρ σ g H r Q' := by
  cases r with
  | ok d S =>
    intro v g' H' R f s
    refine hk d S v g' H' rfl R f s ?_
    have h' : GoodT T W Γ ρ σ g H (k d S) Q := h
    cases e : k d S with
    | ok d2 S2 =>
      rw [e] at h'
      obtain ⟨b, e2, h'⟩ := h'
      exact ⟨b, e2, fun g2 H2 R2 f2 => h' g2 H2 R2 (f.trans f2)⟩
    | exc x S2 =>
      rw [e] at h'
      exact fun c dd g2 H2 R2 f2 s2 => h' c dd g2 H2 R2 (f.trans f2) s2
    | no => rw [e] at h'; exact h'
  | exc x S => exact h
  | no => exact h
theorem goodTT_bind {ρ : Env} {σ : L2.St} {g : G} {H : Hp} {r : RE} {k : D → Store → RE} {Q : Bool → Hp → Prop} {Q' : Bool → Hp → Prop} (h : GoodT T W Γ ρ σ g H (r.bind k) Q) (hb : ∀ d S, r = .ok d S → k d S ≠ .no → ∃ b, d = .bl b)
    (hk : ∀ b S g' H', r = .ok (.bl b) S → Rel T g' Γ ρ S σ H' → FrE g H g' H' → GoodT T W Γ ρ σ g' H' (k (.bl b) S) Q → Q' b H') : GoodT T W Γ ρ σ g H r Q' := by
  cases r with
  | ok d S =>
    have h' : GoodT T W Γ ρ σ g H (k d S) Q := h
    obtain ⟨b, rfl⟩ := hb d S rfl (fun z => by rw [z] at h'; exact h')
    refine ⟨b, rfl, fun g' H' R f => hk b S g' H' rfl R f ?_⟩
    cases e : k (.bl b) S with
    | ok d2 S2 =>
      rw [e] at h'
      obtain ⟨b, e2, h'⟩ := h'
      exact ⟨b, e2, fun g2 H2 R2 f2 => h' g2 H2 R2 (f.trans f2)⟩
    | exc x S2 =>
      rw [e] at h'
      exact fun c dd g2 H2 R2 f2 s2 => h' c dd g2 H2 R2 (f.trans f2) s2
    | no => rw [e] at h'; exact h'
  | exc x S => exact h
  | no => exact h
theorem xt_val {e : Expr} {A : FE} (ha : XE X T W Γ e A) (he : PE X e (tX T W Γ A) → PT X e (tB (tX T W Γ A)) ∨ PT X e (tTest (tX T W Γ A))) : XT X T W Γ e A := by
  have key : ∀ σ H Q, tXT T W Γ A σ H Q → tX T W Γ A σ H fun x H1 => ∃ c, x = .bl c ∧ Q c H1 := fun σ H Q ⟨g, ρ, S, R, h⟩ => by
    refine ⟨g, ρ, S, R, ?_⟩
    cases r : A ρ S with
    | ok d S1 =>
      rw [r] at h
      obtain ⟨b, rfl, h⟩ := h
      exact fun v g' H' R' f' s => ⟨b, shr_bl.mp s, h g' H' R' f'⟩
    | exc x S1 => rw [r] at h; exact h
    | no => rw [r] at h; exact h
  rcases he ha with h | h
  · exact pt_imp h key
  · exact pt_imp h key
def eTru (a : FE) : FE := eUn hTru a
theorem bl_or {d : D} {S : Store} {b : FE} {ρ : Env} (h : (match d with | .bl true => RE.ok (.bl true) S | .bl false => b ρ S | _ => .no) ≠ .no) : ∃ b, d = .bl b := by
  split at h
  · exact ⟨_, rfl⟩
  · exact ⟨_, rfl⟩
  · exact absurd rfl h
theorem bl_not {d : D} {S : Store} (h : (match d with | .bl b => RE.ok (.bl (!b)) S | _ => .no) ≠ .no) : ∃ b, d = .bl b := by
  split at h
  · exact ⟨_, rfl⟩
  · exact absurd rfl h
variable {a b c : Expr} {A B C : FE} {pos : Pos} {rest : List Expr}
abbrev XW (X : Cx) (T : Th) (W : WX) (Γ : List Md) (e : Expr) (F : FE) : Prop := PW X e (tXT T W Γ F)
theorem xw_or (ha : XT X T W Γ a A) (hb : XW X T W Γ (.BoolOp .Or (b :: rest) pos) B) : XW X T W Γ (.BoolOp .Or (a :: b :: rest) pos) (eOr A B) := pw_imp (pw_or ha hb) fun σ H Q ⟨g, ρ, S, R, h⟩ =>
  ⟨g, ρ, S, R, goodTT_bind h (fun d S1 _ hn => bl_or hn) fun t S1 g1 H1 _ R1 f1 h1 => by
    cases t with
    | false => exact ⟨g1, ρ, S1, R1, h1⟩
    | true =>
      obtain ⟨b', e2, h1⟩ := h1
      cases e2
      exact h1 g1 H1 R1 (.refl _ _)⟩
theorem xw_or1 (ha : XT X T W Γ a A) : XW X T W Γ (.BoolOp .Or [a] pos) A := pw_or1 ha
theorem xt_not (ha : XT X T W Γ a A) : XT X T W Γ (.UnaryOp .Not a pos) (eNot A) := pt_imp (pt_not ha) fun σ H Q ⟨g, ρ, S, R, h⟩ =>
  ⟨g, ρ, S, R, goodTT_bind h (fun d S1 _ hn => bl_not hn) fun t S1 g1 H1 _ R1 f1 h1 => by
    obtain ⟨b', e2, h1⟩ := h1
    cases e2
    exact h1 g1 H1 R1 (.refl _ _)⟩
theorem xe_and1 {op} (ha : XE X T W Γ a A) : XE X T W Γ (.BoolOp op [a] pos) A := pe_one ha
theorem xe_and (ha : XE X T W Γ a A) (hb : XE X T W Γ (.BoolOp .And (b :: rest) pos) B) : XE X T W Γ (.BoolOp .And (a :: b :: rest) pos) (eAnd A B) := pe_imp (pe_and ha hb) fun σ H Q ⟨g, ρ, S, R, h⟩ =>
  ⟨g, ρ, S, R, good_bind h fun d S1 v g1 H1 _ R1 f1 s1 h1 => by
    obtain ⟨t, rfl⟩ : ∃ t, d = .bl t := by
      have h0 := h1
      split at h0 <;> first | exact ⟨_, rfl⟩ | exact h0.elim
    refine ⟨t, shr_bl.mp s1, ?_⟩
    cases t with
    | true => exact ⟨g1, ρ, S1, R1, h1⟩
    | false => exact h1 (.bl false) g1 H1 R1 (.refl _ _) (shr_bl.mpr rfl)⟩
theorem xe_or (ha : XE X T W Γ a A) (hb : XE X T W Γ (.BoolOp .Or (b :: rest) pos) B) : XE X T W Γ (.BoolOp .Or (a :: b :: rest) pos) (eOr A B) := pe_imp (pe_or ha hb) fun σ H Q ⟨g, ρ, S, R, h⟩ =>
  ⟨g, ρ, S, R, good_bind h fun d S1 v g1 H1 _ R1 f1 s1 h1 => by
    obtain ⟨t, rfl⟩ : ∃ t, d = .bl t := by
      have h0 := h1
      split at h0 <;> first | exact ⟨_, rfl⟩ | exact h0.elim
    refine ⟨t, shr_bl.mp s1, ?_⟩
    cases t with
    | false => exact ⟨g1, ρ, S1, R1, h1⟩
    | true => exact h1 (.bl true) g1 H1 R1 (.refl _ _) (shr_bl.mpr rfl)⟩
theorem xe_not (ha : XE X T W Γ a A) : XE X T W Γ (.UnaryOp .Not a pos) (eNot A) := pe_imp (pe_not ha) fun σ H Q ⟨g, ρ, S, R, h⟩ =>
  ⟨g, ρ, S, R, good_bind h fun d S1 v g1 H1 _ R1 f1 s1 h1 => by
    obtain ⟨t, rfl⟩ : ∃ t, d = .bl t := by
      have h0 := h1
      split at h0 <;> first | exact ⟨_, rfl⟩ | exact h0.elim
    exact ⟨t, shr_bl.mp s1, h1 (.bl (!t)) g1 H1 R1 (.refl _ _) (shr_bl.mpr rfl)⟩⟩
end
section
variable {X : Cx} {T : Th} {W : WX} {Γ : List Md} {es : List Expr} {A : FL} {e : Expr}
theorem xe_tup (ha : XL X T W Γ es A) {x1} {pos : Pos} : XE X T W Γ (.Tuple es x1 pos) (eTup A) := pe_imp (pe_tup ha) fun σ H Q ⟨g, ρ, S, R, hg⟩ =>
  ⟨g, ρ, S, R, goodL_then hg fun ds S1 z vs g1 H1 ez R1 f1 s1 hg1 => by
    split at ez
    · rename_i hl
      cases ez
      exact ⟨by rw [← s1.length]; exact sz6 hl, fun p hp => hg1 _ g1 _ (R1.ex (Exx.new hp)) (.ex (Exx.new hp)) (shr_newT s1 hp R1.dom)⟩
    · cases ez⟩
theorem xe_lst (ha : XL X T W Γ es A) {pos : Pos} : XE X T W Γ (.List es pos) (eLst A) := pe_imp (pe_lst ha) fun σ H Q ⟨g, ρ, S, R, hg⟩ =>
  ⟨g, ρ, S, R, goodL_then hg fun ds S1 z vs g1 H1 ez R1 f1 s1 hg1 => by
    split at ez
    · rename_i hl
      cases ez
      exact ⟨by rw [← s1.length]; exact sz6 hl, fun p hp => hg1 _ g1 _ (R1.ex (Exx.new hp)) (.ex (Exx.new hp)) (shr_newL s1 hp R1.dom)⟩
    · cases ez⟩
end
end Q

namespace Q
open PySem PySem.Spec PyProof.Rows L2
structure FrS (g : G) (H : Hp) (g' : G) (H' : Hp) : Prop where
  keep : ∀ a o, H a = some o → (¬ g.U a ∨ g.O a) → H' a = some o
  own : ∀ a, g'.U a → g.U a ∨ H a = none
  O : g'.O = g.O
  P : g'.P = g.P
  N : g.N ≤ g'.N
  μ : ∀ n, n < g.N → g'.μ n = g.μ n
  dom : ∀ a o, H a = some o → ∃ o', H' a = some o'
section
variable {T : Th} {g g1 g2 : G} {H H1 H2 : Hp} {Γ : List Md} {ρ : Env} {S : Store} {σ : L2.St}
theorem FrS.refl (g : G) (H : Hp) : FrS g H g H := ⟨fun _ _ h _ => h, fun _ h => .inl h, rfl, rfl, Nat.le_refl _, fun _ _ => rfl, fun _ o h => ⟨o, h⟩⟩
theorem FrS.Z (f : FrS g H g1 H1) : g1.Z = g.Z := by funext k; show g1.P _ = g.P _; rw [f.P]
theorem FrS.stay (f : FrS g H g1 H1) : Stay g H g1 H1 := ⟨fun a o h hu => f.keep a o h (.inl hu), f.own, f.N, f.μ, f.Z⟩
theorem FrE.frs (f : FrE g H g1 H1) (hd : ∀ a, g.O a → ¬ g.B a) : FrS g H g1 H1 where
  keep := fun a o h hu => f.keep a o h fun z => hu.elim (fun w => w (.inr (.inr z))) (fun w => hd a w z)
  own := f.stay.own
  O := f.O
  P := f.P
  N := f.N
  μ := f.μ
  dom := f.dom
theorem FrS.trans (a : FrS g H g1 H1) (b : FrS g1 H1 g2 H2) : FrS g H g2 H2 where
  keep := fun x o h hu => b.keep x o (a.keep x o h hu) (hu.elim (fun w => .inl (a.stay.off h w)) fun w => .inr (by rw [a.O]; exact w))
  own := (a.stay.trans b.stay).own
  O := b.O.trans a.O
  P := b.P.trans a.P
  N := Nat.le_trans a.N b.N
  μ := (a.stay.trans b.stay).μ
  dom := fun x o h => by
    obtain ⟨o', h'⟩ := a.dom x o h
    exact b.dom x o' h'
end
def G.plus (g : G) (Fo : Addr → Prop) : G := { g with O := fun a => g.O a ∨ Fo a }
structure Jd where
  W : WX
  ΓX : List Md → Prop
  ΓR : List Md → Prop
  kr : Nat
  Γl : List Md
def GoodS (T : Th) (J : Jd) (Γ' : List Md) (g : G) (H : Hp) : RS → Ends → Prop
  | .nx ρ' S', D => ∀ σ' g' H', Rel T g' Γ' ρ' S' σ' H' → FrS g H g' H' → D.nx σ' H'
  | .bk ρ' S', D => ∀ σ' g' H', Rel T g' J.Γl ρ' S' σ' H' → FrS g H g' H' → D.bk σ' H'
  | .ct ρ' S', D => ∀ σ' g' H', Rel T g' J.Γl ρ' S' σ' H' → FrS g H g' H' → D.ct σ' H'
  | .rt d ρ' S', D => ∀ Γ'' v σ' g' H' Fo, J.ΓR Γ'' → Rel T (g'.plus Fo) Γ'' ρ' S' σ' H' → FrS g H g' H' → (∀ a, Fo a → ¬ g.O a ∧ (g.U a ∨ H a = none)) → Own T (g'.plus Fo) H' J.kr Fo d v → D.rt v H'
  | .exc x ρ' S', _ => ∀ Γ'' c dd σ' g' H', J.ΓX Γ'' → Rel T g' Γ'' ρ' S' σ' H' → FrS g H g' H' → ExcR T g' H' x c dd → J.W c dd σ' H'
  | .no, _ => False
def tS (T : Th) (J : Jd) (Γ Γ' : List Md) (F : FS) : TS := fun D σ H => ∃ g ρ S, Rel T g Γ ρ S σ H ∧ GoodS T J Γ' g H (F ρ S) D
abbrev XS (X : Cx) (T : Th) (J : Jd) (Γ Γ' : List Md) (st : Stmt) (F : FS) : Prop := PS X st (tS T J Γ Γ' F)
abbrev XB (X : Cx) (T : Th) (J : Jd) (Γ Γ' : List Md) (st : List Stmt) (F : FS) : Prop := PSs X st (tS T J Γ Γ' F)
theorem ps_imp {X : Cx} {e : Stmt} {t t' : TS} (h : PS X e t) (i : ∀ D σ H, t' D σ H → t D σ H) : PS X e t' := ⟨fun pins s σ H D I q => h.run pins s σ H D I (i D σ H q)⟩
theorem pss_imp {X : Cx} {e : List Stmt} {t t' : TS} (h : PSs X e t) (i : ∀ D σ H, t' D σ H → t D σ H) : PSs X e t' := ⟨fun pins s σ H D I q => h.run pins s σ H D I (i D σ H q)⟩
def RE.bindS (ρ : Env) : RE → (D → Store → RS) → RS
  | .ok d S, k => k d S
  | .exc x S, _ => .exc x ρ S
  | .no, _ => .no
def fPass : FS := fun ρ S => .nx ρ S
def fBrk : FS := fun ρ S => .bk ρ S
def fCt : FS := fun ρ S => .ct ρ S
def fSet (i : Nat) (a : FE) : FS := fun ρ S => (a ρ S).bindS ρ fun d S1 => .nx (ρ.set i (some d)) S1
def fDrop (a : FE) : FS := fun ρ S => (a ρ S).bindS ρ fun _ S1 => .nx ρ S1
def fRet (a : FE) : FS := fun ρ S => (a ρ S).bindS ρ fun d S1 => .rt d ρ S1
def fSeq (f h : FS) : FS := fun ρ S => match f ρ S with
  | .nx ρ1 S1 => h ρ1 S1
  | r => r
def fIf (c : FE) (f h : FS) : FS := fun ρ S => (c ρ S).bindS ρ fun d S1 => match d with
  | .bl true => f ρ S1
  | .bl false => h ρ S1
  | _ => .no
def loopN (c : FE) (b : FS) : Nat → Env → Store → Option RS
  | 0, _, _ => none
  | n + 1, ρ, S => match c ρ S with
    | .ok (.bl true) S1 => (match b ρ S1 with
      | .nx ρ2 S2 => loopN c b n ρ2 S2
      | .ct ρ2 S2 => loopN c b n ρ2 S2
      | .bk ρ2 S2 => some (.nx ρ2 S2)
      | r => some r)
    | .ok (.bl false) S1 => some (.nx ρ S1)
    | .exc x S1 => some (.exc x ρ S1)
    | _ => some .no
open Classical in
noncomputable def fWhile (c : FE) (b : FS) : FS := fun ρ S => if h : ∃ n r, loopN c b n ρ S = some r then Classical.choose (Classical.choose_spec h) else .no
def forL (tf : D → Env → Option Env) (b : FS) : List D → Env → Store → RS
  | [], ρ, S => .nx ρ S
  | d :: ds, ρ, S => match tf d ρ with
    | none => .no
    | some ρ1 => match b ρ1 S with
      | .nx ρ2 S2 => forL tf b ds ρ2 S2
      | .ct ρ2 S2 => forL tf b ds ρ2 S2
      | .bk ρ2 S2 => .nx ρ2 S2
      | r => r
def fFor (it : FL) (tf : D → Env → Option Env) (b : FS) : FS := fun ρ S => match it ρ S with
  | .ok ds S1 => forL tf b ds ρ S1
  | .exc x S1 => .exc x ρ S1
  | .no => .no
section
variable {X : Cx} {T : Th} {J : Jd} {Γ Γ' Γ1 : List Md}
theorem GoodS.after {g g1 : G} {H H1 : Hp} {r : RS} {D : Ends} (h : GoodS T J Γ' g H r D) (f : FrS g H g1 H1) (fo : ∀ a, g1.O a ↔ g.O a) (hu : ∀ a, g1.U a ∨ H1 a = none → g.U a ∨ H a = none) : GoodS T J Γ' g1 H1 r D := by
  cases r with
  | nx ρ' S' => exact fun σ' g' H' R f' => h σ' g' H' R (f.trans f')
  | bk ρ' S' => exact fun σ' g' H' R f' => h σ' g' H' R (f.trans f')
  | ct ρ' S' => exact fun σ' g' H' R f' => h σ' g' H' R (f.trans f')
  | rt d ρ' S' => exact fun Γ'' v σ' g' H' Fo a R f' b c => h Γ'' v σ' g' H' Fo a R (f.trans f') (fun x q => ⟨fun z => (b x q).1 ((fo x).mpr z), hu x (b x q).2⟩) c
  | exc x ρ' S' => exact fun Γ'' c dd σ' g' H' a R f' e => h Γ'' c dd σ' g' H' a R (f.trans f') e
  | no => exact h
theorem FrS.back {g g1 : G} {H H1 : Hp} (f : FrS g H g1 H1) : ∀ a, g1.U a ∨ H1 a = none → g.U a ∨ H a = none := fun a h => by
  rcases h with h | h
  · exact f.own a h
  · cases e : H a with
    | none => exact .inr rfl
    | some o =>
      by_cases hu : g.U a
      · exact .inl hu
      · have := f.keep a o e (.inl hu)
        rw [h] at this; cases this
theorem GoodS.then {g g1 : G} {H H1 : Hp} {r : RS} {D : Ends} (h : GoodS T J Γ' g H r D) (f : FrS g H g1 H1) : GoodS T J Γ' g1 H1 r D := h.after f (fun a => by rw [f.O]) f.back
theorem good_bindS {ρ : Env} {σ : L2.St} {S : Store} {g : G} {H : Hp} {r : RE} {k : D → Store → RS} {D : Ends} {Q' : VK} (R : Rel T g Γ ρ S σ H) (hx : J.ΓX Γ) (h : GoodS T J Γ' g H (r.bindS ρ k) D)
    (hk : ∀ d S v g' H', r = .ok d S → Rel T g' Γ ρ S σ H' → FrS g H g' H' → Shr T g' H' d v → GoodS T J Γ' g' H' (k d S) D → Q' v H') : GoodE T J.W Γ ρ σ g H r Q' := by
  cases r with
  | ok d S1 =>
    intro v g' H' R' f s
    have f' := f.frs R.dOB
    exact hk d S1 v g' H' rfl R' f' s (GoodS.then h f')
  | exc x S1 =>
    intro c dd g' H' R' f e
    exact h Γ c dd σ g' H' hx R' (f.frs R.dOB) e
  | no => exact h
theorem good_bindT {ρ : Env} {σ : L2.St} {S : Store} {g : G} {H : Hp} {r : RE} {k : D → Store → RS} {D : Ends} {Q' : Bool → Hp → Prop} (R : Rel T g Γ ρ S σ H) (hx : J.ΓX Γ) (h : GoodS T J Γ' g H (r.bindS ρ k) D) (hb : ∀ d S, k d S ≠ .no → ∃ b, d = .bl b)
    (hk : ∀ b S g' H', r = .ok (.bl b) S → Rel T g' Γ ρ S σ H' → FrS g H g' H' → GoodS T J Γ' g' H' (k (.bl b) S) D → Q' b H') : GoodT T J.W Γ ρ σ g H r Q' := by
  cases r with
  | ok d S1 =>
    have h' : GoodS T J Γ' g H (k d S1) D := h
    obtain ⟨b, rfl⟩ := hb d S1 (fun z => by rw [z] at h'; exact h')
    exact ⟨b, rfl, fun g' H' R' f => hk b S1 g' H' rfl R' (f.frs R.dOB) (GoodS.then h' (f.frs R.dOB))⟩
  | exc x S1 =>
    intro c dd g' H' R' f e
    exact h Γ c dd σ g' H' hx R' (f.frs R.dOB) e
  | no => exact h
theorem xb_nil : XB X T J Γ Γ [] fPass := pss_imp pss_nil fun D σ H ⟨g, ρ, S, R, h⟩ => h σ g H R (.refl _ _)
theorem xb_one {st : Stmt} {A : FS} (ha : XS X T J Γ Γ' st A) : XB X T J Γ Γ' [st] A := pss_one ha
theorem xb_cons {st : Stmt} {rest : List Stmt} {A B : FS} (ha : XS X T J Γ Γ1 st A) (hb : XB X T J Γ1 Γ' rest B) : XB X T J Γ Γ' (st :: rest) (fSeq A B) := pss_imp (pss_cons ha hb) fun D σ H ⟨g, ρ, S, R, h⟩ => by
  refine ⟨g, ρ, S, R, ?_⟩
  unfold fSeq at h
  cases e : A ρ S with
  | nx ρ' S' =>
    rw [e] at h
    exact fun σ' g' H' R' f' => ⟨g', ρ', S', R', GoodS.then h f'⟩
  | bk ρ' S' => rw [e] at h; exact h
  | ct ρ' S' => rw [e] at h; exact h
  | rt d ρ' S' => rw [e] at h; exact h
  | exc x ρ' S' => rw [e] at h; exact h
  | no => rw [e] at h; exact h
theorem xs_if {c : Expr} {a b : List Stmt} {C : FE} {A B : FS} {pos : Pos} (hx : J.ΓX Γ) (hc : XT X T J.W Γ c C) (ha : XB X T J Γ Γ' a A) (hb : XB X T J Γ Γ' b B) : XS X T J Γ Γ' (.If c a b pos) (fIf C A B) := ps_imp (ps_if hc ha hb) fun D σ H ⟨g, ρ, S, R, h⟩ =>
  ⟨g, ρ, S, R, good_bindT R hx h (fun d S1 hn => by
    split at hn
    · exact ⟨_, rfl⟩
    · exact ⟨_, rfl⟩
    · exact absurd rfl hn) fun t S1 g1 H1 _ R1 f1 h1 => by
    cases t with
    | true => exact ⟨g1, ρ, S1, R1, h1⟩
    | false => exact ⟨g1, ρ, S1, R1, h1⟩⟩
theorem Rel.shift {g g2 : G} {Γ Γ2 : List Md} {ρ ρ2 : Env} {S : Store} {σ σ2 : L2.St} {H : Hp} (R : Rel T g Γ ρ S σ H) (hN : g2.N = g.N) (hμ : g2.μ = g.μ) (hB : g2.B = g.B) (hBF : g2.BF = g.BF) (hU : ∀ a, g2.U a → g.U a)
    (dF : ∀ i j a, g2.F i a → g2.F j a → i = j) (dFO : ∀ i a, g2.F i a → ¬ g2.O a) (hO : ∀ a, g2.O a → g.O a ∨ ∃ i, g.F i a) (hF : ∀ i a, g2.F i a → (∃ j, g.F j a) ∨ g.O a) (hl : ρ2.length = σ2.length)
    (slot : Stay g H g2 H → ∀ (i : Nat) d, ρ2[i]? = some (some d) → ∃ v, σ2[i]? = some (some v) ∧ RepM T g2 H i (Γ2.getD i .s) d v) (hZ : g2.Z = g.Z := by rfl) : Rel T g2 Γ2 ρ2 S σ2 H := by
  have st : Stay g H g2 H := ⟨fun _ _ h _ => h, fun a h => .inl (hU a h), by rw [hN]; exact Nat.le_refl _, fun n _ => by rw [hμ], hZ⟩
  refine ⟨hl, slot st, dF, dFO, fun i a h => ?_, fun a h => ?_, fun a h => R.dom a (hU a h), R.st.keep st (fun _ _ _ h => h) hN hB hBF fun n _ => by rw [hμ], fun a h => R.nt a (hU a h)⟩
  · rw [hB]
    rcases hF i a h with ⟨j, z⟩ | z
    · exact R.dFB j a z
    · exact R.dOB a z
  · rw [hB]
    rcases hO a h with z | ⟨i, z⟩
    · exact R.dOB a z
    · exact R.dFB i a z
def G.drop (g : G) (i : Nat) : G := { g with F := fun j a => j ≠ i ∧ g.F j a }
theorem G.drop_U {g : G} {i : Nat} {a : Addr} (h : (g.drop i).U a) : g.U a := by
  rcases h with h | ⟨j, _, h⟩ | h
  · exact .inl h
  · exact .inr (.inl ⟨j, h⟩)
  · exact .inr (.inr h)
theorem RepM.stay {g g2 : G} {H : Hp} {i : Nat} {m : Md} {d : D} {v : V} (h : RepM T g H i m d v) (st : Stay g H g2 H) (hF : ∀ a, g.F i a → g2.F i a) (hO : ∀ a, g.O a → g2.O a) (hP : g2.P i = g.P i) (hb : Stay g.bare H g2.bare H) : RepM T g2 H i m d v := by
  cases m with
  | s => exact Shr.stay st _ _ h
  | o k => exact (Own.wide k _ _ d v hF (Own.keepF st k _ d v (fun _ _ _ q => q) h) : Own T g2 H k (g2.F i) d v)
  | r k => exact (Own.wide k _ _ d v hO (Own.keepF st k _ d v (fun _ _ _ q => q) h) : Own T g2 H k g2.O d v)
  | p k => exact ⟨by rw [hP]; exact h.1, (Own.wide k _ _ d v hF (Own.keepF st k _ d v (fun _ _ _ q => q) h.2) : Own T g2 H k (g2.F i) d v)⟩
  | e w => exact h
  | l => exact Shr.stay hb _ _ h
  | x w dd fs => exact ⟨h.1, st.keep _ _ h.2.1 h.2.2, st.off h.2.1 h.2.2⟩
theorem getD_set_self {Γ : List Md} {i : Nat} {m : Md} (h : i < Γ.length) : (Γ.set i m).getD i .s = m := by
  simp [List.getD, h]
theorem getD_set_ne {Γ : List Md} {i j : Nat} {m : Md} (h : i ≠ j) : (Γ.set i m).getD j .s = Γ.getD j .s := by
  simp [List.getD, List.getElem?_set_ne h]
theorem getD_set_s {Γ : List Md} {i : Nat} : (Γ.set i .s).getD i .s = .s := by
  by_cases h : i < Γ.length
  · exact getD_set_self h
  · rw [List.set_eq_of_length_le (Nat.le_of_not_lt h)]
    simp [List.getD, List.getElem?_eq_none (Nat.le_of_not_lt h)]
theorem Rel.set {g : G} {ρ : Env} {S : Store} {σ : L2.St} {H : Hp} {d : D} {v : V} {i : Nat} (R : Rel T g Γ ρ S σ H) (s : Shr T g H d v) : Rel T (g.drop i) (Γ.set i .s) (ρ.set i (some d)) S (σ.set i (some v)) H := by
  refine R.shift rfl rfl rfl rfl (fun a h => G.drop_U h) (fun j k a h h' => R.dF j k a h.2 h'.2) (fun j a h => R.dFO j a h.2) (fun a h => .inl h) (fun j a h => .inl ⟨j, h.2⟩) (by simp [R.len]) fun st j d' e => ?_
  by_cases hj : i = j
  · subst hj
    by_cases hlt : i < ρ.length
    · rw [List.getElem?_set_self hlt] at e
      cases e
      refine ⟨v, by rw [List.getElem?_set_self (by rw [← R.len]; exact hlt)], ?_⟩
      rw [getD_set_s]
      exact s.stay st
    · rw [List.getElem?_eq_none (by simpa using hlt)] at e
      cases e
  · rw [List.getElem?_set_ne hj] at e
    obtain ⟨w, h1, h2⟩ := R.slot j d' e
    refine ⟨w, by rw [List.getElem?_set_ne hj]; exact h1, ?_⟩
    rw [getD_set_ne hj]
    exact h2.stay st (fun a z => ⟨fun q => hj q.symm, z⟩) (fun a z => z) rfl (bare_sub rfl rfl (fun i a z => ⟨i, z.2⟩) fun _ z => z)
theorem FrS.drop {g : G} {H : Hp} {i : Nat} : FrS g H (g.drop i) H := ⟨fun _ _ h _ => h, fun a h => .inl (G.drop_U h), rfl, rfl, Nat.le_refl _, fun _ _ => rfl, fun _ o h => ⟨o, h⟩⟩
theorem xs_set {i : Nat} {e : Expr} {A : FE} {st : Stmt} (hx : J.ΓX Γ) (ha : XE X T J.W Γ e A) (he : PE X e (tX T J.W Γ A) → PS X st (tAsg (tX T J.W Γ A) (gName i))) (hΓ : Γ.set i .s = Γ') : XS X T J Γ Γ' st (fSet i A) := ps_imp (he ha) fun D σ H ⟨g, ρ, S, R, h⟩ =>
  ⟨g, ρ, S, R, good_bindS R hx h fun d S1 v g1 H1 _ R1 f1 s1 h1 => h1 _ (g1.drop i) H1 (by rw [← hΓ]; exact R1.set s1) .drop⟩
theorem plus_none {g : G} {ρ : Env} {S : Store} {σ : L2.St} {H : Hp} (R : Rel T g Γ ρ S σ H) : Rel T (g.plus fun _ => False) Γ ρ S σ H := by
  have hU : ∀ a, (g.plus fun _ => False).U a → g.U a := fun a h => by
    rcases h with (h | h) | h | h
    · exact .inl h
    · exact h.elim
    · exact .inr (.inl h)
    · exact .inr (.inr h)
  exact R.shift rfl rfl rfl rfl hU R.dF (fun i a h z => z.elim (R.dFO i a h) id) (fun a h => h.elim .inl False.elim) (fun i a h => .inl ⟨i, h⟩) R.len fun st i d e => by
    obtain ⟨v, h1, h2⟩ := R.slot i d e
    exact ⟨v, h1, h2.stay st (fun _ z => z) (fun _ z => .inl z) rfl (bare_sub rfl rfl (fun i a z => ⟨i, z⟩) fun _ z => z)⟩
theorem stay_plus {g : G} {H : Hp} : Stay g H (g.plus fun _ => False) H := ⟨fun _ _ h _ => h, fun a h => by
    rcases h with (h | h) | h | h
    · exact .inl (.inl h)
    · exact h.elim
    · exact .inl (.inr (.inl h))
    · exact .inl (.inr (.inr h)), Nat.le_refl _, fun _ _ => rfl, rfl⟩
theorem shr_plus {g : G} {H : Hp} {d : D} {v : V} (s : Shr T g H d v) : Shr T (g.plus fun _ => False) H d v := s.stay stay_plus
theorem own_shr {g : G} {H : Hp} {d : D} {v : V} {F : Addr → Prop} (s : Shr T g H d v) : Own T g H 0 F d v := by simpa only [Own] using s
theorem xs_ret {e : Expr} {A : FE} {st : Stmt} (hx : J.ΓX Γ) (hr : J.ΓR Γ) (hk : J.kr = 0) (ha : XE X T J.W Γ e A) (he : PE X e (tX T J.W Γ A) → PS X st (tRet (tX T J.W Γ A))) : XS X T J Γ Γ' st (fRet A) := ps_imp (he ha) fun D σ H ⟨g, ρ, S, R, h⟩ =>
  ⟨g, ρ, S, R, good_bindS R hx h fun d S1 v g1 H1 _ R1 f1 s1 h1 => h1 Γ v σ g1 H1 (fun _ => False) hr (plus_none R1) (.refl _ _) (fun _ z => z.elim) (by rw [hk]; exact own_shr (shr_plus s1))⟩
end
end Q

namespace Q
open PySem PySem.Spec PyProof.Rows L2
section
variable {X : Cx} {T : Th} {J : Jd} {Γ Γ' Γ1 : List Md}
def ItOk (T : Th) (g : G) (H : Hp) (It1 : It) (ds : List D) : Prop := ∀ g' H' (i : Nat), Stay g H g' H' → (ds.length ≤ i → It1.stop i H') ∧ ∀ d, ds[i]? = some d → It1.go i H' ∧ ∀ x H'', It1.yld i H' x H'' → Exx H' H'' ∧ Shr T g' H'' d x
def GoodI (T : Th) (W : WX) (Γ : List Md) (ρ : Env) (σ : L2.St) (g : G) (H : Hp) : RL → (It → Hp → Prop) → Prop
  | .ok ds S', R => ∀ It1 g' H', Rel T g' Γ ρ S' σ H' → FrE g H g' H' → ItOk T g' H' It1 ds → R It1 H'
  | .exc x S', _ => ∀ c dd g' H', Rel T g' Γ ρ S' σ H' → FrE g H g' H' → ExcR T g' H' x c dd → W c dd σ H'
  | .no, _ => False
def tI (T : Th) (W : WX) (Γ : List Md) (F : FL) : TI := fun σ H Q => ∃ g ρ S, Rel T g Γ ρ S σ H ∧ GoodI T W Γ ρ σ g H (F ρ S) Q
abbrev XI (X : Cx) (T : Th) (W : WX) (Γ : List Md) (tg it : Expr) (F : FL) : Prop := PI X tg it (tI T W Γ F)
theorem pi_imp {X : Cx} {tg e : Expr} {t t' : TI} (h : PI X tg e t) (i : ∀ σ H Q, t' σ H Q → t σ H Q) : PI X tg e t' := ⟨fun pins s σ H Q I q => h.run pins s σ H Q I (i σ H Q q)⟩
def ItR (X : Cx) (tg : Expr) (r : V → Hp → (It → Hp → Prop) → Prop) : Prop := ∀ (pins : List (Addr × Obj)) (s : Shared) (σ : L2.St) (H : Hp) (x : V) (v : Value) (R : It → Hp → Prop), Inv X pins σ H s → RelV x v → r x H R →
  wpAny (model X.prog X.w) X.A (pyIter v) (PIE X pins σ tg R) X.xe s
theorem itr_or {tg : Expr} {r1 r2 : V → Hp → (It → Hp → Prop) → Prop} (a : ItR X tg r1) (b : ItR X tg r2) : ItR X tg (fun x H R => r1 x H R ∨ r2 x H R) := fun pins s σ H x v R I rx h =>
  h.elim (a pins s σ H x v R I rx) (b pins s σ H x v R I rx)
theorem pi_of {tg l : Expr} {tl : TE} {r : V → Hp → (It → Hp → Prop) → Prop} (hl : PE X l tl) (hr : ItR X tg r) : PI X tg l (fun σ H R => tl σ H fun x H1 => r x H1 R) := by
  refine ⟨fun pins s σ H R I h => ?_⟩
  refine thn (hl.run pins s σ H _ I h) fun v s1 ⟨x, H1, I1, r1, q1⟩ => ?_
  exact hr pins s1 σ H1 x v R I1 r1 q1
theorem itr_list {tg : Expr} : ItR X tg (fun x H R => ∃ a, x = .ref a ∧ (∃ xs, SqL X.K H a xs) ∧ R (Itl X.K a) H) := by
  intro pins s1 σ H1 x v R I1 r1 h
  obtain ⟨a, e, ⟨xs, hq⟩, q⟩ := h
  subst e
  cases r1
  obtain ⟨its, rv, p, hz⟩ := I1.list hq
  refine wpAny_pyIter_list p.isList ?_
  refine ⟨s1.heap.objs.size, [s1.heap.objs.size], _, _, H1, rfl, I1.kept (t' := s1.toks) fun b o e => Heap.get?_push_of_some _ e, turn_list a _, ⟨_, Heap.get?_push_size _ rfl, rfl, rfl⟩, fun b hb => ?_, q⟩
  have e : b = s1.heap.objs.size := by simpa using hb
  subst e
  exact I1.fpOk (Nat.le_refl _) (I1.hok.fresh (Nat.le_refl _))
theorem itr_tup {tg : Expr} : ItR X tg (fun x H R => ∃ a, x = .ref a ∧ (∃ xs, SqT X.K H a xs) ∧ R (Itt X.K a) H) := by
  intro pins s1 σ H1 x v R I1 r1 h
  obtain ⟨a, e, ⟨xs, hq⟩, q⟩ := h
  subst e
  cases r1
  obtain ⟨its, rv, p, hz⟩ := I1.tuple hq
  refine wpAny_pyIter_tuple (show s1.heap.IsTuple a its.toArray from p) ?_
  refine ⟨s1.heap.objs.size, [s1.heap.objs.size], _, _, H1, rfl, I1.kept (t' := s1.toks) fun b o e => Heap.get?_push_of_some _ e, turn_tuple a _, ⟨_, Heap.get?_push_size _ rfl, rfl, rfl⟩, fun b hb => ?_, q⟩
  have e : b = s1.heap.objs.size := by simpa using hb
  subst e
  exact I1.fpOk (Nat.le_refl _) (I1.hok.fresh (Nat.le_refl _))
def hSeq : D → Option (List D)
  | .lst l => some l
  | .scr l => some l
  | .tup l => some l
  | _ => none
def iSeq (a : FE) : FL := fun ρ S => match a ρ S with
  | .ok d S1 => (match hSeq d with
    | some l => .ok l S1
    | none => .no)
  | .exc x S1 => .exc x S1
  | .no => .no
theorem itOk_list {g : G} {H : Hp} {a : Addr} {l : List D} {vs : List V} (st : ∀ g' H', Stay g H g' H' → SqL T.K H' a vs) (s : ShrL T g H l vs) : ItOk T g H (Itl T.K a) l := fun g' H' i y => by
  refine ⟨fun h => ⟨vs, st g' H' y, by rw [← s.length]; exact h⟩, fun d e => ?_⟩
  obtain ⟨v, h1, h2⟩ := (s.stay y l vs).get e
  exact ⟨⟨vs, v, st g' H' y, h1⟩, fun x H'' ⟨e1, e2⟩ => by subst e1; have := e2 vs (st g' _ y); rw [h1] at this; cases this; exact ⟨.refl _, h2⟩⟩
theorem itOk_tup {g : G} {H : Hp} {a : Addr} {l : List D} {vs : List V} (st : ∀ g' H', Stay g H g' H' → SqT T.K H' a vs) (s : ShrL T g H l vs) : ItOk T g H (Itt T.K a) l := fun g' H' i y => by
  refine ⟨fun h => ⟨vs, st g' H' y, by rw [← s.length]; exact h⟩, fun d e => ?_⟩
  obtain ⟨v, h1, h2⟩ := (s.stay y l vs).get e
  exact ⟨⟨vs, v, st g' H' y, h1⟩, fun x H'' ⟨e1, e2⟩ => by subst e1; have := e2 vs (st g' _ y); rw [h1] at this; cases this; exact ⟨.refl _, h2⟩⟩
theorem xi_seq {W : WX} {tg e : Expr} {A : FE} (hK : X.K = T.K) (ha : XE X T W Γ e A) : XI X T W Γ tg e (iSeq A) := pi_imp (pi_of ha (itr_or itr_list itr_tup)) fun σ H Q ⟨g, ρ, S, R, h⟩ => by
  refine ⟨g, ρ, S, R, ?_⟩
  unfold iSeq at h
  cases e : A ρ S with
  | ok d S1 =>
    rw [e] at h
    intro v g' H' R' f' s
    rw [hK]
    have h : GoodI T W Γ ρ σ g H (match hSeq d with | some l => RL.ok l S1 | none => .no) Q := h
    cases d <;> simp only [hSeq] at h <;> first | exact h.elim | skip
    · obtain ⟨a, vs, rfl, la, ra⟩ := shr_tup.mp s
      exact .inr ⟨a, rfl, ⟨vs, la.sq⟩, h _ g' H' R' f' (itOk_tup (fun g2 H2 y => by
        rcases la with z | z
        · exact .inl (y.rd z.1 z.2).1
        · exact .inr z) ra)⟩
    · obtain ⟨a, vs, rfl, la, ra⟩ := shr_lst.mp s
      exact .inl ⟨a, rfl, ⟨vs, .of la.1⟩, h _ g' H' R' f' (itOk_list (fun g2 H2 y => .of (y.keep _ _ la.1 la.2)) ra)⟩
    · obtain ⟨a, vs, rfl, la, ra⟩ := shr_scr.mp s
      exact .inl ⟨a, rfl, ⟨vs, la.sq⟩, h _ g' H' R' f' (itOk_list (fun g2 H2 y => by
        rcases la with z | z
        · exact .inl (y.rd z.1 z.2).1
        · exact .inr z) ra)⟩
  | exc x S1 => rw [e] at h; exact h
  | no => rw [e] at h; exact h
def ItOkF (T : Th) (g : G) (H : Hp) (It1 : It) (ds : List D) : Prop := ∀ g' H' (i : Nat), Stay g H g' H' → (∀ a o, H a = some o → ¬ g.B a → H' a = some o) → (ds.length ≤ i → It1.stop i H') ∧ ∀ d, ds[i]? = some d → It1.go i H' ∧ ∀ x H'', It1.yld i H' x H'' → Exx H' H'' ∧ Shr T g' H'' d x
def GoodIF (T : Th) (W : WX) (Γ : List Md) (ρ : Env) (σ : L2.St) (g : G) (H : Hp) : RL → (It → Hp → Prop) → Prop
  | .ok ds S', R => ∀ It1 g' H', Rel T g' Γ ρ S' σ H' → FrE g H g' H' → ItOkF T g' H' It1 ds → R It1 H'
  | .exc x S', _ => ∀ c dd g' H', Rel T g' Γ ρ S' σ H' → FrE g H g' H' → ExcR T g' H' x c dd → W c dd σ H'
  | .no, _ => False
def tIF (T : Th) (W : WX) (Γ : List Md) (F : FL) : TI := fun σ H Q => ∃ g ρ S, Rel T g Γ ρ S σ H ∧ GoodIF T W Γ ρ σ g H (F ρ S) Q
abbrev XIF (X : Cx) (T : Th) (W : WX) (Γ : List Md) (tg it : Expr) (F : FL) : Prop := PI X tg it (tIF T W Γ F)
theorem xif_of {W : WX} {tg e : Expr} {F : FL} (h : XI X T W Γ tg e F) : XIF X T W Γ tg e F := pi_imp h fun σ H Q ⟨g, ρ, S, R, hg⟩ => by
  refine ⟨g, ρ, S, R, ?_⟩
  cases r : F ρ S with
  | ok ds S1 => rw [r] at hg; exact fun It1 g' H' R' f' io => hg It1 g' H' R' f' fun g2 H2 i st _ => io g2 H2 i st
  | exc x S1 => rw [r] at hg; exact hg
  | no => rw [r] at hg; exact hg
def rangeL (lo hi : Int) : List D := (List.range (hi - lo).toNat).map fun (k : Nat) => D.int (lo + k)
def rgK1 (ds : List D) (S : Store) : RL := match ds with
  | [.int n] => if -1000000000000 ≤ n ∧ n ≤ 1000000000000 then .ok (rangeL 0 n) S else .no
  | _ => .no
def rgK2 (ds : List D) (S : Store) : RL := match ds with
  | [.int lo, .int hi] => if (-1000000000000 ≤ lo ∧ lo ≤ 1000000000000) ∧ -1000000000000 ≤ hi ∧ hi ≤ 1000000000000 then .ok (rangeL lo hi) S else .no
  | _ => .no
def iRange1 (a : FL) : FL := fun ρ S => match a ρ S with
  | .ok ds S1 => rgK1 ds S1
  | .exc x S1 => .exc x S1
  | .no => .no
def iRange2 (a : FL) : FL := fun ρ S => match a ρ S with
  | .ok ds S1 => rgK2 ds S1
  | .exc x S1 => .exc x S1
  | .no => .no
theorem itOk_range {g : G} {H : Hp} {lo hi : Int} : ItOk T g H (Itr lo (hi - lo).toNat) (rangeL lo hi) := fun g' H' i y => by
  refine ⟨fun h => ?_, fun d e => ?_⟩
  · show (hi - lo).toNat ≤ i
    simpa [rangeL] using h
  · unfold rangeL at e
    rw [List.getElem?_map] at e
    obtain ⟨k, e1, e2⟩ := Option.map_eq_some_iff.mp e
    obtain ⟨hk, e3⟩ := List.getElem?_eq_some_iff.mp e1
    rw [List.getElem_range] at e3
    subst e3
    subst e2
    rw [List.length_range] at hk
    exact ⟨hk, fun x H'' ⟨e1, e2⟩ => by subst e1; subst e2; exact ⟨.refl _, shr_int.mpr rfl⟩⟩
theorem xi_range1 {W : WX} {tg e a : Expr} {A : FL} (ha : XL X T W Γ [a] A) (he : PA X [a] (tXL T W Γ A) → PI X tg e (iRng1 (tXL T W Γ A))) : XI X T W Γ tg e (iRange1 A) := pi_imp (he ha) fun σ H Q ⟨g, ρ, S, R, h⟩ => by
  refine ⟨g, ρ, S, R, ?_⟩
  unfold iRange1 at h
  cases e : A ρ S with
  | exc x S1 => rw [e] at h; exact h
  | no => rw [e] at h; exact h
  | ok ds S1 =>
    rw [e] at h
    replace h : GoodI T W Γ ρ σ g H (rgK1 ds S1) Q := h
    unfold rgK1 at h
    split at h
    · rename_i n
      split at h
      · rename_i hl
        intro v g' H' R' f' s
        obtain ⟨v, rfl, s1⟩ := shrL1 s
        rw [shr_int.mp s1]
        refine ⟨n, rfl, by omega, by omega, h _ g' H' R' f' ?_⟩
        have := itOk_range (T := T) (g := g') (H := H') (lo := 0) (hi := n)
        rw [Int.sub_zero] at this
        exact this
      · exact h.elim
    · exact h.elim
def G.drops (g : G) (is : List Nat) : G := { g with F := fun j a => j ∉ is ∧ g.F j a }
theorem G.drops_U {g : G} {is : List Nat} {a : Addr} (h : (g.drops is).U a) : g.U a := by
  rcases h with h | ⟨j, _, h⟩ | h
  · exact .inl h
  · exact .inr (.inl ⟨j, h⟩)
  · exact .inr (.inr h)
theorem FrS.drops {g : G} {H : Hp} {is : List Nat} : FrS g H (g.drops is) H := ⟨fun _ _ h _ => h, fun a h => .inl (G.drops_U h), rfl, rfl, Nat.le_refl _, fun _ _ => rfl, fun _ o h => ⟨o, h⟩⟩
theorem G.drops_one {g : G} {i : Nat} : g.drop i = g.drops [i] := by
  unfold G.drop G.drops
  congr 1
  funext j a
  simp
def TgOk (T : Th) (Γ Γ' : List Md) (is : List Nat) (t : TG) (tf : D → Env → Option Env) : Prop := ∀ (g : G) (ρ ρ' : Env) (S : Store) (σ : L2.St) (H : Hp) (d : D) (v : V) (Q : L2.St → Hp → Prop), Rel T g Γ ρ S σ H → Shr T g H d v → tf d ρ = some ρ' →
  (∀ σ', Rel T (g.drops is) Γ' ρ' S σ' H → σ'.length = σ.length → (∀ j, j ∉ is → σ'[j]? = σ[j]?) → Q σ' H) → t v σ H Q
def tfName (i : Nat) : D → Env → Option Env := fun d ρ => some (ρ.set i (some d))
theorem tg_name {i : Nat} (h : Γ.set i .s = Γ') : TgOk T Γ Γ' [i] (gName i) (tfName i) := fun g ρ ρ' S σ H d v Q R s e k => by
  cases e
  subst h
  refine k _ ?_ (by simp) fun j hj => List.getElem?_set_ne (fun z => hj (by simp [z]))
  rw [← G.drops_one]
  exact R.set s
theorem xs_for {tg it : Expr} {body : List Stmt} {F : FL} {B : FS} {tf : D → Env → Option Env} {t : TG} {is : List Nat} {pos : Pos} (hx : J.ΓX Γ) (hp : PassesOwn (model X.prog X.w) X.A X.env X.xe) (hc : X.calm = true) (hi : XI X T J.W Γ tg it F) (hg : PG X tg t) (ht : TgOk T Γ Γ is t tf)
    (hb : XB X T { J with Γl := Γ } Γ Γ body B) (hs : ∀ x, foldedSetIterable it X.env x = pure x := by intro _; rfl) : XS X T J Γ Γ (.For tg it body [] pos) (fFor F tf B) := ps_imp (ps_for hp hc hi hg hb hs) fun D σ H ⟨g, ρ, S, R, h⟩ => by
  refine ⟨g, ρ, S, R, ?_⟩
  unfold fFor at h
  cases e : F ρ S with
  | exc x S1 => rw [e] at h; exact fun c dd g' H' R' f' s => h Γ c dd σ g' H' hx R' (f'.frs R.dOB) s
  | no => rw [e] at h; exact h
  | ok ds S1 =>
    rw [e] at h
    intro It1 g1 H1 R1 f1 io
    have h : GoodS T J Γ g H (forL tf B ds ρ S1) D := h
    have f1' := f1.frs R.dOB
    have h0 := GoodS.then h f1'
    generalize hr : forL tf B ds ρ S1 = r at h0
    clear h
    refine ⟨fun i m σ' H' => ∃ g' ρ' S', Rel T g' Γ ρ' S' σ' H' ∧ FrS g1 H1 g' H' ∧ m = ds.length - i ∧ i ≤ ds.length ∧ forL tf B (ds.drop i) ρ' S' = r, ⟨ds.length, g1, ρ, S1, R1, .refl _ _, by simp, Nat.zero_le _, by rw [List.drop_zero]; exact hr⟩, fun i m σ' H' ⟨g', ρ', S', R', f', em, hi', er⟩ => ?_⟩
    obtain ⟨i1, i2⟩ := io g' H' i f'.stay
    have h2 := GoodS.then h0 f'
    by_cases hlt : i < ds.length
    · obtain ⟨d, hd⟩ : ∃ d, ds[i]? = some d := ⟨ds[i], List.getElem?_eq_getElem hlt⟩
      obtain ⟨go, yl⟩ := i2 d hd
      refine .inr ⟨go, fun σ2 H2 => ∃ m', m' < m ∧ ∃ g' ρ' S', Rel T g' Γ ρ' S' σ2 H2 ∧ FrS g1 H1 g' H2 ∧ m' = ds.length - (i + 1) ∧ i + 1 ≤ ds.length ∧ forL tf B (ds.drop (i + 1)) ρ' S' = r, fun σ2 H2 ⟨m', l, w⟩ => ⟨m', l, w⟩, fun x H2 y => ?_⟩
      obtain ⟨ex, sx⟩ := yl x H2 y
      have R2 := R'.ex ex
      have f2 : FrS g1 H1 g' H2 := f'.trans ((FrE.ex ex).frs R'.dOB)
      have ed : ds.drop i = d :: ds.drop (i + 1) := by
        rw [List.drop_eq_getElem_cons hlt]
        rw [List.getElem?_eq_getElem hlt] at hd
        rw [Option.some.inj hd]
      rw [ed] at er
      rw [forL] at er
      split at er
      · rename_i e1
        rw [← er] at h2
        exact h2.elim
      · rename_i ρ1 e1
        refine ht g' ρ' ρ1 S' σ' H2 d x _ R2 sx e1 fun σ3 R3 _ _ => ⟨g'.drops is, ρ1, S', R3, ?_⟩
        have f3 : FrS g' H2 (g'.drops is) H2 := .drops
        have h3 := GoodS.then h2 (((FrE.ex ex).frs R'.dOB).trans f3)
        have nxt : ∀ {ρ2 : Env} {S2 : Store}, forL tf B (ds.drop (i + 1)) ρ2 S2 = r → ∀ σ4 g4 H4, Rel T g4 Γ ρ2 S2 σ4 H4 → FrS (g'.drops is) H2 g4 H4 → ∃ m', m' < m ∧ ∃ g' ρ' S', Rel T g' Γ ρ' S' σ4 H4 ∧ FrS g1 H1 g' H4 ∧ m' = ds.length - (i + 1) ∧ i + 1 ≤ ds.length ∧ forL tf B (ds.drop (i + 1)) ρ' S' = r :=
          fun {ρ2 S2} e2 σ4 g4 H4 R4 f4 => ⟨ds.length - (i + 1), by omega, g4, ρ2, S2, R4, (f2.trans f3).trans f4, rfl, hlt, e2⟩
        split at er
        · rename_i eb; rw [eb]; exact nxt er
        · rename_i eb; rw [eb]; exact nxt er
        · rename_i eb
          rw [eb]
          rw [← er] at h3
          exact h3
        · rename_i n1 n2 n3
          rw [← er] at h3
          cases eb : B ρ1 S' with
          | nx a b => exact absurd eb (n1 a b)
          | ct a b => exact absurd eb (n2 a b)
          | bk a b => exact absurd eb (n3 a b)
          | rt d a b => rw [eb] at h3; exact h3
          | exc x a b => rw [eb] at h3; exact h3
          | no => rw [eb] at h3; exact h3
    · have e1 : i = ds.length := by omega
      subst e1
      refine .inl ⟨i1 (Nat.le_refl _), ?_⟩
      rw [List.drop_length] at er
      rw [← er] at h2
      exact h2 σ' g' H' R' (.refl _ _)
end
end Q

namespace Q
open PySem PySem.Spec PyProof.Rows L2
inductive RF where
  | ok (d : D) (outs : Env) (S : Store)
  | exc (x : Exc) (outs : Env) (S : Store)
  | no
abbrev FF := List D → Store → RF
structure Sig where
  ms : List Md
  kr : Nat
def GoodF (T : Th) (sg : Sig) (g : G) (vs : List V) (H : Hp) : RF → VK → XK → Prop
  | .ok d outs S', Q, _ => ∀ v g' H' Fo, Rel T (g'.plus Fo) sg.ms outs S' (vs.map some) H' → FrS g H g' H' → (∀ i a, g'.F i a → ∃ k, sg.ms.getD i .s = .p k) → (∀ a, Fo a → ¬ g.O a ∧ (g.U a ∨ H a = none)) → Own T (g'.plus Fo) H' sg.kr Fo d v → Q v H'
  | .exc x outs S', _, E => ∀ c dd g' H', Rel T g' sg.ms outs S' (vs.map some) H' → FrS g H g' H' → (∀ i a, g'.F i a → ∃ k, sg.ms.getD i .s = .p k) → ExcR T g' H' x c dd → E c dd H'
  | .no, _, _ => False
def spD (T : Th) (n : Nat) (sg : Sig) (Φ : FF) : Sp := fun vs H Q E => vs.length = n ∧ ∃ g ds S, Rel T g sg.ms (ds.map some) S (vs.map some) H ∧ GoodF T sg g vs H (Φ ds S) Q E
def outsOf : List Md → Nat → Env → Env
  | _, 0, _ => []
  | ms, n + 1, ρ => (match ms.headD .s with
    | .p _ => ρ.headD none
    | _ => none) :: outsOf ms.tail n ρ.tail
def fBody (N n : Nat) (ms : List Md) (b : FS) : FF := fun ds S => match b (ds.map some ++ List.replicate (N - n) none) S with
  | .nx ρ S' => .ok .non (outsOf ms n ρ) S'
  | .rt d ρ S' => .ok d (outsOf ms n ρ) S'
  | .exc x ρ S' => .exc x (outsOf ms n ρ) S'
  | _ => .no
theorem outsOf_length : ∀ (ms : List Md) (n : Nat) (ρ : Env), (outsOf ms n ρ).length = n
  | _, 0, _ => rfl
  | ms, n + 1, ρ => by rw [outsOf, List.length_cons, outsOf_length]
theorem outsOf_get : ∀ (ms : List Md) (n : Nat) (ρ : Env) (i : Nat) (d : D), (outsOf ms n ρ)[i]? = some (some d) → i < n ∧ (∃ k, ms.getD i .s = .p k) ∧ ρ[i]? = some (some d)
  | _, 0, _, i, d, h => by simp [outsOf] at h
  | ms, n + 1, ρ, 0, d, h => by
    rw [outsOf, List.getElem?_cons_zero] at h
    have h := Option.some.inj h
    split at h
    · rename_i k e
      refine ⟨Nat.succ_pos _, ⟨k, ?_⟩, ?_⟩
      · cases ms with
        | nil => cases e
        | cons m r => exact e
      · cases ρ with
        | nil => cases h
        | cons x r => simp at h; simp [h]
    · cases h
  | ms, n + 1, ρ, i + 1, d, h => by
    rw [outsOf, List.getElem?_cons_succ] at h
    obtain ⟨h1, ⟨k, h2⟩, h3⟩ := outsOf_get ms.tail n ρ.tail i d h
    refine ⟨by omega, ⟨k, ?_⟩, ?_⟩
    · cases ms with
      | nil => simp at h2
      | cons m r => simpa using h2
    · cases ρ with
      | nil => simp at h3
      | cons x r => simpa using h3
def ΓP (ms : List Md) : List Md → Prop := fun Γ => ∀ i k, ms.getD i .s = .p k → Γ.getD i .s = .p k
section
variable {T : Th}
def G.only (g : G) (ms : List Md) : G := { g with F := fun i a => (∃ k, ms.getD i .s = .p k) ∧ g.F i a }
theorem G.only_U {g : G} {ms : List Md} {a : Addr} (h : (g.only ms).U a) : g.U a := by
  rcases h with h | ⟨j, _, h⟩ | h
  · exact .inl h
  · exact .inr (.inl ⟨j, h⟩)
  · exact .inr (.inr h)
theorem Rel.outs {g g0 : G} {Γ ms : List Md} {ρ : Env} {S : Store} {σ : L2.St} {H : Hp} {vs : List V} {n : Nat} (R : Rel T g Γ ρ S σ H) (hΓ : ΓP ms Γ) (hn : vs.length = n) (hP : g.P = g0.P) (h0 : ∀ i k, ms.getD i .s = .p k → i < n → vs[i]? = some (g0.P i)) :
    Rel T (g.only ms) ms (outsOf ms n ρ) S (vs.map some) H := by
  refine R.shift rfl rfl rfl rfl (fun a h => G.only_U h) (fun i j a h h' => R.dF i j a h.2 h'.2) (fun i a h => R.dFO i a h.2) (fun a h => .inl h) (fun i a h => .inl ⟨i, h.2⟩) (by rw [outsOf_length, List.length_map, hn]) fun st i d e => ?_
  obtain ⟨hi, ⟨k, hk⟩, e2⟩ := outsOf_get ms n ρ i d e
  obtain ⟨v, h1, h2⟩ := R.slot i d e2
  rw [hΓ i k hk] at h2
  have h3 := h2.stay (g2 := g.only ms) st (fun a z => ⟨⟨k, hk⟩, z⟩) (fun a z => z) rfl (bare_sub rfl rfl (fun i a z => ⟨i, z.2⟩) fun _ z => z)
  refine ⟨v, ?_, by rw [hk]; exact h3⟩
  have ev : v = g0.P i := by rw [← hP]; exact h2.1
  rw [List.getElem?_map, h0 i k hk hi, ev]
  rfl
theorem own_non {g : G} {H : Hp} {k : Nat} {F : Addr → Prop} : Own T g H k F .non .non := by
  cases k <;> simp [Own, Shr]
theorem FrS.only {g g1 : G} {H H1 : Hp} {ms : List Md} (f : FrS g H g1 H1) : FrS g H (g1.only ms) H1 := ⟨f.keep, fun a h => f.own a (G.only_U h), f.O, f.P, f.N, f.μ, f.dom⟩
end
section
variable {P : Program} {w : World} {K : PySem.W.Frag} {mg : Str → Option Value} {base : Heap} {T : Th}
def jdF (ms : List Md) (kr : Nat) (E : XK) : Jd := ⟨fun c dd _ H => E c dd H, ΓP ms, ΓP ms, kr, []⟩
theorem start_eq {N : List Str} {vs : List V} {n : Nat} (h : vs.length = n) : L2.start N vs = vs.map some ++ List.replicate (N.length - n) none := by
  unfold L2.start
  rw [h]
def OkRule (P : Program) (w : World) (K : PySem.W.Frag) (mg : Str → Option Value) (base : Heap) (qual : Str) (st : Stmt) (f : Addr) (fd : FuncData) : Prop := ∀ {N ps : List Str} {k : Nat} {sp : Sp}, FnScope N ps (defScope st) → (∀ vs H Q E, sp vs H Q E → vs.length = ps.length) →
  (∀ (cdv : Value) (A : Around) (outer : List PySem.Env) (s : Shared) (H : Hp) (vs : List V) (Q : VK) (E : XK), Room k (A.deeper (envOfC qual (defScope st) s.heap.objs.size f cdv)) → sp vs H Q E →
    ∃ t, PSs (cxOf (L2.CX P w) P w K mg base N qual (defScope st) f cdv A outer s H E) (defBody st) t ∧ t { nx := fun _ H' => Q .non H', rt := Q } (L2.start N vs) H) → FnOk P w K mg base (L2.CX P w) (k + 1) f fd ps sp
theorem okRule_fun {x qual : Str} {st : Stmt} {f : Addr} {fd : FuncData} (F : Fun K x qual st f fd) : OkRule P w K mg base qual st f fd := fun Sc len h => F.okX Sc len h
theorem fn_okR {qual : Str} {st : Stmt} {f : Addr} {fd : FuncData} {N ps : List Str} {k n : Nat} {sg : Sig} {B : FS} {Γ' : List Md} (F : OkRule P w K mg base qual st f fd) (Sc : FnScope N ps (defScope st)) (hn : ps.length = n) (hN : n ≤ N.length)
    (hbody : ∀ (cdv : Value) (A : Around) (outer : List PySem.Env) (s : Shared) (H : Hp) (E : XK), Room k (A.deeper (envOfC qual (defScope st) s.heap.objs.size f cdv)) →
      XB (cxOf (L2.CX P w) P w K mg base N qual (defScope st) f cdv A outer s H E) T (jdF sg.ms sg.kr E) (sg.ms ++ List.replicate (N.length - sg.ms.length) .s) Γ' (defBody st) B) (hl : ΓP sg.ms Γ') :
    FnOk P w K mg base (L2.CX P w) (k + 1) f fd ps (spD T n sg (fBody N.length n sg.ms B)) := by
  refine F Sc (fun vs H Q E h => by rw [hn]; exact h.1) (fun cdv A outer s H vs Q E hr h => ⟨_, hbody cdv A outer s H E hr, ?_⟩)
  obtain ⟨hvn, g, ds, S, R, hg⟩ := h
  have hdn : ds.length = n := by
    have := R.len
    rw [List.length_map, List.length_map] at this
    omega
  have gd : ∀ i, (sg.ms ++ List.replicate (N.length - sg.ms.length) Md.s).getD i .s = sg.ms.getD i .s := fun i => by
    by_cases hi : i < sg.ms.length
    · simp [List.getD, List.getElem?_append_left hi]
    · simp only [List.getD]
      rw [List.getElem?_append_right (by omega), List.getElem?_eq_none (l := sg.ms) (by omega), List.getElem?_replicate]
      split <;> rfl
  have R0 : Rel T g (sg.ms ++ List.replicate (N.length - sg.ms.length) .s) (ds.map some ++ List.replicate (N.length - n) none) S (L2.start N vs) H := by
    rw [start_eq hvn]
    refine ⟨by rw [List.length_append, List.length_append, R.len]; simp, fun i d e => ?_, R.dF, R.dFO, R.dFB, R.dOB, R.dom, R.st, R.nt⟩
    by_cases hi : i < ds.length
    · rw [List.getElem?_append_left (by simpa using hi)] at e
      obtain ⟨v, h1, h2⟩ := R.slot i d e
      refine ⟨v, ?_, by rw [gd]; exact h2⟩
      rw [List.getElem?_append_left (by simp; omega)]
      exact h1
    · rw [List.getElem?_append_right (by simpa using hi), List.getElem?_replicate] at e
      split at e <;> cases e
  have pin : ∀ i k, sg.ms.getD i .s = .p k → i < n → vs[i]? = some (g.P i) := fun i k hk hi => by
    obtain ⟨v, h1, h2⟩ := R.slot i ds[i] (by rw [List.getElem?_map, List.getElem?_eq_getElem (by omega)]; rfl)
    rw [hk] at h2
    rw [List.getElem?_map] at h1
    cases e : vs[i]? with
    | none => rw [e] at h1; cases h1
    | some u =>
      rw [e] at h1
      cases h1
      rw [h2.1]
  refine ⟨g, _, S, R0, ?_⟩
  unfold fBody at hg
  cases e : B (ds.map some ++ List.replicate (N.length - n) none) S with
  | nx ρ S' =>
    rw [e] at hg
    intro σ' g' H' R' f'
    refine hg .non (g'.only sg.ms) H' (fun _ => False) ?_ f'.only (fun i a z => z.1) (fun _ z => z.elim) own_non
    exact plus_none (R'.outs hl hvn f'.P pin)
  | rt d ρ S' =>
    rw [e] at hg
    intro Γ'' v σ' g' H' Fo hr' R' f' ho hw
    have R2 := R'.outs hr' hvn (show (g'.plus Fo).P = g.P from f'.P) pin
    have st2 : Stay (g'.plus Fo) H' ((g'.only sg.ms).plus Fo) H' := ⟨fun _ _ h _ => h, fun a h => .inl (by
      rcases h with h | ⟨j, _, h⟩ | h
      · exact .inl h
      · exact .inr (.inl ⟨j, h⟩)
      · exact .inr (.inr h)), Nat.le_refl _, fun _ _ => rfl, rfl⟩
    have hw' : Own T ((g'.only sg.ms).plus Fo) H' sg.kr Fo d v := Own.keepF st2 _ _ _ _ (fun _ _ _ q => q) hw
    exact hg v (g'.only sg.ms) H' Fo R2 f'.only (fun i a z => z.1) ho hw'
  | exc x ρ S' =>
    rw [e] at hg
    intro Γ'' c dd σ' g' H' hx' R' f' ex
    refine hg c dd (g'.only sg.ms) H' (R'.outs hx' hvn f'.P pin) f'.only (fun i a z => z.1) ?_
    obtain ⟨e0, e1, e2⟩ := ex
    refine ⟨e0, e1, e2.imp id fun ⟨d, fs, h1, h2, h3, h4, h5⟩ => ⟨d, fs, h1, h2, h3, h4, ?_⟩⟩
    have st : Stay g' H' (g'.only sg.ms) H' := ⟨fun _ _ h _ => h, fun a h => .inl (G.only_U h), Nat.le_refl _, fun _ _ => rfl, rfl⟩
    exact ⟨ShrL.stay st _ _ h5.1, st.off h3 h5.2⟩
  | bk ρ S' => rw [e] at hg; exact hg.elim
  | ct ρ S' => rw [e] at hg; exact hg.elim
  | no => rw [e] at hg; exact hg.elim
end
def eCall (Φ : FF) (as : FL) : FE := fun ρ S => match as ρ S with
  | .ok ds S1 => (match Φ ds S1 with
    | .ok d _ S2 => .ok d S2
    | .exc x _ S2 => .exc x S2
    | .no => .no)
  | .exc x S1 => .exc x S1
  | .no => .no
def G.callee (g : G) : G := { g with O := fun a => g.O a ∨ ∃ i, g.F i a, F := fun _ _ => False }
theorem G.callee_U {g : G} {a : Addr} : (g.callee).U a ↔ g.U a := by
  constructor
  · rintro ((h | h) | ⟨i, h⟩ | h)
    · exact .inl h
    · exact .inr (.inl h)
    · exact h.elim
    · exact .inr (.inr h)
  · rintro (h | h | h)
    · exact .inl (.inl h)
    · exact .inl (.inr h)
    · exact .inr (.inr h)
theorem stay_iff {g g2 : G} {H : Hp} (hU : ∀ a, g2.U a → g.U a) (hN : g.N = g2.N) (hμ : g2.μ = g.μ) (hZ : g2.Z = g.Z := by rfl) : Stay g H g2 H := ⟨fun _ _ h _ => h, fun a h => .inl (hU a h), by rw [hN]; exact Nat.le_refl _, fun n _ => by rw [hμ], hZ⟩
section
variable {X : Cx} {T : Th} {W : WX} {Γ : List Md}
def G.back (g1 g' : G) : G := { g' with O := g1.O, F := g1.F }
theorem call_back {g1 g' : G} {ρ : Env} {S1 S2 : Store} {σ : L2.St} {H1 H' : Hp} {Fo : Addr → Prop} {outs : Env} {ms : List Md} {vs : List V} (R1 : Rel T g1 Γ ρ S1 σ H1) (R' : Rel T (g'.plus Fo) ms outs S2 (vs.map some) H') (f' : FrS g1.callee H1 g' H') (nf : ∀ i a, ¬ g'.F i a) :
    Rel T (g1.back g') Γ ρ S2 σ H' ∧ FrE g1 H1 (g1.back g') H' ∧ (∀ a, (g1.back g').U a → (g'.plus Fo).U a) := by
  have eO : ∀ a, g'.O a ↔ (g1.O a ∨ ∃ i, g1.F i a) := fun a => by rw [f'.O]; exact Iff.rfl
  have bB : ∀ a, g'.B a → g1.B a ∨ H1 a = none := fun a h => by
    rcases f'.own a (.inr (.inr h)) with z | z
    · rcases G.callee_U.mp z with z | z | z
      · exact absurd h (R'.dOB a (.inl ((eO a).mpr (.inl z))))
      · exact absurd h (R'.dOB a (.inl ((eO a).mpr (.inr z))))
      · exact .inl z
    · exact .inr z
  have hU : ∀ a, (g1.back g').U a → (g'.plus Fo).U a := fun a h => by
    rcases h with h | h | h
    · exact .inl (.inl ((eO a).mpr (.inl h)))
    · exact .inl (.inl ((eO a).mpr (.inr h)))
    · exact .inr (.inr h)
  have kp : ∀ a o, H1 a = some o → ¬ g1.B a → H' a = some o := fun a o e hb => f'.keep a o e (by
    by_cases ho : g1.O a ∨ ∃ i, g1.F i a
    · exact .inr ho
    · exact .inl fun z => by
        rcases G.callee_U.mp z with z | z | z
        · exact ho (.inl z)
        · exact ho (.inr z)
        · exact hb z)
  have fe : FrE g1 H1 (g1.back g') H' := ⟨kp, bB, rfl, rfl, f'.P, f'.N, f'.μ, f'.dom⟩
  refine ⟨⟨R1.len, fun i d e => ?_, R1.dF, R1.dFO, fun i a h => ?_, fun a h => ?_, fun a h => ?_, ?_, fun a h => R'.nt a (hU a h)⟩, fe, hU⟩
  · obtain ⟨v, h1, h2⟩ := R1.slot i d e
    refine ⟨v, h1, ?_⟩
    have st := fe.stay
    cases hm : Γ.getD i .s <;> rw [hm] at h2 <;> simp only [RepM] at h2 ⊢
    · exact h2.stay st
    · exact Own.keepF st _ _ _ _ (fun a o z q => kp a o q (R1.dFB i a z)) h2
    · exact Own.keepF st _ _ _ _ (fun a o z q => kp a o q (R1.dOB a z)) h2
    · exact ⟨h2.1.trans (by show g1.P i = g'.P i; rw [f'.P]; rfl), Own.keepF st _ _ _ _ (fun a o z q => kp a o q (R1.dFB i a z)) h2.2⟩
    · exact h2
    · exact h2.stay fe.bare
    · exact ⟨h2.1, (st).keep _ _ h2.2.1 h2.2.2, (st).off h2.2.1 h2.2.2⟩
  · exact R'.dOB a (.inl ((eO a).mpr (.inr ⟨i, h⟩)))
  · exact R'.dOB a (.inl ((eO a).mpr (.inl h)))
  · exact R'.dom a (hU a h)
  · exact R'.st.keep (stay_iff hU rfl rfl) (fun _ _ _ h => h) rfl rfl rfl fun _ _ => rfl
theorem rel_args {g1 : G} {ρ : Env} {S1 : Store} {σ : L2.St} {H1 : Hp} {ds : List D} {vs : List V} {ms : List Md} (R1 : Rel T g1 Γ ρ S1 σ H1) (s : ShrL T g1 H1 ds vs) (hm : ∀ i, ms.getD i .s = .s) : Rel T g1.callee ms (ds.map some) S1 (vs.map some) H1 := by
  refine R1.shift rfl rfl rfl rfl (fun a h => G.callee_U.mp h) (fun i j a h => h.elim) (fun i a h => h.elim) (fun a h => h) (fun i a h => h.elim) (by simp [s.length]) fun st i d e => ?_
  rw [List.getElem?_map] at e
  cases q : ds[i]? with
  | none => rw [q] at e; cases e
  | some d' =>
    rw [q] at e
    cases e
    obtain ⟨v, h1, h2⟩ := s.get q
    refine ⟨v, by rw [List.getElem?_map, h1]; rfl, ?_⟩
    rw [hm]
    exact h2.stay st
theorem shr_of_own {g : G} {H : Hp} : ∀ (k : Nat) (Fo : Addr → Prop) (d : D) (v : V), (∀ a, Fo a → ¬ g.U a) → (∀ a, Fo a → ∃ o, H a = some o) → Own T (g.plus Fo) H k Fo d v → Shr T g H d v := by
  intro k
  have base : ∀ (Fo : Addr → Prop), Stay (g.plus Fo) H g H := fun Fo => ⟨fun _ _ h _ => h, fun a h => .inl (by
    rcases h with h | h | h
    · exact .inl (.inl h)
    · exact .inr (.inl h)
    · exact .inr (.inr h)), Nat.le_refl _, fun _ _ => rfl, rfl⟩
  suffices hs : ∀ (k : Nat) (Fo F : Addr → Prop) (d : D) (v : V), (∀ a, F a → Fo a) → (∀ a, Fo a → ¬ g.U a) → Own T (g.plus Fo) H k F d v → Shr T g H d v from fun Fo d v h1 _ h => hs k Fo Fo d v (fun _ z => z) h1 h
  intro k
  induction k with
  | zero => intro Fo F d v hf hu h; simp only [Own] at h; exact h.stay (base Fo)
  | succ k ih =>
    intro Fo F d v hf hu h
    cases d with
    | lst l =>
      simp only [Own] at h
      obtain ⟨p, vs, e, hF, hH, hl, Gs, h1, h2, h3⟩ := h
      exact shr_lst.mpr ⟨p, vs, e, ⟨hH, hu p (hf p hF)⟩, .of hl fun i d w a b => ih Fo (Gs i) d w (fun a z => hf a (h1 i a z).1) hu (h3 i d w a b)⟩
    | dct l =>
      simp only [Own] at h
      obtain ⟨p, vs, e, hF, hH, hl, Gs, h1, h2, h3⟩ := h
      simp only [Shr]
      exact ⟨p, vs, e, ⟨hH.shr, hu p (hf p hF)⟩, .of hl fun i d w a b => ⟨(h3 i d w a b).1.stay (base Fo), ih Fo (Gs i) d.2 w.2 (fun a z => hf a (h1 i a z).1) hu (h3 i d w a b).2⟩⟩
    | _ => simp only [Own] at h; exact h.stay (base Fo)
theorem xe_call {k n : Nat} {f : Addr} {fd : FuncData} {ps : List Str} {sg : Sig} {Φ : FF} {e : Expr} {es : List Expr} {A : FL} (F : FnOk X.prog X.w X.K X.mg X.base (L2.CX X.prog X.w) k f fd ps (spD T n sg Φ)) (hm : ∀ i, sg.ms.getD i .s = .s) (hn : es.length = n) (hA : ∀ ρ S ds S1, A ρ S = .ok ds S1 → ds.length = n)
    (ha : XL X T W Γ es A) (he : PA X es (tXL T W Γ A) → PE X e (tCallS (spD T n sg Φ) (WE W) (tXL T W Γ A))) : XE X T W Γ e (eCall Φ A) := pe_imp (he ha) fun σ H Q ⟨g, ρ, S, R, hg⟩ => by
  refine ⟨g, ρ, S, R, ?_⟩
  unfold eCall at hg
  cases ea : A ρ S with
  | exc x S1 => rw [ea] at hg; exact hg
  | no => rw [ea] at hg; exact hg
  | ok ds S1 =>
    rw [ea] at hg
    intro vs g1 H1 R1 f1 s1
    have hg : GoodE T W Γ ρ σ g H (match Φ ds S1 with | .ok d _ S2 => .ok d S2 | .exc x _ S2 => .exc x S2 | .no => .no) Q := hg
    refine ⟨by rw [← s1.length]; exact hA ρ S ds S1 ea, g1.callee, ds, S1, rel_args R1 s1 hm, ?_⟩
    cases ef : Φ ds S1 with
    | no => rw [ef] at hg; exact hg
    | ok d outs S2 =>
      rw [ef] at hg
      intro v g' H' Fo R' f' nf ho hw
      have nf' : ∀ i a, ¬ g'.F i a := fun i a z => by
        obtain ⟨k, e⟩ := nf i a z
        rw [hm] at e; cases e
      obtain ⟨R2, f2, hU⟩ := call_back R1 R' f' nf'
      refine hg v (g1.back g') H' R2 (f1.trans f2) ?_
      have st : Stay (g'.plus Fo) H' ((g1.back g').plus Fo) H' := ⟨fun _ _ h _ => h, fun a h => .inl (by
        rcases h with (h | h) | h | h
        · exact hU a (.inl h)
        · exact .inl (.inr h)
        · exact hU a (.inr (.inl h))
        · exact .inr (.inr h)), Nat.le_refl _, fun _ _ => rfl, rfl⟩
      refine shr_of_own sg.kr Fo d v (fun a z u => ?_) (fun a z => R'.dom a (.inl (.inr z))) (Own.keepF st _ _ _ _ (fun _ _ _ q => q) hw)
      have ho' := (ho a z).1
      rcases u with u | u | u
      · exact ho' (.inl u)
      · exact ho' (.inr u)
      · exact R'.dOB a (.inr z) u
    | exc x outs S2 =>
      rw [ef] at hg
      intro c dd g' H' R' f' nf ex
      have nf' : ∀ i a, ¬ g'.F i a := fun i a z => by
        obtain ⟨k, e⟩ := nf i a z
        rw [hm] at e; cases e
      obtain ⟨R2, f2, hU⟩ := call_back R1 (plus_none R') f' nf'
      refine hg c dd (g1.back g') H' R2 (f1.trans f2) ?_
      obtain ⟨e0, e1, e2⟩ := ex
      refine ⟨e0, e1, e2.imp id fun ⟨d, fs, h1, h2, h3, h4, h5⟩ => ⟨d, fs, h1, h2, h3, h4, ?_⟩⟩
      have st : Stay g' H' (g1.back g') H' := ⟨fun _ _ h _ => h, fun a h => .inl (by
        rcases hU a h with (h | h) | h | h
        · exact .inl h
        · exact h.elim
        · exact .inr (.inl h)
        · exact .inr (.inr h)), Nat.le_refl _, fun _ _ => rfl, rfl⟩
      exact ⟨ShrL.stay st _ _ h5.1, st.off h3 h5.2⟩
theorem lNil_len {ρ : Env} {S : Store} {ds : List D} {S1 : Store} (h : lNil ρ S = .ok ds S1) : ds.length = 0 := by cases h; rfl
theorem lCons_len {A : FE} {B : FL} {n : Nat} (hB : ∀ ρ S ds S1, B ρ S = .ok ds S1 → ds.length = n) (ρ : Env) (S : Store) (ds : List D) (S1 : Store) (h : lCons A B ρ S = .ok ds S1) : ds.length = n + 1 := by
  unfold lCons at h
  split at h
  · split at h
    · rename_i e2
      cases h
      rw [List.length_cons, hB _ _ _ _ e2]
    · cases h
    · cases h
  · cases h
  · cases h
def fRaise (k : Nat) : FS := fun ρ S => .exc ⟨k, []⟩ ρ S
end
end Q

namespace Q
open PySem PySem.Spec PyProof.Rows L2
def tyD : D → Option String
  | .non => some "NoneType"
  | .bl _ => some "bool"
  | .int _ => some "int"
  | .str _ => some "str"
  | .tup _ => some "tuple"
  | .lst _ => some "list"
  | _ => none
def hIsi (T : String) (d : D) : Option D := (tyD d).bind fun n => (kitB n T).map .bl
section
variable {T : Th} {g : G} {H : Hp}
theorem ty_shr {d : D} {v : V} {n : String} (s : Shr T g H d v) (e : tyD d = some n) : TyX T.K H v (.type n) := by
  cases d <;> simp only [tyD] at e <;> first | cases e | skip
  · rw [shr_non.mp s]; exact .base .non
  · rw [shr_bl.mp s]; exact .base (.bl _)
  · rw [shr_int.mp s]; exact .base (.int _)
  · rw [shr_str.mp s]; exact .base (.str _)
  · obtain ⟨a, vs, rfl, la, ra⟩ := shr_tup.mp s
    rcases la with ⟨z | ⟨o, z⟩, _⟩ | ⟨o, its, n, z, zc, _⟩
    · exact .base (.tup z)
    · exact .fTuple z
    · exact .kTuple z zc
  · obtain ⟨a, vs, rfl, la, ra⟩ := shr_lst.mp s
    exact .base (.lst la.1)
end
section
variable {X : Cx} {T : Th} {W : WX} {Γ : List Md}
theorem xe_isi {e a : Expr} {A : FE} {n : String} (hK : X.K = T.K) (ha : XE X T W Γ a A) (he : PE X a (tX T W Γ A) → PE X e (tCB (rIsi X.K) (tCons (tX T W Γ A) (tCons (tC (.ty n)) tNil)))) : XE X T W Γ e (eUn (hIsi n) A) := pe_imp (he ha) fun σ H Q ⟨g, ρ, S, R, hg⟩ =>
  ⟨g, ρ, S, R, good_bind hg fun x S1 v g1 H1 _ R1 f1 s1 hg1 => by
    obtain ⟨z, ez, hg3⟩ := good_of hg1
    obtain ⟨m, e1, e2⟩ := Option.bind_eq_some_iff.mp ez
    obtain ⟨b, e3, e4⟩ := Option.map_eq_some_iff.mp e2
    subst e4
    refine ⟨v, .ty n, .type m, .type n, b, rfl, .ty n, by rw [hK]; exact ty_shr s1 e1, kit_ty e3, hg3 _ g1 H1 R1 (.refl _ _) (shr_bl.mpr rfl)⟩⟩
def eHeld (i : Nat) (b : Bool) : FE := fun ρ S => match ρ[i]? with
  | some (some _) => .ok (.bl b) S
  | _ => .no
inductive PCs (X : Cx) : List Expr → List V → Prop where
  | nil : PCs X [] []
  | cons {e : Expr} {es : List Expr} {c : V} {cs : List V} (h : PE X e (tC c)) (r : PCs X es cs) (hs : starEach (e :: es) X.env = (false, eval e X.env) :: starEach es X.env := by rfl) : PCs X (e :: es) (c :: cs)
theorem Rel.clear {g : G} {ρ : Env} {S : Store} {σ : L2.St} {H : Hp} {i : Nat} {m : Md} (R : Rel T g (Γ.set i m) ρ S σ H) : Rel T (g.drop i) Γ (ρ.set i none) S (σ.set i none) H := by
  refine R.shift rfl rfl rfl rfl (fun a h => G.drop_U h) (fun j k a h h' => R.dF j k a h.2 h'.2) (fun j a h => R.dFO j a h.2) (fun a h => .inl h) (fun j a h => .inl ⟨j, h.2⟩) (by simp [R.len]) fun st j d' e => ?_
  by_cases hj : i = j
  · subst hj
    by_cases hlt : i < ρ.length
    · rw [List.getElem?_set_self hlt] at e; cases e
    · rw [List.getElem?_eq_none (by simpa using hlt)] at e
      cases e
  · rw [List.getElem?_set_ne hj] at e
    obtain ⟨w, h1, h2⟩ := R.slot j d' e
    refine ⟨w, by rw [List.getElem?_set_ne hj]; exact h1, ?_⟩
    rw [getD_set_ne hj] at h2
    exact h2.stay st (fun a z => ⟨fun q => hj q.symm, z⟩) (fun a z => z) rfl (bare_sub rfl rfl (fun i a z => ⟨i, z.2⟩) fun _ z => z)
end
end Q

namespace Q
open PySem PySem.Spec PyProof.Rows L2
section
variable {X : Cx} {T : Th} {W : WX} {Γ : List Md}
theorem xt_op {e : Expr} {r : R2} {h : D → D → Option D} {a b : Expr} {A B : FE} (ok : OpOk T r h) (ha : XE X T W Γ a A) (hb : XE X T W Γ b B)
    (he : PE X a (tX T W Γ A) → PE X b (tX T W Γ B) → PT X e (tTest (tOp r (tX T W Γ A) (tX T W Γ B)))) : XT X T W Γ e (eOp h A B) := pt_imp (he ha hb) fun σ H Q ⟨g, ρ, S, R, hg⟩ =>
  ⟨g, ρ, S, R, goodT_bind hg fun x S1 v g1 H1 _ R1 f1 s1 hg1 => ⟨g1, ρ, S1, R1, goodT_bind hg1 fun y S2 w g2 H2 _ R2 f2 s2 hg2 => by
    cases ez : h x y with
    | none => rw [ez] at hg2; exact hg2.elim
    | some z =>
      rw [ez] at hg2
      obtain ⟨b, rfl, hg3⟩ := hg2
      exact ok g2 H2 x y _ v w (s1.stay f2.stay) s2 ez R2.dom _ fun u H' ex su => ⟨b, shr_bl.mp su, hg3 g2 H' (R2.ex ex) (.ex ex)⟩⟩⟩
def cutD (xs : List D) (lo hi : Option Int) : List D := (xs.drop (HT.sIx xs.length 0 lo)).take (HT.sIx xs.length xs.length hi - HT.sIx xs.length 0 lo)
theorem shrL_cut {g : G} {H : Hp} {l : List D} {vs : List V} (h : ShrL T g H l vs) (lo hi : Option Int) : ShrL T g H (cutD l lo hi) (cutV vs lo hi) := by
  unfold cutD cutV
  rw [h.length]
  exact (h.drop _).take _
def hSl (d : D) (lo hi : Option Int) : Option D := match d with
  | .lst l => some (.lst (cutD l lo hi))
  | .scr l => some (.lst (cutD l lo hi))
  | .str z => if z.length ≤ 1000000 then some (.str (cutS z lo hi)) else none
  | .tup l => some (.tup (cutD l lo hi))
  | _ => none
abbrev rSlB (K : PySem.W.Frag) : V → Option Int → Option Int → Hp → VK → Prop := fun x lo hi H Q => rSlL K x lo hi H Q ∨ (L2.rSlA K x lo hi H Q ∨ rSlS x lo hi H Q)
theorem sl_A : SlR X (rSlB X.K) := sl_list.or (sl_tupA.or sl_str)
def eBnd (o : Option FE) : Env → Store → (Option Int → Store → RE) → RE := fun ρ S k => match o with
  | none => k none S
  | some a => (a ρ S).bind fun d S1 => match d with
    | .int i => k (some i) S1
    | _ => .no
def eSl (a : FE) (lo hi : Option FE) : FE := fun ρ S => (a ρ S).bind fun d S1 => eBnd lo ρ S1 fun l S2 => eBnd hi ρ S2 fun h S3 => .of S3 (hSl d l h)
inductive XBd (X : Cx) (T : Th) (W : WX) (Γ : List Md) : Option Expr → Option FE → TO → Prop where
  | none : XBd X T W Γ none none tNoPart
  | some {e : Expr} {A : FE} (h : XE X T W Γ e A) : XBd X T W Γ (some e) (some A) (tPart (tX T W Γ A))
theorem XBd.po {o : Option Expr} {A : Option FE} {t : TO} (h : XBd X T W Γ o A t) : PO X o t := by
  cases h with
  | none => exact po_none
  | some h => exact po_some h
theorem good_bnd {o : Option Expr} {A : Option FE} {t : TO} (hb : XBd X T W Γ o A t) {g : G} {ρ : Env} {S : Store} {σ : L2.St} {H : Hp} {k : Option Int → Store → RE} {Q : VK} {Q' : Option Int → Hp → Prop} (R : Rel T g Γ ρ S σ H) (h : GoodE T W Γ ρ σ g H (eBnd A ρ S k) Q)
    (hk : ∀ i S1 g1 H1, Rel T g1 Γ ρ S1 σ H1 → FrE g H g1 H1 → GoodE T W Γ ρ σ g1 H1 (k i S1) Q → Q' i H1) : t σ H Q' := by
  cases hb with
  | none => exact hk none S g H R (.refl _ _) h
  | some ha =>
    refine ⟨g, ρ, S, R, good_bind h fun d S1 v g1 H1 eR R1 f1 s1 h1 => ?_⟩
    clear eR
    split at h1
    · rename_i i
      exact ⟨i, shr_int.mp s1, hk (some i) S1 g1 H1 R1 f1 h1⟩
    · exact h1.elim
theorem xe_sl {a : Expr} {lo hi : Option Expr} {A : FE} {L U : Option FE} {tl tu : TO} {p2 pos : Pos} (hK : X.K = T.K) (ha : XE X T W Γ a A) (hl : XBd X T W Γ lo L tl) (hu : XBd X T W Γ hi U tu) : XE X T W Γ (.Subscript a (.Slice lo hi none p2) pos) (eSl A L U) :=
  pe_imp (pe_slice sl_A ha hl.po hu.po) fun σ H Q ⟨g, ρ, S, R, hg⟩ =>
    ⟨g, ρ, S, R, good_bind hg fun d S1 v g1 H1 _ R1 f1 s1 hg1 => good_bnd hl R1 hg1 fun l S2 g2 H2 R2 f2 hg2 => good_bnd hu R2 hg2 fun u S3 g3 H3 R3 f3 hg3 => by
      have s3 := (s1.stay f2.stay).stay f3.stay
      obtain ⟨z, ez, hg4⟩ := good_of hg3
      rw [hK]
      cases d <;> simp only [hSl] at ez <;> first | cases ez | skip
      · split at ez
        · rename_i hl
          cases ez
          exact .inr (.inr ⟨_, shr_str.mp s3, sz6 hl, hg4 _ g3 H3 R3 (.refl _ _) (shr_str.mpr rfl)⟩)
        · cases ez
      · obtain ⟨a, vs, rfl, la, ra⟩ := shr_tup.mp s3
        refine .inr (.inl ⟨a, vs, rfl, la.sq, fun hw => ?_, fun _ p hp => hg4 _ g3 _ (R3.ex (Exx.new hp)) (.ex (Exx.new hp)) (shr_newT (shrL_cut ra l u) hp R3.dom)⟩)
        rw [← ra.length] at hw
        have e : ∀ ds : List D, (HT.sIx ds.length 0 l = 0 ∧ HT.sIx ds.length ds.length u = ds.length) → cutD ds l u = ds := fun ds h => by
          unfold cutD
          rw [h.1, h.2, List.drop_zero, Nat.sub_zero, List.take_length]
        rw [e _ hw] at hg4
        exact hg4 _ g3 H3 R3 (.refl _ _) s3
      · obtain ⟨a, vs, rfl, la, ra⟩ := shr_lst.mp s3
        exact .inl ⟨a, vs, rfl, .of la.1, fun p hp => hg4 _ g3 _ (R3.ex (Exx.new hp)) (.ex (Exx.new hp)) (shr_newL (shrL_cut ra l u) hp R3.dom)⟩
      · obtain ⟨a, vs, rfl, la, ra⟩ := shr_scr.mp s3
        exact .inl ⟨a, vs, rfl, la.sq, fun p hp => hg4 _ g3 _ (R3.ex (Exx.new hp)) (.ex (Exx.new hp)) (shr_newL (shrL_cut ra l u) hp R3.dom)⟩⟩
structure Dj (T : Th) (g : G) (S : Store) (H : Hp) : Prop where
  dF : ∀ i j a, g.F i a → g.F j a → i = j
  dFO : ∀ i a, g.F i a → ¬ g.O a
  dFB : ∀ i a, g.F i a → ¬ g.B a
  dOB : ∀ a, g.O a → ¬ g.B a
  dom : ∀ a, g.U a → ∃ o, H a = some o
  st : SR T g S H
  nt : ∀ a, g.U a → ∀ u, ¬ Rd H a (.tup u)
theorem Rel.dj {g : G} {ρ : Env} {S : Store} {σ : L2.St} {H : Hp} (R : Rel T g Γ ρ S σ H) : Dj T g S H := ⟨R.dF, R.dFO, R.dFB, R.dOB, R.dom, R.st, R.nt⟩
theorem Rel.carry {g g' : G} {ρ : Env} {S S' : Store} {σ : L2.St} {H H' : Hp} {Fo : Addr → Prop} (R : Rel T g Γ ρ S σ H) (f : FrE g H g' H') (hf : ∀ a, Fo a → H a = none) (j : Dj T (g'.plus Fo) S' H') : Rel T (g'.plus Fo) Γ ρ S' σ H' := by
  refine ⟨R.len, fun i d e => ?_, j.dF, j.dFO, j.dFB, j.dOB, j.dom, j.st, j.nt⟩
  have st : Stay g H (g'.plus Fo) H' := ⟨fun a o h hu => f.stay.keep a o h hu, fun a h => by
    rcases h with (h | h) | h | h
    · exact f.stay.own a (.inl h)
    · exact .inr (hf a h)
    · exact f.stay.own a (.inr (.inl h))
    · exact f.stay.own a (.inr (.inr h)), f.N, f.μ, f.Z⟩
  obtain ⟨v, h1, h2⟩ := R.slot i d e
  refine ⟨v, h1, ?_⟩
  cases hm : Γ.getD i .s <;> rw [hm] at h2 <;> simp only [RepM] at h2 ⊢
  · exact h2.stay st
  · have := Own.keepF st _ _ _ _ (fun a o z q => f.keep a o q (R.dFB i a z)) h2
    show Own T (g'.plus Fo) H' _ (g'.F i) d v
    rw [f.F]; exact this
  · have := Own.keepF st _ _ _ _ (fun a o z q => f.keep a o q (R.dOB a z)) h2
    exact Own.wide _ _ _ _ _ (fun a z => .inl (by rw [f.O]; exact z)) this
  · refine ⟨h2.1.trans (by show g.P i = g'.P i; rw [f.P]), ?_⟩
    have := Own.keepF st _ _ _ _ (fun a o z q => f.keep a o q (R.dFB i a z)) h2.2
    show Own T (g'.plus Fo) H' _ (g'.F i) d v
    rw [f.F]; exact this
  · exact h2
  · exact h2.stay (show Stay g.bare H (g'.plus Fo).bare H' from f.bare)
  · exact ⟨h2.1, (st).keep _ _ h2.2.1 h2.2.2, (st).off h2.2.1 h2.2.2⟩
def wipeE (ρ : Env) : List Nat → Env
  | [] => ρ
  | v :: vs => (wipeE ρ vs).set v none
theorem wipeE_some {ρ : Env} {i : Nat} {d : D} : ∀ {vs : List Nat}, (wipeE ρ vs)[i]? = some (some d) → ρ[i]? = some (some d) ∧ i ∉ vs
  | [], h => ⟨h, by simp⟩
  | v :: vs, h => by
    unfold wipeE at h
    by_cases hv : v = i
    · subst hv
      by_cases hl : v < (wipeE ρ vs).length
      · rw [List.getElem?_set_self hl] at h; cases h
      · rw [List.getElem?_eq_none (by simpa using hl)] at h; cases h
    · rw [List.getElem?_set_ne hv] at h
      obtain ⟨h1, h2⟩ := wipeE_some h
      exact ⟨h1, by simp [h2, Ne.symm hv]⟩
theorem wipeE_length (ρ : Env) : ∀ vs : List Nat, (wipeE ρ vs).length = ρ.length
  | [] => rfl
  | v :: vs => by unfold wipeE; rw [List.length_set, wipeE_length ρ vs]
theorem wipe_get {σ σ' : L2.St} {is : List Nat} (hl : σ'.length = σ.length) (h : ∀ j, j ∉ is → σ'[j]? = σ[j]?) : ∀ {vs : List Nat}, (∀ j, j ∈ is → j ∈ vs) → wipe σ' vs = wipe σ vs := by
  intro vs hs
  apply List.ext_getElem?
  intro j
  by_cases hj : j ∈ vs
  · have nn : ∀ (τ : L2.St) (ws : List Nat), j ∈ ws → (wipe τ ws)[j]? = if j < τ.length then some none else none := by
      intro τ ws
      induction ws with
      | nil => intro h; cases h
      | cons w ws ih =>
        intro h
        unfold wipe
        by_cases hw : w = j
        · subst hw
          by_cases hlt : w < τ.length
          · rw [List.getElem?_set_self (by rw [wipe_length]; exact hlt), if_pos hlt]
          · rw [List.getElem?_eq_none (by simpa [wipe_length] using hlt), if_neg hlt]
        · rw [List.getElem?_set_ne hw]
          rcases List.mem_cons.mp h with h | h
          · exact absurd h.symm hw
          · exact ih h
    rw [nn _ _ hj, nn _ _ hj, hl]
  · rw [wipe_out hj, wipe_out hj]
    exact h j fun z => hj (hs j z)
def G.lend (g : G) (vs : List Nat) : G := { g with O := fun a => g.O a ∨ ∃ j, j ∈ vs ∧ g.F j a, F := fun j a => j ∉ vs ∧ g.F j a }
theorem G.lend_U {g : G} {vs : List Nat} {a : Addr} : (g.lend vs).U a ↔ g.U a := by
  constructor
  · rintro ((h | ⟨j, _, h⟩) | ⟨j, _, h⟩ | h)
    · exact .inl h
    · exact .inr (.inl ⟨j, h⟩)
    · exact .inr (.inl ⟨j, h⟩)
    · exact .inr (.inr h)
  · rintro (h | ⟨j, h⟩ | h)
    · exact .inl (.inl h)
    · by_cases hj : j ∈ vs
      · exact .inl (.inr ⟨j, hj, h⟩)
      · exact .inr (.inl ⟨j, hj, h⟩)
    · exact .inr (.inr h)
theorem Rel.lend {g : G} {ρ : Env} {S : Store} {σ : L2.St} {H : Hp} (R : Rel T g Γ ρ S σ H) (vs : List Nat) : Rel T (g.lend vs) Γ (wipeE ρ vs) S (wipe σ vs) H := by
  refine R.shift rfl rfl rfl rfl (fun a h => G.lend_U.mp h) (fun i j a h h' => R.dF i j a h.2 h'.2) (fun i a h z => ?_) (fun a h => ?_) (fun i a h => .inl ⟨i, h.2⟩) (by rw [wipeE_length, wipe_length, R.len]) fun st i d e => ?_
  · rcases z with z | ⟨j, hj, z⟩
    · exact R.dFO i a h.2 z
    · have := R.dF i j a h.2 z
      subst this
      exact h.1 hj
  · rcases h with h | ⟨j, _, h⟩
    · exact .inl h
    · exact .inr ⟨j, h⟩
  · obtain ⟨e1, hi⟩ := wipeE_some e
    obtain ⟨v, h1, h2⟩ := R.slot i d e1
    exact ⟨v, by rw [wipe_out hi]; exact h1, h2.stay st (fun a z => ⟨hi, z⟩) (fun a z => .inl z) rfl (bare_sub rfl rfl (fun i a z => ⟨i, z.2⟩) fun _ z => z)⟩
def lcL (tf : D → Env → Option Env) (c E : FE) : List D → Env → Store → RL
  | [], _, S => .ok [] S
  | d :: r, ρ, S => match tf d ρ with
    | none => .no
    | some ρ1 => match c ρ1 S with
      | .ok (.bl true) S1 => (match E ρ1 S1 with
        | .ok y S2 => (match lcL tf c E r ρ S2 with
          | .ok ys S3 => .ok (y :: ys) S3
          | _ => .no)
        | _ => .no)
      | .ok (.bl false) S1 => lcL tf c E r ρ S1
      | _ => .no
def eLc (it : FL) (vs : List Nat) (tf : D → Env → Option Env) (c E : FE) : FE := fun ρ S => match it ρ S with
  | .ok ds S1 => (match lcL tf c E ds (wipeE ρ vs) S1 with
    | .ok ys S2 => if ds.length ≤ 1000000 then .ok (.lst ys) S2 else .no
    | _ => .no)
  | .exc x S1 => .exc x S1
  | .no => .no

abbrev XTs (X : Cx) (T : Th) (W : WX) (Γ : List Md) (es : List Expr) (F : FE) : Prop := PTs X es (tXT T W Γ F)
theorem xts_nil : XTs X T W Γ [] (eC (.bl true)) := ⟨fun pins s σ H Q I ⟨g, ρ, S, R, h⟩ => by
  obtain ⟨b, e, h⟩ := h
  cases e
  exact pts_nil.run pins s σ H Q I (h g H R (.refl _ _))⟩
theorem Dj.ex {g : G} {S : Store} {H H' : Hp} (j : Dj T g S H) (e : Exx H H') : Dj T g S H' := ⟨j.dF, j.dFO, j.dFB, j.dOB, fun a h => by obtain ⟨o, q⟩ := j.dom a h; exact ⟨o, e a o q⟩, j.st.keep (.ex e) (fun a o _ q => e a o q) rfl rfl rfl fun _ _ => rfl, e.nt j.dom j.nt⟩
theorem nt_upd {H : Hp} {p : Addr} {o : HO} {U : Addr → Prop} (nt : ∀ a, U a → ∀ u, ¬ Rd H a (.tup u)) (ho : ∀ u, o ≠ .tup u ∧ ∀ b, o ≠ .frz b (.tup u)) : ∀ a, U a → ∀ u, ¬ Rd (upd H p o) a (.tup u) := fun a h u r => by
  by_cases ha : a = p
  · subst ha
    rcases r with r | ⟨b, r⟩
    · rw [upd_same] at r; cases r; exact (ho u).1 rfl
    · rw [upd_same] at r; cases r; exact (ho u).2 b rfl
  · refine nt a h u (r.imp (fun z => ?_) fun ⟨b, z⟩ => ⟨b, ?_⟩)
    · rwa [upd_ne ha] at z
    · rwa [upd_ne ha] at z
theorem Dj.write {g : G} {S : Store} {H : Hp} {p : Addr} {o : HO} (ho : ∀ u, o ≠ .tup u ∧ ∀ b, o ≠ .frz b (.tup u)) (j : Dj T g S H) (hp : g.O p) : Dj T g S (upd H p o) := by
  have st : Stay g H g (upd H p o) := ⟨fun a u h hu => by rw [upd_ne (fun z => hu (.inl (by rw [z]; exact hp)))]; exact h, fun _ h => .inl h, Nat.le_refl _, fun _ _ => rfl, rfl⟩
  refine ⟨j.dF, j.dFO, j.dFB, j.dOB, fun a h => ?_, j.st.keep st (fun a u hb h => by rw [upd_ne (fun z => j.dOB p hp (by rw [← z]; exact hb))]; exact h) rfl rfl rfl fun _ _ => rfl, nt_upd j.nt ho⟩
  by_cases ha : a = p
  · subst ha; exact ⟨o, upd_same⟩
  · rw [upd_ne ha]; exact j.dom a h
theorem Rel.carry0 {g g' : G} {ρ : Env} {S S' : Store} {σ : L2.St} {H H' : Hp} (R : Rel T g Γ ρ S σ H) (f : FrE g H g' H') (j : Dj T g' S' H') : Rel T g' Γ ρ S' σ H' := by
  refine ⟨R.len, fun i d e => ?_, j.dF, j.dFO, j.dFB, j.dOB, j.dom, j.st, j.nt⟩
  have st := f.stay
  obtain ⟨v, h1, h2⟩ := R.slot i d e
  refine ⟨v, h1, ?_⟩
  cases hm : Γ.getD i .s <;> rw [hm] at h2 <;> simp only [RepM] at h2 ⊢
  · exact h2.stay st
  · rw [f.F]; exact Own.keepF st _ _ _ _ (fun a o z q => f.keep a o q (R.dFB i a z)) h2
  · rw [f.O]; exact Own.keepF st _ _ _ _ (fun a o z q => f.keep a o q (R.dOB a z)) h2
  · rw [f.F, f.P]; exact ⟨h2.1, Own.keepF st _ _ _ _ (fun a o z q => f.keep a o q (R.dFB i a z)) h2.2⟩
  · exact h2
  · exact h2.stay f.bare
  · exact ⟨h2.1, (st).keep _ _ h2.2.1 h2.2.2, (st).off h2.2.1 h2.2.2⟩
theorem FrE.swap {g g' g2 : G} {H H' : Hp} (f : FrE g H g' H') (hB : g2.B = g.B) (hN : g2.N = g.N) (hμ : g2.μ = g.μ) (hP : g2.P = g.P) : FrE g2 H { g' with O := g2.O, F := g2.F } H' :=
  ⟨fun a o h hb => f.keep a o h (by rw [← hB]; exact hb), fun a h => by rw [hB]; exact f.B a h, rfl, rfl, f.P.trans hP.symm, by rw [hN]; exact f.N, fun n hn => by rw [hμ]; exact f.μ n (by rw [← hN]; exact hn), f.dom⟩
theorem FrE.upd {g g' : G} {H H' : Hp} {p : Addr} {o : HO} (f : FrE g H g' H') (hp : H p = none) : FrE g H g' (upd H' p o) :=
  ⟨fun a u h hb => by rw [upd_ne (ne_of_none h hp)]; exact f.keep a u h hb, f.B, f.F, f.O, f.P, f.N, f.μ, fun a u h => by rw [upd_ne (ne_of_none h hp)]; exact f.dom a u h⟩
theorem wipe_wipe {σ : L2.St} {vs : List Nat} : wipe (wipe σ vs) vs = wipe σ vs := wipe_get (is := vs) (wipe_length σ vs) (fun j hj => wipe_out hj) fun _ h => h
theorem sz_lt6 {n : Nat} (h : n < 1000000) : n < sizeLine := by rw [sizeLine_eq]; omega
structure LcW (T : Th) (Γ : List Md) (vs : List Nat) (tf : D → Env → Option Env) (c E : FE) (g1 : G) (H1 : Hp) (ρ : Env) (σ : L2.St) (ds ys : List D) (Sf : Store) (p : Addr) (i m : Nat) (H' : Hp) : Prop where
  all : ∃ (g0 : G) (Si : Store) (vacc : List V) (acc rest : List D), FrE (g1.lend vs) H1 g0 H' ∧ Dj T (g0.plus (· = p)) Si H' ∧ H' p = some (.lst vacc) ∧ ShrL T (g0.plus (· = p)) H' acc vacc ∧ m = ds.length - i ∧ i ≤ ds.length ∧ acc.length ≤ i ∧ lcL tf c E (ds.drop i) (wipeE ρ vs) Si = .ok rest Sf ∧ ys = acc ++ rest
theorem xe_lc {elt tg iter : Expr} {ifs : List Expr} {scope : Scope} {own : List (Str × Nat)} {pos : Pos} {Γb : List Md} {is : List Nat} {t : TG} {tf : D → Env → Option Env} {FI : FL} {C E : FE} (hc : X.calm = true) (hN : X.N.Nodup) (hi : XIF X T W Γ tg iter FI)
    (ok : BlkOk X.N X.env.scope scope own) (his : ∀ j, j ∈ is → j ∈ own.map (·.2))
    (hg : ∀ (s : Shared) (H : Hp) (C : Addr) (cl : List (Str × Addr)) (fp : List Addr), PG (X.blk s H scope (compEnvC scope cl C X.env) fp) tg t) (ht : TgOk T Γ Γb is t tf)
    (hts : ∀ (s : Shared) (H : Hp) (D : Addr) (cl : List (Str × Addr)) (fp : List Addr), XTs (X.blk s H scope (compEnvC scope cl D X.env) fp) T (fun _ _ _ _ => False) Γb ifs C)
    (he : ∀ (s : Shared) (H : Hp) (D : Addr) (cl : List (Str × Addr)) (fp : List Addr), XE (X.blk s H scope (compEnvC scope cl D X.env) fp) T (fun _ _ _ _ => False) Γb elt E) (hs : ∀ x, foldedSetIterable iter X.env x = pure x := by intro _; rfl) :
    XE X T W Γ (.ListComp elt [⟨tg, iter, ifs, 0⟩] scope pos) (eLc FI (own.map (·.2)) tf C E) := pe_imp (pe_lc hc hN hi ok hg hts he hs) fun σ H Q ⟨g, ρ, S, R, h⟩ => by
  generalize own.map (·.2) = vs at his h
  refine ⟨g, ρ, S, R, ?_⟩
  unfold eLc at h
  cases e : FI ρ S with
  | exc x S1 => rw [e] at h; exact h
  | no => rw [e] at h; exact h
  | ok ds S1 =>
    rw [e] at h
    intro It1 g1 H1 R1 f1 io p hp
    have h : GoodE T W Γ ρ σ g H (match lcL tf C E ds (wipeE ρ vs) S1 with | .ok ys S2 => if ds.length ≤ 1000000 then RE.ok (.lst ys) S2 else .no | _ => .no) Q := h
    split at h
    · rename_i ys Sf el
      split at h
      · rename_i hlen
        have Rl := R1.lend vs
        have hpO : ∀ a, a = p → (g1.lend vs).U a → False := fun a ha u => by
          obtain ⟨o, q⟩ := Rl.dom a u
          rw [ha, hp] at q; cases q
        have Dp : Dj T ((g1.lend vs).plus (· = p)) S1 (upd H1 p (.lst [])) := by
          have st : Stay (g1.lend vs) (upd H1 p (.lst [])) ((g1.lend vs).plus (· = p)) (upd H1 p (.lst [])) → True := fun _ => trivial
          have e1 := Rl.ex (Exx.new (o := HO.lst []) hp)
          refine ⟨e1.dF, fun i a z w => w.elim (e1.dFO i a z) fun w => hpO a w (.inr (.inl ⟨i, z⟩)), e1.dFB, fun a w z => w.elim (fun w => e1.dOB a w z) fun w => hpO a w (.inr (.inr z)), fun a u => ?_, ?_, fun a u w r => ?_⟩
          · rcases u with (u | u) | u | u
            · exact e1.dom a (.inl u)
            · exact ⟨_, by rw [u]; exact upd_same⟩
            · exact e1.dom a (.inr (.inl u))
            · exact e1.dom a (.inr (.inr u))
          · refine Rl.st.keep (g' := (g1.lend vs).plus (· = p)) ⟨fun a o q _ => Exx.new hp a o q, fun a u => ?_, Nat.le_refl _, fun _ _ => rfl, rfl⟩ (fun a o _ q => Exx.new hp a o q) rfl rfl rfl fun _ _ => rfl
            rcases u with (u | u) | u | u
            · exact .inl (.inl u)
            · exact .inr (by rw [u]; exact hp)
            · exact .inl (.inr (.inl u))
            · exact .inl (.inr (.inr u))
          · by_cases ha : a = p
            · subst ha
              rcases r with r | ⟨b, r⟩
              · rw [upd_same] at r; cases r
              · rw [upd_same] at r; cases r
            · refine e1.nt a ?_ w r
              rcases u with (u | u) | u | u
              · exact .inl u
              · exact absurd u ha
              · exact .inr (.inl u)
              · exact .inr (.inr u)
        refine ⟨LcW T Γ vs tf C E g1 H1 ρ σ ds ys Sf p, ⟨ds.length, ⟨g1.lend vs, S1, [], [], ys, .ex (Exx.new hp), Dp, upd_same, .nil, by simp, Nat.zero_le _, Nat.zero_le _, by rw [List.drop_zero]; exact el, rfl⟩⟩, ?_⟩
        rintro i m H' ⟨g0, Si, vacc, acc, rest, fr, dj, hacc, sacc, em, hi', ha, hl, hy⟩
        have fO : ∀ a, a = p → H1 a = none := fun a z => by rw [z]; exact hp
        have Rw : Rel T (g0.plus (· = p)) Γ (wipeE ρ vs) Si (wipe σ vs) H' := Rl.carry fr fO dj
        have st0 : Stay g1 H1 g0 H' := ⟨fun a o q hu => fr.stay.keep a o q fun z => hu (G.lend_U.mp z), fun a u => (fr.stay.own a u).imp G.lend_U.mp id, fr.N, fr.μ, fr.Z⟩
        obtain ⟨i1, i2⟩ := io g0 H' i st0 fr.keep
        by_cases hlt : i < ds.length
        · refine .inr ?_
          obtain ⟨d, hd⟩ : ∃ d, ds[i]? = some d := ⟨ds[i], List.getElem?_eq_getElem hlt⟩
          have stp : Stay g1 H1 (g0.plus (· = p)) H' := ⟨st0.keep, fun a u => by
            rcases u with (u | u) | u | u
            · exact st0.own a (.inl u)
            · exact .inr (fO a u)
            · exact st0.own a (.inr (.inl u))
            · exact st0.own a (.inr (.inr u)), st0.N, st0.μ, st0.Z⟩
          obtain ⟨_, i2⟩ := io (g0.plus (· = p)) H' i stp fr.keep
          obtain ⟨go, yl⟩ := i2 d hd
          refine ⟨go, fun H2 => ∃ m', m' < m ∧ LcW T Γ vs tf C E g1 H1 ρ σ ds ys Sf p (i + 1) m' H2, fun H2 ⟨m', l, w⟩ => ⟨m', l, w⟩, fun x H2 y => ?_⟩
          obtain ⟨ex, sx⟩ := yl x H2 y
          have R2 := Rw.ex ex
          have ed : ds.drop i = d :: ds.drop (i + 1) := by
            rw [List.drop_eq_getElem_cons hlt]
            rw [List.getElem?_eq_getElem hlt] at hd
            rw [Option.some.inj hd]
          rw [ed, lcL] at hl
          split at hl
          · cases hl
          · rename_i ρ1 e1
            refine ht _ _ ρ1 Si _ H2 d x _ R2 sx e1 fun σ3 R3 l3 k3 => ⟨(wipe_get (is := is) l3 k3 his).trans wipe_wipe, _, ρ1, Si, R3, ?_⟩
            have fO2 : ∀ (g4 : G) (H4 : Hp), FrE ((g0.plus (· = p)).drops is) H2 g4 H4 → FrE (g1.lend vs) H1 { g4 with O := g0.O, F := g0.F } H4 ∧ ({ g4 with O := g0.O, F := g0.F } : G).plus (· = p) = g4 := fun g4 H4 f4 => by
              refine ⟨(fr.trans (.ex ex)).trans (f4.swap (g2 := g0) rfl rfl rfl rfl), ?_⟩
              have eO := f4.O
              have eF := f4.F
              obtain ⟨N4, μ4, O4, F4, B4, BF4, P4⟩ := g4
              simp only at eO eF
              subst eO eF
              show G.mk N4 μ4 (fun a => g0.O a ∨ a = p) g0.F B4 BF4 P4 = G.mk N4 μ4 (fun a => g0.O a ∨ a = p) (fun j a => j ∉ is ∧ g0.F j a) B4 BF4 P4
              congr 1
              funext j a
              rw [fr.F]
              exact propext ⟨fun z => ⟨fun w => z.1 (his j w), z⟩, fun z => z.2⟩
            have kp : ∀ (g4 : G) (H4 : Hp), FrE ((g0.plus (· = p)).drops is) H2 g4 H4 → g4.O p ∧ H4 p = some (.lst vacc) := fun g4 H4 f4 =>
              ⟨by rw [f4.O]; exact .inr rfl, f4.keep p _ (ex p _ hacc) (dj.dOB p (.inr rfl))⟩
            have sk : ∀ (g4 : G) (H4 : Hp), FrE ((g0.plus (· = p)).drops is) H2 g4 H4 → ShrL T g4 H4 acc vacc := fun g4 H4 f4 =>
              ShrL.stay (((Stay.ex ex).trans FrS.drops.stay).trans f4.stay) _ _ sacc
            split at hl
            · rename_i S2 ec
              rw [ec]
              refine ⟨true, rfl, fun g2 H3 R4 f3 => ?_⟩
              refine iteT ⟨g2, ρ1, S2, R4, ?_⟩
              split at hl
              · rename_i y2 S3 ey
                rw [ey]
                intro v g4 H4 R5 f4 s4
                have f34 := f3.trans f4
                obtain ⟨pO, pH⟩ := kp g4 H4 f34
                obtain ⟨fa, fe⟩ := fO2 g4 H4 f34
                have sa := sk g4 H4 f34
                split at hl
                · rename_i ys' S4 ely
                  cases hl
                  refine ⟨vacc, pH, by rw [← sa.length]; exact sz_lt6 (by omega), ds.length - (i + 1), by omega, ⟨{ g4 with O := g0.O, F := g0.F }, S3, vacc ++ [v], acc ++ [y2], ys', fa.upd hp, ?_, upd_same, ?_, rfl, hlt, by rw [List.length_append]; simp; omega, ely, by rw [hy, List.append_assoc]; rfl⟩⟩
                  · rw [fe]; exact R5.dj.write (fun _ => ⟨nofun, fun _ => nofun⟩) pO
                  · rw [fe]
                    have stw : Stay g4 H4 g4 (upd H4 p (.lst (vacc ++ [v]))) := ⟨fun a u h hu => by rw [upd_ne (fun z => hu (.inl (by rw [z]; exact pO)))]; exact h, fun _ h => .inl h, Nat.le_refl _, fun _ _ => rfl, rfl⟩
                    exact ShrL.append (sa.stay stw) ((ShrL.cons s4 .nil).stay stw)
                · cases hl
              · cases hl
            · rename_i S2 ec
              rw [ec]
              refine ⟨false, rfl, fun g2 H3 R4 f3 => iteF ?_⟩
              obtain ⟨pO, pH⟩ := kp g2 H3 f3
              obtain ⟨fa, fe⟩ := fO2 g2 H3 f3
              exact ⟨ds.length - (i + 1), by omega, ⟨{ g2 with O := g0.O, F := g0.F }, S2, vacc, acc, rest, fa, by rw [fe]; exact R4.dj, pH, by rw [fe]; exact sk g2 H3 f3, rfl, hlt, by omega, hl, hy⟩⟩
            · cases hl
        · have e1 : i = ds.length := by omega
          subst e1
          refine .inl ⟨i1 (Nat.le_refl _), ?_⟩
          rw [List.drop_length, lcL] at hl
          cases hl
          rw [List.append_nil] at hy
          subst hy
          have ff : FrE g1 H1 { g0 with O := g1.O, F := g1.F } H' := fr.swap (g2 := g1) rfl rfl rfl rfl
          have uu : ∀ a, ({ g0 with O := g1.O, F := g1.F } : G).U a → (g0.plus (· = p)).U a := fun a u => by
            rcases u with u | ⟨j, u⟩ | u
            · exact .inl (.inl (by rw [fr.O]; exact .inl u))
            · by_cases hj : j ∈ vs
              · exact .inl (.inl (by rw [fr.O]; exact .inr ⟨j, hj, u⟩))
              · exact .inr (.inl ⟨j, by rw [show (g0.plus (· = p)).F = g0.F from rfl, fr.F]; exact ⟨hj, u⟩⟩)
            · exact .inr (.inr u)
          have dOB' : ∀ a, (g1.O a ∨ ∃ j, g1.F j a) → ¬ g0.B a := fun a u z => by
            have := uu a (u.elim .inl fun w => .inr (.inl w))
            rcases fr.B a z with w | w
            · exact u.elim (fun q => R1.dOB a q w) fun ⟨j, q⟩ => R1.dFB j a q w
            · obtain ⟨o, q⟩ := R1.dom a (u.elim .inl fun q => .inr (.inl q))
              rw [w] at q; cases q
          have stf : Stay (g0.plus (· = p)) H' { g0 with O := g1.O, F := g1.F } H' := ⟨fun _ _ h _ => h, fun a u => .inl (uu a u), Nat.le_refl _, fun _ _ => rfl, rfl⟩
          have djf : Dj T { g0 with O := g1.O, F := g1.F } Sf H' := ⟨R1.dF, R1.dFO, fun j a u z => dOB' a (.inr ⟨j, u⟩) z, fun a u z => dOB' a (.inl u) z, fun a u => dj.dom a (uu a u), dj.st.keep stf (fun _ _ _ q => q) rfl rfl rfl fun _ _ => rfl, fun a u => dj.nt a (uu a u)⟩
          refine h (.ref p) _ H' (R1.carry0 ff djf) (f1.trans ff) (shr_lst.mpr ⟨p, vacc, rfl, ⟨hacc, fun u => ?_⟩, ShrL.stay stf _ _ sacc⟩)
          rcases u with u | u | u
          · obtain ⟨o, q⟩ := R1.dom p (.inl u)
            rw [hp] at q; cases q
          · obtain ⟨o, q⟩ := R1.dom p (.inr (.inl u))
            rw [hp] at q; cases q
          · exact dj.dOB p (.inr rfl) u
      · exact h.elim
    · exact h.elim
end
end Q

namespace Q
open PySem PySem.Spec PyProof.Rows L2
abbrev ΓS (n : Nat) : List Md := List.replicate n .s
theorem rep_s {n i : Nat} : (ΓS n).getD i .s = .s := by
  simp only [List.getD, List.getElem?_replicate]
  split <;> rfl
theorem set_rep {n i : Nat} : (ΓS n).set i .s = ΓS n := by
  apply List.ext_getElem?
  intro j
  by_cases h : i = j
  · subst h
    by_cases hl : i < n
    · rw [List.getElem?_set_self (by simpa using hl), List.getElem?_replicate, if_pos hl]
    · rw [List.getElem?_eq_none (by simpa using hl), List.getElem?_eq_none (by simpa using hl)]
  · rw [List.getElem?_set_ne h]
abbrev sgS (n : Nat) : Sig := ⟨ΓS n, 0⟩
theorem gp_s {n : Nat} {Γ : List Md} : ΓP (ΓS n) Γ := fun i k h => by rw [rep_s] at h; cases h
section
variable {P : Program} {w : World} {K : PySem.W.Frag} {mg : Str → Option Value} {base : Heap} {T : Th}
abbrev jdS (n : Nat) (E : XK) : Jd := jdF (ΓS n) 0 E
end
section
variable {X : Cx} {T : Th} {W : WX} {n : Nat}
theorem xv {i : Nat} {e : Expr} (he : PE X e (tVar i)) : XE X T W (ΓS n) e (eVar i) := xe_var he rep_s
theorem xe_callS {k m : Nat} {f : Addr} {fd : FuncData} {ps : List Str} {Φ : FF} {e : Expr} {es : List Expr} {A : FL} {Γ : List Md} (F : FnOk X.prog X.w X.K X.mg X.base (L2.CX X.prog X.w) k f fd ps (spD T m (sgS m) Φ)) (hn : es.length = m) (hA : ∀ ρ S ds S1, A ρ S = .ok ds S1 → ds.length = m)
    (ha : XL X T W Γ es A) (he : PA X es (tXL T W Γ A) → PE X e (tCallS (spD T m (sgS m) Φ) (WE W) (tXL T W Γ A))) : XE X T W Γ e (eCall Φ A) := xe_call F (fun _ => rep_s) hn hA ha he
end
theorem la0 : ∀ ρ S ds S1, lNil ρ S = .ok ds S1 → ds.length = 0 := fun _ _ _ _ h => lNil_len h
theorem la1 {A : FE} {B : FL} {n : Nat} (h : ∀ ρ S ds S1, B ρ S = .ok ds S1 → ds.length = n) : ∀ ρ S ds S1, lCons A B ρ S = .ok ds S1 → ds.length = n + 1 := lCons_len h
end Q

namespace Q
open PySem PySem.Spec PyProof.Rows L2
def RS.seq (r : RS) (h : FS) : RS := match r with
  | .nx ρ1 S1 => h ρ1 S1
  | r => r
def condS (d : D) (x y : RS) : RS := match d with
  | .bl true => x
  | .bl false => y
  | _ => .no
def condE (d : D) (x y : RE) : RE := match d with
  | .bl true => x
  | .bl false => y
  | _ => .no
def notD (d : D) (S : Store) : RE := match d with
  | .bl b => .ok (.bl (!b)) S
  | _ => .no
def RL.bindE (r : RL) (k : List D → Store → RE) : RE := match r with
  | .ok ds S => k ds S
  | .exc x S => .exc x S
  | .no => .no
def RE.bindL (r : RE) (k : D → Store → RL) : RL := match r with
  | .ok d S => k d S
  | .exc x S => .exc x S
  | .no => .no
def RL.bindL (r : RL) (k : List D → Store → RL) : RL := match r with
  | .ok d S => k d S
  | .exc x S => .exc x S
  | .no => .no
def RL.bindS (ρ : Env) (r : RL) (k : List D → Store → RS) : RS := match r with
  | .ok d S => k d S
  | .exc x S => .exc x ρ S
  | .no => .no
def RF.toE (r : RF) : RE := match r with
  | .ok d _ S => .ok d S
  | .exc x _ S => .exc x S
  | .no => .no
def RS.toF (r : RS) (ms : List Md) (n : Nat) : RF := match r with
  | .nx ρ S' => .ok .non (outsOf ms n ρ) S'
  | .rt d ρ S' => .ok d (outsOf ms n ρ) S'
  | .exc x ρ S' => .exc x (outsOf ms n ρ) S'
  | _ => .no
def slotE (o : Option (Option D)) (S : Store) : RE := match o with
  | some (some d) => .ok d S
  | _ => .no
section
variable {d : D} {S : Store} {ρ : Env} {x : Exc}
theorem bind_ok {k : D → Store → RE} : (RE.ok d S).bind k = k d S := rfl
theorem bind_exc {k : D → Store → RE} : (RE.exc x S).bind k = .exc x S := rfl
theorem bindS_ok {k : D → Store → RS} : (RE.ok d S).bindS ρ k = k d S := rfl
theorem bindS_exc {k : D → Store → RS} : (RE.exc x S).bindS ρ k = .exc x ρ S := rfl
theorem of_some : RE.of S (some d) = .ok d S := rfl
theorem seq_nx {h : FS} : (RS.nx ρ S).seq h = h ρ S := rfl
theorem seq_rt {h : FS} : (RS.rt d ρ S).seq h = .rt d ρ S := rfl
theorem seq_exc {h : FS} : (RS.exc x ρ S).seq h = .exc x ρ S := rfl
theorem seq_bk {h : FS} : (RS.bk ρ S).seq h = .bk ρ S := rfl
theorem seq_ct {h : FS} : (RS.ct ρ S).seq h = .ct ρ S := rfl
theorem condS_t {y z : RS} : condS (.bl true) y z = y := rfl
theorem condS_f {y z : RS} : condS (.bl false) y z = z := rfl
theorem condE_t {y z : RE} : condE (.bl true) y z = y := rfl
theorem condE_f {y z : RE} : condE (.bl false) y z = z := rfl
theorem notD_bl {b : Bool} : notD (.bl b) S = .ok (.bl (!b)) S := rfl
theorem bindE_ok {ds : List D} {k : List D → Store → RE} : (RL.ok ds S).bindE k = k ds S := rfl
theorem bindL_ok {k : D → Store → RL} : (RE.ok d S).bindL k = k d S := rfl
theorem bindL_exc {k : D → Store → RL} : (RE.exc x S).bindL k = .exc x S := rfl
theorem bindLL_ok {ds : List D} {k : List D → Store → RL} : (RL.ok ds S).bindL k = k ds S := rfl
theorem bindLL_exc {k : List D → Store → RL} : (RL.exc x S).bindL k = .exc x S := rfl
theorem bindE_exc {k : List D → Store → RE} : (RL.exc x S).bindE k = .exc x S := rfl
theorem bindLS_ok {ds : List D} {k : List D → Store → RS} : (RL.ok ds S).bindS ρ k = k ds S := rfl
theorem bindLS_exc {k : List D → Store → RS} : (RL.exc x S).bindS ρ k = .exc x ρ S := rfl
theorem toE_ok {o : Env} : (RF.ok d o S).toE = .ok d S := rfl
theorem toE_exc {o : Env} : (RF.exc x o S).toE = .exc x S := rfl
theorem toF_nx {ms : List Md} {n : Nat} : (RS.nx ρ S).toF ms n = .ok .non (outsOf ms n ρ) S := rfl
theorem toF_rt {ms : List Md} {n : Nat} : (RS.rt d ρ S).toF ms n = .ok d (outsOf ms n ρ) S := rfl
theorem toF_exc {ms : List Md} {n : Nat} : (RS.exc x ρ S).toF ms n = .exc x (outsOf ms n ρ) S := rfl
theorem slotE_some : slotE (some (some d)) S = .ok d S := rfl
end
section
variable {ρ : Env} {S : Store}
theorem ev_var {i : Nat} : eVar i ρ S = slotE ρ[i]? S := rfl
theorem ev_c {d : D} : eC d ρ S = .ok d S := rfl
theorem ev_op {h : D → D → Option D} {a b : FE} : eOp h a b ρ S = (a ρ S).bind fun x S1 => (b ρ S1).bind fun y S2 => .of S2 (h x y) := rfl
theorem ev_un {h : D → Option D} {a : FE} : eUn h a ρ S = (a ρ S).bind fun x S1 => .of S1 (h x) := rfl
theorem ev_nil : lNil ρ S = .ok [] S := rfl
theorem ev_cons {a : FE} {r : FL} : lCons a r ρ S = (a ρ S).bindL fun x S1 => (r ρ S1).bindL fun xs S2 => .ok (x :: xs) S2 := rfl
theorem ev_L {h : List D → Option D} {a : FL} : eL h a ρ S = (a ρ S).bindE fun xs S1 => .of S1 (h xs) := rfl
theorem ev_tup {a : FL} : eTup a ρ S = (a ρ S).bindE fun xs S1 => .of S1 (if xs.length ≤ 1000000 then some (.tup xs) else none) := rfl
theorem ev_lst {a : FL} : eLst a ρ S = (a ρ S).bindE fun xs S1 => .of S1 (if xs.length ≤ 1000000 then some (.lst xs) else none) := rfl
theorem ev_call {Φ : FF} {a : FL} : eCall Φ a ρ S = (a ρ S).bindE fun xs S1 => (Φ xs S1).toE := rfl
theorem ev_and {a b : FE} : eAnd a b ρ S = (a ρ S).bind fun x S1 => condE x (b ρ S1) (.ok (.bl false) S1) := rfl
theorem ev_or {a b : FE} : eOr a b ρ S = (a ρ S).bind fun x S1 => condE x (.ok (.bl true) S1) (b ρ S1) := rfl
theorem ev_not {a : FE} : eNot a ρ S = (a ρ S).bind fun x S1 => notD x S1 := rfl
theorem ev_if {c a b : FE} : eIf c a b ρ S = (c ρ S).bind fun x S1 => condE x (a ρ S1) (b ρ S1) := rfl
theorem ev_seq {f h : FS} : fSeq f h ρ S = (f ρ S).seq h := rfl
theorem ev_set {i : Nat} {a : FE} : fSet i a ρ S = (a ρ S).bindS ρ fun d S1 => .nx (ρ.set i (some d)) S1 := rfl
theorem ev_ret {a : FE} : fRet a ρ S = (a ρ S).bindS ρ fun d S1 => .rt d ρ S1 := rfl
theorem ev_drop {a : FE} : fDrop a ρ S = (a ρ S).bindS ρ fun _ S1 => .nx ρ S1 := rfl
theorem ev_pass : fPass ρ S = .nx ρ S := rfl
theorem ev_brk : fBrk ρ S = .bk ρ S := rfl
theorem ev_ct : fCt ρ S = .ct ρ S := rfl
theorem ev_raise {k : Nat} : fRaise k ρ S = .exc ⟨k, []⟩ ρ S := rfl
theorem ev_ifS {c : FE} {f h : FS} : fIf c f h ρ S = (c ρ S).bindS ρ fun d S1 => condS d (f ρ S1) (h ρ S1) := rfl
theorem ev_for {it : FL} {tf : D → Env → Option Env} {b : FS} : fFor it tf b ρ S = (it ρ S).bindS ρ fun ds S1 => forL tf b ds ρ S1 := rfl
theorem ev_body {N n : Nat} {ms : List Md} {b : FS} {ds : List D} : fBody N n ms b ds S = (b (ds.map some ++ List.replicate (N - n) none) S).toF ms n := rfl
theorem ev_held {i : Nat} {b : Bool} : eHeld i b ρ S = (match ρ[i]? with | some (some _) => .ok (.bl b) S | _ => .no) := rfl
theorem ev_tru {a : FE} : eTru a ρ S = (a ρ S).bind fun x S1 => .of S1 (hTru x) := rfl
end
section
variable {a b : Int}
theorem hNe_int : hNe (.int a) (.int b) = some (.bl (!(a == b))) := rfl
theorem hEq_int : hEq (.int a) (.int b) = some (.bl (a == b)) := rfl
theorem hEq_bl {a b : Bool} : hEq (.bl a) (.bl b) = some (.bl (a == b)) := rfl
theorem hNe_bl {a b : Bool} : hNe (.bl a) (.bl b) = some (.bl (!(a == b))) := rfl
theorem hSub_int : hSub (.int a) (.int b) = some (.int (a - b)) := rfl
theorem hLt_int : hLt (.int a) (.int b) = some (.bl (decide (a < b))) := rfl
theorem hLe_int : hLe (.int a) (.int b) = some (.bl (decide (a ≤ b))) := rfl
theorem hGt_int : hGt (.int a) (.int b) = some (.bl (decide (b < a))) := rfl
theorem hGe_int : hGe (.int a) (.int b) = some (.bl (decide (b ≤ a))) := rfl
theorem hNeg_int : hNeg (.int a) = some (.int (-a)) := rfl
theorem hMod_pos (h : 0 < b) : hMod (.int a) (.int b) = some (.int (a % b)) := if_pos h
theorem hMul_bd {m n : Nat} (ha : a.natAbs < 2 ^ m) (hb : b.natAbs < 2 ^ n) (h : m + n ≤ 130000000) : hMul (.int a) (.int b) = some (.int (a * b)) := by
  have x := PySem.Flt.log2_lt_of (Nat.succ_pos m) (Nat.lt_of_lt_of_le ha (Nat.pow_le_pow_right (by decide) (Nat.le_succ m)))
  have y := PySem.Flt.log2_lt_of (Nat.succ_pos n) (Nat.lt_of_lt_of_le hb (Nat.pow_le_pow_right (by decide) (Nat.le_succ n)))
  show (if a.natAbs.log2 + b.natAbs.log2 < 134000000 then some (D.int (a * b)) else none) = _
  rw [if_pos (by omega)]
theorem hDiv_bd (h : b ≠ 0) (hb : b.natAbs < 2 ^ 8999) : hDiv (.int a) (.int b) = some (.int (a.fdiv b)) := by
  have y := PySem.Flt.log2_lt_of (show 0 < 8999 by decide) hb
  show (if b = 0 ∨ 9000 ≤ b.natAbs.log2 then none else some (D.int (a.fdiv b))) = _
  rw [if_neg (by omega)]
theorem hDiv_pos (h : 0 < b) (hb : b.natAbs < 2 ^ 8999) : hDiv (.int a) (.int b) = some (.int (a / b)) := by
  rw [hDiv_bd (by omega) hb, Int.fdiv_eq_ediv_of_nonneg a (by omega)]
theorem hAbs_int : hAbs [.int a] = some (.int a.natAbs) := by
  show some (D.int (if a < 0 then -a else a)) = _
  congr 2
  split <;> omega
theorem hIsi_int_int : hIsi "int" (.int a) = some (.bl true) := by
  show (kitB "int" "int").map D.bl = _
  rw [show kitB "int" "int" = some true by decide +kernel]; rfl
theorem hIsi_bool_int : hIsi "bool" (.int a) = some (.bl false) := by
  show (kitB "int" "bool").map D.bl = _
  rw [show kitB "int" "bool" = some false by decide +kernel]; rfl
theorem hIsi_bool_bl {x : Bool} : hIsi "bool" (.bl x) = some (.bl true) := by
  show (kitB "bool" "bool").map D.bl = _
  rw [show kitB "bool" "bool" = some true by decide +kernel]; rfl
theorem hIsi_int_bl {x : Bool} : hIsi "int" (.bl x) = some (.bl true) := by
  show (kitB "bool" "int").map D.bl = _
  rw [show kitB "bool" "int" = some true by decide +kernel]; rfl
theorem hIsi_tuple_tup {l : List D} : hIsi "tuple" (.tup l) = some (.bl true) := by
  show (kitB "tuple" "tuple").map D.bl = _
  rw [show kitB "tuple" "tuple" = some true by decide +kernel]; rfl
theorem hIsi_list_lst {l : List D} : hIsi "list" (.lst l) = some (.bl true) := by
  show (kitB "list" "list").map D.bl = _
  rw [show kitB "list" "list" = some true by decide +kernel]; rfl
end
section
variable {a b c d e : D} {l : List D}
theorem hIxT0 : hIx (.tup (a :: l)) (.int 0) = some a := by
  show atI (a :: l) ((0 : Nat) : Int) = _
  exact atI_nat rfl
theorem hIxT1 : hIx (.tup (a :: b :: l)) (.int 1) = some b := by
  show atI (a :: b :: l) ((1 : Nat) : Int) = _
  exact atI_nat rfl
theorem hIxT2 : hIx (.tup (a :: b :: c :: l)) (.int 2) = some c := by
  show atI (a :: b :: c :: l) ((2 : Nat) : Int) = _
  exact atI_nat rfl
theorem hIxT3 : hIx (.tup (a :: b :: c :: d :: l)) (.int 3) = some d := by
  show atI (a :: b :: c :: d :: l) ((3 : Nat) : Int) = _
  exact atI_nat rfl
theorem hIxT4 : hIx (.tup (a :: b :: c :: d :: e :: l)) (.int 4) = some e := by
  show atI (a :: b :: c :: d :: e :: l) ((4 : Nat) : Int) = _
  exact atI_nat rfl
theorem hIxL0 : hIx (.lst (a :: l)) (.int 0) = some a := by
  show atI (a :: l) ((0 : Nat) : Int) = _
  exact atI_nat rfl
theorem hIxL1 : hIx (.lst (a :: b :: l)) (.int 1) = some b := by
  show atI (a :: b :: l) ((1 : Nat) : Int) = _
  exact atI_nat rfl
theorem hIxL2 : hIx (.lst (a :: b :: c :: l)) (.int 2) = some c := by
  show atI (a :: b :: c :: l) ((2 : Nat) : Int) = _
  exact atI_nat rfl
theorem hIxL3 : hIx (.lst (a :: b :: c :: d :: l)) (.int 3) = some d := by
  show atI (a :: b :: c :: d :: l) ((3 : Nat) : Int) = _
  exact atI_nat rfl
theorem hIx_lst {k : Nat} {x : D} (h : l[k]? = some x) : hIx (.lst l) (.int k) = some x := atI_nat h
theorem hIx_scr {k : Nat} {x : D} (h : l[k]? = some x) : hIx (.scr l) (.int k) = some x := atI_nat h
theorem hIx_tup {k : Nat} {x : D} (h : l[k]? = some x) : hIx (.tup l) (.int k) = some x := atI_nat h
theorem hLen_lst : hLen [.lst l] = some (.int l.length) := rfl
theorem hLen_scr : hLen [.scr l] = some (.int l.length) := rfl
theorem hLen_tup : hLen [.tup l] = some (.int l.length) := rfl
end
theorem forL_inv {tf : D → Env → Option Env} {b : FS} {I : Nat → Env → Store → Prop} {ds : List D} (turn : ∀ i d ρ S, ds[i]? = some d → I i ρ S → ∃ ρ1, tf d ρ = some ρ1 ∧ ((∃ ρ2 S2, b ρ1 S = .nx ρ2 S2 ∧ I (i + 1) ρ2 S2) ∨ ∃ ρ2 S2, b ρ1 S = .ct ρ2 S2 ∧ I (i + 1) ρ2 S2)) :
    ∀ (i : Nat) (ρ : Env) (S : Store), i ≤ ds.length → I i ρ S → ∃ ρ' S', forL tf b (ds.drop i) ρ S = .nx ρ' S' ∧ I ds.length ρ' S' := by
  intro i
  induction hk : ds.length - i generalizing i with
  | zero =>
    intro ρ S hi h
    have e : i = ds.length := by omega
    subst e
    refine ⟨ρ, S, ?_, h⟩
    rw [List.drop_length]
    rfl
  | succ n ih =>
    intro ρ S hi h
    have hlt : i < ds.length := by omega
    obtain ⟨ρ1, e1, e2⟩ := turn i ds[i] ρ S (List.getElem?_eq_getElem hlt) h
    rw [List.drop_eq_getElem_cons hlt, forL, e1]
    rcases e2 with ⟨ρ2, S2, e2, h2⟩ | ⟨ρ2, S2, e2, h2⟩
    · simp only [e2]
      exact ih (i + 1) (by omega) ρ2 S2 hlt h2
    · simp only [e2]
      exact ih (i + 1) (by omega) ρ2 S2 hlt h2
theorem forL_all {tf : D → Env → Option Env} {b : FS} (I : Nat → Env → Store → Prop) {ds : List D} {ρ : Env} {S : Store} (h0 : I 0 ρ S) (turn : ∀ i d ρ S, ds[i]? = some d → I i ρ S → ∃ ρ1, tf d ρ = some ρ1 ∧ ((∃ ρ2 S2, b ρ1 S = .nx ρ2 S2 ∧ I (i + 1) ρ2 S2) ∨ ∃ ρ2 S2, b ρ1 S = .ct ρ2 S2 ∧ I (i + 1) ρ2 S2)) :
    ∃ ρ' S', forL tf b ds ρ S = .nx ρ' S' ∧ I ds.length ρ' S' := by
  have := forL_inv turn 0 ρ S (Nat.zero_le _) h0
  rw [List.drop_zero] at this
  exact this
theorem rangeL_get {lo hi : Int} {i : Nat} {d : D} (h : (rangeL lo hi)[i]? = some d) : d = .int (lo + i) ∧ lo + i < hi := by
  unfold rangeL at h
  rw [List.getElem?_map] at h
  obtain ⟨k, e1, e2⟩ := Option.map_eq_some_iff.mp h
  obtain ⟨hk, e3⟩ := List.getElem?_eq_some_iff.mp e1
  rw [List.getElem_range] at e3
  rw [List.length_range] at hk
  subst e3
  exact ⟨e2.symm, by omega⟩
theorem rangeL_length {lo hi : Int} : (rangeL lo hi).length = (hi - lo).toNat := by simp [rangeL]
theorem cutD_drop {l : List D} (k : Nat) : cutD l (some (k : Int)) none = l.drop k := by
  unfold cutD
  rw [HT.sIx_nat, HT.sIx_none]
  by_cases h : k ≤ l.length
  · rw [Nat.min_eq_left h, List.take_of_length_le (by simp)]
  · rw [Nat.min_eq_right (by omega), Nat.sub_self, List.take_zero, List.drop_of_length_le (by omega)]
theorem ev_sl {a : FE} {lo hi : Option FE} {ρ : Env} {S : Store} : eSl a lo hi ρ S = (a ρ S).bind fun d S1 => eBnd lo ρ S1 fun l S2 => eBnd hi ρ S2 fun h S3 => .of S3 (hSl d l h) := rfl
theorem bnd_none {ρ : Env} {S : Store} {k : Option Int → Store → RE} : eBnd none ρ S k = k none S := rfl
def bndK (d : D) (S : Store) (k : Option Int → Store → RE) : RE := match d with
  | .int i => k (some i) S
  | _ => .no
theorem bnd_some {a : FE} {ρ : Env} {S : Store} {k : Option Int → Store → RE} : eBnd (some a) ρ S k = (a ρ S).bind fun d S1 => bndK d S1 k := rfl
theorem bndK_int {i : Int} {S : Store} {k : Option Int → Store → RE} : bndK (.int i) S k = k (some i) S := rfl
theorem hSl_scr {l : List D} {lo hi : Option Int} : hSl (.scr l) lo hi = some (.lst (cutD l lo hi)) := rfl
theorem hSl_lst {l : List D} {lo hi : Option Int} : hSl (.lst l) lo hi = some (.lst (cutD l lo hi)) := rfl
theorem ev_range1 {a : FL} {ρ : Env} {S : Store} : iRange1 a ρ S = (a ρ S).bindL rgK1 := rfl
theorem ev_range2 {a : FL} {ρ : Env} {S : Store} : iRange2 a ρ S = (a ρ S).bindL rgK2 := rfl
theorem rgK2_int {m n : Int} {S : Store} (h : (-1000000000000 ≤ m ∧ m ≤ 1000000000000) ∧ -1000000000000 ≤ n ∧ n ≤ 1000000000000) : rgK2 [.int m, .int n] S = .ok (rangeL m n) S := if_pos h
theorem rgK1_int {n : Int} {S : Store} (h : -1000000000000 ≤ n ∧ n ≤ 1000000000000) : rgK1 [.int n] S = .ok (rangeL 0 n) S := if_pos h
def seqK (d : D) (S : Store) : RL := match hSeq d with
  | some l => .ok l S
  | none => .no
theorem ev_iseq {a : FE} {ρ : Env} {S : Store} : iSeq a ρ S = (a ρ S).bindL seqK := rfl
theorem seqK_lst {l : List D} {S : Store} : seqK (.lst l) S = .ok l S := rfl
theorem seqK_tup {l : List D} {S : Store} : seqK (.tup l) S = .ok l S := rfl
theorem seqK_scr {l : List D} {S : Store} : seqK (.scr l) S = .ok l S := rfl
theorem law_cx (P : Program) (w : World) (H : Hp) (s : Shared) (e : Value) (s' : Shared) (h : L2.CX P w [] H s (fun _ _ _ => False) e s') : False := by
  obtain ⟨_, _, _, _, _, _, _, _, _, _, _, _, z⟩ := h
  exact z.elim
theorem shrL_ints {T : Th} {g : G} {H : Hp} : ∀ ns : List Int, ShrL T g H (ns.map D.int) (ns.map V.int)
  | [] => .nil
  | n :: r => .cons (shr_int.mpr rfl) (shrL_ints r)
end Q

namespace Q
open PySem PySem.Spec PyProof.Rows L2
def G.bb (g : G) : G := { g with O := fun _ => False, F := fun _ _ => False }
theorem G.bb_U {g : G} {a : Addr} : g.bb.U a ↔ g.B a := ⟨fun h => h.elim False.elim fun h => h.elim (fun ⟨_, h⟩ => h.elim) id, fun h => .inr (.inr h)⟩
def G.plusF (g : G) (n : Nat) (Fo : Addr → Prop) : G := { g with F := fun j a => g.F j a ∨ (j = n ∧ Fo a) }
theorem G.plusF_U {g : G} {n : Nat} {Fo : Addr → Prop} {a : Addr} : (g.plusF n Fo).U a ↔ g.U a ∨ Fo a := by
  constructor
  · rintro (h | ⟨j, h | ⟨_, h⟩⟩ | h)
    · exact .inl (.inl h)
    · exact .inl (.inr (.inl ⟨j, h⟩))
    · exact .inr h
    · exact .inl (.inr (.inr h))
  · rintro ((h | ⟨j, h⟩ | h) | h)
    · exact .inl h
    · exact .inr (.inl ⟨j, .inl h⟩)
    · exact .inr (.inr h)
    · exact .inr (.inl ⟨n, .inr ⟨rfl, h⟩⟩)
mutual
def immD : D → Bool
  | .non => true
  | .bl _ => true
  | .int _ => true
  | .str _ => true
  | .tup l => immL l
  | _ => false
def immL : List D → Bool
  | [] => true
  | d :: r => immD d && immL r
end
section
variable {T : Th} {g g' g1 g2 : G} {H H' H1 : Hp} {Γ : List Md} {ρ : Env} {S : Store} {σ : L2.St}
theorem stay_bb (hN : g.N = g2.N) (hμ : g2.μ = g.μ) (hB : ∀ a, g2.B a → g.U a) (hZ : g2.Z = g.Z := by rfl) : Stay g H g2.bb H := ⟨fun _ _ h _ => h, fun a h => .inl (hB a (G.bb_U.mp h)), by show g.N ≤ g2.N; rw [hN]; exact Nat.le_refl _, fun n _ => by show g2.μ n = g.μ n; rw [hμ], hZ⟩
theorem Shr.bb {d : D} {v : V} (s : Shr T g H d v) : Shr T g.bb H d v := s.stay (stay_bb rfl rfl fun _ h => .inr (.inr h))
theorem FrE.bb (f : FrE g H g' H') : Stay g.bb H g'.bb H' where
  keep := fun a o h hu => f.keep a o h fun z => hu (G.bb_U.mpr z)
  own := fun a h => (f.B a (G.bb_U.mp h)).imp G.bb_U.mpr id
  N := f.N
  μ := f.μ
  Z := f.Z
mutual
theorem imm_shr (nt : ∀ a, g.U a → ∀ u, ¬ Rd H a (.tup u)) : ∀ (d : D) (v : V), immD d = true → Shr T g2 H d v → Shr T g H d v
  | .non, _, _, h => by simpa only [Shr] using h
  | .bl _, _, _, h => by simpa only [Shr] using h
  | .int _, _, _, h => by simpa only [Shr] using h
  | .str _, _, _, h => by simpa only [Shr] using h
  | .tup l, v, e, h => by
    simp only [Shr] at h ⊢
    obtain ⟨a, vs, e2, q, r⟩ := h
    exact ⟨a, vs, e2, q.imp (fun z => ⟨z.1, fun u => nt a u _ z.1⟩) id, imm_shrL nt l vs (by simpa only [immD] using e) r⟩
  | .lst _, _, e, _ => by simp only [immD] at e; cases e
  | .scr _, _, e, _ => by simp only [immD] at e; cases e
  | .dct _, _, e, _ => by simp only [immD] at e; cases e
  | .obj _, _, e, _ => by simp only [immD] at e; cases e
  | .fn _ _, _, e, _ => by simp only [immD] at e; cases e
  | .gone _, _, e, _ => by simp only [immD] at e; cases e
theorem imm_shrL (nt : ∀ a, g.U a → ∀ u, ¬ Rd H a (.tup u)) : ∀ (ds : List D) (vs : List V), immL ds = true → ShrL T g2 H ds vs → ShrL T g H ds vs
  | [], _, _, h => by simpa only [ShrL] using h
  | d :: ds, vs, e, h => by
    simp only [ShrL] at h ⊢
    simp only [immL, Bool.and_eq_true] at e
    obtain ⟨v, ws, e2, q, r⟩ := h
    exact ⟨v, ws, e2, imm_shr nt d v e.1 q, imm_shrL nt ds ws e.2 r⟩
end
theorem shr_of_own2 (st : Stay g2 H g H) : ∀ (k : Nat) (Fo : Addr → Prop) (d : D) (v : V), (∀ a, Fo a → ¬ g.U a) → Own T g2 H k Fo d v → Shr T g H d v := by
  intro k
  suffices hs : ∀ (k : Nat) (Fo F : Addr → Prop) (d : D) (v : V), (∀ a, F a → Fo a) → (∀ a, Fo a → ¬ g.U a) → Own T g2 H k F d v → Shr T g H d v from fun Fo d v h1 h => hs k Fo Fo d v (fun _ z => z) h1 h
  intro k
  induction k with
  | zero => intro Fo F d v hf hu h; simp only [Own] at h; exact h.stay st
  | succ k ih =>
    intro Fo F d v hf hu h
    cases d with
    | lst l =>
      simp only [Own] at h
      obtain ⟨p, vs, e, hF, hH, hl, Gs, h1, h2, h3⟩ := h
      exact shr_lst.mpr ⟨p, vs, e, ⟨hH, hu p (hf p hF)⟩, .of hl fun i d w a b => ih Fo (Gs i) d w (fun a z => hf a (h1 i a z).1) hu (h3 i d w a b)⟩
    | dct l =>
      simp only [Own] at h
      obtain ⟨p, vs, e, hF, hH, hl, Gs, h1, h2, h3⟩ := h
      simp only [Shr]
      exact ⟨p, vs, e, ⟨hH.shr, hu p (hf p hF)⟩, .of hl fun i d w a b => ⟨(h3 i d w a b).1.stay st, ih Fo (Gs i) d.2 w.2 (fun a z => hf a (h1 i a z).1) hu (h3 i d w a b).2⟩⟩
    | _ => simp only [Own] at h; exact h.stay st
theorem own1_lst {F : Addr → Prop} {l : List D} {v : V} : Own T g H 1 F (.lst l) v ↔ ∃ p vs, v = .ref p ∧ F p ∧ H p = some (.lst vs) ∧ ShrL T g H l vs := by
  simp only [Own]
  constructor
  · rintro ⟨p, vs, e, hF, hH, hl, Gs, h1, h2, h3⟩
    exact ⟨p, vs, e, hF, hH, .of hl fun i d w a b => h3 i d w a b⟩
  · rintro ⟨p, vs, e, hF, hH, s⟩
    refine ⟨p, vs, e, hF, hH, s.length, fun _ _ => False, fun _ _ z => z.elim, fun _ _ _ z => z.elim, fun j d w a b => ?_⟩
    obtain ⟨w', h1, h2⟩ := s.get a
    rw [b] at h1; cases h1
    exact h2
theorem Rel.bb (R : Rel T g Γ ρ S σ H) {i : Nat} {d : D} (e : ρ[i]? = some (some d)) (hm : ∀ v, Γ.getD i .s ≠ .e v) (hm2 : ∀ w dd fs, Γ.getD i .s ≠ .x w dd fs) : ∃ v, σ[i]? = some (some v) ∧ Shr T g.bb H d v := by
  obtain ⟨v, h1, h2⟩ := R.slot i d e
  refine ⟨v, h1, ?_⟩
  have st : Stay g H g.bb H := stay_bb rfl rfl fun _ h => .inr (.inr h)
  cases hq : Γ.getD i .s <;> rw [hq] at h2 <;> simp only [RepM] at h2
  · exact h2.bb
  · exact shr_of_own2 st _ _ _ _ (fun a z u => R.dFB i a z (G.bb_U.mp u)) h2
  · exact shr_of_own2 st _ _ _ _ (fun a z u => R.dOB a z (G.bb_U.mp u)) h2
  · exact shr_of_own2 st _ _ _ _ (fun a z u => R.dFB i a z (G.bb_U.mp u)) h2.2
  · exact absurd hq (hm _)
  · exact h2.stay (show Stay g.bare H g.bb H from stay_bb rfl rfl fun _ h => .inr (.inr h))
  · exact absurd hq (hm2 _ _ _)
end
def GoodQ (T : Th) (W : WX) (Γ : List Md) (ρ : Env) (σ : L2.St) (g : G) (H : Hp) : RE → VK → Prop
  | .ok d S', Q => ∀ v g' H', Rel T g' Γ ρ S' σ H' → FrE g H g' H' → Shr T g'.bb H' d v → Q v H'
  | .exc x S', _ => ∀ c dd g' H', Rel T g' Γ ρ S' σ H' → FrE g H g' H' → ExcR T g' H' x c dd → W c dd σ H'
  | .no, _ => False
def tQ (T : Th) (W : WX) (Γ : List Md) (F : FE) : TE := fun σ H Q => ∃ g ρ S, Rel T g Γ ρ S σ H ∧ GoodQ T W Γ ρ σ g H (F ρ S) Q
abbrev XQ (X : Cx) (T : Th) (W : WX) (Γ : List Md) (e : Expr) (F : FE) : Prop := PE X e (tQ T W Γ F)
def eFlat (a : FE) : FE := fun ρ S => (a ρ S).bind fun d S1 => if immD d = true then .ok d S1 else .no
section
variable {X : Cx} {T : Th} {W : WX} {Γ : List Md}
theorem xq_of {e : Expr} {F : FE} (h : XE X T W Γ e F) : XQ X T W Γ e F := pe_imp h fun σ H Q ⟨g, ρ, S, R, hg⟩ => by
  refine ⟨g, ρ, S, R, ?_⟩
  cases r : F ρ S with
  | ok d S1 => rw [r] at hg; exact fun v g' H' R' f' s => hg v g' H' R' f' s.bb
  | exc x S1 => rw [r] at hg; exact hg
  | no => rw [r] at hg; exact hg
theorem xq_var {i : Nat} {e : Expr} (he : PE X e (tVar i)) (hm : ∀ v, Γ.getD i .s ≠ .e v) (hm2 : ∀ w dd fs, Γ.getD i .s ≠ .x w dd fs := by intro w dd fs h; first | cases h | (rw [rep_s] at h; cases h) | simp_all) : XQ X T W Γ e (eVar i) := pe_imp he fun σ H Q ⟨g, ρ, S, R, h⟩ => by
  have h : GoodQ T W Γ ρ σ g H (match ρ[i]? with | some (some d) => RE.ok d S | _ => .no) Q := h
  split at h
  · rename_i d e
    obtain ⟨v, h1, h2⟩ := R.bb e hm hm2
    exact ⟨v, h1, h v g H R (.refl g H) h2⟩
  · exact h.elim
theorem xe_flat {e : Expr} {F : FE} (h : XQ X T W Γ e F) : XE X T W Γ e (eFlat F) := pe_imp h fun σ H Q ⟨g, ρ, S, R, hg⟩ => by
  refine ⟨g, ρ, S, R, ?_⟩
  unfold eFlat at hg
  cases r : F ρ S with
  | ok d S1 =>
    rw [r] at hg
    have hg : GoodE T W Γ ρ σ g H (if immD d = true then RE.ok d S1 else .no) Q := hg
    split at hg
    · rename_i hd
      exact fun v g' H' R' f' s => hg v g' H' R' f' (imm_shr R'.nt d v hd s)
    · exact hg.elim
  | exc x S1 => rw [r] at hg; exact hg
  | no => rw [r] at hg; exact hg
theorem goodQ_bind {ρ : Env} {σ : L2.St} {g : G} {H : Hp} {r : RE} {k : D → Store → RE} {Q Q' : VK} (h : GoodQ T W Γ ρ σ g H (r.bind k) Q)
    (hk : ∀ d S v g' H', r = .ok d S → Rel T g' Γ ρ S σ H' → FrE g H g' H' → Shr T g'.bb H' d v → GoodQ T W Γ ρ σ g' H' (k d S) Q → Q' v H') : GoodQ T W Γ ρ σ g H r Q' := by
  cases r with
  | ok d S =>
    intro v g' H' R f s
    refine hk d S v g' H' rfl R f s ?_
    have h' : GoodQ T W Γ ρ σ g H (k d S) Q := h
    cases e : k d S with
    | ok d2 S2 =>
      rw [e] at h'
      exact fun v2 g2 H2 R2 f2 s2 => h' v2 g2 H2 R2 (f.trans f2) s2
    | exc x S2 =>
      rw [e] at h'
      exact fun c dd g2 H2 R2 f2 s2 => h' c dd g2 H2 R2 (f.trans f2) s2
    | no => rw [e] at h'; exact h'
  | exc x S => exact h
  | no => exact h
theorem goodQ_of {ρ : Env} {σ : L2.St} {g : G} {H : Hp} {S : Store} {o : Option D} {Q : VK} (h : GoodQ T W Γ ρ σ g H (.of S o) Q) : ∃ d, o = some d ∧ GoodQ T W Γ ρ σ g H (.ok d S) Q := by
  cases o with
  | none => exact h.elim
  | some d => exact ⟨d, rfl, h⟩
theorem xq_op {e : Expr} {r : R2} {h : D → D → Option D} {a b : Expr} {A B : FE} (ok : OpOk T r h) (ha : XQ X T W Γ a A) (hb : XQ X T W Γ b B)
    (he : PE X a (tQ T W Γ A) → PE X b (tQ T W Γ B) → PE X e (tOp r (tQ T W Γ A) (tQ T W Γ B))) : XQ X T W Γ e (eOp h A B) := pe_imp (he ha hb) fun σ H Q ⟨g, ρ, S, R, hg⟩ =>
  ⟨g, ρ, S, R, goodQ_bind hg fun x S1 v g1 H1 _ R1 f1 s1 hg1 => ⟨g1, ρ, S1, R1, goodQ_bind hg1 fun y S2 w g2 H2 _ R2 f2 s2 hg2 => by
    obtain ⟨z, ez, hg3⟩ := goodQ_of hg2
    exact ok g2.bb H2 x y z v w (s1.stay f2.bb) s2 ez (fun a u => R2.dom a (.inr (.inr (G.bb_U.mp u)))) Q fun u H' ex su => hg3 u g2 H' (R2.ex ex) (.ex ex) su⟩⟩
def GoodQL (T : Th) (W : WX) (Γ : List Md) (ρ : Env) (σ : L2.St) (g : G) (H : Hp) : RL → (List V → Hp → Prop) → Prop
  | .ok d S', Q => ∀ v g' H', Rel T g' Γ ρ S' σ H' → FrE g H g' H' → ShrL T g'.bb H' d v → Q v H'
  | .exc x S', _ => ∀ c dd g' H', Rel T g' Γ ρ S' σ H' → FrE g H g' H' → ExcR T g' H' x c dd → W c dd σ H'
  | .no, _ => False
def tQL (T : Th) (W : WX) (Γ : List Md) (F : FL) : TA := fun σ H Q => ∃ g ρ S, Rel T g Γ ρ S σ H ∧ GoodQL T W Γ ρ σ g H (F ρ S) Q
abbrev XQL (X : Cx) (T : Th) (W : WX) (Γ : List Md) (es : List Expr) (F : FL) : Prop := PA X es (tQL T W Γ F)
theorem xql_nil : XQL X T W Γ [] lNil := pa_imp pa_nil fun σ H Q ⟨g, ρ, S, R, hg⟩ => hg [] g H R (.refl g H) .nil
theorem xql_cons {e : Expr} {es : List Expr} {A : FE} {B : FL} (ha : XQ X T W Γ e A) (hb : XQL X T W Γ es B) (hx : PE X e (tQ T W Γ A) → PA X es (tQL T W Γ B) → PA X (e :: es) (tCons (tQ T W Γ A) (tQL T W Γ B))) : XQL X T W Γ (e :: es) (lCons A B) := pa_imp (hx ha hb) fun σ H Q ⟨g, ρ, S, R, hg⟩ => by
  refine ⟨g, ρ, S, R, ?_⟩
  unfold lCons at hg
  cases e : A ρ S with
  | ok x S1 =>
    rw [e] at hg
    intro v g1 H1 R1 f1 s1
    refine ⟨g1, ρ, S1, R1, ?_⟩
    have hg : GoodQL T W Γ ρ σ g H (match B ρ S1 with | .ok xs S2 => .ok (x :: xs) S2 | .exc x S2 => .exc x S2 | .no => .no) Q := hg
    cases e2 : B ρ S1 with
    | ok xs S2 =>
      rw [e2] at hg
      exact fun vs g2 H2 R2 f2 s2 => hg (v :: vs) g2 H2 R2 (f1.trans f2) (.cons (s1.stay f2.bb) s2)
    | exc y S2 =>
      rw [e2] at hg
      exact fun c dd g2 H2 R2 f2 s2 => hg c dd g2 H2 R2 (f1.trans f2) s2
    | no =>
      rw [e2] at hg
      exact hg
  | exc y S1 => rw [e] at hg; exact hg
  | no => rw [e] at hg; exact hg
theorem goodQL_then {ρ : Env} {σ : L2.St} {g : G} {H : Hp} {A : FL} {h : List D → Option D} {S : Store} {Q : VK} {Q' : List V → Hp → Prop} (hg : GoodQ T W Γ ρ σ g H (eL h A ρ S) Q)
    (hk : ∀ ds S' z vs g' H', h ds = some z → Rel T g' Γ ρ S' σ H' → FrE g H g' H' → ShrL T g'.bb H' ds vs → GoodQ T W Γ ρ σ g' H' (.ok z S') Q → Q' vs H') : GoodQL T W Γ ρ σ g H (A ρ S) Q' := by
  unfold eL at hg
  cases e : A ρ S with
  | ok ds S' =>
    rw [e] at hg
    intro vs g' H' R f s
    obtain ⟨z, ez, hg⟩ := goodQ_of hg
    exact hk ds S' z vs g' H' ez R f s fun v2 g2 H2 R2 f2 s2 => hg v2 g2 H2 R2 (f.trans f2) s2
  | exc x S' => rw [e] at hg; exact hg
  | no => rw [e] at hg; exact hg
theorem xq_L {e : Expr} {r : List V → Hp → VK → Prop} {h : List D → Option D} {as : List Expr} {A : FL} (ok : LsOk T r h) (ha : XQL X T W Γ as A) (he : PA X as (tQL T W Γ A) → PE X e (tCB r (tQL T W Γ A))) : XQ X T W Γ e (eL h A) := pe_imp (he ha) fun σ H Q ⟨g, ρ, S, R, hg⟩ =>
  ⟨g, ρ, S, R, goodQL_then hg fun ds S1 z vs g1 H1 ez R1 f1 s1 hg1 => ok g1.bb H1 ds z vs s1 ez (fun a u => R1.dom a (.inr (.inr (G.bb_U.mp u)))) Q fun u H' ex su => hg1 u g1 H' (R1.ex ex) (.ex ex) su⟩
end
def GoodN (T : Th) (W : WX) (Γ : List Md) (k : Nat) (ρ : Env) (σ : L2.St) (g : G) (H : Hp) : RE → VK → Prop
  | .ok d S', Q => ∀ v g' H' Fo, Rel T (g'.plusF ρ.length Fo) Γ ρ S' σ H' → FrE g H g' H' → (∀ a, Fo a → ¬ g'.U a ∧ (g.B a ∨ H a = none)) → Own T (g'.plusF ρ.length Fo) H' k Fo d v → Q v H'
  | .exc x S', _ => ∀ c dd g' H', Rel T g' Γ ρ S' σ H' → FrE g H g' H' → ExcR T g' H' x c dd → W c dd σ H'
  | .no, _ => False
def tN (T : Th) (W : WX) (Γ : List Md) (k : Nat) (F : FE) : TE := fun σ H Q => ∃ g ρ S, Rel T g Γ ρ S σ H ∧ GoodN T W Γ k ρ σ g H (F ρ S) Q
abbrev XF (X : Cx) (T : Th) (W : WX) (Γ : List Md) (k : Nat) (e : Expr) (F : FE) : Prop := PE X e (tN T W Γ k F)
section
variable {X : Cx} {T : Th} {W : WX} {Γ : List Md} {g g' : G} {H H' : Hp} {ρ : Env} {S S' : Store} {σ : L2.St} {Fo : Addr → Prop}
theorem Rel.unplus (R : Rel T (g.plusF ρ.length Fo) Γ ρ S σ H) : Rel T g Γ ρ S σ H := by
  refine R.shift rfl rfl rfl rfl (fun a h => G.plusF_U.mpr (.inl h)) (fun i j a h h' => R.dF i j a (.inl h) (.inl h')) (fun i a h => R.dFO i a (.inl h)) (fun a h => .inl h) (fun i a h => .inl ⟨i, .inl h⟩) R.len fun st i d e => ?_
  obtain ⟨v, h1, h2⟩ := R.slot i d e
  have hi : i < ρ.length := (List.getElem?_eq_some_iff.mp e).1
  exact ⟨v, h1, h2.stay st (fun a z => z.elim id fun z => absurd z.1 (by omega)) (fun a z => z) rfl (bare_sub rfl rfl (fun i a z => ⟨i, .inl z⟩) fun _ z => z)⟩
theorem stay_unplus {n : Nat} : Stay (g.plusF n Fo) H g H := ⟨fun _ _ h _ => h, fun a h => .inl (G.plusF_U.mpr (.inl h)), Nat.le_refl _, fun _ _ => rfl, rfl⟩
theorem Rel.fresh {p : Addr} {o : HO} (R : Rel T g Γ ρ S σ H) (hp : H p = none) (ho : ∀ u, o ≠ .tup u ∧ ∀ b, o ≠ .frz b (.tup u)) : Rel T (g.plusF ρ.length (· = p)) Γ ρ S σ (upd H p o) := by
  have ex : Exx H (upd H p o) := Exx.new hp
  have np : ∀ a, g.U a → a ≠ p := fun a u z => by
    obtain ⟨o, q⟩ := R.dom a u
    rw [z, hp] at q; cases q
  have st : Stay g H (g.plusF ρ.length (· = p)) (upd H p o) := ⟨fun a o h _ => ex a o h, fun a h => (G.plusF_U.mp h).imp id fun z => by rw [z]; exact hp, Nat.le_refl _, fun _ _ => rfl, rfl⟩
  have stb : Stay g.bare H (g.plusF ρ.length (· = p)).bare (upd H p o) := ⟨fun a o h _ => ex a o h, fun a h => by
    rcases h with h | ⟨j, h | h⟩ | h
    · exact h.elim
    · exact .inl (.inr (.inl ⟨j, h⟩))
    · exact .inr (by rw [h.2]; exact hp)
    · exact .inl (.inr (.inr h)), Nat.le_refl _, fun _ _ => rfl, rfl⟩
  refine ⟨R.len, fun i d e => ?_, fun i j a h h' => ?_, fun i a h u => ?_, fun i a h u => ?_, R.dOB, fun a h => ?_, R.st.keep st (fun a o _ q => ex a o q) rfl rfl rfl fun _ _ => rfl, fun a h => ?_⟩
  · obtain ⟨v, h1, h2⟩ := R.slot i d e
    refine ⟨v, h1, ?_⟩
    cases hm : Γ.getD i .s <;> rw [hm] at h2 <;> simp only [RepM] at h2 ⊢
    · exact h2.stay st
    · exact Own.wide _ _ _ _ _ (fun a z => .inl z) (Own.keepF st _ _ _ _ (fun a o _ q => ex a o q) h2)
    · exact Own.keepF st _ _ _ _ (fun a o _ q => ex a o q) h2
    · exact ⟨h2.1, Own.wide _ _ _ _ _ (fun a z => .inl z) (Own.keepF st _ _ _ _ (fun a o _ q => ex a o q) h2.2)⟩
    · exact h2
    · exact h2.stay stb
    · exact ⟨h2.1, (st).keep _ _ h2.2.1 h2.2.2, (st).off h2.2.1 h2.2.2⟩
  · rcases h with h | h <;> rcases h' with h' | h'
    · exact R.dF i j a h h'
    · exact absurd h'.2 (np a (.inr (.inl ⟨i, h⟩)))
    · exact absurd h.2 (np a (.inr (.inl ⟨j, h'⟩)))
    · rw [h.1, h'.1]
  · rcases h with h | h
    · exact R.dFO i a h u
    · exact np a (.inl u) h.2
  · rcases h with h | h
    · exact R.dFB i a h u
    · exact np a (.inr (.inr u)) h.2
  · rcases G.plusF_U.mp h with u | u
    · obtain ⟨o, q⟩ := R.dom a u
      exact ⟨o, ex a o q⟩
    · exact ⟨o, by rw [u]; exact upd_same⟩
  · rcases G.plusF_U.mp h with u | u
    · exact ex.nt R.dom R.nt a u
    · intro w r
      rw [u] at r
      rcases r with r | ⟨b, r⟩
      · rw [upd_same] at r; cases r; exact (ho w).1 rfl
      · rw [upd_same] at r; cases r; exact (ho w).2 b rfl
theorem stay_fresh {p : Addr} {o : HO} (hp : H p = none) : Stay g H (g.plusF ρ.length (· = p)) (upd H p o) := ⟨fun a o h _ => Exx.new hp a o h, fun a h => (G.plusF_U.mp h).imp id fun z => by rw [z]; exact hp, Nat.le_refl _, fun _ _ => rfl, rfl⟩
theorem Rel.fresh_lst {p : Addr} {l : List D} {vs : List V} (R : Rel T g Γ ρ S σ H) (hp : H p = none) (s : ShrL T g H l vs) : Own T (g.plusF ρ.length (· = p)) (upd H p (.lst vs)) 1 (· = p) (.lst l) (.ref p) := own1_lst.mpr ⟨p, vs, rfl, rfl, upd_same, s.stay (stay_fresh hp)⟩
theorem Rel.fresh_out {p : Addr} (R : Rel T g Γ ρ S σ H) (hp : H p = none) : ∀ a, a = p → ¬ g.U a ∧ (g.B a ∨ H a = none) := fun a z => by
  refine ⟨fun u => ?_, .inr (by rw [z]; exact hp)⟩
  obtain ⟨o, q⟩ := R.dom a u
  rw [z, hp] at q; cases q
theorem goodN_then {A : FL} {h : List D → Option D} {k : Nat} {Q : VK} {Q' : List V → Hp → Prop} (hg : GoodN T W Γ k ρ σ g H (eL h A ρ S) Q)
    (hk : ∀ ds S' z vs g' H', h ds = some z → Rel T g' Γ ρ S' σ H' → FrE g H g' H' → ShrL T g' H' ds vs → GoodN T W Γ k ρ σ g H (.ok z S') Q → Q' vs H') : GoodL T W Γ ρ σ g H (A ρ S) Q' := by
  unfold eL at hg
  cases e : A ρ S with
  | ok ds S' =>
    rw [e] at hg
    intro vs g' H' R f s
    have hg : GoodN T W Γ k ρ σ g H (RE.of S' (h ds)) Q := hg
    cases ez : h ds with
    | none => rw [ez] at hg; exact hg.elim
    | some z => rw [ez] at hg; exact hk ds S' z vs g' H' ez R f s hg
  | exc x S' => rw [e] at hg; exact hg
  | no => rw [e] at hg; exact hg
theorem FrE.none {p : Addr} (f : FrE g H g' H') (hp : H' p = none) : g.B p ∨ H p = none := by
  cases e : H p with
  | none => exact .inr rfl
  | some o =>
    obtain ⟨o', h'⟩ := f.dom p o e
    rw [hp] at h'; cases h'
theorem xf_lst {es : List Expr} {A : FL} (ha : XL X T W Γ es A) {pos : Pos} : XF X T W Γ 1 (.List es pos) (eLst A) := pe_imp (pe_lst ha) fun σ H Q ⟨g, ρ, S, R, hg⟩ =>
  ⟨g, ρ, S, R, goodN_then hg fun ds S1 z vs g1 H1 ez R1 f1 s1 hg1 => by
    split at ez
    · rename_i hl
      cases ez
      refine ⟨by rw [← s1.length]; exact sz6 hl, fun p hp => hg1 _ g1 _ (· = p) (R1.fresh hp fun _ => ⟨nofun, fun _ => nofun⟩) (f1.trans (.ex (Exx.new hp))) (fun a z => ⟨(R1.fresh_out hp a z).1, ?_⟩) (R1.fresh_lst hp s1)⟩
      rw [z]; exact f1.none hp
    · cases ez⟩
def G.take (g : G) (i : Nat) (Fo : Addr → Prop) : G := { g with F := fun j a => (j = i ∧ Fo a) ∨ (j ≠ i ∧ g.F j a) }
theorem xs_ownP {J : Jd} {Γ' : List Md} {i k : Nat} {A : FE} {st : Stmt} (hx : J.ΓX Γ) (hi : i < Γ.length) (he : PS X st (tAsg (tN T J.W Γ k A) (gName i))) (hΓ : Γ.set i (.o k) = Γ') : XS X T J Γ Γ' st (fSet i A) := ps_imp he fun D σ H ⟨g, ρ, S, R, h⟩ => by
  refine ⟨g, ρ, S, R, ?_⟩
  unfold fSet at h
  cases r : A ρ S with
  | no => rw [r] at h; exact h
  | exc x S1 => rw [r] at h; exact fun c dd g' H' R' f e => h Γ c dd σ g' H' hx R' (f.frs R.dOB) e
  | ok d S1 =>
    rw [r] at h
    intro v g' H' Fo R' f ho hw
    have h : GoodS T J Γ' g H (.nx (ρ.set i (some d)) S1) D := h
    refine h (σ.set i (some v)) (g'.take i Fo) H' ?_ ?_
    · rw [← hΓ]
      have hsub : ∀ j a, (g'.take i Fo).F j a → ∃ k, (g'.plusF ρ.length Fo).F k a := fun j a z => by
        rcases z with z | z
        · exact ⟨ρ.length, .inr ⟨rfl, z.2⟩⟩
        · exact ⟨j, .inl z.2⟩
      have hUU : ∀ a, (g'.take i Fo).U a → (g'.plusF ρ.length Fo).U a := fun a u => by
        rcases u with u | ⟨j, u⟩ | u
        · exact .inl u
        · exact .inr (.inl (hsub j a u))
        · exact .inr (.inr u)
      refine R'.shift rfl rfl rfl rfl hUU (fun j k a h h' => ?_) (fun j a h u => ?_) (fun a h => .inl h) (fun j a h => .inl (hsub j a h)) (by simp [R'.len]) fun st j d' e => ?_
      · rcases h with h | h <;> rcases h' with h' | h'
        · rw [h.1, h'.1]
        · exact absurd (.inr (.inl ⟨k, h'.2⟩)) (ho a h.2).1
        · exact absurd (.inr (.inl ⟨j, h.2⟩)) (ho a h'.2).1
        · exact R'.dF j k a (.inl h.2) (.inl h'.2)
      · rcases h with h | h
        · exact (ho a h.2).1 (.inl u)
        · exact R'.dFO j a (.inl h.2) u
      · by_cases hj : i = j
        · subst hj
          have hlt : i < ρ.length := by
            have := (List.getElem?_eq_some_iff.mp e).1
            simpa using this
          rw [List.getElem?_set_self hlt] at e
          cases e
          refine ⟨v, by rw [List.getElem?_set_self (by rw [← R'.len]; exact hlt)], ?_⟩
          rw [getD_set_self hi]
          have q : Own T (g'.take i Fo) H' k Fo d v := Own.keepF st _ _ _ _ (fun _ _ _ q => q) hw
          exact Own.wide k _ ((g'.take i Fo).F i) d v (fun a z => .inl ⟨rfl, z⟩) q
        · rw [List.getElem?_set_ne hj] at e
          obtain ⟨w, h1, h2⟩ := R'.slot j d' e
          have hjl : j < ρ.length := (List.getElem?_eq_some_iff.mp e).1
          refine ⟨w, by rw [List.getElem?_set_ne hj]; exact h1, ?_⟩
          rw [getD_set_ne hj]
          exact h2.stay st (fun a z => .inr ⟨fun z => hj z.symm, z.elim id fun z => absurd z.1 (by omega)⟩) (fun a z => z) rfl (bare_sub rfl rfl hsub fun _ z => z)
    · have f' := f.frs R.dOB
      refine ⟨f'.keep, fun a u => ?_, f'.O, f'.P, f'.N, f'.μ, f'.dom⟩
      rcases u with u | ⟨j, u | u⟩ | u
      · exact f'.own a (.inl u)
      · exact (ho a u.2).2.imp (fun z => .inr (.inr z)) id
      · exact f'.own a (.inr (.inl ⟨j, u.2⟩))
      · exact f'.own a (.inr (.inr u))
theorem xs_own {J : Jd} {Γ' : List Md} {i k : Nat} {e : Expr} {A : FE} {st : Stmt} (hx : J.ΓX Γ) (hi : i < Γ.length) (ha : XF X T J.W Γ k e A) (he : PE X e (tN T J.W Γ k A) → PS X st (tAsg (tN T J.W Γ k A) (gName i))) (hΓ : Γ.set i (.o k) = Γ') : XS X T J Γ Γ' st (fSet i A) := xs_ownP hx hi (he ha) hΓ
theorem Rel.frz {i : Nat} {k : Nat} (R : Rel T g Γ ρ S σ H) (hm : Γ.getD i .s = .o k) : Rel T (g.drop i) (Γ.set i .s) ρ S σ H := by
  refine R.shift rfl rfl rfl rfl (fun a h => G.drop_U h) (fun j k a h h' => R.dF j k a h.2 h'.2) (fun j a h => R.dFO j a h.2) (fun a h => .inl h) (fun j a h => .inl ⟨j, h.2⟩) R.len fun st j d' e => ?_
  obtain ⟨w, h1, h2⟩ := R.slot j d' e
  refine ⟨w, h1, ?_⟩
  by_cases hj : i = j
  · subst hj
    rw [getD_set_s]
    rw [hm] at h2
    refine shr_of_own2 st k (g.F i) d' w (fun a z u => ?_) h2
    rcases u with u | ⟨j, u⟩ | u
    · exact R.dFO i a z u
    · exact u.1 (R.dF j i a u.2 z)
    · exact R.dFB i a z u
  · rw [getD_set_ne hj]
    exact h2.stay st (fun a z => ⟨fun q => hj q.symm, z⟩) (fun a z => z) rfl (bare_sub rfl rfl (fun i a z => ⟨i, z.2⟩) fun _ z => z)
theorem xb_frz {J : Jd} {Γ' Γ1 : List Md} {i k : Nat} {rest : List Stmt} {B : FS} (hm : Γ.getD i .s = .o k) (hΓ : Γ.set i .s = Γ1) (hb : XB X T J Γ1 Γ' rest B) : XB X T J Γ Γ' rest B := pss_imp hb fun D σ H ⟨g, ρ, S, R, h⟩ =>
  ⟨g.drop i, ρ, S, by rw [← hΓ]; exact R.frz hm, GoodS.then h .drop⟩
theorem Rel.write {i : Nat} {p : Addr} {o : HO} {d : D} {v : V} (R : Rel T g Γ ρ S σ H) (hp : g.F i p) (ho : ∀ u, o ≠ .tup u ∧ ∀ b, o ≠ .frz b (.tup u)) (hv : σ[i]? = some (some v))
    (hr : Stay g H g (upd H p o) → RepM T g (upd H p o) i (Γ.getD i .s) d v) : Rel T g Γ (ρ.set i (some d)) S σ (upd H p o) := by
  have st : Stay g H g (upd H p o) := ⟨fun a u h hu => by rw [upd_ne (fun z => hu (.inr (.inl ⟨i, by rw [z]; exact hp⟩)))]; exact h, fun _ h => .inl h, Nat.le_refl _, fun _ _ => rfl, rfl⟩
  have stb : Stay g.bare H g.bare (upd H p o) := ⟨fun a u h hu => by rw [upd_ne (fun z => hu (.inr (.inl ⟨i, by rw [z]; exact hp⟩)))]; exact h, fun _ h => .inl h, Nat.le_refl _, fun _ _ => rfl, rfl⟩
  refine ⟨by simp [R.len], fun j d' e => ?_, R.dF, R.dFO, R.dFB, R.dOB, fun a h => ?_, R.st.keep st (fun a u hb h => by rw [upd_ne (fun z => R.dFB i p hp (by rw [← z]; exact hb))]; exact h) rfl rfl rfl fun _ _ => rfl, nt_upd R.nt ho⟩
  · by_cases hj : i = j
    · subst hj
      have hlt : i < ρ.length := by
        have := (List.getElem?_eq_some_iff.mp e).1
        simpa using this
      rw [List.getElem?_set_self hlt] at e
      cases e
      exact ⟨v, hv, hr st⟩
    · rw [List.getElem?_set_ne hj] at e
      obtain ⟨w, h1, h2⟩ := R.slot j d' e
      refine ⟨w, h1, ?_⟩
      have kF : ∀ a u, g.F j a → H a = some u → upd H p o a = some u := fun a u z q => by rw [upd_ne (fun w => hj (R.dF i j p hp (by rw [← w]; exact z)))]; exact q
      cases hm : Γ.getD j .s <;> rw [hm] at h2 <;> simp only [RepM] at h2 ⊢
      · exact h2.stay st
      · exact Own.keepF st _ _ _ _ kF h2
      · exact Own.keepF st _ _ _ _ (fun a u z q => by rw [upd_ne (fun w => R.dFO i p hp (by rw [← w]; exact z))]; exact q) h2
      · exact ⟨h2.1, Own.keepF st _ _ _ _ kF h2.2⟩
      · exact h2
      · exact h2.stay stb
      · exact ⟨h2.1, (st).keep _ _ h2.2.1 h2.2.2, (st).off h2.2.1 h2.2.2⟩
  · by_cases ha : a = p
    · subst ha; exact ⟨o, upd_same⟩
    · rw [upd_ne ha]; exact R.dom a h
theorem Rel.wrote {i : Nat} {p : Addr} {o : HO} (R : Rel T g Γ ρ S σ H) (hp : g.F i p) : FrS g H g (upd H p o) :=
  ⟨fun a u h hu => by rw [upd_ne (fun z => hu.elim (fun w => w (.inr (.inl ⟨i, by rw [z]; exact hp⟩))) fun w => R.dFO i p hp (by rw [← z]; exact w))]; exact h, fun _ h => .inl h, rfl, rfl, Nat.le_refl _, fun _ _ => rfl, fun a u h => by
    by_cases ha : a = p
    · subst ha; exact ⟨o, upd_same⟩
    · exact ⟨u, by rw [upd_ne ha]; exact h⟩⟩
def isOwn1 : Md → Prop
  | .o 1 => True
  | .p 1 => True
  | _ => False
theorem Rel.own1 {i : Nat} {l : List D} (R : Rel T g Γ ρ S σ H) (hm : isOwn1 (Γ.getD i .s)) (e : ρ[i]? = some (some (.lst l))) : ∃ p vs, σ[i]? = some (some (.ref p)) ∧ g.F i p ∧ H p = some (.lst vs) ∧ ShrL T g H l vs ∧
    ∀ (l' : List D) (vs' : List V) (H' : Hp), H' p = some (.lst vs') → ShrL T g H' l' vs' → RepM T g H' i (Γ.getD i .s) (.lst l') (.ref p) := by
  obtain ⟨v, h1, h2⟩ := R.slot i _ e
  cases hq : Γ.getD i .s <;> rw [hq] at h2 hm <;> simp only [isOwn1] at hm
  · rename_i k
    split at hm
    · rename_i hk
      cases hk
      obtain ⟨p, vs, rfl, hF, hH, s⟩ := own1_lst.mp (show Own T g H 1 (g.F i) (.lst l) v from h2)
      exact ⟨p, vs, h1, hF, hH, s, fun l' vs' H' a b => own1_lst.mpr ⟨p, vs', rfl, hF, a, b⟩⟩
    · rename_i hk; cases hk
    · exact hm.elim
  · rename_i k
    split at hm
    · rename_i hk; cases hk
    · rename_i hk
      cases hk
      have h2 : v = g.P i ∧ Own T g H 1 (g.F i) (.lst l) v := h2
      obtain ⟨p, vs, e2, hF, hH, s⟩ := own1_lst.mp h2.2
      subst e2
      exact ⟨p, vs, h1, hF, hH, s, fun l' vs' H' a b => ⟨h2.1, own1_lst.mpr ⟨p, vs', rfl, hF, a, b⟩⟩⟩
    · exact hm.elim
end
end Q

namespace Q
open PySem PySem.Spec PyProof.Rows L2
abbrev HM := List D → List D → Option (D × List D)
def MutOk (T : Th) (r : V → List V → Hp → VK → Prop) (h : HM) : Prop := ∀ (g : G) (H : Hp) (p : Addr) (l ds l' : List D) (z : D) (vs ws : List V), H p = some (.lst vs) → ShrL T g H l vs → ShrL T g H ds ws → g.U p → h l ds = some (z, l') →
  ∀ Q : VK, (∀ u vs', ShrL T g H l' vs' → Shr T g H z u → Q u (upd H p (.lst vs'))) → r (.ref p) ws H Q
def fMut (i : Nat) (h : HM) (a : FL) : FS := fun ρ S => match ρ[i]? with
  | some (some (.lst l)) => (match a ρ S with
    | .ok ds S1 => (match h l ds with
      | some (_, l') => .nx (ρ.set i (some (.lst l'))) S1
      | none => .no)
    | .exc x S1 => .exc x ρ S1
    | .no => .no)
  | _ => .no
def fMutSet (j i : Nat) (h : HM) (a : FL) : FS := fun ρ S => match ρ[i]? with
  | some (some (.lst l)) => (match a ρ S with
    | .ok ds S1 => (match h l ds with
      | some (z, l') => .nx ((ρ.set i (some (.lst l'))).set j (some z)) S1
      | none => .no)
    | .exc x S1 => .exc x ρ S1
    | .no => .no)
  | _ => .no
section
variable {X : Cx} {T : Th} {J : Jd} {Γ : List Md}
theorem mut_core {g1 : G} {ρ : Env} {S1 : Store} {σ : L2.St} {H1 : Hp} {i : Nat} {l ds l' : List D} {z : D} {ws : List V} {r : V → List V → Hp → VK → Prop} {h : HM} {Q : VK} {p : Addr}
    (R1 : Rel T g1 Γ ρ S1 σ H1) (hm : isOwn1 (Γ.getD i .s)) (el : ρ[i]? = some (some (.lst l))) (ev : σ[i]? = some (some (.ref p))) (ok : MutOk T r h) (sw : ShrL T g1 H1 ds ws) (eh : h l ds = some (z, l'))
    (q : ∀ u H2, Rel T g1 Γ (ρ.set i (some (.lst l'))) S1 σ H2 → FrS g1 H1 g1 H2 → Shr T g1 H2 z u → Q u H2) : r (.ref p) ws H1 Q := by
  obtain ⟨p', vs, h1, hF, hH, sl, mk⟩ := R1.own1 hm el
  rw [ev] at h1; cases h1
  refine ok g1 H1 p l ds l' z vs ws hH sl sw (.inr (.inl ⟨i, hF⟩)) eh Q fun u vs' s' su => ?_
  have st : Stay g1 H1 g1 (upd H1 p (.lst vs')) := ⟨fun a o h hu => by rw [upd_ne (fun z => hu (.inr (.inl ⟨i, by rw [z]; exact hF⟩)))]; exact h, fun _ h => .inl h, Nat.le_refl _, fun _ _ => rfl, rfl⟩
  refine q u _ ?_ (R1.wrote hF) (su.stay st)
  refine R1.write hF (fun _ => ⟨nofun, fun _ => nofun⟩) ev fun st => ?_
  exact mk l' vs' _ upd_same (ShrL.stay st _ _ s')
theorem xs_mut {i : Nat} {st : Stmt} {es : List Expr} {A : FL} {r : V → List V → Hp → VK → Prop} {h : HM} (hK : X.K = T.K) (hx : J.ΓX Γ) (hm : isOwn1 (Γ.getD i .s)) (ok : MutOk T r h) (ha : XL X T J.W Γ es A) (he : PA X es (tXL T J.W Γ A) → PS X st (tDrop (tBM X.K "list" r (tVar i) (tXL T J.W Γ A)))) : XS X T J Γ Γ st (fMut i h A) := ps_imp (he ha) fun D σ H ⟨g, ρ, S, R, hg⟩ => by
  unfold fMut at hg
  cases el : ρ[i]? with
  | none => rw [el] at hg; exact hg.elim
  | some o =>
    rw [el] at hg
    match o, hg, el with
    | some (.lst l), hg, el =>
      obtain ⟨p, vs, h1, hF, hH, sl, mk⟩ := R.own1 hm el
      refine ⟨.ref p, h1, .inl ⟨rfl, _, SqL.of hH⟩, g, ρ, S, R, ?_⟩
      cases ea : A ρ S with
      | no => rw [ea] at hg; exact hg
      | exc x S1 => rw [ea] at hg; exact fun c dd g' H' R' f' e => hg Γ c dd σ g' H' hx R' (f'.frs R.dOB) e
      | ok ds S1 =>
        rw [ea] at hg
        intro ws g1 H1 R1 f1 sw
        have hg : GoodS T J Γ g H (match h l ds with | some (_, l') => RS.nx (ρ.set i (some (.lst l'))) S1 | none => .no) D := hg
        cases eh : h l ds with
        | none => rw [eh] at hg; exact hg.elim
        | some zl =>
          rw [eh] at hg
          exact mut_core R1 hm el h1 ok sw eh fun u H2 R2 f2 _ => hg σ g1 H2 R2 ((f1.frs R.dOB).trans f2)
end
def mAppend : HM
  | l, [d] => if l.length < 1000000 then some (.non, l ++ [d]) else none
  | _, _ => none
section
variable {T : Th}
theorem len6 {l : List D} {vs : List V} {g : G} {H : Hp} (s : ShrL T g H l vs) (h : l.length < 1000000) : vs.length < sizeLine := by rw [← s.length, sizeLine_eq]; omega
theorem ok_append : MutOk T rAppend mAppend := by
  intro g H p l ds l' z vs ws hH sl sw hu eh Q q
  match ds, eh, sw with
  | [d], eh, sw =>
    simp only [mAppend] at eh
    split at eh
    · rename_i hl
      cases eh
      simp only [ShrL] at sw
      obtain ⟨y, _, rfl, sy, rfl⟩ := sw
      exact ⟨p, vs, y, rfl, rfl, hH, len6 sl hl, q _ _ (sl.append (.cons sy .nil)) (shr_non.mpr rfl)⟩
    · cases eh
end
end Q

namespace Q
open PySem PySem.Spec PyProof.Rows L2
def ShrM (T : Th) (g : G) (H : Hp) : List Bool → List D → List V → Prop
  | _, [], vs => vs = []
  | bs, d :: ds, vs => ∃ v ws, vs = v :: ws ∧ (Shr T (if bs.headD false = true then g.bb else g) H d v) ∧ ShrM T g H bs.tail ds ws
section
variable {T : Th} {g g' : G} {H H' : Hp}
theorem ShrM.length : ∀ {bs : List Bool} {ds : List D} {vs : List V}, ShrM T g H bs ds vs → ds.length = vs.length
  | _, [], _, h => by simp only [ShrM] at h; subst h; rfl
  | bs, d :: ds, vs, h => by
    simp only [ShrM] at h
    obtain ⟨v, ws, rfl, _, r⟩ := h
    simp only [List.length_cons, ShrM.length r]
theorem ShrM.get : ∀ {bs : List Bool} {ds : List D} {vs : List V} {i : Nat} {d : D}, ShrM T g H bs ds vs → ds[i]? = some d → ∃ v, vs[i]? = some v ∧ Shr T (if bs.getD i false = true then g.bb else g) H d v
  | _, [], _, _, _, _, e => by simp at e
  | bs, d :: ds, vs, i, d', h, e => by
    simp only [ShrM] at h
    obtain ⟨v, ws, rfl, q, r⟩ := h
    cases i with
    | zero =>
      simp at e; subst e
      refine ⟨v, rfl, ?_⟩
      cases bs <;> exact q
    | succ i =>
      obtain ⟨w, h1, h2⟩ := ShrM.get (i := i) r (by simpa using e)
      refine ⟨w, by simpa using h1, ?_⟩
      cases bs
      · simpa using h2
      · simpa using h2
theorem ShrM.stayE (f : FrE g H g' H') : ∀ {bs : List Bool} {ds : List D} {vs : List V}, ShrM T g H bs ds vs → ShrM T g' H' bs ds vs
  | _, [], _, h => by simpa only [ShrM] using h
  | bs, d :: ds, vs, h => by
    simp only [ShrM] at h ⊢
    obtain ⟨v, ws, e, q, r⟩ := h
    refine ⟨v, ws, e, ?_, ShrM.stayE f r⟩
    split
    · rename_i hb; rw [if_pos hb] at q; exact q.stay f.bb
    · rename_i hb; rw [if_neg hb] at q; exact q.stay f.stay
end
section
variable {X : Cx} {T : Th} {W : WX} {Γ : List Md} {bs : List Bool}
end
section
variable {P : Program} {w : World} {K : PySem.W.Frag} {mg : Str → Option Value} {base : Heap} {T : Th}
end
end Q

namespace Q
open PySem PySem.Spec PyProof.Rows L2
section
variable {X : Cx} {T : Th} {W : WX} {Γ : List Md}
theorem Rel.carryF {g g' : G} {ρ : Env} {S S' : Store} {σ : L2.St} {H H' : Hp} {Fo : Addr → Prop} (R : Rel T g Γ ρ S σ H) (f : FrE g H g' H') (hf : ∀ a, Fo a → g.B a ∨ H a = none) (j : Dj T (g'.plusF ρ.length Fo) S' H') : Rel T (g'.plusF ρ.length Fo) Γ ρ S' σ H' := by
  refine ⟨R.len, fun i d e => ?_, j.dF, j.dFO, j.dFB, j.dOB, j.dom, j.st, j.nt⟩
  have st : Stay g H (g'.plusF ρ.length Fo) H' := ⟨fun a o h hu => f.stay.keep a o h hu, fun a u => by
    rcases G.plusF_U.mp u with u | u
    · exact f.stay.own a u
    · exact (hf a u).imp (fun z => .inr (.inr z)) id, f.N, f.μ, f.Z⟩
  have stb : Stay g.bare H (g'.plusF ρ.length Fo).bare H' := ⟨fun a o h hu => f.bare.keep a o h hu, fun a u => by
    rcases u with u | ⟨j, u | u⟩ | u
    · exact u.elim
    · exact f.bare.own a (.inr (.inl ⟨j, u⟩))
    · exact (hf a u.2).imp (fun z => .inr (.inr z)) id
    · exact f.bare.own a (.inr (.inr u)), f.N, f.μ, f.Z⟩
  obtain ⟨v, h1, h2⟩ := R.slot i d e
  refine ⟨v, h1, ?_⟩
  have wF : ∀ a, g.F i a → (g'.plusF ρ.length Fo).F i a := fun a z => .inl (by rw [f.F]; exact z)
  cases hm : Γ.getD i .s <;> rw [hm] at h2 <;> simp only [RepM] at h2 ⊢
  · exact h2.stay st
  · exact Own.wide _ _ _ _ _ wF (Own.keepF st _ _ _ _ (fun a o z q => f.keep a o q (R.dFB i a z)) h2)
  · have := Own.keepF st _ _ _ _ (fun a o z q => f.keep a o q (R.dOB a z)) h2
    exact Own.wide _ _ _ _ _ (fun a z => by show g'.O a; rw [f.O]; exact z) this
  · exact ⟨h2.1.trans (by show g.P i = g'.P i; rw [f.P]), Own.wide _ _ _ _ _ wF (Own.keepF st _ _ _ _ (fun a o z q => f.keep a o q (R.dFB i a z)) h2.2)⟩
  · exact h2
  · exact h2.stay stb
  · exact ⟨h2.1, (st).keep _ _ h2.2.1 h2.2.2, (st).off h2.2.1 h2.2.2⟩
theorem lc_rd {vs : List Nat} {Γb : List Md} {is : List Nat} {t : TG} {tf : D → Env → Option Env} {FI : FL} {C E : FE} (his : ∀ j, j ∈ is → j ∈ vs) (ht : TgOk T Γ Γb is t tf) (σ : L2.St) (H : Hp) (Q : VK) (hh : tN T W Γ 1 (eLc FI vs tf C E) σ H Q) :
    tLc (tIF T W Γ FI) t (tXT T (fun _ _ _ _ => False) Γb C) (tX T (fun _ _ _ _ => False) Γb E) vs σ H Q := by
  obtain ⟨g, ρ, S, R, h⟩ := hh
  refine ⟨g, ρ, S, R, ?_⟩
  unfold eLc at h
  cases e : FI ρ S with
  | exc x S1 => rw [e] at h; exact h
  | no => rw [e] at h; exact h
  | ok ds S1 =>
    rw [e] at h
    intro It1 g1 H1 R1 f1 io p hp
    have h : GoodN T W Γ 1 ρ σ g H (match lcL tf C E ds (wipeE ρ vs) S1 with | .ok ys S2 => if ds.length ≤ 1000000 then RE.ok (.lst ys) S2 else .no | _ => .no) Q := h
    split at h
    · rename_i ys Sf el
      split at h
      · rename_i hlen
        have Rl := R1.lend vs
        have hpO : ∀ a, a = p → (g1.lend vs).U a → False := fun a ha u => by
          obtain ⟨o, q⟩ := Rl.dom a u
          rw [ha, hp] at q; cases q
        have Dp : Dj T ((g1.lend vs).plus (· = p)) S1 (upd H1 p (.lst [])) := by
          have st : Stay (g1.lend vs) (upd H1 p (.lst [])) ((g1.lend vs).plus (· = p)) (upd H1 p (.lst [])) → True := fun _ => trivial
          have e1 := Rl.ex (Exx.new (o := HO.lst []) hp)
          refine ⟨e1.dF, fun i a z w => w.elim (e1.dFO i a z) fun w => hpO a w (.inr (.inl ⟨i, z⟩)), e1.dFB, fun a w z => w.elim (fun w => e1.dOB a w z) fun w => hpO a w (.inr (.inr z)), fun a u => ?_, ?_, fun a u w r => ?_⟩
          · rcases u with (u | u) | u | u
            · exact e1.dom a (.inl u)
            · exact ⟨_, by rw [u]; exact upd_same⟩
            · exact e1.dom a (.inr (.inl u))
            · exact e1.dom a (.inr (.inr u))
          · refine Rl.st.keep (g' := (g1.lend vs).plus (· = p)) ⟨fun a o q _ => Exx.new hp a o q, fun a u => ?_, Nat.le_refl _, fun _ _ => rfl, rfl⟩ (fun a o _ q => Exx.new hp a o q) rfl rfl rfl fun _ _ => rfl
            rcases u with (u | u) | u | u
            · exact .inl (.inl u)
            · exact .inr (by rw [u]; exact hp)
            · exact .inl (.inr (.inl u))
            · exact .inl (.inr (.inr u))
          · by_cases ha : a = p
            · subst ha
              rcases r with r | ⟨b, r⟩
              · rw [upd_same] at r; cases r
              · rw [upd_same] at r; cases r
            · refine e1.nt a ?_ w r
              rcases u with (u | u) | u | u
              · exact .inl u
              · exact absurd u ha
              · exact .inr (.inl u)
              · exact .inr (.inr u)
        refine ⟨LcW T Γ vs tf C E g1 H1 ρ σ ds ys Sf p, ⟨ds.length, ⟨g1.lend vs, S1, [], [], ys, .ex (Exx.new hp), Dp, upd_same, .nil, by simp, Nat.zero_le _, Nat.zero_le _, by rw [List.drop_zero]; exact el, rfl⟩⟩, ?_⟩
        rintro i m H' ⟨g0, Si, vacc, acc, rest, fr, dj, hacc, sacc, em, hi', ha, hl, hy⟩
        have fO : ∀ a, a = p → H1 a = none := fun a z => by rw [z]; exact hp
        have Rw : Rel T (g0.plus (· = p)) Γ (wipeE ρ vs) Si (wipe σ vs) H' := Rl.carry fr fO dj
        have st0 : Stay g1 H1 g0 H' := ⟨fun a o q hu => fr.stay.keep a o q fun z => hu (G.lend_U.mp z), fun a u => (fr.stay.own a u).imp G.lend_U.mp id, fr.N, fr.μ, fr.Z⟩
        obtain ⟨i1, i2⟩ := io g0 H' i st0 fr.keep
        by_cases hlt : i < ds.length
        · refine .inr ?_
          obtain ⟨d, hd⟩ : ∃ d, ds[i]? = some d := ⟨ds[i], List.getElem?_eq_getElem hlt⟩
          have stp : Stay g1 H1 (g0.plus (· = p)) H' := ⟨st0.keep, fun a u => by
            rcases u with (u | u) | u | u
            · exact st0.own a (.inl u)
            · exact .inr (fO a u)
            · exact st0.own a (.inr (.inl u))
            · exact st0.own a (.inr (.inr u)), st0.N, st0.μ, st0.Z⟩
          obtain ⟨_, i2⟩ := io (g0.plus (· = p)) H' i stp fr.keep
          obtain ⟨go, yl⟩ := i2 d hd
          refine ⟨go, fun H2 => ∃ m', m' < m ∧ LcW T Γ vs tf C E g1 H1 ρ σ ds ys Sf p (i + 1) m' H2, fun H2 ⟨m', l, w⟩ => ⟨m', l, w⟩, fun x H2 y => ?_⟩
          obtain ⟨ex, sx⟩ := yl x H2 y
          have R2 := Rw.ex ex
          have ed : ds.drop i = d :: ds.drop (i + 1) := by
            rw [List.drop_eq_getElem_cons hlt]
            rw [List.getElem?_eq_getElem hlt] at hd
            rw [Option.some.inj hd]
          rw [ed, lcL] at hl
          split at hl
          · cases hl
          · rename_i ρ1 e1
            refine ht _ _ ρ1 Si _ H2 d x _ R2 sx e1 fun σ3 R3 l3 k3 => ⟨(wipe_get (is := is) l3 k3 his).trans wipe_wipe, _, ρ1, Si, R3, ?_⟩
            have fO2 : ∀ (g4 : G) (H4 : Hp), FrE ((g0.plus (· = p)).drops is) H2 g4 H4 → FrE (g1.lend vs) H1 { g4 with O := g0.O, F := g0.F } H4 ∧ ({ g4 with O := g0.O, F := g0.F } : G).plus (· = p) = g4 := fun g4 H4 f4 => by
              refine ⟨(fr.trans (.ex ex)).trans (f4.swap (g2 := g0) rfl rfl rfl rfl), ?_⟩
              have eO := f4.O
              have eF := f4.F
              obtain ⟨N4, μ4, O4, F4, B4, BF4, P4⟩ := g4
              simp only at eO eF
              subst eO eF
              show G.mk N4 μ4 (fun a => g0.O a ∨ a = p) g0.F B4 BF4 P4 = G.mk N4 μ4 (fun a => g0.O a ∨ a = p) (fun j a => j ∉ is ∧ g0.F j a) B4 BF4 P4
              congr 1
              funext j a
              rw [fr.F]
              exact propext ⟨fun z => ⟨fun w => z.1 (his j w), z⟩, fun z => z.2⟩
            have kp : ∀ (g4 : G) (H4 : Hp), FrE ((g0.plus (· = p)).drops is) H2 g4 H4 → g4.O p ∧ H4 p = some (.lst vacc) := fun g4 H4 f4 =>
              ⟨by rw [f4.O]; exact .inr rfl, f4.keep p _ (ex p _ hacc) (dj.dOB p (.inr rfl))⟩
            have sk : ∀ (g4 : G) (H4 : Hp), FrE ((g0.plus (· = p)).drops is) H2 g4 H4 → ShrL T g4 H4 acc vacc := fun g4 H4 f4 =>
              ShrL.stay (((Stay.ex ex).trans FrS.drops.stay).trans f4.stay) _ _ sacc
            split at hl
            · rename_i S2 ec
              rw [ec]
              refine ⟨true, rfl, fun g2 H3 R4 f3 => ?_⟩
              refine iteT ⟨g2, ρ1, S2, R4, ?_⟩
              split at hl
              · rename_i y2 S3 ey
                rw [ey]
                intro v g4 H4 R5 f4 s4
                have f34 := f3.trans f4
                obtain ⟨pO, pH⟩ := kp g4 H4 f34
                obtain ⟨fa, fe⟩ := fO2 g4 H4 f34
                have sa := sk g4 H4 f34
                split at hl
                · rename_i ys' S4 ely
                  cases hl
                  refine ⟨vacc, pH, by rw [← sa.length]; exact sz_lt6 (by omega), ds.length - (i + 1), by omega, ⟨{ g4 with O := g0.O, F := g0.F }, S3, vacc ++ [v], acc ++ [y2], ys', fa.upd hp, ?_, upd_same, ?_, rfl, hlt, by rw [List.length_append]; simp; omega, ely, by rw [hy, List.append_assoc]; rfl⟩⟩
                  · rw [fe]; exact R5.dj.write (fun _ => ⟨nofun, fun _ => nofun⟩) pO
                  · rw [fe]
                    have stw : Stay g4 H4 g4 (upd H4 p (.lst (vacc ++ [v]))) := ⟨fun a u h hu => by rw [upd_ne (fun z => hu (.inl (by rw [z]; exact pO)))]; exact h, fun _ h => .inl h, Nat.le_refl _, fun _ _ => rfl, rfl⟩
                    exact ShrL.append (sa.stay stw) ((ShrL.cons s4 .nil).stay stw)
                · cases hl
              · cases hl
            · rename_i S2 ec
              rw [ec]
              refine ⟨false, rfl, fun g2 H3 R4 f3 => iteF ?_⟩
              obtain ⟨pO, pH⟩ := kp g2 H3 f3
              obtain ⟨fa, fe⟩ := fO2 g2 H3 f3
              exact ⟨ds.length - (i + 1), by omega, ⟨{ g2 with O := g0.O, F := g0.F }, S2, vacc, acc, rest, fa, by rw [fe]; exact R4.dj, pH, by rw [fe]; exact sk g2 H3 f3, rfl, hlt, by omega, hl, hy⟩⟩
            · cases hl
        · have e1 : i = ds.length := by omega
          subst e1
          refine .inl ⟨i1 (Nat.le_refl _), ?_⟩
          rw [List.drop_length, lcL] at hl
          cases hl
          rw [List.append_nil] at hy
          subst hy
          have ff : FrE g1 H1 { g0 with O := g1.O, F := g1.F } H' := fr.swap (g2 := g1) rfl rfl rfl rfl
          have uu : ∀ a, ({ g0 with O := g1.O, F := g1.F } : G).U a → (g0.plus (· = p)).U a := fun a u => by
            rcases u with u | ⟨j, u⟩ | u
            · exact .inl (.inl (by rw [fr.O]; exact .inl u))
            · by_cases hj : j ∈ vs
              · exact .inl (.inl (by rw [fr.O]; exact .inr ⟨j, hj, u⟩))
              · exact .inr (.inl ⟨j, by rw [show (g0.plus (· = p)).F = g0.F from rfl, fr.F]; exact ⟨hj, u⟩⟩)
            · exact .inr (.inr u)
          have dOB' : ∀ a, (g1.O a ∨ ∃ j, g1.F j a) → ¬ g0.B a := fun a u z => by
            have := uu a (u.elim .inl fun w => .inr (.inl w))
            rcases fr.B a z with w | w
            · exact u.elim (fun q => R1.dOB a q w) fun ⟨j, q⟩ => R1.dFB j a q w
            · obtain ⟨o, q⟩ := R1.dom a (u.elim .inl fun q => .inr (.inl q))
              rw [w] at q; cases q
          have stf : Stay (g0.plus (· = p)) H' { g0 with O := g1.O, F := g1.F } H' := ⟨fun _ _ h _ => h, fun a u => .inl (uu a u), Nat.le_refl _, fun _ _ => rfl, rfl⟩
          have np : ¬ ({ g0 with O := g1.O, F := g1.F } : G).U p := fun u => by
            rcases u with u | u | u
            · obtain ⟨o, q⟩ := R1.dom p (.inl u)
              rw [hp] at q; cases q
            · obtain ⟨o, q⟩ := R1.dom p (.inr (.inl u))
              rw [hp] at q; cases q
            · exact dj.dOB p (.inr rfl) u
          have uu2 : ∀ a, (({ g0 with O := g1.O, F := g1.F } : G).plusF ρ.length (· = p)).U a → (g0.plus (· = p)).U a := fun a u => (G.plusF_U.mp u).elim (uu a) fun w => .inl (.inr w)
          have stf2 : Stay (g0.plus (· = p)) H' (({ g0 with O := g1.O, F := g1.F } : G).plusF ρ.length (· = p)) H' := ⟨fun _ _ h _ => h, fun a u => .inl (uu2 a u), Nat.le_refl _, fun _ _ => rfl, rfl⟩
          have djf : Dj T (({ g0 with O := g1.O, F := g1.F } : G).plusF ρ.length (· = p)) Sf H' := by
            refine ⟨fun i j a h h' => ?_, fun i a h u => ?_, fun i a h u => ?_, fun a u z => dOB' a (.inl u) z, fun a u => dj.dom a (uu2 a u), dj.st.keep stf2 (fun _ _ _ q => q) rfl rfl rfl fun _ _ => rfl, fun a u => dj.nt a (uu2 a u)⟩
            · rcases h with h | h <;> rcases h' with h' | h'
              · exact R1.dF i j a h h'
              · exact absurd (.inr (.inl ⟨i, by rw [← h'.2]; exact h⟩)) np
              · exact absurd (.inr (.inl ⟨j, by rw [← h.2]; exact h'⟩)) np
              · rw [h.1, h'.1]
            · rcases h with h | h
              · exact R1.dFO i a h u
              · exact np (.inl (by rw [← h.2]; exact u))
            · rcases h with h | h
              · exact dOB' a (.inr ⟨i, h⟩) u
              · exact dj.dOB a (.inr h.2) u
          refine h (.ref p) _ H' (· = p) (R1.carryF ff (fun a z => .inr (by rw [z]; exact hp)) djf) (f1.trans ff) (fun a z => ⟨by rw [z]; exact np, ?_⟩) (own1_lst.mpr ⟨p, vacc, rfl, rfl, hacc, ShrL.stay stf2 _ _ sacc⟩)
          rw [z]; exact f1.none hp
      · exact h.elim
    · exact h.elim
theorem tn_of {k : Nat} {F : FE} {σ : L2.St} {H : Hp} {Q : VK} (h : tX T W Γ F σ H Q) : tN T W Γ k F σ H Q := by
  obtain ⟨g, ρ, S, R, hg⟩ := h
  refine ⟨g, ρ, S, R, ?_⟩
  cases r : F ρ S with
  | ok d S1 =>
    rw [r] at hg
    exact fun v g' H' Fo R' f' ho hw => hg v g' H' R'.unplus f' (shr_of_own2 stay_unplus k Fo d v (fun a z => (ho a z).1) hw)
  | exc x S1 => rw [r] at hg; exact hg
  | no => rw [r] at hg; exact hg
theorem ps_lcX {i : Nat} {st : Stmt} {vs : List Nat} {Γb : List Md} {is : List Nat} {t : TG} {tf : D → Env → Option Env} {FI : FL} {C E : FE} (his : ∀ j, j ∈ is → j ∈ vs) (ht : TgOk T Γ Γb is t tf)
    (h : PS X st (tAsg (tLc (tIF T W Γ FI) t (tXT T (fun _ _ _ _ => False) Γb C) (tX T (fun _ _ _ _ => False) Γb E) vs) (gName i))) : PS X st (tAsg (tN T W Γ 1 (eLc FI vs tf C E)) (gName i)) := ps_imp h fun D σ H q => lc_rd his ht σ H _ q
theorem ps_lcS {i : Nat} {st : Stmt} {F : FE} (h : PS X st (tAsg (tN T W Γ 1 F) (gName i))) : PS X st (tAsg (tX T W Γ F) (gName i)) := ps_imp h fun D σ H q => tn_of q
theorem xs_setP {J : Jd} {Γ' : List Md} {i : Nat} {A : FE} {st : Stmt} (hx : J.ΓX Γ) (he : PS X st (tAsg (tX T J.W Γ A) (gName i))) (hΓ : Γ.set i .s = Γ') : XS X T J Γ Γ' st (fSet i A) := ps_imp he fun D σ H ⟨g, ρ, S, R, h⟩ =>
  ⟨g, ρ, S, R, good_bindS R hx h fun d S1 v g1 H1 _ R1 f1 s1 h1 => h1 _ (g1.drop i) H1 (by rw [← hΓ]; exact R1.set s1) .drop⟩
end
end Q

namespace Q
open PySem PySem.Spec PyProof.Rows L2
section
variable {T : Th}
end
end Q

namespace Q
open PySem PySem.Spec PyProof.Rows L2
abbrev r1 (r : List V → Hp → VK → Prop) : V → Hp → VK → Prop := fun v H Q => r [v] H Q
abbrev r2 (r : List V → Hp → VK → Prop) : R2 := fun v w H Q => r [v, w] H Q
section
variable {T : Th}
abbrev rTupOf (K : PySem.W.Frag) : List V → Hp → VK → Prop := fun xs H Q => ∃ p ys, xs = [V.ref p] ∧ ((SqL K H p ys ∧ ∀ l, H l = none → Q (.ref l) (upd H l (.tup ys))) ∨ (SqT K H p ys ∧ Q (.ref p) H))
def hTuple : D → Option D
  | .lst l => some (.tup l)
  | .scr l => some (.tup l)
  | .tup l => some (.tup l)
  | _ => none
theorem ok_tuple : UnOk T (r1 (rTupOf T.K)) hTuple := by
  intro g H x z v sx e hd Q q
  cases x <;> simp only [hTuple] at e <;> cases e
  · obtain ⟨a, vs, rfl, la, ra⟩ := shr_tup.mp sx
    exact ⟨a, vs, rfl, .inr ⟨la.sq, q _ H (.refl H) sx⟩⟩
  · obtain ⟨a, vs, rfl, la, ra⟩ := shr_lst.mp sx
    exact ⟨a, vs, rfl, .inl ⟨.of la.1, fun p hp => q _ _ (Exx.new hp) (shr_newT ra hp hd)⟩⟩
  · obtain ⟨a, vs, rfl, la, ra⟩ := shr_scr.mp sx
    exact ⟨a, vs, rfl, .inl ⟨la.sq, fun p hp => q _ _ (Exx.new hp) (shr_newT ra hp hd)⟩⟩
end
def eM1 (h : D → D → Option D) (a b : FE) : FE := fun ρ S => (a ρ S).bind fun x S1 => match x with
  | .str z => (b ρ S1).bind fun y S2 => .of S2 (h (.str z) y)
  | _ => .no
section
variable {X : Cx} {T : Th} {W : WX} {Γ : List Md}
end
section
variable {X : Cx} {T : Th} {W : WX} {Γ : List Md}
end
end Q

namespace Q
open PySem PySem.Spec PyProof.Rows L2
mutual
def plD : Nat → D → Bool
  | _, .non => true
  | _, .int _ => true
  | _, .str x => PyData.canLay0 (.str x)
  | n + 1, .tup l => plL n l
  | n + 1, .lst l => plL n l
  | _, _ => false
def plL : Nat → List D → Bool
  | _, [] => true
  | n, d :: r => plD n d && plL n r
end
mutual
theorem plD_py : ∀ (n : Nat) (d : D), plD n d = true → ∃ p, toPy d = some p ∧ p.canLay0 = true ∧ p.depth ≤ n
  | _, .non, _ => ⟨.none, by simp only [toPy], rfl, Nat.zero_le _⟩
  | _, .int i, _ => ⟨.int i, by simp only [toPy], rfl, Nat.zero_le _⟩
  | n, .str x, h => ⟨.str x, by simp only [toPy], by cases n <;> simpa only [plD] using h, by cases n <;> exact Nat.zero_le _⟩
  | 0, .tup l, h => by simp only [plD] at h; cases h
  | n + 1, .tup l, h => by
    simp only [plD] at h
    obtain ⟨ps, h1, h2, h3⟩ := plL_py n l h
    exact ⟨.tuple ps, by simp only [toPy, h1, Option.map_some], by simpa only [PyData.canLay0] using h2, by simp only [PyData.depth]; omega⟩
  | 0, .lst l, h => by simp only [plD] at h; cases h
  | n + 1, .lst l, h => by
    simp only [plD] at h
    obtain ⟨ps, h1, h2, h3⟩ := plL_py n l h
    exact ⟨.list ps, by simp only [toPy, h1, Option.map_some], by simpa only [PyData.canLay0] using h2, by simp only [PyData.depth]; omega⟩
  | 0, .bl _, h => by simp only [plD] at h; cases h
  | n + 1, .bl _, h => by simp only [plD] at h; cases h
  | 0, .scr _, h => by simp only [plD] at h; cases h
  | n + 1, .scr _, h => by simp only [plD] at h; cases h
  | 0, .dct _, h => by simp only [plD] at h; cases h
  | n + 1, .dct _, h => by simp only [plD] at h; cases h
  | 0, .obj _, h => by simp only [plD] at h; cases h
  | n + 1, .obj _, h => by simp only [plD] at h; cases h
  | 0, .fn _ _, h => by simp only [plD] at h; cases h
  | n + 1, .fn _ _, h => by simp only [plD] at h; cases h
  | 0, .gone _, h => by simp only [plD] at h; cases h
  | n + 1, .gone _, h => by simp only [plD] at h; cases h
theorem plL_py : ∀ (n : Nat) (l : List D), plL n l = true → ∃ ps, toPyL l = some ps ∧ PyData.canLayAll0 ps = true ∧ PyData.depthAll ps ≤ n
  | _, [], _ => ⟨[], by simp only [toPyL], rfl, Nat.zero_le _⟩
  | n, d :: r, h => by
    simp only [plL, Bool.and_eq_true] at h
    obtain ⟨p, h1, h2, h3⟩ := plD_py n d h.1
    obtain ⟨ps, k1, k2, k3⟩ := plL_py n r h.2
    refine ⟨p :: ps, by simp only [toPyL, h1, k1], by simp only [PyData.canLayAll0, h2, k2, Bool.and_self], ?_⟩
    simp only [PyData.depthAll]
    omega
end
mutual
theorem eqv_pl : ∀ (n m : Nat) (d e : D) (p q : PyData), plD n d = true → plD m e = true → toPy d = some p → toPy e = some q → (PyData.eqv p q = true ↔ d = e) := by
  intro n m d e p q hd he hp hq
  cases d with
  | non => simp only [toPy] at hp; cases hp; cases e <;> simp only [toPy] at hq <;> first | (cases hq; done) | (cases n <;> cases m <;> simp only [plD] at he hd <;> first | (cases he; done) | (obtain ⟨_, _, rfl⟩ := Option.map_eq_some_iff.mp hq; simp [PyData.eqv]) | (cases hq; simp [PyData.eqv]))
  | int i => simp only [toPy] at hp; cases hp; cases e <;> simp only [toPy] at hq <;> first | (cases hq; done) | (cases n <;> cases m <;> simp only [plD] at he hd <;> first | (cases he; done) | (obtain ⟨_, _, rfl⟩ := Option.map_eq_some_iff.mp hq; simp [PyData.eqv]) | (cases hq; simp [PyData.eqv]))
  | str i => simp only [toPy] at hp; cases hp; cases e <;> simp only [toPy] at hq <;> first | (cases hq; done) | (cases n <;> cases m <;> simp only [plD] at he hd <;> first | (cases he; done) | (obtain ⟨_, _, rfl⟩ := Option.map_eq_some_iff.mp hq; simp [PyData.eqv]) | (cases hq; simp [PyData.eqv]))
  | tup l =>
    cases n with
    | zero => simp only [plD] at hd; cases hd
    | succ n =>
      simp only [plD] at hd
      simp only [toPy] at hp
      obtain ⟨ps, h1, rfl⟩ := Option.map_eq_some_iff.mp hp
      cases e with
      | tup k =>
        cases m with
        | zero => simp only [plD] at he; cases he
        | succ m =>
          simp only [plD] at he
          simp only [toPy] at hq
          obtain ⟨qs, k1, rfl⟩ := Option.map_eq_some_iff.mp hq
          simp only [PyData.eqv, D.tup.injEq]
          exact eqvL_pl n m l k ps qs hd he h1 k1
      | _ => cases m <;> simp only [plD] at he <;> first | (cases he; done) | (simp only [toPy] at hq; first | (cases hq; simp [PyData.eqv]) | (obtain ⟨_, _, rfl⟩ := Option.map_eq_some_iff.mp hq; simp [PyData.eqv]))
  | lst l =>
    cases n with
    | zero => simp only [plD] at hd; cases hd
    | succ n =>
      simp only [plD] at hd
      simp only [toPy] at hp
      obtain ⟨ps, h1, rfl⟩ := Option.map_eq_some_iff.mp hp
      cases e with
      | lst k =>
        cases m with
        | zero => simp only [plD] at he; cases he
        | succ m =>
          simp only [plD] at he
          simp only [toPy] at hq
          obtain ⟨qs, k1, rfl⟩ := Option.map_eq_some_iff.mp hq
          simp only [PyData.eqv, D.lst.injEq]
          exact eqvL_pl n m l k ps qs hd he h1 k1
      | _ => cases m <;> simp only [plD] at he <;> first | (cases he; done) | (simp only [toPy] at hq; first | (cases hq; simp [PyData.eqv]) | (obtain ⟨_, _, rfl⟩ := Option.map_eq_some_iff.mp hq; simp [PyData.eqv]))
  | _ => cases n <;> simp only [plD] at hd <;> cases hd
termination_by n m d e p q => sizeOf d
theorem eqvL_pl : ∀ (n m : Nat) (l k : List D) (ps qs : List PyData), plL n l = true → plL m k = true → toPyL l = some ps → toPyL k = some qs → (PyData.eqvAll ps qs = true ↔ l = k) := by
  intro n m l k ps qs hl hk hp hq
  cases l with
  | nil =>
    simp only [toPyL] at hp; cases hp
    cases k with
    | nil => simp only [toPyL] at hq; cases hq; simp [PyData.eqvAll]
    | cons e r =>
      simp only [toPyL] at hq
      split at hq
      · cases hq; simp [PyData.eqvAll]
      · cases hq
  | cons d l =>
    simp only [toPyL] at hp
    split at hp
    · rename_i p ps' e1 e2
      cases hp
      simp only [plL, Bool.and_eq_true] at hl
      cases k with
      | nil => simp only [toPyL] at hq; cases hq; simp [PyData.eqvAll]
      | cons e r =>
        simp only [toPyL] at hq
        split at hq
        · rename_i q qs' f1 f2
          cases hq
          simp only [plL, Bool.and_eq_true] at hk
          simp only [PyData.eqvAll, Bool.and_eq_true, List.cons.injEq]
          exact and_congr (eqv_pl n m d e p q hl.1 hk.1 e1 f1) (eqvL_pl n m l r ps' qs' hl.2 hk.2 e2 f2)
        · cases hq
    · cases hp
termination_by n m l k ps qs => sizeOf l
end
theorem hEq_pl {x y : D} (hx : plD 60 x = true) (hy : plD 60 y = true) : ∃ b, hEq x y = some (.bl b) ∧ hNe x y = some (.bl !b) ∧ (b = true ↔ x = y) := by
  obtain ⟨p, p1, p2, p3⟩ := plD_py 60 x hx
  obtain ⟨q, q1, q2, q3⟩ := plD_py 60 y hy
  have sp : SeqAt.shaped p = true := by unfold SeqAt.shaped; rw [p2, decide_eq_true (by omega)]; rfl
  have sq : SeqAt.shaped q = true := by unfold SeqAt.shaped; rw [q2, decide_eq_true (by omega)]; rfl
  refine ⟨PyData.eqv p q, ?_, ?_, eqv_pl 60 60 x y p q hx hy p1 q1⟩
  · unfold hEq; rw [p1, q1]; exact if_pos ⟨sp, sq⟩
  · unfold hNe; rw [p1, q1]; exact if_pos ⟨sp, sq⟩
theorem hEq_t {x : D} (hx : plD 60 x = true) : hEq x x = some (.bl true) := by
  obtain ⟨b, h1, _, h3⟩ := hEq_pl hx hx
  rw [h3.mpr rfl] at h1
  exact h1
theorem hEq_f {x y : D} (hx : plD 60 x = true) (hy : plD 60 y = true) (h : x ≠ y) : hEq x y = some (.bl false) := by
  obtain ⟨b, h1, _, h3⟩ := hEq_pl hx hy
  cases b
  · exact h1
  · exact absurd (h3.mp rfl) h
section
variable {ρ : Env} {S : Store} {d z x y : D} {l l' : List D} {o : Option (Option D)}
def mutK (o : Option (Option D)) (ρ : Env) (k : List D → RS) : RS := match o with
  | some (some (.lst l)) => k l
  | _ => .no
def mutR (o : Option (D × List D)) (k : D → List D → RS) : RS := match o with
  | some (z, l') => k z l'
  | none => .no
theorem ev_mut {i : Nat} {h : HM} {a : FL} : fMut i h a ρ S = mutK ρ[i]? ρ fun l => (a ρ S).bindS ρ fun ds S1 => mutR (h l ds) fun _ l' => .nx (ρ.set i (some (.lst l'))) S1 := by
  unfold fMut mutK mutR RL.bindS
  rfl
theorem ev_mutset {j i : Nat} {h : HM} {a : FL} : fMutSet j i h a ρ S = mutK ρ[i]? ρ fun l => (a ρ S).bindS ρ fun ds S1 => mutR (h l ds) fun z l' => .nx ((ρ.set i (some (.lst l'))).set j (some z)) S1 := by
  unfold fMutSet mutK mutR RL.bindS
  rfl
theorem mutK_lst {k : List D → RS} : mutK (some (some (.lst l))) ρ k = k l := rfl
theorem mutR_some {k : D → List D → RS} : mutR (some (z, l')) k = k z l' := rfl
theorem mAppend_lt (h : l.length < 1000000) : mAppend l [d] = some (.non, l ++ [d]) := if_pos h
def flatK (d : D) (S : Store) : RE := if immD d = true then .ok d S else .no
theorem ev_flat {a : FE} : eFlat a ρ S = (a ρ S).bind flatK := rfl
theorem flatK_int {i : Int} : flatK (.int i) S = .ok (.int i) S := if_pos (by simp only [immD])
theorem flatK_bl {i : Bool} : flatK (.bl i) S = .ok (.bl i) S := if_pos (by simp only [immD])
theorem flatK_str {i : Str} : flatK (.str i) S = .ok (.str i) S := if_pos (by simp only [immD])
theorem flatK_non : flatK .non S = .ok .non S := if_pos (by simp only [immD])
def m1K (d : D) (k : Str → RE) : RE := match d with
  | .str z => k z
  | _ => .no
theorem ev_m1 {h : D → D → Option D} {a b : FE} : eM1 h a b ρ S = (a ρ S).bind fun x S1 => m1K x fun z => (b ρ S1).bind fun y S2 => .of S2 (h (.str z) y) := rfl
theorem m1K_str {z : Str} {k : Str → RE} : m1K (.str z) k = k z := rfl
end
theorem lcL_eq {tf : D → Env → Option Env} {C E : FE} {ρ : Env} {S : Store} (p : D → Bool) (f : D → D) : ∀ {ds : List D}, (∀ d ∈ ds, ∃ ρ1, tf d ρ = some ρ1 ∧ C ρ1 S = .ok (.bl (p d)) S ∧ (p d = true → E ρ1 S = .ok (f d) S)) →
    lcL tf C E ds ρ S = .ok ((ds.filter p).map f) S
  | [], _ => rfl
  | d :: r, h => by
    obtain ⟨ρ1, h1, h2, h3⟩ := h d List.mem_cons_self
    have ih := lcL_eq p f (ds := r) fun x hx => h x (List.mem_cons_of_mem _ hx)
    rw [lcL, h1]
    cases hp : p d with
    | true =>
      rw [hp] at h2
      simp only [h2, h3 hp, ih]
      rw [List.filter_cons_of_pos (by rw [hp]), List.map_cons]
    | false =>
      rw [hp] at h2
      simp only [h2, ih]
      rw [List.filter_cons_of_neg (by rw [hp]; decide)]
theorem eLc_eq {it : FL} {vs : List Nat} {tf : D → Env → Option Env} {C E : FE} {ρ : Env} {S S1 : Store} {ds : List D} (p : D → Bool) (f : D → D) (hi : it ρ S = .ok ds S1) (hl : ds.length ≤ 1000000)
    (h : ∀ d ∈ ds, ∃ ρ1, tf d (wipeE ρ vs) = some ρ1 ∧ C ρ1 S1 = .ok (.bl (p d)) S1 ∧ (p d = true → E ρ1 S1 = .ok (f d) S1)) : eLc it vs tf C E ρ S = .ok (.lst ((ds.filter p).map f)) S1 := by
  unfold eLc
  rw [hi]
  simp only [lcL_eq p f h]
  rw [if_pos hl]
end Q

namespace Q
open PySem PySem.Spec PyProof.Rows L2
end Q

namespace Q
open PySem PySem.Spec PyProof.Rows L2
end Q

namespace Q
open PySem PySem.Spec PyProof.Rows L2
end Q

namespace Q
open PySem PySem.Spec PyProof.Rows L2
def G.vv (g : G) : G := { g with O := fun _ => False, F := fun _ _ => False, B := fun _ => False }
theorem G.vv_U {g : G} {a : Addr} : ¬ g.vv.U a := fun h => by
  rcases h with h | ⟨_, h⟩ | h
  · exact h
  · exact h
  · exact h
section
variable {T : Th} {g g' g2 : G} {H H' : Hp}
theorem stay_vv : Stay g H g.vv H := ⟨fun _ _ h _ => h, fun a h => (G.vv_U h).elim, Nat.le_refl _, fun _ _ => rfl, rfl⟩
theorem Shr.vv {d : D} {v : V} (s : Shr T g H d v) : Shr T g.vv H d v := Shr.stay stay_vv _ _ s
end
def GoodC (T : Th) (W : WX) (Γ : List Md) (ρ : Env) (σ : L2.St) (g : G) (S : Store) (H : Hp) : RE → VK → Prop
  | .ok d S', Q => S' = S → ∀ v H', Exx H H' → Shr T g H' d v → Q v H'
  | .exc x S', _ => ∀ c dd g' H', Rel T g' Γ ρ S' σ H' → FrE g H g' H' → ExcR T g' H' x c dd → W c dd σ H'
  | .no, _ => False
def GoodV (T : Th) (W : WX) (Γ : List Md) (ρ : Env) (σ : L2.St) (g : G) (S : Store) (H : Hp) : RE → VK → Prop
  | .ok d S', Q => S' = S → ∀ v H', Exx H H' → Shr T g.vv H' d v → Q v H'
  | .exc x S', _ => ∀ c dd g' H', Rel T g' Γ ρ S' σ H' → FrE g H g' H' → ExcR T g' H' x c dd → W c dd σ H'
  | .no, _ => False
def GoodVL (T : Th) (W : WX) (Γ : List Md) (ρ : Env) (σ : L2.St) (g : G) (S : Store) (H : Hp) : RL → (List V → Hp → Prop) → Prop
  | .ok d S', Q => S' = S → ∀ v H', Exx H H' → ShrL T g.vv H' d v → Q v H'
  | .exc x S', _ => ∀ c dd g' H', Rel T g' Γ ρ S' σ H' → FrE g H g' H' → ExcR T g' H' x c dd → W c dd σ H'
  | .no, _ => False
def tC1 (T : Th) (W : WX) (Γ : List Md) (F : FE) : TE := fun σ H Q => ∃ g ρ S, Rel T g Γ ρ S σ H ∧ GoodC T W Γ ρ σ g S H (F ρ S) Q
def tV (T : Th) (W : WX) (Γ : List Md) (F : FE) : TE := fun σ H Q => ∃ g ρ S, Rel T g Γ ρ S σ H ∧ GoodV T W Γ ρ σ g S H (F ρ S) Q
def tVL (T : Th) (W : WX) (Γ : List Md) (F : FL) : TA := fun σ H Q => ∃ g ρ S, Rel T g Γ ρ S σ H ∧ GoodVL T W Γ ρ σ g S H (F ρ S) Q
abbrev XC (X : Cx) (T : Th) (W : WX) (Γ : List Md) (e : Expr) (F : FE) : Prop := PE X e (tC1 T W Γ F)
abbrev XV (X : Cx) (T : Th) (W : WX) (Γ : List Md) (e : Expr) (F : FE) : Prop := PE X e (tV T W Γ F)
abbrev XVL (X : Cx) (T : Th) (W : WX) (Γ : List Md) (e : List Expr) (F : FL) : Prop := PA X e (tVL T W Γ F)
section
variable {X : Cx} {T : Th} {W : WX} {Γ : List Md}
theorem exc_ex {x : Exc} {ρ : Env} {σ : L2.St} {g : G} {H H1 : Hp} {S' : Store} (e : Exx H H1) (h : ∀ c dd g' H', Rel T g' Γ ρ S' σ H' → FrE g H g' H' → ExcR T g' H' x c dd → W c dd σ H') : ∀ c dd g' H', Rel T g' Γ ρ S' σ H' → FrE g H1 g' H' → ExcR T g' H' x c dd → W c dd σ H' :=
  fun c dd g' H' R f q => h c dd g' H' R ((FrE.ex e).trans f) q
theorem goodC_bind {ρ : Env} {σ : L2.St} {g : G} {S : Store} {H : Hp} {r : RE} {k : D → Store → RE} {Q Q' : VK} (h : GoodC T W Γ ρ σ g S H (r.bind k) Q)
    (hk : ∀ d v H', r = .ok d S → Exx H H' → Shr T g H' d v → GoodC T W Γ ρ σ g S H' (k d S) Q → Q' v H') : GoodC T W Γ ρ σ g S H r Q' := by
  cases r with
  | ok d S1 =>
    intro es v H' e s
    subst es
    refine hk d v H' rfl e s ?_
    have h : GoodC T W Γ ρ σ g S1 H (k d S1) Q := h
    cases q : k d S1 with
    | ok d2 S2 => rw [q] at h; exact fun es v2 H2 e2 s2 => h es v2 H2 (e.trans e2) s2
    | exc x S2 => rw [q] at h; exact exc_ex e h
    | no => rw [q] at h; exact h
  | exc x S1 => exact h
  | no => exact h
theorem xe_ofC {e : Expr} {F : FE} (h : XC X T W Γ e F) : XE X T W Γ e F := pe_imp h fun σ H Q ⟨g, ρ, S, R, hg⟩ => by
  refine ⟨g, ρ, S, R, ?_⟩
  cases r : F ρ S with
  | ok d S1 => rw [r] at hg; exact fun es v H' e s => hg v g H' (by subst es; exact R.ex e) (.ex e) s
  | exc x S1 => rw [r] at hg; exact hg
  | no => rw [r] at hg; exact hg
theorem xc_flat {e : Expr} {F : FE} (h : XV X T W Γ e F) : XC X T W Γ e (eFlat F) := pe_imp h fun σ H Q ⟨g, ρ, S, R, hg⟩ => by
  refine ⟨g, ρ, S, R, ?_⟩
  unfold eFlat at hg
  cases r : F ρ S with
  | ok d S1 =>
    rw [r] at hg
    have hg : GoodC T W Γ ρ σ g S H (if immD d = true then RE.ok d S1 else .no) Q := hg
    split at hg
    · rename_i hd
      exact fun es v H' e s => hg es v H' e (imm_shr (e.nt R.dom R.nt) d v hd s)
    · exact hg.elim
  | exc x S1 => rw [r] at hg; exact hg
  | no => rw [r] at hg; exact hg
theorem xc_of {d : D} {v : V} {e : Expr} (he : PE X e (tC v)) (hs : ∀ g H, Shr T g H d v) : XC X T W Γ e (eC d) := pe_imp he fun σ H Q ⟨g, ρ, S, R, h⟩ => h rfl v H (.refl H) (hs g H)
theorem xc_int {i : Int} {j : Nat} {pos : Pos} : XC X T W Γ (.Constant (.int i) j pos) (eC (.int i)) := xc_of pe_int fun _ _ => by simp only [Shr]
theorem xc_var {i : Nat} {e : Expr} (he : PE X e (tVar i)) (hm : Γ.getD i .s = .s) : XC X T W Γ e (eVar i) := pe_imp he fun σ H Q ⟨g, ρ, S, R, h⟩ => by
  have h : GoodC T W Γ ρ σ g S H (match ρ[i]? with | some (some d) => RE.ok d S | _ => .no) Q := h
  split at h
  · rename_i d e
    obtain ⟨v, h1, h2⟩ := R.slot i d e
    rw [hm] at h2
    exact ⟨v, h1, h rfl v H (.refl H) h2⟩
  · exact h.elim
theorem Rel.vvs {g : G} {ρ : Env} {S : Store} {σ : L2.St} {H : Hp} (R : Rel T g Γ ρ S σ H) {i : Nat} {d : D} (e : ρ[i]? = some (some d)) (hm : ∀ v, Γ.getD i .s ≠ .e v) (hm2 : ∀ w dd fs, Γ.getD i .s ≠ .x w dd fs) : ∃ v, σ[i]? = some (some v) ∧ Shr T g.vv H d v := by
  obtain ⟨v, h1, h2⟩ := R.slot i d e
  refine ⟨v, h1, ?_⟩
  have no : ∀ F : Addr → Prop, ∀ a, F a → ¬ g.vv.U a := fun _ _ _ => G.vv_U
  cases hq : Γ.getD i .s <;> rw [hq] at h2 <;> simp only [RepM] at h2
  · exact h2.vv
  · exact shr_of_own2 stay_vv _ _ _ _ (no _) h2
  · exact shr_of_own2 stay_vv _ _ _ _ (no _) h2
  · exact shr_of_own2 stay_vv _ _ _ _ (no _) h2.2
  · exact absurd hq (hm _)
  · exact Shr.stay (g := g.bare) (g' := g.vv) ⟨fun _ _ h _ => h, fun a h => (G.vv_U h).elim, Nat.le_refl _, fun _ _ => rfl, rfl⟩ _ _ h2
  · exact absurd hq (hm2 _ _ _)
theorem xv_var {i : Nat} {e : Expr} (he : PE X e (tVar i)) (hm : ∀ v, Γ.getD i .s ≠ .e v) (hm2 : ∀ w dd fs, Γ.getD i .s ≠ .x w dd fs := by intro w dd fs h; first | cases h | (rw [rep_s] at h; cases h) | simp_all) : XV X T W Γ e (eVar i) := pe_imp he fun σ H Q ⟨g, ρ, S, R, h⟩ => by
  have h : GoodV T W Γ ρ σ g S H (match ρ[i]? with | some (some d) => RE.ok d S | _ => .no) Q := h
  split at h
  · rename_i d e
    obtain ⟨v, h1, h2⟩ := R.vvs e hm hm2
    exact ⟨v, h1, h rfl v H (.refl H) h2⟩
  · exact h.elim
theorem goodC_of {ρ : Env} {σ : L2.St} {g : G} {S S0 : Store} {H : Hp} {o : Option D} {Q : VK} (h : GoodC T W Γ ρ σ g S0 H (.of S o) Q) : ∃ d, o = some d ∧ GoodC T W Γ ρ σ g S0 H (.ok d S) Q := by
  cases o with
  | none => exact h.elim
  | some d => exact ⟨d, rfl, h⟩
theorem goodV_of {ρ : Env} {σ : L2.St} {g : G} {S S0 : Store} {H : Hp} {o : Option D} {Q : VK} (h : GoodV T W Γ ρ σ g S0 H (.of S o) Q) : ∃ d, o = some d ∧ GoodV T W Γ ρ σ g S0 H (.ok d S) Q := by
  cases o with
  | none => exact h.elim
  | some d => exact ⟨d, rfl, h⟩
theorem xc_op {e : Expr} {r : R2} {h : D → D → Option D} {a b : Expr} {A B : FE} (ok : OpOk T r h) (ha : XC X T W Γ a A) (hb : XC X T W Γ b B)
    (he : PE X a (tC1 T W Γ A) → PE X b (tC1 T W Γ B) → PE X e (tOp r (tC1 T W Γ A) (tC1 T W Γ B))) : XC X T W Γ e (eOp h A B) := pe_imp (he ha hb) fun σ H Q ⟨g, ρ, S, R, hg⟩ =>
  ⟨g, ρ, S, R, goodC_bind hg fun x v H1 _ e1 s1 hg1 => ⟨g, ρ, S, R.ex e1, goodC_bind hg1 fun y w H2 _ e2 s2 hg2 => by
    obtain ⟨z, ez, hg3⟩ := goodC_of hg2
    exact ok g H2 x y z v w (Shr.stay (.ex e2) _ _ s1) s2 ez ((R.ex e1).ex e2).dom Q fun u H' ex su => hg3 rfl u H' ex su⟩⟩
theorem xvl_nil : XVL X T W Γ [] lNil := pa_imp pa_nil fun σ H Q ⟨g, ρ, S, R, hg⟩ => hg rfl [] H (.refl H) .nil
theorem goodVL_ex {ρ : Env} {σ : L2.St} {g : G} {S : Store} {H H1 : Hp} {r : RL} {Q : List V → Hp → Prop} (e : Exx H H1) (h : GoodVL T W Γ ρ σ g S H r Q) : GoodVL T W Γ ρ σ g S H1 r Q := by
  cases r with
  | ok d S' => exact fun es v H' x s => h es v H' (e.trans x) s
  | exc x S' => exact exc_ex e h
  | no => exact h
theorem xvl_cons {e : Expr} {es : List Expr} {A : FE} {B : FL} (ha : XV X T W Γ e A) (hb : XVL X T W Γ es B) (hx : PE X e (tV T W Γ A) → PA X es (tVL T W Γ B) → PA X (e :: es) (tCons (tV T W Γ A) (tVL T W Γ B))) : XVL X T W Γ (e :: es) (lCons A B) := pa_imp (hx ha hb) fun σ H Q ⟨g, ρ, S, R, hg⟩ => by
  refine ⟨g, ρ, S, R, ?_⟩
  unfold lCons at hg
  cases e : A ρ S with
  | ok x S1 =>
    rw [e] at hg
    intro es v H1 e1 s1
    subst es
    refine ⟨g, ρ, S1, R.ex e1, ?_⟩
    have hg : GoodVL T W Γ ρ σ g S1 H1 (match B ρ S1 with | .ok xs S2 => .ok (x :: xs) S2 | .exc x S2 => .exc x S2 | .no => .no) Q := goodVL_ex e1 hg
    cases e2 : B ρ S1 with
    | ok xs S2 =>
      rw [e2] at hg
      exact fun es vs H2 e3 s2 => hg es (v :: vs) H2 e3 (.cons (Shr.stay (.ex e3) _ _ s1) s2)
    | exc y S2 => rw [e2] at hg; exact hg
    | no => rw [e2] at hg; exact hg
  | exc y S1 => rw [e] at hg; exact hg
  | no => rw [e] at hg; exact hg
theorem goodVL_then {ρ : Env} {σ : L2.St} {g : G} {H : Hp} {A : FL} {h : List D → Option D} {S : Store} {Q : VK} {Q' : List V → Hp → Prop} (hg : GoodV T W Γ ρ σ g S H (eL h A ρ S) Q)
    (hk : ∀ ds z vs H', h ds = some z → Exx H H' → ShrL T g.vv H' ds vs → GoodV T W Γ ρ σ g S H' (.ok z S) Q → Q' vs H') : GoodVL T W Γ ρ σ g S H (A ρ S) Q' := by
  unfold eL at hg
  cases e : A ρ S with
  | ok ds S' =>
    rw [e] at hg
    intro es vs H' ex s
    subst es
    obtain ⟨z, ez, hg⟩ := goodV_of hg
    exact hk ds z vs H' ez ex s fun es v2 H2 e2 s2 => hg es v2 H2 (ex.trans e2) s2
  | exc x S' => rw [e] at hg; exact hg
  | no => rw [e] at hg; exact hg
theorem xv_L {e : Expr} {r : List V → Hp → VK → Prop} {h : List D → Option D} {as : List Expr} {A : FL} (ok : LsOk T r h) (ha : XVL X T W Γ as A) (he : PA X as (tVL T W Γ A) → PE X e (tCB r (tVL T W Γ A))) : XV X T W Γ e (eL h A) := pe_imp (he ha) fun σ H Q ⟨g, ρ, S, R, hg⟩ =>
  ⟨g, ρ, S, R, goodVL_then hg fun ds z vs H1 ez e1 s1 hg1 => ok g.vv H1 ds z vs s1 ez (fun a u => (G.vv_U u).elim) Q fun u H' ex su => hg1 rfl u H' ex su⟩
end
end Q

namespace Q
open PySem PySem.Spec PyProof.Rows L2
mutual
def noObj : D → Bool
  | .tup l => noObjL l
  | .lst l => noObjL l
  | .scr l => noObjL l
  | .dct l => noObjK l
  | .obj _ => false
  | .fn _ _ => false
  | _ => true
def noObjL : List D → Bool
  | [] => true
  | d :: r => noObj d && noObjL r
def noObjK : List (D × D) → Bool
  | [] => true
  | (k, d) :: r => noObj k && noObj d && noObjK r
end
section
variable {T : Th} {g g2 : G} {H : Hp}
mutual
theorem noObj_shr (hU : ∀ a, g2.U a → g.U a) (hZ : g2.Z = g.Z) : ∀ (d : D) (v : V), noObj d = true → Shr T g H d v → Shr T g2 H d v
  | .non, _, _, h => by simpa only [Shr] using h
  | .bl _, _, _, h => by simpa only [Shr] using h
  | .int _, _, _, h => by simpa only [Shr] using h
  | .str _, _, _, h => by simpa only [Shr] using h
  | .tup l, v, e, h => by
    simp only [noObj] at e
    simp only [Shr] at h ⊢
    obtain ⟨a, vs, e2, q, r⟩ := h
    exact ⟨a, vs, e2, q.imp (fun z => ⟨z.1, fun u => z.2 (hU _ u)⟩) id, noObj_shrL hU hZ l vs e r⟩
  | .lst l, v, e, h => by
    simp only [noObj] at e
    simp only [Shr] at h ⊢
    obtain ⟨a, vs, e2, q, r⟩ := h
    exact ⟨a, vs, e2, ⟨q.1, fun u => q.2 (hU _ u)⟩, noObj_shrL hU hZ l vs e r⟩
  | .scr l, v, e, h => by
    simp only [noObj] at e
    simp only [Shr] at h ⊢
    obtain ⟨a, vs, e2, q, r⟩ := h
    exact ⟨a, vs, e2, q.imp (fun z => ⟨z.1, fun u => z.2 (hU _ u)⟩) id, noObj_shrL hU hZ l vs e r⟩
  | .dct l, v, e, h => by
    simp only [noObj] at e
    simp only [Shr] at h ⊢
    obtain ⟨a, vs, e2, q, r⟩ := h
    exact ⟨a, vs, e2, ⟨q.1, fun u => q.2 (hU _ u)⟩, noObj_shrK hU hZ l vs e r⟩
  | .obj _, _, e, _ => by simp only [noObj] at e; cases e
  | .fn _ _, _, e, _ => by simp only [noObj] at e; cases e
  | .gone _, _, _, h => by simp only [Shr] at h
theorem noObj_shrL (hU : ∀ a, g2.U a → g.U a) (hZ : g2.Z = g.Z) : ∀ (d : List D) (v : List V), noObjL d = true → ShrL T g H d v → ShrL T g2 H d v
  | [], _, _, h => by simpa only [ShrL] using h
  | d :: ds, vs, e, h => by
    simp only [noObjL, Bool.and_eq_true] at e
    simp only [ShrL] at h ⊢
    obtain ⟨v, ws, e2, q, r⟩ := h
    exact ⟨v, ws, e2, noObj_shr hU hZ d v e.1 q, noObj_shrL hU hZ ds ws e.2 r⟩
theorem noObj_shrK (hU : ∀ a, g2.U a → g.U a) (hZ : g2.Z = g.Z) : ∀ (d : List (D × D)) (v : List (V × V)), noObjK d = true → ShrK T g H d v → ShrK T g2 H d v
  | [], _, _, h => by simpa only [ShrK] using h
  | (k, d) :: ds, vs, e, h => by
    simp only [noObjK, Bool.and_eq_true] at e
    simp only [ShrK] at h ⊢
    obtain ⟨u, v, ws, e2, p, q, r⟩ := h
    exact ⟨u, v, ws, e2, noObj_shr hU hZ k u e.1.1 p, noObj_shr hU hZ d v e.1.2 q, noObj_shrK hU hZ ds ws e.2 r⟩
end
end
abbrev Th.bare (T : Th) : Th := { T with tb := [] }
section
variable {T T' : Th} {g : G} {H : Hp}
mutual
theorem Shr.th (eK : T'.K = T.K) (ep : T'.pr = T.pr) (ew : T'.w = T.w) (el : T'.lm = T.lm) : ∀ (d : D) (v : V), Shr T g H d v → Shr T' g H d v
  | .non, _, h => by simpa only [Shr] using h
  | .bl _, _, h => by simpa only [Shr] using h
  | .int _, _, h => by simpa only [Shr] using h
  | .str _, _, h => by simpa only [Shr] using h
  | .tup l, v, h => by
    simp only [Shr, eK] at h ⊢
    obtain ⟨a, vs, e, q, r⟩ := h
    exact ⟨a, vs, e, q, ShrL.th eK ep ew el l vs r⟩
  | .lst l, v, h => by
    simp only [Shr] at h ⊢
    obtain ⟨a, vs, e, q, r⟩ := h
    exact ⟨a, vs, e, q, ShrL.th eK ep ew el l vs r⟩
  | .scr l, v, h => by
    simp only [Shr, eK] at h ⊢
    obtain ⟨a, vs, e, q, r⟩ := h
    exact ⟨a, vs, e, q, ShrL.th eK ep ew el l vs r⟩
  | .dct l, v, h => by
    simp only [Shr, DShr, ep, ew] at h ⊢
    obtain ⟨a, vs, e, q, r⟩ := h
    exact ⟨a, vs, e, q, ShrK.th eK ep ew el l vs r⟩
  | .obj n, v, h => by simpa only [Shr] using h
  | .fn _ _, v, h => by
    simp only [Shr] at h ⊢
    exact h.imp fun m z => Clo.of el (fun a o e hu => ⟨e, hu⟩) (fun a q e hu => ⟨e, hu⟩) _ _ _ z
  | .gone _, v, h => by simp only [Shr] at h
theorem ShrL.th (eK : T'.K = T.K) (ep : T'.pr = T.pr) (ew : T'.w = T.w) (el : T'.lm = T.lm) : ∀ (ds : List D) (vs : List V), ShrL T g H ds vs → ShrL T' g H ds vs
  | [], _, h => by simpa only [ShrL] using h
  | d :: ds, vs, h => by
    simp only [ShrL] at h ⊢
    obtain ⟨v, ws, e, q, r⟩ := h
    exact ⟨v, ws, e, Shr.th eK ep ew el d v q, ShrL.th eK ep ew el ds ws r⟩
theorem ShrK.th (eK : T'.K = T.K) (ep : T'.pr = T.pr) (ew : T'.w = T.w) (el : T'.lm = T.lm) : ∀ (ds : List (D × D)) (vs : List (V × V)), ShrK T g H ds vs → ShrK T' g H ds vs
  | [], _, h => by simpa only [ShrK] using h
  | (k, d) :: ds, vs, h => by
    simp only [ShrK] at h ⊢
    obtain ⟨u, v, ws, e, p, q, r⟩ := h
    exact ⟨u, v, ws, e, Shr.th eK ep ew el k u p, Shr.th eK ep ew el d v q, ShrK.th eK ep ew el ds ws r⟩
end
end
def G.zero (g : G) : G := { g with N := 0, O := g.U, F := fun _ _ => False, B := fun _ => False, BF := fun _ _ _ => False }
theorem G.zero_U {g : G} {a : Addr} : g.zero.U a ↔ g.U a := ⟨fun h => h.elim id fun h => h.elim (fun ⟨_, h⟩ => h.elim) False.elim, fun h => .inl h⟩
def eCall0 (Φ : FF) (as : FL) : FE := fun ρ S => match as ρ S with
  | .ok ds S1 => if noObjL ds = true then (match Φ ds [] with
    | .ok d _ [] => .ok d S1
    | _ => .no) else .no
  | .exc x S1 => .exc x S1
  | .no => .no
section
variable {X : Cx} {T : Th} {W : WX} {Γ : List Md}
end
def getF (S : Store) (n : Nat) (f : Str) : Option (Nat × D) := (S[n]?).bind fun o => (o.fs.lookup f).map fun d => (o.cls, d)
section
variable {T : Th} {g : G} {S : Store} {H : Hp} {n : Nat} {f : Str} {c : Nat} {d : D}
end
def fldK (fm : Nat → Str → Nat) (cs : List Nat) (f : Str) (x : D) (S : Store) : RE := match x with
  | .obj n => (match getF S n f with
    | some (c, d) => if c ∈ cs ∧ fm c f = 0 then .ok d S else .no
    | none => .no)
  | _ => .no
def fldV (cs : List Nat) (f : Str) (x : D) (S : Store) : RE := match x with
  | .obj n => (match getF S n f with
    | some (c, d) => if c ∈ cs then .ok d S else .no
    | none => .no)
  | _ => .no
def eFld (fm : Nat → Str → Nat) (cs : List Nat) (f : Str) (a : FE) : FE := fun ρ S => (a ρ S).bind fun x S1 => fldK fm cs f x S1
def eFldV (cs : List Nat) (f : Str) (a : FE) : FE := fun ρ S => (a ρ S).bind fun x S1 => fldV cs f x S1
section
variable {X : Cx} {T : Th} {W : WX} {Γ : List Md} {fm : Nat → Str → Nat} {cs : List Nat} {f : Str}
end
end Q

namespace Q
open PySem PySem.Spec PyProof.Rows L2
section
variable {X : Cx} {CX : CXT} {k : Nat} {f C : Addr} {fd : FuncData} {ps : List Str} {sp : Sp} {E : L2.St → XK} {x m : Str} {p pos apos : Pos} {e o : Expr} {es : List Expr} {ta : TE} {t : TA}
end
end Q

namespace Q
open PySem PySem.Spec PyProof.Rows L2
section
variable {X : Cx} {T : Th} {W : WX} {Γ : List Md} {bs : List Bool}
theorem ShrM.app {g : G} {H : Hp} {dd : List D} {dvs : List V} (hd : ∀ g H, ShrL T g H dd dvs) : ∀ {bs : List Bool} {ds : List D} {vs : List V}, ShrM T g H bs ds vs → ShrM T g H bs (ds ++ dd) (vs ++ dvs)
  | bs, [], vs, h => by
    simp only [ShrM] at h
    subst h
    show ShrM T g H bs dd dvs
    have key : ∀ (dd : List D) (dvs : List V) (bs : List Bool), (∀ g H, ShrL T g H dd dvs) → ShrM T g H bs dd dvs := by
      intro dd
      induction dd with
      | nil => intro dvs bs h; have := h g H; simp only [ShrL] at this; simp only [ShrM]; exact this
      | cons d r ih =>
        intro dvs bs h
        have h0 := h g H
        simp only [ShrL] at h0
        obtain ⟨v, ws, rfl, _, _⟩ := h0
        simp only [ShrM]
        refine ⟨v, ws, rfl, ?_, ih ws bs.tail fun g' H' => ?_⟩
        · have h1 := h (if bs.headD false = true then g.bb else g) H
          simp only [ShrL] at h1
          obtain ⟨v', ws', e, s, _⟩ := h1
          cases e
          exact s
        · have h1 := h g' H'
          simp only [ShrL] at h1
          obtain ⟨v', ws', e, _, r'⟩ := h1
          cases e
          exact r'
    exact key dd dvs bs hd
  | bs, d :: ds, vs, h => by
    simp only [ShrM] at h
    obtain ⟨v, ws, rfl, q, r⟩ := h
    show ShrM T g H bs (d :: (ds ++ dd)) (v :: (ws ++ dvs))
    simp only [ShrM]
    exact ⟨v, _, rfl, q, ShrM.app hd r⟩
def RFE (r : RF) : RE := match r with
  | .ok d _ S => .ok d S
  | .exc x _ S => .exc x S
  | .no => .no
def eCallD (Φ : FF) (dd : List D) (as : FL) : FE := fun ρ S => match as ρ S with
  | .ok ds S1 => RFE (Φ (ds ++ dd) S1)
  | .exc x S1 => .exc x S1
  | .no => .no
def methK (m : Str) (tbl : List (Nat × FF)) (dd : List D) (x : D) (S1 : Store) (k : Store → RL) : RE := match x with
  | .obj n => (match S1[n]? with
    | some ob => if (ob.fs.lookup m).isNone = true then (match tbl.lookup ob.cls with
      | some Φ => (match k S1 with
        | .ok ds S2 => RFE (Φ (.obj n :: (ds ++ dd)) S2)
        | .exc y S2 => .exc y S2
        | .no => .no)
      | none => .no) else .no
    | none => .no)
  | _ => .no
def eMeth (m : Str) (tbl : List (Nat × FF)) (dd : List D) (a : FE) (as : FL) : FE := fun ρ S => (a ρ S).bind fun x S1 => methK m tbl dd x S1 (as ρ)
def G.newObj (g : G) (x : Addr) : G := { g with N := g.N + 1, μ := fun n => if n = g.N then x else g.μ n, B := fun a => g.B a ∨ a = x }
theorem Rel.newObj {g : G} {ρ : Env} {S : Store} {σ : L2.St} {H : Hp} {c : Nat} {x dx : Addr} (R : Rel T g Γ ρ S σ H) (hx : H x = none) (hdx : H dx = none) (ne : dx ≠ x) :
    Rel T (g.newObj x) Γ ρ (S ++ [⟨c, []⟩]) σ (upd (upd H dx (.own x)) x (.ins (T.cA c) dx [])) ∧ FrE g H (g.newObj x) (upd (upd H dx (.own x)) x (.ins (T.cA c) dx [])) := by
  have e1 : Exx H (upd H dx (.own x)) := Exx.new hdx
  have hx1 : upd H dx (.own x) x = none := by rw [upd_ne ne.symm]; exact hx
  have ex : Exx H (upd (upd H dx (.own x)) x (.ins (T.cA c) dx [])) := e1.trans (Exx.new hx1)
  have np : ∀ a, g.U a → a ≠ x := fun a u z => by
    obtain ⟨o, q⟩ := R.dom a u
    rw [z, hx] at q; cases q
  have ndx : ∀ a, g.U a → a ≠ dx := fun a u z => by
    obtain ⟨o, q⟩ := R.dom a u
    rw [z, hdx] at q; cases q
  have hU : ∀ a, (g.newObj x).U a → g.U a ∨ a = x := fun a u => by
    rcases u with u | u | u | u
    · exact .inl (.inl u)
    · exact .inl (.inr (.inl u))
    · exact .inl (.inr (.inr u))
    · exact .inr u
  have fe : FrE g H (g.newObj x) (upd (upd H dx (.own x)) x (.ins (T.cA c) dx [])) := ⟨fun a o h _ => ex a o h, fun a h => h.imp id fun z => by rw [z]; exact hx, rfl, rfl, rfl, Nat.le_succ _, fun n h => if_neg (Nat.ne_of_lt h), fun a o h => ⟨o, ex a o h⟩⟩
  refine ⟨⟨R.len, fun i d e => ?_, R.dF, R.dFO, fun i a h u => ?_, fun a h u => ?_, fun a u => ?_, ?_, fun a u w r => ?_⟩, fe⟩
  · obtain ⟨v, h1, h2⟩ := R.slot i d e
    refine ⟨v, h1, ?_⟩
    have st := fe.stay
    cases hm : Γ.getD i .s <;> rw [hm] at h2 <;> simp only [RepM] at h2 ⊢
    · exact h2.stay st
    · exact Own.keepF st _ _ _ _ (fun a o z q => ex a o q) h2
    · exact Own.keepF st _ _ _ _ (fun a o z q => ex a o q) h2
    · exact ⟨h2.1, Own.keepF st _ _ _ _ (fun a o z q => ex a o q) h2.2⟩
    · exact h2
    · exact h2.stay fe.bare
    · exact ⟨h2.1, (st).keep _ _ h2.2.1 h2.2.2, (st).off h2.2.1 h2.2.2⟩
  · rcases u with u | u
    · exact R.dFB i a h u
    · exact np a (.inr (.inl ⟨i, h⟩)) u
  · rcases u with u | u
    · exact R.dOB a h u
    · exact np a (.inl h) u
  · rcases hU a u with u | u
    · obtain ⟨o, q⟩ := R.dom a u
      exact ⟨o, ex a o q⟩
    · exact ⟨_, by rw [u]; exact upd_same⟩
  · have st := fe.stay
    have r := R.st
    have hN : g.N = S.length := r.N
    have μo : ∀ n, n < g.N → (g.newObj x).μ n = g.μ n := fun n h => if_neg (Nat.ne_of_lt h)
    have μn : (g.newObj x).μ g.N = x := if_pos rfl
    refine ⟨by show g.N + 1 = _; rw [hN]; simp, fun m n hm hn e => ?_, fun n hn => ?_, fun n f a h => ⟨.inl (r.bB n f a h).1, fun m hm => ?_⟩, r.bd, fun n o e => ?_, fun n o e => ?_, fun p hp => (r.tb p hp).stay st (fun o e => ex _ _ e) (fun z => .inl z) fun n f z => z⟩
    · have hm : m < g.N + 1 := hm
      have hn : n < g.N + 1 := hn
      by_cases h1 : m = g.N <;> by_cases h2 : n = g.N
      · rw [h1, h2]
      · subst h1
        rw [μn, μo n (by omega)] at e
        exact absurd e.symm (np _ (.inr (.inr (r.mB n (by omega)))))
      · subst h2
        rw [μn, μo m (by omega)] at e
        exact absurd e (np _ (.inr (.inr (r.mB m (by omega)))))
      · rw [μo m (by omega), μo n (by omega)] at e
        exact r.inj m n (by omega) (by omega) e
    · have hn : n < g.N + 1 := hn
      by_cases h2 : n = g.N
      · subst h2; rw [μn]; exact .inr rfl
      · rw [μo n (by omega)]; exact .inl (r.mB n (by omega))
    · have hm : m < g.N + 1 := hm
      by_cases h2 : m = g.N
      · subst h2; rw [μn]; exact np a (.inr (.inr (r.bB n f a h).1))
      · rw [μo m (by omega)]; exact (r.bB n f a h).2 m (by omega)
    · rw [List.getElem?_append] at e
      split at e
      · exact r.nd n o e
      · rename_i h
        cases hk : n - S.length with
        | zero => rw [hk] at e; cases e; exact List.nodup_nil
        | succ j => rw [hk] at e; simp at e
    · by_cases h2 : n < S.length
      · rw [List.getElem?_append_left h2] at e
        obtain ⟨dx', fs, h1, h3, h4⟩ := r.ob n o e
        refine ⟨dx', fs, by rw [μo n (by omega)]; exact ex _ _ h1, h3, fun j d w a b => ?_⟩
        exact Own.keepF st _ _ _ _ (fun a o _ q => ex a o q) (h4 j d w a b)
      · rw [List.getElem?_append_right (by omega)] at e
        cases hk : n - S.length with
        | zero =>
          rw [hk] at e
          cases e
          have : n = g.N := by omega
          subst this
          exact ⟨dx, [], by rw [μn]; exact upd_same, rfl, fun j d w a => by simp at a⟩
        | succ j => rw [hk] at e; simp at e
  · rcases hU a u with u | u
    · exact ex.nt R.dom R.nt a u w r
    · rw [u] at r
      rcases r with r | ⟨b, r⟩
      · rw [upd_same] at r; cases r
      · rw [upd_same] at r; cases r
def makeR (n : Nat) (r : RF) : RE := match r with
  | .ok .non _ S => .ok (.obj n) S
  | .exc x _ S => .exc x S
  | _ => .no
def eMake (c : Nat) (Φ : FF) (dd : List D) (as : FL) : FE := fun ρ S => match as ρ S with
  | .ok ds S1 => makeR S1.length (Φ (.obj S1.length :: (ds ++ dd)) (S1 ++ [⟨c, []⟩]))
  | .exc x S1 => .exc x S1
  | .no => .no
end
end Q

namespace Q
open PySem PySem.Spec PyProof.Rows L2
def putD (f : Str) (d : D) : List (Str × D) → List (Str × D)
  | [] => [(f, d)]
  | (g, x) :: r => if g = f then (g, d) :: r else (g, x) :: putD f d r
theorem putD_keys {f : Str} {d : D} {y : V} : ∀ {l : List (Str × D)} {m : List (Str × V)}, m.map (·.1) = l.map (·.1) → (putF f y m).map (·.1) = (putD f d l).map (·.1)
  | [], [], _ => rfl
  | [], _ :: _, e => by simp at e
  | _ :: _, [], e => by simp at e
  | (k, x) :: l, (k', z) :: m, e => by
    simp only [List.map_cons, List.cons.injEq] at e
    obtain ⟨e1, e2⟩ := e
    subst e1
    unfold putD putF
    split
    · simp only [List.map_cons]; rw [e2]
    · simp only [List.map_cons]; rw [putD_keys e2]
theorem putD_mem {f : Str} {d : D} : ∀ {l : List (Str × D)} {k : Str}, k ∈ (putD f d l).map (·.1) → k = f ∨ k ∈ l.map (·.1)
  | [], k, h => by simp [putD] at h; exact .inl h
  | (k', x) :: l, k, h => by
    unfold putD at h
    split at h
    · exact .inr h
    · simp only [List.map_cons, List.mem_cons] at h ⊢
      rcases h with h | h
      · exact .inr (.inl h)
      · rcases putD_mem h with h | h
        · exact .inl h
        · exact .inr (.inr h)
theorem putD_nodup {f : Str} {d : D} : ∀ {l : List (Str × D)}, (l.map (·.1)).Nodup → ((putD f d l).map (·.1)).Nodup
  | [], _ => by simp [putD]
  | (k', x) :: l, h => by
    unfold putD
    split
    · exact h
    · rename_i hk
      simp only [List.map_cons, List.nodup_cons] at h ⊢
      refine ⟨fun z => ?_, putD_nodup h.2⟩
      rcases putD_mem z with z | z
      · exact hk z
      · exact h.1 z
theorem put_pair {f : Str} {d : D} {y : V} : ∀ {l : List (Str × D)} {m : List (Str × V)} {j : Nat} {p : Str × D} {q : Str × V}, m.map (·.1) = l.map (·.1) → (l.map (·.1)).Nodup → (putD f d l)[j]? = some p → (putF f y m)[j]? = some q →
    (p = (f, d) ∧ q = (f, y)) ∨ (p.1 ≠ f ∧ l[j]? = some p ∧ m[j]? = some q)
  | [], [], j, p, q, _, _, h1, h2 => by
    cases j with
    | zero => cases h1; cases h2; exact .inl ⟨rfl, rfl⟩
    | succ j => simp [putD] at h1
  | [], _ :: _, _, _, _, e, _, _, _ => by simp at e
  | _ :: _, [], _, _, _, e, _, _, _ => by simp at e
  | (k, x) :: l, (k', z) :: m, j, p, q, e, hn, h1, h2 => by
    simp only [List.map_cons, List.cons.injEq] at e
    obtain ⟨e1, e2⟩ := e
    subst e1
    simp only [List.map_cons, List.nodup_cons] at hn
    unfold putD at h1
    unfold putF at h2
    by_cases hk : k' = f
    · rw [if_pos hk] at h1 h2
      cases j with
      | zero => cases h1; cases h2; rw [hk]; exact .inl ⟨rfl, rfl⟩
      | succ j =>
        refine .inr ⟨fun z => ?_, h1, h2⟩
        have : p ∈ l := List.mem_of_getElem? h1
        exact hn.1 (List.mem_map.mpr ⟨p, this, by rw [z, hk]⟩)
    · rw [if_neg hk] at h1 h2
      cases j with
      | zero => cases h1; exact .inr ⟨hk, rfl, h2⟩
      | succ j =>
        rcases put_pair (j := j) e2 hn.2 h1 h2 with h | ⟨h, h3, h4⟩
        · exact .inl h
        · exact .inr ⟨h, h3, h4⟩
def G.putf (g : G) (n : Nat) (f : Str) (Fo : Addr → Prop) : G := { g with B := fun a => g.B a ∨ Fo a, BF := fun m e a => (m = n ∧ e = f ∧ Fo a) ∨ (¬ (m = n ∧ e = f) ∧ g.BF m e a) }
section
variable {T : Th} {Γ : List Md} {g : G} {ρ : Env} {S : Store} {σ : L2.St} {H : Hp} {Fo : Addr → Prop}
theorem Rel.putf {n : Nat} {f : Str} {ob : Ob} {dx : Addr} {fs : List (Str × V)} {d : D} {y : V} (R : Rel T (g.plusF ρ.length Fo) Γ ρ S σ H) (hFo : ∀ a, Fo a → ¬ g.U a) (e1 : S[n]? = some ob) (h1 : H (g.μ n) = some (.ins (T.cA ob.cls) dx fs)) (h2 : fs.map (·.1) = ob.fs.map (·.1))
    (hw : Own T (g.plusF ρ.length Fo) H (T.fm ob.cls f) Fo d y) : Rel T (g.putf n f Fo) Γ ρ (S.set n ⟨ob.cls, putD f d ob.fs⟩) σ (upd H (g.μ n) (.ins (T.cA ob.cls) dx (putF f y fs))) ∧ Stay (g.plusF ρ.length Fo) H (g.putf n f Fo) (upd H (g.μ n) (.ins (T.cA ob.cls) dx (putF f y fs))) := by
  have r := R.st
  have hn : n < g.N := by have : g.N = S.length := r.N; rw [this]; exact (List.getElem?_eq_some_iff.mp e1).1
  have hB : g.B (g.μ n) := r.mB n hn
  have hUU : ∀ a, (g.putf n f Fo).U a → (g.plusF ρ.length Fo).U a := fun a u => by
    rcases u with u | u | u | u
    · exact G.plusF_U.mpr (.inl (.inl u))
    · exact G.plusF_U.mpr (.inl (.inr (.inl u)))
    · exact G.plusF_U.mpr (.inl (.inr (.inr u)))
    · exact G.plusF_U.mpr (.inr u)
  have kp : ∀ a o, a ≠ g.μ n → H a = some o → upd H (g.μ n) (.ins (T.cA ob.cls) dx (putF f y fs)) a = some o := fun a o h e => by rw [upd_ne h]; exact e
  have st : Stay (g.plusF ρ.length Fo) H (g.putf n f Fo) (upd H (g.μ n) (.ins (T.cA ob.cls) dx (putF f y fs))) := ⟨fun a o e hu => kp a o (fun z => hu (by rw [z]; exact .inr (.inr hB))) e, fun a h => .inl (hUU a h), Nat.le_refl _, fun _ _ => rfl, rfl⟩
  have stb : Stay (g.plusF ρ.length Fo).bare H (g.putf n f Fo).bare (upd H (g.μ n) (.ins (T.cA ob.cls) dx (putF f y fs))) := ⟨fun a o e hu => kp a o (fun z => hu (by rw [z]; exact .inr (.inr hB))) e, fun a h => .inl (by
    rcases h with h | ⟨i, h⟩ | h | h
    · exact h.elim
    · exact .inr (.inl ⟨i, .inl h⟩)
    · exact .inr (.inr h)
    · exact .inr (.inl ⟨ρ.length, .inr ⟨rfl, h⟩⟩)), Nat.le_refl _, fun _ _ => rfl, rfl⟩
  refine ⟨⟨R.len, fun i d' e => ?_, fun i j a h h' => R.dF i j a (.inl h) (.inl h'), fun i a h => R.dFO i a (.inl h), fun i a h u => ?_, fun a h u => ?_, fun a u => ?_, ?_, nt_upd (fun a u => R.nt a (hUU a u)) (fun _ => ⟨nofun, fun _ => nofun⟩)⟩, st⟩
  · obtain ⟨v, q1, q2⟩ := R.slot i d' e
    have hi : i < ρ.length := (List.getElem?_eq_some_iff.mp e).1
    refine ⟨v, q1, ?_⟩
    have wF : ∀ a, (g.plusF ρ.length Fo).F i a → (g.putf n f Fo).F i a := fun a z => z.elim id fun z => absurd z.1 (by omega)
    have kF : ∀ a o, (g.plusF ρ.length Fo).F i a → H a = some o → upd H (g.μ n) (.ins (T.cA ob.cls) dx (putF f y fs)) a = some o := fun a o z q => kp a o (fun w => R.dFB i a z (by rw [w]; exact hB)) q
    cases hm : Γ.getD i .s <;> rw [hm] at q2 <;> simp only [RepM] at q2 ⊢
    · exact q2.stay st
    · exact Own.wide _ _ _ _ _ wF (Own.keepF st _ _ _ _ kF q2)
    · exact Own.keepF st _ _ _ _ (fun a o z q => kp a o (fun w => R.dOB a z (by rw [w]; exact hB)) q) q2
    · exact ⟨q2.1, Own.wide _ _ _ _ _ wF (Own.keepF st _ _ _ _ kF q2.2)⟩
    · exact q2
    · exact q2.stay stb
    · exact ⟨q2.1, (st).keep _ _ q2.2.1 q2.2.2, (st).off q2.2.1 q2.2.2⟩
  · rcases u with u | u
    · exact R.dFB i a (.inl h) u
    · exact hFo a u (.inr (.inl ⟨i, h⟩))
  · rcases u with u | u
    · exact R.dOB a h u
    · exact hFo a u (.inl h)
  · by_cases ha : a = g.μ n
    · exact ⟨_, by rw [ha]; exact upd_same⟩
    · obtain ⟨o, q⟩ := R.dom a (hUU a u)
      exact ⟨o, kp a o ha q⟩
  · refine ⟨by show g.N = _; rw [List.length_set]; exact r.N, r.inj, fun m hm => .inl (r.mB m hm), fun m e a h => ?_, fun m e m' e' a h h' => ?_, fun m o e => ?_, fun m o e => ?_, fun p hp => ?_⟩
    rotate_right
    · have t := r.tb p hp
      obtain ⟨t1, t2, ps, t3, _⟩ := id t
      refine t.stay st (fun o e => kp _ _ (fun z => ?_) e) (fun z => .inl z) fun m e z => ?_
      · rw [z, h1] at t3; cases t3
      · rcases z with z | z
        · exact absurd (.inr (.inr t1)) (hFo p.1 z.2.2)
        · exact z.2
    · rcases h with h | h
      · exact ⟨.inr h.2.2, fun m' hm' z => hFo a h.2.2 (by rw [z]; exact .inr (.inr (r.mB m' hm')))⟩
      · exact ⟨.inl (r.bB m e a h.2).1, (r.bB m e a h.2).2⟩
    · rcases h with h | h <;> rcases h' with h' | h'
      · exact ⟨h.1.trans h'.1.symm, h.2.1.trans h'.2.1.symm⟩
      · exact absurd (.inr (.inr (r.bB m' e' a h'.2).1)) (hFo a h.2.2)
      · exact absurd (.inr (.inr (r.bB m e a h.2).1)) (hFo a h'.2.2)
      · exact r.bd m e m' e' a h.2 h'.2
    · by_cases hm : n = m
      · subst hm
        rw [List.getElem?_set_self (by rw [← r.N]; exact hn)] at e
        cases e
        exact putD_nodup (r.nd n ob e1)
      · rw [List.getElem?_set_ne hm] at e
        exact r.nd m o e
    · by_cases hm : n = m
      · subst hm
        rw [List.getElem?_set_self (by rw [← r.N]; exact hn)] at e
        cases e
        refine ⟨dx, putF f y fs, upd_same, putD_keys h2, fun j p q a b => ?_⟩
        rcases put_pair h2 (r.nd n ob e1) a b with ⟨rfl, rfl⟩ | ⟨hp, a', b'⟩
        · refine Own.wide _ Fo _ _ _ (fun a z => .inl ⟨rfl, rfl, z⟩) ?_
          exact Own.keepF st _ _ _ _ (fun a o z q => kp a o (fun w => hFo a z (by rw [w]; exact .inr (.inr hB))) q) hw
        · obtain ⟨dx', fs', k1, k2, k3⟩ := r.ob n ob e1
          have : HO.ins (T.cA ob.cls) dx' fs' = .ins (T.cA ob.cls) dx fs := Option.some.inj ((show H (g.μ n) = _ from k1).symm.trans h1)
          cases this
          have hw' := k3 j p q a' b'
          refine Own.wide _ (g.BF n p.1) _ _ _ (fun a z => .inr ⟨fun w => hp w.2, z⟩) ?_
          exact Own.keepF st _ _ _ _ (fun a o z q => kp a o ((r.bB n p.1 a z).2 n hn) q) hw'
      · rw [List.getElem?_set_ne hm] at e
        obtain ⟨dx', fs', k1, k2, k3⟩ := r.ob m o e
        have hmN : m < g.N := by have : g.N = S.length := r.N; rw [this]; exact (List.getElem?_eq_some_iff.mp e).1
        refine ⟨dx', fs', kp _ _ (fun w => hm (r.inj n m hn hmN w.symm)) k1, k2, fun j p q a b => ?_⟩
        refine Own.wide _ (g.BF m p.1) _ _ _ (fun a z => .inr ⟨fun w => hm w.1.symm, z⟩) ?_
        exact Own.keepF st _ _ _ _ (fun a o z q => kp a o ((r.bB m p.1 a z).2 n hn) q) (k3 j p q a b)
end
section
variable {X : Cx} {T : Th} {J : Jd} {Γ : List Md} {fm : Nat → Str → Nat} {cs : List Nat} {f : Str}
end
end Q

namespace Q
open PySem PySem.Spec PyProof.Rows L2
def Focus (T : Th) (H : Hp) : List Nat → D → V → D → V → Prop
  | [], d, v, d', v' => d' = d ∧ v' = v
  | j :: js, .lst l, v, d', v' => ∃ p vs d1 w, v = .ref p ∧ H p = some (.lst vs) ∧ l[j]? = some d1 ∧ vs[j]? = some w ∧ Focus T H js d1 w d' v'
  | j :: js, .dct l, v, d', v' => ∃ p kd w, v = .ref p ∧ (∃ kvs, DRep T H p l kvs) ∧ (∀ kvs, DRep T H p l kvs → ∃ u, kvs[j]? = some (u, w)) ∧ l[j]? = some kd ∧ Focus T H js kd.2 w d' v'
  | _ :: _, _, _, _, _ => False
def setAt : List Nat → D → D → D
  | [], _, x => x
  | j :: js, .lst l, x => (match l[j]? with
    | some d => .lst (l.set j (setAt js d x))
    | none => .lst l)
  | j :: js, .dct l, x => (match l[j]? with
    | some kd => .dct (l.set j (kd.1, setAt js kd.2 x))
    | none => .dct l)
  | _ :: _, d, _ => d
section
variable {T : Th} {g g' : G} {H H' : Hp}
theorem Focus.ex (e : Exx H H') : ∀ {js : List Nat} {d : D} {v : V} {d' : D} {v' : V}, Focus T H js d v d' v' → Focus T H' js d v d' v'
  | [], _, _, _, _, h => h
  | j :: js, .lst l, v, d', v', h => by
    obtain ⟨p, vs, d1, w, e1, e2, e3, e4, e5⟩ := h
    exact ⟨p, vs, d1, w, e1, e p _ e2, e3, e4, Focus.ex e e5⟩
  | j :: js, .dct l, v, d', v', h => by
    obtain ⟨p, d1, w, e1, ⟨kvs, e2⟩, e3, e4, e5⟩ := h
    refine ⟨p, d1, w, e1, ⟨kvs, e2.at fun o z => e p o z⟩, fun kvs' h' => e3 kvs' ?_, e4, Focus.ex e e5⟩
    obtain ⟨o, ho⟩ := e2.there
    exact h'.at fun o' z => by rw [e p o ho] at z; cases z; exact ho
  | _ :: _, .non, _, _, _, h => h.elim
  | _ :: _, .bl _, _, _, _, h => h.elim
  | _ :: _, .int _, _, _, _, h => h.elim
  | _ :: _, .str _, _, _, _, h => h.elim
  | _ :: _, .tup _, _, _, _, h => h.elim
  | _ :: _, .scr _, _, _, _, h => h.elim
  | _ :: _, .obj _, _, _, _, h => h.elim
  | _ :: _, .fn _ _, _, _, _, h => h.elim
  | _ :: _, .gone _, _, _, _, h => h.elim
end
end Q

namespace Q
open PySem PySem.Spec PyProof.Rows L2
inductive RP where
  | ok (n : Nat) (f : Str) (js : List Nat) (d : D) (S : Store)
  | exc (x : Exc) (S : Store)
  | no
def PlAt (T : Th) (g : G) (S : Store) (H : Hp) (n : Nat) (f : Str) (js : List Nat) (d : D) (v : V) : Prop := ∃ c d0 dx fs v0, getF S n f = some (c, d0) ∧ H (g.μ n) = some (.ins (T.cA c) dx fs) ∧ fs.lookup f = some v0 ∧ Focus T H js d0 v0 d v
theorem PlAt.ex {T : Th} {g : G} {S : Store} {H H' : Hp} {n : Nat} {f : Str} {js : List Nat} {d : D} {v : V} (h : PlAt T g S H n f js d v) (e : Exx H H') : PlAt T g S H' n f js d v := by
  obtain ⟨c, d0, dx, fs, v0, h1, h2, h3, h4⟩ := h
  exact ⟨c, d0, dx, fs, v0, h1, e _ _ h2, h3, h4.ex e⟩
section
variable {X : Cx} {T : Th} {W : WX} {Γ : List Md} {fm : Nat → Str → Nat} {cs : List Nat} {f : Str}
end
def setF (S : Store) (n : Nat) (f : Str) (d : D) : Store := match S[n]? with
  | some ob => S.set n ⟨ob.cls, putD f d ob.fs⟩
  | none => S
section
variable {T : Th} {Γ : List Md} {g : G} {ρ : Env} {S : Store} {σ : L2.St} {H : Hp} {Fo : Addr → Prop}
end
end Q

namespace Q
open PySem PySem.Spec PyProof.Rows L2
def RP.bindS (ρ : Env) (r : RP) (k : Nat → Str → List Nat → D → Store → RS) : RS := match r with
  | .ok n f js d S => k n f js d S
  | .exc x S => .exc x ρ S
  | .no => .no
def RL.bindR (ρ : Env) (r : RL) (k : List D → Store → RS) : RS := match r with
  | .ok ds S => k ds S
  | .exc x S => .exc x ρ S
  | .no => .no
def lstK (d : D) (k : List D → RS) : RS := match d with
  | .lst l => k l
  | _ => .no
def optK {α : Type} (o : Option α) (k : α → RS) : RS := match o with
  | some x => k x
  | none => .no
section
variable {X : Cx} {T : Th} {W : WX} {Γ : List Md}
theorem Exx.none {H H1 : Hp} {a : Addr} (e : Exx H H1) (h : H1 a = Option.none) : H a = Option.none := by
  cases q : H a with
  | none => rfl
  | some o => rw [e a o q] at h; cases h
variable {J : Jd} {fm : Nat → Str → Nat} {f : Str}
end
end Q

namespace Q
open PySem PySem.Spec PyProof.Rows L2
def GoodSC (T : Th) (J : Jd) (Γ' : List Md) (g : G) (S : Store) (H : Hp) : RS → Ends → Prop
  | .nx ρ' S', D => S' = S → ∀ σ' g' H', Rel T g' Γ' ρ' S σ' H' → FrS g H g' H' → Exx H H' → D.nx σ' H'
  | .exc x ρ' S', _ => ∀ Γ'' c dd σ' g' H', J.ΓX Γ'' → Rel T g' Γ'' ρ' S' σ' H' → FrS g H g' H' → ExcR T g' H' x c dd → J.W c dd σ' H'
  | _, _ => False
section
variable {X : Cx} {T : Th} {J : Jd} {Γ Γ' Γ1 : List Md} {fm : Nat → Str → Nat}
theorem GoodSC.after {g g1 : G} {S : Store} {H H1 : Hp} {r : RS} {D : Ends} (h : GoodSC T J Γ' g S H r D) (f : FrS g H g1 H1) (e : Exx H H1) : GoodSC T J Γ' g1 S H1 r D := by
  cases r with
  | nx ρ' S' => exact fun es σ' g' H' R f' e' => h es σ' g' H' R (f.trans f') (e.trans e')
  | exc x ρ' S' => exact fun Γ'' c dd σ' g' H' a R f' ex => h Γ'' c dd σ' g' H' a R (f.trans f') ex
  | bk _ _ => exact h
  | ct _ _ => exact h
  | rt _ _ _ => exact h
  | no => exact h
end
end Q

namespace Q
open PySem PySem.Spec PyProof.Rows L2
section
variable {X : Cx} {T : Th} {J : Jd} {Γ : List Md} {fm : Nat → Str → Nat}
end
end Q

namespace Q
open PySem PySem.Spec PyProof.Rows L2
section
variable {P : Program} {w : World} {K : PySem.W.Frag} {mg : Str → Option Value} {base : Heap}
end
section
variable {X : Cx} {T : Th} {W : WX} {Γ : List Md} {fm : Nat → Str → Nat} {f : Str}
end
end Q

namespace Q
open PySem PySem.Spec PyProof.Rows L2
section
variable {X : Cx} {T : Th} {W : WX} {Γ : List Md} {bs : List Bool}
end
section
variable {P : Program} {w : World} {K : PySem.W.Frag} {mg : Str → Option Value} {base : Heap} {T : Th}
theorem fn_okSR {qual : Str} {st : Stmt} {f : Addr} {fd : FuncData} {N ps : List Str} {k n : Nat} {B : FS} {Γ' : List Md} (F : OkRule P w K mg base qual st f fd) (Sc : FnScope N ps (defScope st)) (hn : ps.length = n) (hN : n ≤ N.length)
    (hbody : ∀ (cdv : Value) (A : Around) (outer : List PySem.Env) (s : Shared) (H : Hp) (E : XK), Room k (A.deeper (envOfC qual (defScope st) s.heap.objs.size f cdv)) →
      XB (cxOf (L2.CX P w) P w K mg base N qual (defScope st) f cdv A outer s H E) T (jdS n E) (ΓS N.length) Γ' (defBody st) B) :
    FnOk P w K mg base (L2.CX P w) (k + 1) f fd ps (spD T n (sgS n) (fBody N.length n (ΓS n) B)) := by
  refine fn_okR (sg := sgS n) F Sc hn hN (Γ' := Γ') (fun cdv A outer s H E hr => ?_) gp_s
  have e : (sgS n).ms ++ List.replicate (N.length - (sgS n).ms.length) .s = ΓS N.length := by
    show List.replicate n Md.s ++ List.replicate (N.length - (List.replicate n Md.s).length) .s = List.replicate N.length .s
    rw [List.length_replicate, List.replicate_append_replicate]
    congr 1; omega
  rw [e]; exact hbody cdv A outer s H E hr
end
end Q

namespace Q
open PySem PySem.Spec PyProof.Rows L2
mutual
def NK (K : PySem.W.Frag) (H : Hp) : NestedKey → V → Prop
  | .none, v => v = .non
  | .num i, v => v = .int i ∨ ∃ b : Bool, v = .bl b ∧ i = (if b = true then 1 else 0)
  | .text x, v => v = .str x
  | .tup ks, v => ∃ a vs, v = .ref a ∧ SqT K H a vs ∧ NKL K H ks vs
def NKL (K : PySem.W.Frag) (H : Hp) : List NestedKey → List V → Prop
  | [], vs => vs = []
  | k :: ks, vs => ∃ v ws, vs = v :: ws ∧ NK K H k v ∧ NKL K H ks ws
end
mutual
theorem nk_shr {T : Th} {g : G} {H : Hp} : ∀ (d : D) (k : NestedKey) (v : V), nk d = some k → Shr T g H d v → NK T.K H k v
  | .non, k, v, e, s => by simp only [nk] at e; cases e; simp only [NK]; exact shr_non.mp s
  | .bl b, k, v, e, s => by simp only [nk] at e; cases e; simp only [NK]; exact .inr ⟨b, shr_bl.mp s, rfl⟩
  | .int i, k, v, e, s => by simp only [nk] at e; cases e; simp only [NK]; exact .inl (shr_int.mp s)
  | .str x, k, v, e, s => by simp only [nk] at e; cases e; simp only [NK]; exact shr_str.mp s
  | .tup l, k, v, e, s => by
    simp only [nk] at e
    obtain ⟨ks, e1, e2⟩ := Option.map_eq_some_iff.mp e
    subst e2
    obtain ⟨a, vs, h1, h2, h3⟩ := shr_tup.mp s
    simp only [NK]
    exact ⟨a, vs, h1, h2.sq, nkL_shr l ks vs e1 h3⟩
  | .lst l, k, v, e, s => by simp only [nk] at e; cases e
  | .scr l, k, v, e, s => by simp only [nk] at e; cases e
  | .dct l, k, v, e, s => by simp only [nk] at e; cases e
  | .obj n, k, v, e, s => by simp only [nk] at e; cases e
  | .fn n l, k, v, e, s => by simp only [nk] at e; cases e
  | .gone n, k, v, e, s => by simp only [nk] at e; cases e
theorem nkL_shr {T : Th} {g : G} {H : Hp} : ∀ (l : List D) (ks : List NestedKey) (vs : List V), nkL l = some ks → ShrL T g H l vs → NKL T.K H ks vs
  | [], ks, vs, e, s => by
    simp only [nkL] at e
    cases e
    simp only [ShrL] at s
    simp only [NKL]
    exact s
  | d :: r, ks, vs, e, s => by
    simp only [nkL] at e
    split at e
    · rename_i k ks' e1 e2
      cases e
      simp only [ShrL] at s
      obtain ⟨v, ws, h1, h2, h3⟩ := s
      simp only [NKL]
      exact ⟨v, ws, h1, nk_shr d k v e1 h2, nkL_shr r ks' ws e2 h3⟩
    · cases e
end
section
variable {X : Cx} {pins : List (Addr × Obj)} {σ : L2.St} {H : Hp} {s : Shared}
mutual
theorem nk_is (I : Inv X pins σ H s) : ∀ (k : NestedKey) (v : V) (u : Value), NK X.K H k v → RelV v u → NestedIs s.heap k u
  | .none, v, u, h, r => by
    simp only [NK] at h
    subst h
    obtain rfl : u = Value.none := r
    exact .none
  | .num i, v, u, h, r => by
    simp only [NK] at h
    rcases h with h | ⟨b, h, e⟩
    · subst h
      obtain ⟨t, rfl⟩ := (show ∃ t, u = Value.int i t from r)
      exact .int i t
    · subst h
      obtain rfl : u = Value.bool b := r
      exact .bool e
  | .text x, v, u, h, r => by
    simp only [NK] at h
    subst h
    obtain ⟨t, rfl⟩ := (show ∃ t, u = Value.str x t from r)
    exact .text x t
  | .tup ks, v, u, h, r => by
    simp only [NK] at h
    obtain ⟨a, vs, h1, h2, h3⟩ := h
    subst h1
    obtain rfl : u = Value.ref a := r
    obtain ⟨its, rv, pl, hz⟩ := I.tuple h2
    obtain ⟨o, ho, hc, n, hd⟩ := pl
    exact .tup ho hc hd (by simpa using nkL_is I ks vs its h3 rv)
theorem nkL_is (I : Inv X pins σ H s) : ∀ (ks : List NestedKey) (vs : List V) (us : List Value), NKL X.K H ks vs → Vals vs us → NestedAll s.heap ks us
  | [], vs, us, h, r => by
    simp only [NKL] at h
    subst h
    cases r
    exact .nil
  | k :: ks, vs, us, h, r => by
    simp only [NKL] at h
    obtain ⟨v, ws, h1, h2, h3⟩ := h
    subst h1
    cases r with
    | cons h4 h5 => exact .cons (nk_is I k v _ h2 h4) (nkL_is I ks ws _ h3 h5)
end
end
def valN (ps : List (NestedKey × Addr × V)) (k : NestedKey) : Option V := (ps.find? fun p => decide (p.1 = k)).map (·.2.2)
def putNAt (k : NestedKey) (v : V) (p : NestedKey × Addr × V) : NestedKey × Addr × V := if p.1 = k then (p.1, p.2.1, v) else p
def putN (ps : List (NestedKey × Addr × V)) (k : NestedKey) (b : Addr) (v : V) : List (NestedKey × Addr × V) := if (valN ps k).isSome then ps.map (putNAt k v) else ps ++ [(k, b, v)]
abbrev PN (ps : List (NestedKey × Addr × V)) (xs : List (NestedKey × Addr × Value)) : Prop := Paired (fun (p : NestedKey × Addr × V) (x : NestedKey × Addr × Value) => p.1 = x.1 ∧ p.2.1 = x.2.1 ∧ RelV p.2.2 x.2.2) ps xs
theorem PN.val {ps : List (NestedKey × Addr × V)} {xs : List (NestedKey × Addr × Value)} (r : PN ps xs) (k : NestedKey) : RelO (valN ps k) ((atKey xs k).map (·.2)) := by
  induction r with
  | nil => exact True.intro
  | @cons p q ps qs h t ih =>
    obtain ⟨h1, _, h2⟩ := h
    by_cases e : p.1 = k
    · have e' : q.1 = k := h1.symm.trans e
      have b : atKey (q :: qs) k = some q.2 := by simp [atKey, List.find?_cons, e']
      have c : valN (p :: ps) k = some p.2.2 := by simp [valN, List.find?_cons, e]
      rw [c, b]; exact h2
    · have e' : ¬ q.1 = k := fun z => e (h1.trans z)
      have b : atKey (q :: qs) k = atKey qs k := by simp [atKey, List.find?_cons, e']
      have c : valN (p :: ps) k = valN ps k := by simp [valN, List.find?_cons, e]
      rw [c, b]; exact ih
theorem PN.put {ps : List (NestedKey × Addr × V)} {xs : List (NestedKey × Addr × Value)} (r : PN ps xs) (k : NestedKey) (b : Addr) {y : V} {u : Value} (ry : RelV y u) : PN (putN ps k b y) (storedH xs k b u) := by
  have e : (valN ps k).isSome = (atKey xs k).isSome := by rw [(r.val k).isSome_eq, Option.isSome_map]
  unfold putN storedH
  rw [e]
  by_cases q : (atKey xs k).isSome = true
  · rw [if_pos q, if_pos q]
    clear q e
    induction r with
    | nil => exact .nil
    | @cons p q ps qs h t ih =>
      rw [List.map_cons, List.map_cons]
      refine .cons ?_ ih
      obtain ⟨h1, h2, h3⟩ := h
      unfold putAt putNAt
      by_cases e : p.1 = k
      · rw [if_pos e, if_pos (h1.symm.trans e)]; exact ⟨h1, h2, ry⟩
      · rw [if_neg e, if_neg (fun z => e (h1.trans z))]; exact ⟨h1, h2, h3⟩
  · rw [if_neg q, if_neg q]; exact Paired.snoc r ⟨rfl, rfl, ry⟩
section
variable {X : Cx} {pins : List (Addr × Obj)} {σ : L2.St} {H : Hp} {s : Shared} {a : Addr} {y v : V} {u r : Value} {o : Option V} {A : Around} {E : Value → Shared → Prop}
end
end Q

namespace Q
open PySem PySem.Spec PyProof.Rows L2
section
variable {X : Cx} {pins : List (Addr × Obj)} {σ : L2.St} {H : Hp} {s : Shared} {a : Addr} {y v : V} {u r : Value} {o : Option V} {A : Around} {E : Value → Shared → Prop}
end
end Q

namespace Q
open PySem PySem.Spec PyProof.Rows L2
def kEq (a b : D) : Bool := match nk a, nk b with
  | some x, some y => decide (x = y)
  | _, _ => false
def dlook (l : List (D × D)) (k : D) : Option D := (l.find? fun p => kEq p.1 k).map (·.2)
def keyF (k : D) : Bool := match k with
  | .int _ => true
  | .str _ => true
  | .tup _ => (nk k).any fun x => decide (x.depth ≤ 8)
  | _ => false
section
variable {T : Th} {g : G} {H : Hp}
def sortOk (l : List (D × D)) (k : D) : Bool := match k with
  | .tup _ => l.all fun p => match p.1 with
    | .tup _ => true
    | _ => false
  | _ => flatKs l
end
end Q

namespace Q
open PySem PySem.Spec PyProof.Rows L2
section
variable {X : Cx}
end
def hIxD (x k : D) : Option D := match x with
  | .dct l => if keyF k = true then dlook l k else none
  | _ => hIx x k
section
variable {T : Th}
end
end Q

namespace Q
open PySem PySem.Spec PyProof.Rows L2
def dpos : List (D × D) → D → Option (Nat × D)
  | [], _ => none
  | p :: l, k => if kEq p.1 k = true then some (0, p.2) else (dpos l k).map fun q => (q.1 + 1, q.2)
section
variable {T : Th} {g : G} {H : Hp}
end
inductive RV where
  | ok (js : List Nat) (d : D) (S : Store)
  | exc (x : Exc) (S : Store)
  | no
abbrev FV := Env → Store → RV
def PlV (T : Th) (ρ : Env) (σ : L2.St) (H : Hp) (i : Nat) (js : List Nat) (d : D) (v : V) : Prop := ∃ d0 v0, ρ[i]? = some (some d0) ∧ σ[i]? = some (some v0) ∧ Focus T H js d0 v0 d v
theorem PlV.ex {T : Th} {ρ : Env} {σ : L2.St} {H H' : Hp} {i : Nat} {js : List Nat} {d : D} {v : V} (h : PlV T ρ σ H i js d v) (e : Exx H H') : PlV T ρ σ H' i js d v := by
  obtain ⟨d0, v0, h1, h2, h3⟩ := h
  exact ⟨d0, v0, h1, h2, h3.ex e⟩
def pVar (i : Nat) : FV := fun ρ S => match ρ[i]? with
  | some (some d) => .ok [] d S
  | _ => .no
def posT (d : D) (k : Str) : Option (Nat × D) := match d with
  | .dct l => if flatKs l = true then dpos l (.str k) else none
  | _ => none
def pKeyK (K : Nat) (js : List Nat) (S : Store) (o : Option (Nat × D)) : RV := match o with
  | some (j, d) => if js.length + 1 ≤ K then .ok (js ++ [j]) d S else .no
  | none => .no
def pKey (K : Nat) (p : FV) (k : Str) : FV := fun ρ S => match p ρ S with
  | .ok js d S1 => pKeyK K js S1 (posT d k)
  | .exc y S1 => .exc y S1
  | .no => .no
section
variable {X : Cx} {T : Th} {W : WX} {Γ : List Md} {i K : Nat}
end
end Q

namespace Q
open PySem PySem.Spec PyProof.Rows L2
def slotPut (K k i : Nat) (js : List Nat) (x : D) (S : Store) (ρ : Env) : RS := match ρ[i]? with
  | some (some d0) => if K = js.length + k then .nx (ρ.set i (some (setAt js d0 x))) S else .no
  | _ => .no
def RV.bindS (ρ : Env) (r : RV) (k : List Nat → D → Store → RS) : RS := match r with
  | .ok js d S => k js d S
  | .exc x S => .exc x ρ S
  | .no => .no
def fVMut (K i : Nat) (p : FV) (h : HM) (a : FL) : FS := fun ρ S => (p ρ S).bindS ρ fun js d S1 => lstK d fun l => if K = js.length + 1 then (a ρ S1).bindR ρ fun ds S2 => optK (h l ds) fun zl => slotPut K 1 i js (.lst zl.2) S2 ρ else .no
section
variable {X : Cx} {T : Th} {Γ : List Md} {J : Jd} {i K : Nat}
end
end Q

namespace Q
open PySem PySem.Spec PyProof.Rows L2
def dput (l : List (D × D)) (k x : D) : List (D × D) := if (l.any fun p => kEq p.1 k) = true then l.map (fun p => if kEq p.1 k = true then (p.1, x) else p) else l ++ [(k, x)]
def plainV (x : D) : Bool := match x with
  | .lst _ => false
  | .dct _ => false
  | _ => true
section
variable {T : Th} {g : G} {H : Hp}
theorem own_plain {m : Nat} {F : Addr → Prop} {x : D} {u : V} (h : m = 0 ∨ plainV x = true) (s : Shr T g H x u) : Own T g H m F x u := by
  rcases h with h | h
  · subst h
    cases x <;> exact s
  · cases m with
    | zero => cases x <;> exact s
    | succ m => cases x <;> first | exact s | cases h
def Prs (T : Th) (g : G) (H : Hp) (m : Nat) (Gs : Nat → Addr → Prop) (l : List (D × D)) (kvs : List (V × V)) : Prop := l.length = kvs.length ∧ ∀ (j : Nat) (d : D × D) (w : V × V), l[j]? = some d → kvs[j]? = some w → Shr T g H d.1 w.1 ∧ Own T g H m (Gs j) d.2 w.2
theorem Prs.put {α : Type} {m : Nat} {Gs : Nat → Addr → Prop} {k x : D} {y u : V} (hx : m = 0 ∨ plainV x = true) (sy : Shr T g H k y) (sx : Shr T g H x u) (f : α → V × V) (hit : α → Bool) (rep : α → α) (new : α) (hr : ∀ a, (f (rep a)) = ((f a).1, u)) (hn : f new = (y, u))
    {l : List (D × D)} {ks : List α} (h : Prs T g H m Gs l (ks.map f)) (hh : ∀ (j : Nat) (d : D × D) (a : α), l[j]? = some d → ks[j]? = some a → kEq d.1 k = hit a) (hnew : l.any (fun p => kEq p.1 k) = ks.any hit) :
    Prs T g H m (fun j a => Gs j a ∧ j < l.length) (dput l k x) ((if ks.any hit = true then ks.map (fun a => if hit a = true then rep a else a) else ks ++ [new]).map f) := by
  obtain ⟨h1, h2⟩ := h
  rw [List.length_map] at h1
  unfold dput
  rw [hnew]
  by_cases q : ks.any hit = true
  · rw [if_pos q, if_pos q]
    refine ⟨by simp [h1], fun j d w e1 e2 => ?_⟩
    rw [List.getElem?_map] at e1 e2
    obtain ⟨d0, e3, e4⟩ := Option.map_eq_some_iff.mp e1
    obtain ⟨a0, e5, e6⟩ := Option.map_eq_some_iff.mp e2
    rw [List.getElem?_map] at e5
    obtain ⟨a1, e7, e8⟩ := Option.map_eq_some_iff.mp e5
    have hj : j < l.length := (List.getElem?_eq_some_iff.mp e3).1
    obtain ⟨i1, i2⟩ := h2 j d0 (f a1) e3 (by rw [List.getElem?_map, e7]; rfl)
    have ek := hh j d0 a1 e3 e7
    subst e4 e6 e8
    by_cases e : hit a1 = true
    · rw [ek, if_pos e, if_pos e, hr]
      exact ⟨i1, own_plain hx sx⟩
    · rw [ek, if_neg e, if_neg e]
      exact ⟨i1, Own.wide _ _ _ _ _ (fun a z => ⟨z, hj⟩) i2⟩
  · rw [if_neg q, if_neg q]
    refine ⟨by simp [h1], fun j d w e1 e2 => ?_⟩
    rw [List.map_append] at e2
    by_cases hj : j < l.length
    · rw [List.getElem?_append_left hj] at e1
      rw [List.getElem?_append_left (by rw [List.length_map]; omega)] at e2
      obtain ⟨i1, i2⟩ := h2 j d w e1 e2
      exact ⟨i1, Own.wide _ _ _ _ _ (fun a z => ⟨z, hj⟩) i2⟩
    · have hj2 : j = l.length := by
        have := (List.getElem?_eq_some_iff.mp e1).1
        simp at this
        omega
      subst hj2
      rw [List.getElem?_append_right (Nat.le_refl _), Nat.sub_self] at e1
      rw [List.getElem?_append_right (by rw [List.length_map]; omega), List.length_map, h1, Nat.sub_self] at e2
      cases e1
      have e2 : f new = w := by simpa using e2
      rw [hn] at e2
      subst e2
      exact ⟨sy, own_plain hx sx⟩
end
end Q

namespace Q
open PySem PySem.Spec PyProof.Rows L2
section
variable {T : Th} {g : G} {H : Hp}
end
end Q

namespace Q
open PySem PySem.Spec PyProof.Rows L2
section
variable {X : Cx} {o i value : Expr} {pos pos' : Pos} {td ty tv : TE}
end
def dctK (d : D) (k : List (D × D) → RS) : RS := match d with
  | .dct l => k l
  | _ => .no
def fVPut (K i : Nat) (p : FV) (e v : FE) : FS := fun ρ S => (v ρ S).bindS ρ fun x S1 => (p ρ S1).bindS ρ fun js d S2 => (e ρ S2).bindS ρ fun k S3 => dctK d fun l =>
  if (keyF k = true ∧ sortOk l k = true ∧ l.length < 1000000) ∧ js.length + 1 ≤ K ∧ (K - js.length - 1 = 0 ∨ plainV x = true) then slotPut K (K - js.length - 1 + 1) i js (.dct (dput l k x)) S3 ρ else .no
section
variable {X : Cx} {T : Th} {Γ : List Md} {J : Jd} {i K : Nat}
end
end Q

namespace Q
open PySem PySem.Spec PyProof.Rows L2
inductive Itm where
  | l
  | d
  | s (F : FE)
  | f (F : FE)
def eItms : List (Str × Itm) → Env → Store → Option (List (D × D))
  | [], _, _ => some []
  | (k, .l) :: r, ρ, S => (eItms r ρ S).map ((.str k, .lst []) :: ·)
  | (k, .d) :: r, ρ, S => (eItms r ρ S).map ((.str k, .dct []) :: ·)
  | (k, .s F) :: r, ρ, S => match F ρ S with
    | .ok x _ => if plainV x = true then (eItms r ρ S).map ((.str k, x) :: ·) else none
    | _ => none
  | (k, .f F) :: r, ρ, S => match F ρ S with
    | .ok x _ => (eItms r ρ S).map ((.str k, x) :: ·)
    | _ => none
def eDct (its : List (Str × Itm)) : FE := fun ρ S => match eItms its ρ S with
  | some l => if its.length ≤ 15 ∧ (its.map (·.1)).Nodup then .ok (.dct l) S else .no
  | none => .no
section
variable {X : Cx} {T : Th} {W : WX} {Γ : List Md}
end
end Q

namespace Q
open PySem PySem.Spec PyProof.Rows L2
section
variable {X : Cx} {T : Th} {W : WX} {Γ : List Md}
end
end Q

namespace Q
open PySem PySem.Spec PyProof.Rows L2
end Q

namespace Q
open PySem PySem.Spec PyProof.Rows L2
section
variable {X : Cx} {T : Th} {W : WX} {Γ : List Md}
end
end Q

namespace Q
open PySem PySem.Spec PyProof.Rows L2
section
variable {X : Cx} {T : Th} {W : WX} {Γ : List Md}
end
end Q

namespace Q
open PySem PySem.Spec PyProof.Rows L2
def noRB (Γ : List Md) : Bool := Γ.all fun m => match m with
  | .r _ => false
  | .l => false
  | _ => true
theorem noRB_l {Γ : List Md} (h : noRB Γ = true) (j : Nat) : Γ.getD j .s ≠ .l := fun e => by
  rw [List.getD_eq_getElem?_getD] at e
  cases q : Γ[j]? with
  | none => rw [q] at e; cases e
  | some m =>
    rw [q] at e
    have e : m = .l := e
    have := List.all_eq_true.mp h m (List.mem_of_getElem? q)
    rw [e] at this
    cases this
theorem noRB_get {Γ : List Md} (h : noRB Γ = true) (j k : Nat) : Γ.getD j .s ≠ .r k := fun e => by
  rw [List.getD_eq_getElem?_getD] at e
  cases q : Γ[j]? with
  | none => rw [q] at e; cases e
  | some m =>
    rw [q] at e
    have e : m = .r k := e
    have := List.all_eq_true.mp h m (List.mem_of_getElem? q)
    rw [e] at this
    cases this
section
variable {X : Cx} {T : Th} {W : WX} {Γ : List Md} {J : Jd}
theorem RepM.less {g g2 : G} {H H' : Hp} {i : Nat} {m : Md} {d : D} {v : V} (hm : ∀ k, m ≠ .r k) (hl : m ≠ .l) (h : RepM T g H i m d v) (st : Stay g H g2 H) (hF : ∀ a, g.F i a → g2.F i a) (hP : g2.P i = g.P i) : RepM T g2 H i m d v := by
  cases m with
  | s => exact Shr.stay st _ _ h
  | o k => exact (Own.wide k _ _ d v hF (Own.keepF st k _ d v (fun _ _ _ q => q) h) : Own T g2 H k (g2.F i) d v)
  | r k => exact absurd rfl (hm k)
  | p k => exact ⟨by rw [hP]; exact h.1, (Own.wide k _ _ d v hF (Own.keepF st k _ d v (fun _ _ _ q => q) h.2) : Own T g2 H k (g2.F i) d v)⟩
  | e w => exact h
  | l => exact absurd rfl hl
  | x w dd fs => exact ⟨h.1, st.keep _ _ h.2.1 h.2.2, st.off h.2.1 h.2.2⟩
theorem Rel.back {g g4 : G} {ρ ρ4 : Env} {S S4 : Store} {σ σ4 : L2.St} {H H4 : Hp} {i : Nat} {v : V} {d d0 : D} (R : Rel T g Γ ρ S σ H) (hn : noRB Γ = true) (hm : Γ.getD i .s = .o 1) (hd : ρ[i]? = some (some d)) (hv : σ[i]? = some (some v))
    (R4 : Rel T g4 (Γ.set i (.e v)) ρ4 S4 σ4 H4) (f : FrS (g.lend [i]) H g4 H4) (h0 : ρ4[i]? = some (some d0)) :
    ∃ g5, Rel T g5 Γ (ρ4.set i (some d)) S4 σ4 H4 ∧ FrS g H g5 H4 := by
  have hil : i < Γ.length := by
    by_cases hl : i < Γ.length
    · exact hl
    · rw [List.getD_eq_getElem?_getD, List.getElem?_eq_none (by omega)] at hm
      cases hm
  have lo : ∀ a, g.O a → g4.O a := fun a z => by rw [f.O]; exact .inl z
  have lf : ∀ a, g.F i a → g4.O a := fun a z => by rw [f.O]; exact .inr ⟨i, List.mem_singleton.mpr rfl, z⟩
  have f5 : FrS g H { g4 with O := g.O, F := fun j a => g4.F j a ∨ (j = i ∧ g.F i a) } H4 := by
    refine ⟨fun a o e hu => f.keep a o e (hu.imp (fun z w => z (G.lend_U.mp w)) .inl), fun a u => ?_, rfl, f.P, f.N, f.μ, f.dom⟩
    rcases u with u | ⟨j, u | ⟨_, u⟩⟩ | u
    · exact .inl (.inl u)
    · exact (f.own a (.inr (.inl ⟨j, u⟩))).imp G.lend_U.mp id
    · exact .inl (.inr (.inl ⟨i, u⟩))
    · exact (f.own a (.inr (.inr u))).imp G.lend_U.mp id
  refine ⟨_, ?_, f5⟩
  refine R4.shift rfl rfl rfl rfl (fun a u => ?_) (fun j k a h h' => ?_) (fun j a h z => ?_) (fun a z => .inl (lo a z)) (fun j a h => ?_) (by rw [List.length_set, R4.len]) fun st j d' e => ?_
  · rcases u with u | ⟨j, u | ⟨_, u⟩⟩ | u
    · exact .inl (lo a u)
    · exact .inr (.inl ⟨j, u⟩)
    · exact .inl (lf a u)
    · exact .inr (.inr u)
  · rcases h with h | ⟨ej, h⟩ <;> rcases h' with h' | ⟨ek, h'⟩
    · exact R4.dF j k a h h'
    · exact absurd (lf a h') (R4.dFO j a h)
    · exact absurd (lf a h) (R4.dFO k a h')
    · exact ej.trans ek.symm
  · rcases h with h | ⟨_, h⟩
    · exact R4.dFO j a h (lo a z)
    · exact R.dFO i a h z
  · rcases h with h | ⟨_, h⟩
    · exact .inl ⟨j, h⟩
    · exact .inr (lf a h)
  · by_cases hj : i = j
    · subst hj
      obtain ⟨w, h1, h2⟩ := R4.slot i d0 h0
      rw [List.getD_eq_getElem?_getD, List.getElem?_set_self hil] at h2
      have h2 : w = v := h2
      subst h2
      have hl2 : i < ρ4.length := by
        by_cases hl : i < ρ4.length
        · exact hl
        · rw [List.getElem?_eq_none (by omega)] at h0
          cases h0
      rw [List.getElem?_set_self hl2] at e
      cases e
      refine ⟨_, h1, ?_⟩
      rw [hm]
      obtain ⟨w2, q1, q2⟩ := R.slot i d hd
      rw [hv] at q1
      cases q1
      rw [hm] at q2
      exact Own.wide 1 _ _ d _ (fun a z => .inr ⟨rfl, z⟩) (Own.keepF f5.stay 1 (g.F i) d _ (fun a o z q => f.keep a o q (.inr (.inr ⟨i, List.mem_singleton.mpr rfl, z⟩))) q2)
    · rw [List.getElem?_set_ne hj] at e
      obtain ⟨w, h1, h2⟩ := R4.slot j d' e
      rw [getD_set_ne hj] at h2
      exact ⟨w, h1, RepM.less (H' := H4) (noRB_get hn j) (noRB_l hn j) h2 st (fun a z => .inl z) rfl⟩
end
end Q

set_option maxHeartbeats 2000000
namespace RT
open PySem PySem.Calls PyProof PyProof.Rows
section
variable {prog : Program} {w : World} {A : Around} {E : Value → Shared → Prop} {s : Shared}
end
end RT
namespace RT
open PySem PySem.Spec PyProof.Rows L2
section
variable {X : Cx}
end
end RT
namespace Q
open PySem PySem.Spec PyProof.Rows L2
section
variable {X : Cx} {T : Th} {W : WX} {Γ : List Md}
end
end Q

namespace Q
open PySem PySem.Spec PyProof.Rows L2
def G.give (g : G) (i j : Nat) : G := { g with F := fun q a => (q = i ∧ (g.F i a ∨ g.F j a)) ∨ (q ≠ i ∧ q ≠ j ∧ g.F q a) }
section
variable {X : Cx} {T : Th} {Γ : List Md} {J : Jd} {i j K : Nat}
theorem G.give_U {g : G} {a : Addr} : (g.give i j).U a ↔ g.U a := by
  constructor
  · rintro (h | ⟨q, ⟨_, h | h⟩ | ⟨_, _, h⟩⟩ | h)
    · exact .inl h
    · exact .inr (.inl ⟨i, h⟩)
    · exact .inr (.inl ⟨j, h⟩)
    · exact .inr (.inl ⟨q, h⟩)
    · exact .inr (.inr h)
  · rintro (h | ⟨q, h⟩ | h)
    · exact .inl h
    · by_cases hi : q = i
      · subst hi; exact .inr (.inl ⟨q, .inl ⟨rfl, .inl h⟩⟩)
      · by_cases hj : q = j
        · subst hj; exact .inr (.inl ⟨i, .inl ⟨rfl, .inr h⟩⟩)
        · exact .inr (.inl ⟨q, .inr ⟨hi, hj, h⟩⟩)
    · exact .inr (.inr h)
theorem Rel.give {g : G} {ρ : Env} {S : Store} {σ : L2.St} {H : Hp} {m : Nat} (R : Rel T g Γ ρ S σ H) (hij : i ≠ j) (hm : Γ.getD i .s = .o m) : Rel T (g.give i j) (Γ.set j .s) (ρ.set j none) S σ H := by
  refine R.shift rfl rfl rfl rfl (fun a h => G.give_U.mp h) (fun p q a h h' => ?_) (fun q a h z => ?_) (fun a h => .inl h) (fun q a h => ?_) (by rw [List.length_set, R.len]) fun st q d e => ?_
  · rcases h with ⟨e1, h | h⟩ | ⟨e1, e2, h⟩ <;> rcases h' with ⟨e3, h' | h'⟩ | ⟨e3, e4, h'⟩
    · rw [e1, e3]
    · rw [e1, e3]
    · exact absurd (R.dF i q a h h').symm e3
    · rw [e1, e3]
    · rw [e1, e3]
    · exact absurd (R.dF j q a h h').symm e4
    · exact absurd (R.dF p i a h h') e1
    · exact absurd (R.dF p j a h h') e2
    · exact R.dF p q a h h'
  · rcases h with ⟨_, h | h⟩ | ⟨_, _, h⟩
    · exact R.dFO i a h z
    · exact R.dFO j a h z
    · exact R.dFO q a h z
  · rcases h with ⟨_, h | h⟩ | ⟨_, _, h⟩
    · exact .inl ⟨i, h⟩
    · exact .inl ⟨j, h⟩
    · exact .inl ⟨q, h⟩
  · by_cases hq : j = q
    · subst hq
      by_cases hl : j < ρ.length
      · rw [List.getElem?_set_self hl] at e; cases e
      · rw [List.getElem?_eq_none (by rw [List.length_set]; omega)] at e; cases e
    · rw [List.getElem?_set_ne hq] at e
      obtain ⟨v, h1, h2⟩ := R.slot q d e
      refine ⟨v, h1, ?_⟩
      rw [getD_set_ne hq]
      by_cases hi : q = i
      · subst hi
        exact h2.stay st (fun a z => .inl ⟨rfl, .inl z⟩) (fun a z => z) rfl (bare_sub rfl rfl (fun p a z => by
          rcases z with ⟨_, z | z⟩ | ⟨_, _, z⟩
          · exact ⟨q, z⟩
          · exact ⟨j, z⟩
          · exact ⟨p, z⟩) fun _ z => z)
      · exact h2.stay st (fun a z => .inr ⟨hi, fun w => hq w.symm, z⟩) (fun a z => z) rfl (bare_sub rfl rfl (fun p a z => by
          rcases z with ⟨_, z | z⟩ | ⟨_, _, z⟩
          · exact ⟨i, z⟩
          · exact ⟨j, z⟩
          · exact ⟨p, z⟩) fun _ z => z)
theorem FrS.give {g : G} {H : Hp} : FrS g H (g.give i j) H := ⟨fun a o h _ => h, fun a h => .inl (G.give_U.mp h), rfl, rfl, Nat.le_refl _, fun _ _ => rfl, fun a o h => ⟨o, h⟩⟩
end
end Q

namespace Q
open PySem PySem.Spec PyProof.Rows L2
section
variable {X : Cx} {T : Th} {Γ : List Md} {J : Jd} {i K : Nat}
end
end Q

namespace Q
open PySem PySem.Spec PyProof.Rows L2
def G.taken (g : G) (Fo : Addr → Prop) : G := { g with O := fun a => g.O a ∨ ∃ i, g.F i a, F := fun i a => i = 0 ∧ Fo a }
section
variable {X : Cx} {T : Th} {W : WX} {Γ : List Md}
end
end Q

namespace Q
open PySem PySem.Spec PyProof.Rows L2
section
variable {T : Th}
end
end Q

namespace Q
open PySem PySem.Spec PyProof.Rows L2
section
variable {T : Th}
end
section
variable {T : Th}
end
end Q

namespace Q
open PySem PySem.Spec PyProof.Rows L2
abbrev AK := Option (Nat × Nat)
def mdA : AK → Md
  | none => .s
  | some (_, k) => .p k
def lentA (ks : List AK) (j : Nat) : Option Nat := match ks[j]? with
  | some (some (i, _)) => some i
  | _ => none
inductive REP where
  | ok (d : D) (ρ : Env) (S : Store)
  | exc (x : Exc) (ρ : Env) (S : Store)
  | no
abbrev FEP := Env → Store → REP
def GoodEP (T : Th) (W : WX) (Γ : List Md) (σ : L2.St) (g : G) (H : Hp) : REP → VK → Prop
  | .ok d ρ' S', Q => ∀ v g' H', Rel T g' Γ ρ' S' σ H' → FrS g H g' H' → Shr T g' H' d v → Q v H'
  | .exc x ρ' S', _ => ∀ c dd g' H', Rel T g' Γ ρ' S' σ H' → FrS g H g' H' → ExcR T g' H' x c dd → W c dd σ H'
  | .no, _ => False
def tEP (T : Th) (W : WX) (Γ : List Md) (F : FEP) : TE := fun σ H Q => ∃ g ρ S, Rel T g Γ ρ S σ H ∧ GoodEP T W Γ σ g H (F ρ S) Q
def ArgP (T : Th) (g : G) (H : Hp) (ρ : Env) (σ : L2.St) : List AK → List D → List V → Prop
  | [], ds, vs => ds = [] ∧ vs = []
  | k :: ks, ds, vs => ∃ d ds' v vs', ds = d :: ds' ∧ vs = v :: vs' ∧ (match k with
    | none => Shr T g H d v
    | some (i, _) => ρ[i]? = some (some d) ∧ σ[i]? = some (some v)) ∧ ArgP T g H ρ σ ks ds' vs'
section
variable {T : Th} {g g' : G} {H H' : Hp} {ρ : Env} {σ : L2.St}
theorem ArgP.len : ∀ {ks : List AK} {ds : List D} {vs : List V}, ArgP T g H ρ σ ks ds vs → ds.length = ks.length ∧ vs.length = ks.length
  | [], _, _, h => by
    obtain ⟨rfl, rfl⟩ := h
    exact ⟨rfl, rfl⟩
  | k :: ks, _, _, h => by
    obtain ⟨d, ds, v, vs, rfl, rfl, _, r⟩ := h
    have := ArgP.len r
    simp only [List.length_cons]
    omega
theorem ArgP.get : ∀ {ks : List AK} {ds : List D} {vs : List V} {j : Nat} {k : AK}, ArgP T g H ρ σ ks ds vs → ks[j]? = some k → ∃ d v, ds[j]? = some d ∧ vs[j]? = some v ∧ (match k with
    | none => Shr T g H d v
    | some (i, _) => ρ[i]? = some (some d) ∧ σ[i]? = some (some v))
  | [], _, _, _, _, _, e => by simp at e
  | k :: ks, _, _, j, k', h, e => by
    obtain ⟨d, ds, v, vs, rfl, rfl, q, r⟩ := h
    cases j with
    | zero =>
      simp at e
      subst e
      exact ⟨d, v, rfl, rfl, q⟩
    | succ j =>
      obtain ⟨d', v', h1, h2, h3⟩ := ArgP.get (j := j) r (by simpa using e)
      exact ⟨d', v', by simpa using h1, by simpa using h2, h3⟩
theorem ArgP.stayE (f : FrE g H g' H') : ∀ {ks : List AK} {ds : List D} {vs : List V}, ArgP T g H ρ σ ks ds vs → ArgP T g' H' ρ σ ks ds vs
  | [], _, _, h => h
  | k :: ks, _, _, h => by
    obtain ⟨d, ds, v, vs, rfl, rfl, q, r⟩ := h
    refine ⟨d, ds, v, vs, rfl, rfl, ?_, ArgP.stayE f r⟩
    match k, q with
    | none, q => exact q.stay f.stay
    | some (i, k), q => exact q
end
def GoodPA (T : Th) (W : WX) (Γ : List Md) (ks : List AK) (ρ : Env) (σ : L2.St) (g : G) (H : Hp) : RL → (List V → Hp → Prop) → Prop
  | .ok ds S', Q => ∀ vs g' H', Rel T g' Γ ρ S' σ H' → FrE g H g' H' → ArgP T g' H' ρ σ ks ds vs → Q vs H'
  | .exc x S', _ => ∀ c dd g' H', Rel T g' Γ ρ S' σ H' → FrE g H g' H' → ExcR T g' H' x c dd → W c dd σ H'
  | .no, _ => False
def tPA (T : Th) (W : WX) (Γ : List Md) (ks : List AK) (F : FL) : TA := fun σ H Q => ∃ g ρ S, Rel T g Γ ρ S σ H ∧ GoodPA T W Γ ks ρ σ g H (F ρ S) Q
abbrev XPA (X : Cx) (T : Th) (W : WX) (Γ : List Md) (ks : List AK) (es : List Expr) (F : FL) : Prop := PA X es (tPA T W Γ ks F)
abbrev XEP (X : Cx) (T : Th) (W : WX) (Γ : List Md) (e : Expr) (F : FEP) : Prop := PE X e (tEP T W Γ F)
section
variable {X : Cx} {T : Th} {W : WX} {Γ : List Md} {ks : List AK}
theorem xpa_nil : XPA X T W Γ [] [] lNil := pa_imp pa_nil fun σ H Q ⟨g, ρ, S, R, hg⟩ => hg [] g H R (.refl g H) ⟨rfl, rfl⟩
theorem xpa_s {e : Expr} {es : List Expr} {A : FE} {B : FL} (ha : XE X T W Γ e A) (hb : XPA X T W Γ ks es B) (hx : PE X e (tX T W Γ A) → PA X es (tPA T W Γ ks B) → PA X (e :: es) (tCons (tX T W Γ A) (tPA T W Γ ks B))) : XPA X T W Γ (none :: ks) (e :: es) (lCons A B) := pa_imp (hx ha hb) fun σ H Q ⟨g, ρ, S, R, hg⟩ => by
  refine ⟨g, ρ, S, R, ?_⟩
  unfold lCons at hg
  cases e : A ρ S with
  | ok x S1 =>
    rw [e] at hg
    intro v g1 H1 R1 f1 s1
    refine ⟨g1, ρ, S1, R1, ?_⟩
    have hg : GoodPA T W Γ (none :: ks) ρ σ g H (match B ρ S1 with | .ok xs S2 => .ok (x :: xs) S2 | .exc x S2 => .exc x S2 | .no => .no) Q := hg
    cases e2 : B ρ S1 with
    | ok xs S2 =>
      rw [e2] at hg
      exact fun vs g2 H2 R2 f2 s2 => hg (v :: vs) g2 H2 R2 (f1.trans f2) ⟨x, xs, v, vs, rfl, rfl, s1.stay f2.stay, s2⟩
    | exc y S2 => rw [e2] at hg; exact fun c dd g2 H2 R2 f2 s2 => hg c dd g2 H2 R2 (f1.trans f2) s2
    | no => rw [e2] at hg; exact hg
  | exc y S1 => rw [e] at hg; exact hg
  | no => rw [e] at hg; exact hg
theorem xpa_p {i k : Nat} {e : Expr} {es : List Expr} {B : FL} (he : PE X e (tVar i)) (hb : XPA X T W Γ ks es B) (hx : PE X e (tVar i) → PA X es (tPA T W Γ ks B) → PA X (e :: es) (tCons (tVar i) (tPA T W Γ ks B))) : XPA X T W Γ (some (i, k) :: ks) (e :: es) (lCons (eVar i) B) := pa_imp (hx he hb) fun σ H Q ⟨g, ρ, S, R, hg⟩ => by
  unfold lCons at hg
  have hg : GoodPA T W Γ (some (i, k) :: ks) ρ σ g H (match (match ρ[i]? with | some (some d) => RE.ok d S | _ => .no) with
    | .ok x S1 => (match B ρ S1 with
      | .ok xs S2 => .ok (x :: xs) S2
      | .exc x S2 => .exc x S2
      | .no => .no)
    | .exc x S1 => .exc x S1
    | .no => .no) Q := hg
  cases e : ρ[i]? with
  | none => rw [e] at hg; exact hg.elim
  | some o =>
    cases o with
    | none => rw [e] at hg; exact hg.elim
    | some x =>
      rw [e] at hg
      obtain ⟨v, h1, _⟩ := R.slot i x e
      refine ⟨v, h1, g, ρ, S, R, ?_⟩
      have hg : GoodPA T W Γ (some (i, k) :: ks) ρ σ g H (match B ρ S with | .ok xs S2 => .ok (x :: xs) S2 | .exc x S2 => .exc x S2 | .no => .no) Q := hg
      cases e2 : B ρ S with
      | ok xs S2 =>
        rw [e2] at hg
        exact fun vs g2 H2 R2 f2 s2 => hg (v :: vs) g2 H2 R2 f2 ⟨x, xs, v, vs, rfl, rfl, ⟨e, h1⟩, s2⟩
      | exc y S2 => rw [e2] at hg; exact fun c dd g2 H2 R2 f2 s2 => hg c dd g2 H2 R2 f2 s2
      | no => rw [e2] at hg; exact hg
def G.lendTo (g : G) (ks : List AK) (vs : List V) : G := { g with
  O := fun a => g.O a ∨ ∃ i, (∀ j, lentA ks j ≠ some i) ∧ g.F i a
  F := fun j a => ∃ i, lentA ks j = some i ∧ g.F i a
  P := fun n => if n < ks.length then vs.getD n .non else g.P n }
def G.backP (g1 g' : G) (ks : List AK) : G := { g' with O := g1.O, P := g1.P, F := fun i a => (∃ j, lentA ks j = some i ∧ g'.F j a) ∨ ((∀ j, lentA ks j ≠ some i) ∧ g1.F i a) }
theorem lendTo_U {g : G} {vs : List V} {a : Addr} : (g.lendTo ks vs).U a ↔ g.U a := by
  constructor
  · rintro ((h | ⟨i, _, h⟩) | ⟨j, i, _, h⟩ | h)
    · exact .inl h
    · exact .inr (.inl ⟨i, h⟩)
    · exact .inr (.inl ⟨i, h⟩)
    · exact .inr (.inr h)
  · rintro (h | ⟨i, h⟩ | h)
    · exact .inl (.inl h)
    · by_cases q : ∃ j, lentA ks j = some i
      · obtain ⟨j, q⟩ := q
        exact .inr (.inl ⟨j, i, q, h⟩)
      · exact .inl (.inr ⟨i, fun j z => q ⟨j, z⟩, h⟩)
    · exact .inr (.inr h)
theorem lendTo_Z {g : G} {vs : List V} (hl : ks.length ≤ 1000) : (g.lendTo ks vs).Z = g.Z := by
  funext k
  show (if 1000000 + k < ks.length then vs.getD (1000000 + k) .non else g.P (1000000 + k)) = _
  rw [if_neg (by omega)]
  rfl
def putOuts : List AK → Env → Env → Env
  | some (i, _) :: ks, o :: outs, ρ => putOuts ks outs (ρ.set i o)
  | none :: ks, _ :: outs, ρ => putOuts ks outs ρ
  | _, _, ρ => ρ
theorem putOuts_len : ∀ (ks : List AK) (outs ρ : Env), (putOuts ks outs ρ).length = ρ.length
  | [], _, _ => rfl
  | some (i, _) :: ks, [], _ => rfl
  | none :: ks, [], _ => rfl
  | some (i, _) :: ks, o :: outs, ρ => by
    show (putOuts ks outs (ρ.set i o)).length = _
    rw [putOuts_len, List.length_set]
  | none :: ks, o :: outs, ρ => by
    show (putOuts ks outs ρ).length = _
    rw [putOuts_len]
theorem lentA_zero {i k : Nat} : lentA (some (i, k) :: ks) 0 = some i := rfl
theorem lentA_succ {k : AK} {j : Nat} : lentA (k :: ks) (j + 1) = lentA ks j := by
  unfold lentA
  rw [List.getElem?_cons_succ]
theorem putOuts_get : ∀ (ks : List AK) (outs ρ : Env), outs.length = ks.length → ∀ (i : Nat) (d : D), (putOuts ks outs ρ)[i]? = some (some d) → (∃ j, lentA ks j = some i ∧ outs[j]? = some (some d)) ∨ ((∀ j, lentA ks j ≠ some i) ∧ ρ[i]? = some (some d))
  | [], outs, ρ, _, i, d, h => .inr ⟨fun j z => (by unfold lentA at z; rw [List.getElem?_nil] at z; cases z), h⟩
  | some (i0, k0) :: ks, [], ρ, hl, i, d, h => by simp at hl
  | none :: ks, [], ρ, hl, i, d, h => by simp at hl
  | some (i0, k0) :: ks, o :: outs, ρ, hl, i, d, h => by
    have hl : outs.length = ks.length := by simpa using hl
    rcases putOuts_get ks outs (ρ.set i0 o) hl i d h with ⟨j, h1, h2⟩ | ⟨h1, h2⟩
    · exact .inl ⟨j + 1, by rw [lentA_succ]; exact h1, by rw [List.getElem?_cons_succ]; exact h2⟩
    · by_cases e : i0 = i
      · subst e
        by_cases hlt : i0 < ρ.length
        · rw [List.getElem?_set_self hlt] at h2
          exact .inl ⟨0, rfl, by rw [List.getElem?_cons_zero]; exact h2⟩
        · rw [List.getElem?_eq_none (by simpa using hlt)] at h2
          cases h2
      · rw [List.getElem?_set_ne e] at h2
        refine .inr ⟨fun j z => ?_, h2⟩
        cases j with
        | zero => rw [lentA_zero] at z; exact e (Option.some.inj z)
        | succ j => rw [lentA_succ] at z; exact h1 j z
  | none :: ks, o :: outs, ρ, hl, i, d, h => by
    have hl : outs.length = ks.length := by simpa using hl
    rcases putOuts_get ks outs ρ hl i d h with ⟨j, h1, h2⟩ | ⟨h1, h2⟩
    · exact .inl ⟨j + 1, by rw [lentA_succ]; exact h1, by rw [List.getElem?_cons_succ]; exact h2⟩
    · refine .inr ⟨fun j z => ?_, h2⟩
      cases j with
      | zero => cases z
      | succ j => rw [lentA_succ] at z; exact h1 j z
def onceA (ks : List AK) : Prop := ∀ j j' i, lentA ks j = some i → lentA ks j' = some i → j = j'
def lentsOf : List AK → List Nat
  | [] => []
  | some (i, _) :: ks => i :: lentsOf ks
  | none :: ks => lentsOf ks
theorem lentA_mem : ∀ {ks : List AK} {j i : Nat}, lentA ks j = some i → i ∈ lentsOf ks
  | [], j, i, h => by unfold lentA at h; rw [List.getElem?_nil] at h; cases h
  | some (i0, _) :: ks, 0, i, h => by rw [lentA_zero] at h; cases h; exact List.mem_cons_self
  | some (i0, _) :: ks, j + 1, i, h => by rw [lentA_succ] at h; exact List.mem_cons_of_mem _ (lentA_mem h)
  | none :: ks, 0, i, h => by cases h
  | none :: ks, j + 1, i, h => by rw [lentA_succ] at h; exact lentA_mem (ks := ks) h
theorem onceA_of : ∀ {ks : List AK}, (lentsOf ks).Nodup → onceA ks
  | [], _ => fun j j' i h => by unfold lentA at h; rw [List.getElem?_nil] at h; cases h
  | some (i0, k) :: ks, h => fun j j' i h1 h2 => by
    have h : (i0 :: lentsOf ks).Nodup := h
    rw [List.nodup_cons] at h
    cases j with
    | zero =>
      cases j' with
      | zero => rfl
      | succ j' =>
        rw [lentA_zero] at h1
        cases h1
        rw [lentA_succ] at h2
        exact absurd (lentA_mem h2) h.1
    | succ j =>
      cases j' with
      | zero =>
        rw [lentA_zero] at h2
        cases h2
        rw [lentA_succ] at h1
        exact absurd (lentA_mem h1) h.1
      | succ j' =>
        rw [lentA_succ] at h1 h2
        rw [onceA_of h.2 j j' i h1 h2]
  | none :: ks, h => fun j j' i h1 h2 => by
    have h : (lentsOf ks).Nodup := h
    cases j with
    | zero => cases h1
    | succ j =>
      cases j' with
      | zero => cases h2
      | succ j' =>
        rw [lentA_succ] at h1 h2
        rw [onceA_of h j j' i h1 h2]
theorem lentA_get {j i : Nat} (h : lentA ks j = some i) : ∃ k, ks[j]? = some (some (i, k)) := by
  unfold lentA at h
  split at h
  · rename_i i' k e
    cases h
    exact ⟨k, e⟩
  · cases h
theorem lentA_of {j i k : Nat} (h : ks[j]? = some (some (i, k))) : lentA ks j = some i := by
  unfold lentA
  rw [h]
def ownA (Γ : List Md) (ks : List AK) : Prop := ∀ (j i k : Nat), ks[j]? = some (some (i, k)) → Γ.getD i .s = .o k ∨ Γ.getD i .s = .p k
theorem mdA_get {j : Nat} {k : AK} (h : ks[j]? = some k) : (ks.map mdA).getD j .s = mdA k := by
  rw [List.getD_eq_getElem?_getD, List.getElem?_map, h]
  rfl
theorem rel_lend {g1 : G} {ρ : Env} {S1 : Store} {σ : L2.St} {H1 : Hp} {ds : List D} {vs : List V} (R1 : Rel T g1 Γ ρ S1 σ H1) (s : ArgP T g1 H1 ρ σ ks ds vs) (hl : ks.length ≤ 1000) (ho : ownA Γ ks) (hd : onceA ks) : Rel T (g1.lendTo ks vs) (ks.map mdA) (ds.map some) S1 (vs.map some) H1 := by
  obtain ⟨l1, l2⟩ := s.len
  refine R1.shift rfl rfl rfl rfl (fun a h => lendTo_U.mp h) (fun i j a h h' => ?_) (fun i a h u => ?_) (fun a h => ?_) (fun i a h => ?_) (by simp [l1, l2]) (fun st j d e => ?_) (lendTo_Z hl)
  · obtain ⟨p, e1, h1⟩ := h
    obtain ⟨q, e2, h2⟩ := h'
    have := R1.dF p q a h1 h2
    subst this
    exact hd i j p e1 e2
  · obtain ⟨p, e1, h1⟩ := h
    rcases u with u | ⟨q, e2, u⟩
    · exact R1.dFO p a h1 u
    · have := R1.dF p q a h1 u
      subst this
      exact e2 i e1
  · rcases h with h | ⟨i, _, h⟩
    · exact .inl h
    · exact .inr ⟨i, h⟩
  · obtain ⟨p, e1, h1⟩ := h
    exact .inl ⟨p, h1⟩
  · rw [List.getElem?_map] at e
    cases q : ds[j]? with
    | none => rw [q] at e; cases e
    | some d' =>
      rw [q] at e
      cases e
      have hj : j < ks.length := by
        rw [← l1]
        exact (List.getElem?_eq_some_iff.mp q).1
      obtain ⟨d2, v, h1, h2, h3⟩ := s.get (j := j) (List.getElem?_eq_getElem hj)
      rw [q] at h1
      cases h1
      refine ⟨v, by rw [List.getElem?_map, h2]; rfl, ?_⟩
      have hk := List.getElem?_eq_getElem hj
      rw [mdA_get hk]
      generalize ks[j] = k at *
      match k, h3, hk with
      | none, h3, hk => exact h3.stay st
      | some (i, k), h3, hk =>
        obtain ⟨a1, a2⟩ := h3
        obtain ⟨w, b1, b2⟩ := R1.slot i _ a1
        rw [a2] at b1
        cases b1
        show v = _ ∧ Own T _ _ k _ _ v
        refine ⟨?_, ?_⟩
        · show v = if j < ks.length then vs.getD j .non else _
          rw [if_pos hj, List.getD_eq_getElem?_getD, h2]
          rfl
        · have own : Own T g1 H1 k (g1.F i) d v := by
            rcases ho j i k hk with e | e
            · rw [e] at b2; exact b2
            · rw [e] at b2; exact b2.2
          exact Own.wide _ _ _ _ _ (fun a z => ⟨i, lentA_of hk, z⟩) (Own.keepF st _ _ _ _ (fun _ _ _ q => q) own)
theorem call_backP {g1 g' : G} {ρ : Env} {S1 S2 : Store} {σ : L2.St} {H1 H' : Hp} {Fo : Addr → Prop} {outs : Env} {ds : List D} {vs : List V} (R1 : Rel T g1 Γ ρ S1 σ H1) (s : ArgP T g1 H1 ρ σ ks ds vs) (hl : ks.length ≤ 1000) (ho : ownA Γ ks) (R' : Rel T (g'.plus Fo) (ks.map mdA) outs S2 (vs.map some) H') (f' : FrS (g1.lendTo ks vs) H1 g' H') :
    Rel T (g1.backP g' ks) Γ (putOuts ks outs ρ) S2 σ H' ∧ FrS g1 H1 (g1.backP g' ks) H' ∧ (∀ a, (g1.backP g' ks).U a → (g'.plus Fo).U a) := by
  obtain ⟨l1, l2⟩ := s.len
  have eO : ∀ a, g'.O a ↔ (g1.O a ∨ ∃ i, (∀ j, lentA ks j ≠ some i) ∧ g1.F i a) := fun a => by rw [f'.O]; exact Iff.rfl
  have hU : ∀ a, (g1.backP g' ks).U a → (g'.plus Fo).U a := fun a h => by
    rcases h with h | ⟨i, ⟨j, _, h⟩ | ⟨h1, h⟩⟩ | h
    · exact .inl (.inl ((eO a).mpr (.inl h)))
    · exact .inr (.inl ⟨j, h⟩)
    · exact .inl (.inl ((eO a).mpr (.inr ⟨i, h1, h⟩)))
    · exact .inr (.inr h)
  have own1 : ∀ a, g'.U a → g1.U a ∨ H1 a = none := fun a h => (f'.own a h).imp lendTo_U.mp id
  have hZ : (g1.backP g' ks).Z = (g'.plus Fo).Z := by
    funext k
    show g1.P (1000000 + k) = g'.P (1000000 + k)
    rw [f'.P]
    show _ = if 1000000 + k < ks.length then vs.getD (1000000 + k) .non else g1.P (1000000 + k)
    rw [if_neg (by omega)]
  have fs : FrS g1 H1 (g1.backP g' ks) H' := ⟨fun a o e h => f'.keep a o e (h.imp (fun z u => z (lendTo_U.mp u)) .inl), fun a h => by
    rcases h with h | ⟨i, ⟨j, _, h⟩ | ⟨_, h⟩⟩ | h
    · exact .inl (.inl h)
    · exact own1 a (.inr (.inl ⟨j, h⟩))
    · exact .inl (.inr (.inl ⟨i, h⟩))
    · exact own1 a (.inr (.inr h)), rfl, rfl, f'.N, f'.μ, f'.dom⟩
  have st := fs.stay
  have ol : outs.length = ks.length := by
    have := R'.len
    rw [List.length_map] at this
    omega
  have st2 : Stay (g'.plus Fo) H' (g1.backP g' ks) H' := stay_iff hU rfl rfl hZ
  have stb : Stay g1.bare H1 (g1.backP g' ks).bare H' := by
    refine ⟨fun a o e h => ?_, fun a h => ?_, f'.N, f'.μ, fs.Z⟩
    · refine f'.keep a o e ?_
      by_cases q : g1.O a
      · exact .inr (.inl q)
      · refine .inl fun u => h ?_
        rcases lendTo_U.mp u with u | u | u
        · exact absurd u q
        · exact .inr (.inl u)
        · exact .inr (.inr u)
    · have noO : ∀ a, g'.U a → ¬ g'.O a → g1.bare.U a ∨ H1 a = none := fun a u n => by
        rcases own1 a u with u | u
        · refine .inl ?_
          rcases u with u | u | u
          · exact absurd ((eO a).mpr (.inl u)) n
          · exact .inr (.inl u)
          · exact .inr (.inr u)
        · exact .inr u
      rcases h with h | ⟨i, ⟨j, _, h⟩ | ⟨_, h⟩⟩ | h
      · exact h.elim
      · exact noO a (.inr (.inl ⟨j, h⟩)) fun z => R'.dFO j a h (.inl z)
      · exact .inl (.inr (.inl ⟨i, h⟩))
      · exact noO a (.inr (.inr h)) fun z => R'.dOB a (.inl z) h
  refine ⟨⟨by rw [putOuts_len]; exact R1.len, fun i d e => ?_, fun i j a h h' => ?_, fun i a h u => ?_, fun i a h u => ?_, fun a h => R'.dOB a (.inl ((eO a).mpr (.inl h))), fun a h => R'.dom a (hU a h), R'.st.keep st2 (fun _ _ _ h => h) rfl rfl rfl fun _ _ => rfl, fun a h => R'.nt a (hU a h)⟩, fs, hU⟩
  · rcases putOuts_get ks outs ρ ol i d e with ⟨j, h1, h2⟩ | ⟨h1, h2⟩
    · obtain ⟨k, hk⟩ := lentA_get h1
      obtain ⟨d0, v0, a1, a2, a3, a4⟩ := s.get hk
      obtain ⟨v, b1, b2⟩ := R'.slot j d h2
      rw [List.getElem?_map, a2] at b1
      cases b1
      refine ⟨v0, a4, ?_⟩
      rw [mdA_get hk] at b2
      have b2 : v0 = _ ∧ Own T (g'.plus Fo) H' k (g'.F j) d v0 := b2
      have own := Own.wide _ _ ((g1.backP g' ks).F i) _ _ (fun a z => .inl ⟨j, h1, z⟩) (Own.keepF st2 _ _ _ _ (fun _ _ _ q => q) b2.2)
      rcases ho j i k hk with e | e
      · rw [e]; exact own
      · rw [e]
        refine ⟨?_, own⟩
        obtain ⟨w, c1, c2⟩ := R1.slot i d0 a3
        rw [a4] at c1
        cases c1
        rw [e] at c2
        exact c2.1
    · obtain ⟨v, b1, b2⟩ := R1.slot i d h2
      refine ⟨v, b1, ?_⟩
      have kF : ∀ a o, g1.F i a → H1 a = some o → H' a = some o := fun a o z q => f'.keep a o q (.inr (.inr ⟨i, h1, z⟩))
      have wF : ∀ a, g1.F i a → (g1.backP g' ks).F i a := fun a z => .inr ⟨h1, z⟩
      cases hm : Γ.getD i .s <;> rw [hm] at b2 <;> simp only [RepM] at b2 ⊢
      · exact b2.stay st
      · exact Own.wide _ _ _ _ _ wF (Own.keepF st _ _ _ _ kF b2)
      · exact Own.keepF st _ _ _ _ (fun a o z q => f'.keep a o q (.inr (.inl z))) b2
      · exact ⟨b2.1, Own.wide _ _ _ _ _ wF (Own.keepF st _ _ _ _ kF b2.2)⟩
      · exact b2
      · exact b2.stay stb
      · exact ⟨b2.1, (st).keep _ _ b2.2.1 b2.2.2, (st).off b2.2.1 b2.2.2⟩
  · rcases h with ⟨p, e1, h1⟩ | ⟨e1, h1⟩ <;> rcases h' with ⟨q, e2, h2⟩ | ⟨e2, h2⟩
    · have := R'.dF p q a h1 h2
      subst this
      rw [e1] at e2
      exact Option.some.inj e2
    · exact absurd (.inl ((eO a).mpr (.inr ⟨j, e2, h2⟩))) (R'.dFO p a h1)
    · exact absurd (.inl ((eO a).mpr (.inr ⟨i, e1, h1⟩))) (R'.dFO q a h2)
    · exact R1.dF i j a h1 h2
  · rcases h with ⟨p, e1, h1⟩ | ⟨e1, h1⟩
    · exact R'.dFO p a h1 (.inl ((eO a).mpr (.inl u)))
    · exact R1.dFO i a h1 u
  · rcases h with ⟨p, e1, h1⟩ | ⟨e1, h1⟩
    · exact R'.dFB p a h1 u
    · exact R'.dOB a (.inl ((eO a).mpr (.inr ⟨i, e1, h1⟩))) u
def eCallP (Φ : FF) (ks : List AK) (as : FL) : FEP := fun ρ S => match as ρ S with
  | .ok ds S1 => (match Φ ds S1 with
    | .ok d outs S2 => .ok d (putOuts ks outs ρ) S2
    | .exc x outs S2 => .exc x (putOuts ks outs ρ) S2
    | .no => .no)
  | .exc x S1 => .exc x ρ S1
  | .no => .no
theorem xp_call {k n : Nat} {f : Addr} {fd : FuncData} {ps : List Str} {sg : Sig} {Φ : FF} {e : Expr} {es : List Expr} {A : FL} (F : FnOk X.prog X.w X.K X.mg X.base (L2.CX X.prog X.w) k f fd ps (spD T n sg Φ)) (hm : sg.ms = ks.map mdA) (hl : ks.length ≤ 1000) (hown : ownA Γ ks) (hd : (lentsOf ks).Nodup) (hA : ∀ ρ S ds S1, A ρ S = .ok ds S1 → ds.length = n)
    (ha : XPA X T W Γ ks es A) (he : PA X es (tPA T W Γ ks A) → PE X e (tCallS (spD T n sg Φ) (WE W) (tPA T W Γ ks A))) : XEP X T W Γ e (eCallP Φ ks A) := pe_imp (he ha) fun σ H Q ⟨g, ρ, S, R, hg⟩ => by
  refine ⟨g, ρ, S, R, ?_⟩
  unfold eCallP at hg
  cases ea : A ρ S with
  | exc x S1 => rw [ea] at hg; exact fun c dd g' H' R' f' ex => hg c dd g' H' R' (f'.frs R.dOB) ex
  | no => rw [ea] at hg; exact hg
  | ok ds S1 =>
    rw [ea] at hg
    intro vs g1 H1 R1 f1 s1
    have hg : GoodEP T W Γ σ g H (match Φ ds S1 with | .ok d outs S2 => .ok d (putOuts ks outs ρ) S2 | .exc x outs S2 => .exc x (putOuts ks outs ρ) S2 | .no => .no) Q := hg
    have fr1 := f1.frs R.dOB
    refine ⟨by rw [s1.len.2, ← s1.len.1]; exact hA ρ S ds S1 ea, g1.lendTo ks vs, ds, S1, by rw [hm]; exact rel_lend R1 s1 hl hown (onceA_of hd), ?_⟩
    cases ef : Φ ds S1 with
    | no => rw [ef] at hg; exact hg
    | ok d outs S2 =>
      rw [ef] at hg
      intro v g' H' Fo R' f' nf ho hw
      rw [hm] at R'
      obtain ⟨R2, f2, hU⟩ := call_backP R1 s1 hl hown R' f'
      refine hg v (g1.backP g' ks) H' R2 (fr1.trans f2) ?_
      have hZ : (g1.backP g' ks).Z = g'.Z := by
        rw [f2.Z, f'.Z, lendTo_Z hl]
      have st : Stay (g'.plus Fo) H' ((g1.backP g' ks).plus Fo) H' := ⟨fun _ _ h _ => h, fun a h => .inl (by
        rcases h with (h | h) | h | h
        · exact hU a (.inl h)
        · exact .inl (.inr h)
        · exact hU a (.inr (.inl h))
        · exact .inr (.inr h)), Nat.le_refl _, fun _ _ => rfl, hZ⟩
      refine shr_of_own sg.kr Fo d v (fun a z u => ?_) (fun a z => R'.dom a (.inl (.inr z))) (Own.keepF st _ _ _ _ (fun _ _ _ q => q) hw)
      have ho' := (ho a z).1
      rcases u with u | ⟨i, ⟨j, _, u⟩ | ⟨e1, u⟩⟩ | u
      · exact ho' (.inl u)
      · exact R'.dFO j a u (.inr z)
      · exact ho' (.inr ⟨i, e1, u⟩)
      · exact R'.dOB a (.inr z) u
    | exc x outs S2 =>
      rw [ef] at hg
      intro c dd g' H' R' f' nf ex
      rw [hm] at R'
      obtain ⟨R2, f2, hU⟩ := call_backP R1 s1 hl hown (plus_none R') f'
      refine hg c dd (g1.backP g' ks) H' R2 (fr1.trans f2) ?_
      obtain ⟨e0, e1, e2⟩ := ex
      refine ⟨e0, e1, e2.imp id fun ⟨d, fs, h1, h2, h3, h4, h5⟩ => ⟨d, fs, h1, h2, h3, h4, ?_⟩⟩
      have hZ : (g1.backP g' ks).Z = g'.Z := by
        rw [f2.Z, f'.Z, lendTo_Z hl]
      have st : Stay g' H' (g1.backP g' ks) H' := ⟨fun _ _ h _ => h, fun a h => .inl (by
        rcases hU a h with (h | h) | h | h
        · exact .inl h
        · exact h.elim
        · exact .inr (.inl h)
        · exact .inr (.inr h)), Nat.le_refl _, fun _ _ => rfl, hZ⟩
      exact ⟨ShrL.stay st _ _ h5.1, st.off h3 h5.2⟩
variable {J : Jd} {Γ' : List Md}
def REP.bindS (r : REP) (k : D → Env → Store → RS) : RS := match r with
  | .ok d ρ S => k d ρ S
  | .exc x ρ S => .exc x ρ S
  | .no => .no
theorem good_bindP {σ : L2.St} {g : G} {H : Hp} {r : REP} {k : D → Env → Store → RS} {D : Ends} {Q' : VK} (hx : J.ΓX Γ) (h : GoodS T J Γ' g H (r.bindS k) D)
    (hk : ∀ d ρ S v g' H', r = .ok d ρ S → Rel T g' Γ ρ S σ H' → FrS g H g' H' → Shr T g' H' d v → GoodS T J Γ' g' H' (k d ρ S) D → Q' v H') : GoodEP T J.W Γ σ g H r Q' := by
  cases r with
  | ok d ρ S => exact fun v g' H' R f s => hk d ρ S v g' H' rfl R f s (GoodS.then h f)
  | exc x ρ S => exact fun c dd g' H' R f e => h Γ c dd σ g' H' hx R f e
  | no => exact h
def fSetP (i : Nat) (A : FEP) : FS := fun ρ S => (A ρ S).bindS fun d ρ1 S1 => .nx (ρ1.set i (some d)) S1
theorem xs_setPP {i : Nat} {e : Expr} {A : FEP} {st : Stmt} (hx : J.ΓX Γ) (ha : XEP X T J.W Γ e A) (he : PE X e (tEP T J.W Γ A) → PS X st (tAsg (tEP T J.W Γ A) (gName i))) (hΓ : Γ.set i .s = Γ') : XS X T J Γ Γ' st (fSetP i A) := ps_imp (he ha) fun D σ H ⟨g, ρ, S, R, h⟩ =>
  ⟨g, ρ, S, R, good_bindP hx h fun d ρ1 S1 v g1 H1 _ R1 f1 s1 h1 => h1 _ (g1.drop i) H1 (by rw [← hΓ]; exact R1.set s1) .drop⟩
end
end Q

namespace Q
open PySem PySem.Spec PyProof.Rows L2
section
variable {X : Cx} {T : Th} {Γ : List Md} {J : Jd} {i K : Nat}
def OwnR (Γ : List Md) : List AK → Prop
  | [] => True
  | none :: ks => OwnR Γ ks
  | some (i, k) :: ks => (Γ.getD i .s = .o k ∨ Γ.getD i .s = .p k) ∧ OwnR Γ ks
theorem ownr_nil : OwnR Γ [] := trivial
theorem ownr_s {ks : List AK} (h : OwnR Γ ks) : OwnR Γ (none :: ks) := h
theorem ownr_p {ks : List AK} {i k : Nat} (h1 : Γ.getD i .s = .o k ∨ Γ.getD i .s = .p k) (h : OwnR Γ ks) : OwnR Γ (some (i, k) :: ks) := ⟨h1, h⟩
theorem ownA_of : ∀ {ks : List AK}, OwnR Γ ks → ownA Γ ks
  | [], _ => fun j i k h => by rw [List.getElem?_nil] at h; cases h
  | none :: ks, h => fun j i k e => by
    cases j with
    | zero => cases e
    | succ j => exact ownA_of (ks := ks) h j i k (by simpa using e)
  | some (i0, k0) :: ks, h => fun j i k e => by
    cases j with
    | zero =>
      simp at e
      obtain ⟨rfl, rfl⟩ := e
      exact h.1
    | succ j => exact ownA_of (ks := ks) h.2 j i k (by simpa using e)
def pinSame : List Md → List Md → Bool
  | [], _ => true
  | .p k :: ms, .p k' :: Γ => k == k' && pinSame ms Γ
  | .p _ :: _, _ => false
  | _ :: ms, _ :: Γ => pinSame ms Γ
  | _ :: ms, [] => pinSame ms []
theorem gp_p : ∀ {ms Γ : List Md}, pinSame ms Γ = true → ΓP ms Γ
  | [], _, _ => fun i k e => by simp at e
  | m :: ms, [], h => fun i k e => by
    cases m with
    | p k0 => simp [pinSame] at h
    | _ =>
      have h : pinSame ms [] = true := by simpa only [pinSame] using h
      cases i with
      | zero => cases e
      | succ i =>
        have := gp_p h i k (by simpa using e)
        simp at this
  | m :: ms, n :: Γ, h => fun i k e => by
    cases m with
    | p k0 =>
      cases n with
      | p k1 =>
        simp only [pinSame, Bool.and_eq_true, beq_iff_eq] at h
        cases i with
        | zero =>
          simp at e ⊢
          rw [← h.1]
          exact e
        | succ i =>
          have := gp_p h.2 i k (by simpa using e)
          simpa using this
      | _ => simp [pinSame] at h
    | _ =>
      have h : pinSame ms Γ = true := by cases n <;> simpa only [pinSame] using h
      cases i with
      | zero => cases e
      | succ i =>
        have := gp_p h i k (by simpa using e)
        simpa using this
end
section
variable {P : Program} {w : World} {K : PySem.W.Frag} {mg : Str → Option Value} {base : Heap} {T : Th}
theorem fn_okPR {qual : Str} {st : Stmt} {f : Addr} {fd : FuncData} {N ps : List Str} {k n : Nat} {sg : Sig} {B : FS} {Γ0 Γ' : List Md} (F : OkRule P w K mg base qual st f fd) (Sc : FnScope N ps (defScope st)) (hn : ps.length = n) (hN : n ≤ N.length) (h0 : sg.ms ++ List.replicate (N.length - sg.ms.length) .s = Γ0)
    (hp : pinSame sg.ms Γ' = true)
    (hbody : ∀ (cdv : Value) (A : Around) (outer : List PySem.Env) (s : Shared) (H : Hp) (E : XK), Room k (A.deeper (envOfC qual (defScope st) s.heap.objs.size f cdv)) →
      XB (cxOf (L2.CX P w) P w K mg base N qual (defScope st) f cdv A outer s H E) T (jdF sg.ms sg.kr E) Γ0 Γ' (defBody st) B) :
    FnOk P w K mg base (L2.CX P w) (k + 1) f fd ps (spD T n sg (fBody N.length n sg.ms B)) := fn_okR F Sc hn hN (fun cdv A outer s H E hr => by rw [h0]; exact hbody cdv A outer s H E hr) (gp_p hp)
end
end Q

namespace Q
open PySem PySem.Spec PyProof.Rows L2
def hIxO : D → D → Option D
  | .lst l, y => hIx (.lst l) y
  | _, _ => none
theorem hIxO_lst {l : List D} {y : D} : hIxO (.lst l) y = hIx (.lst l) y := rfl
section
variable {X : Cx} {T : Th} {W : WX} {Γ : List Md}
theorem xc_oix {i : Nat} {e a b : Expr} {B : FE} (hm : isOwn1 (Γ.getD i .s)) (hv : PE X a (tVar i)) (hb : XC X T W Γ b B) (he : PE X a (tVar i) → PE X b (tC1 T W Γ B) → PE X e (tOp (rIxA X.K) (tVar i) (tC1 T W Γ B))) : XC X T W Γ e (eOp hIxO (eVar i) B) := pe_imp (he hv hb) fun σ H Q ⟨g, ρ, S, R, hg⟩ => by
  have hg : GoodC T W Γ ρ σ g S H ((match ρ[i]? with | some (some d) => RE.ok d S | _ => .no).bind fun x S1 => (B ρ S1).bind fun y S2 => .of S2 (hIxO x y)) Q := hg
  cases el : ρ[i]? with
  | none => rw [el] at hg; exact hg.elim
  | some o =>
    rw [el] at hg
    match o, hg, el with
    | none, hg, el => exact hg.elim
    | some d, hg, el =>
      have hg : GoodC T W Γ ρ σ g S H ((B ρ S).bind fun y S2 => .of S2 (hIxO d y)) Q := hg
      obtain ⟨v, h1, _⟩ := R.slot i d el
      refine ⟨v, h1, g, ρ, S, R, goodC_bind hg fun y w H1 _ e1 s1 hg1 => ?_⟩
      cases ez : hIxO d y with
      | none => rw [ez] at hg1; exact hg1.elim
      | some z =>
        rw [ez] at hg1
        cases d <;> simp only [hIxO] at ez <;> first | (cases ez; done) | skip
        rename_i l
        obtain ⟨p, vs, k1, hF, hH, sl, _⟩ := (R.ex e1).own1 hm el
        rw [h1] at k1
        cases k1
        have hg1 : GoodC T W Γ ρ σ g S H1 (.ok z S) Q := hg1
        cases y <;> simp only [hIx] at ez <;> first | (cases ez; done) | skip
        obtain ⟨u, h2, h3⟩ := atI_shr sl ez
        exact .inl ⟨p, vs, _, u, rfl, shr_int.mp s1, .of hH, h2, hg1 rfl u H1 (.refl H1) h3⟩
end
end Q

namespace Q
open PySem PySem.Spec PyProof.Rows L2
section
variable {X : Cx} {T : Th} {W : WX} {Γ : List Md}
end
section
variable {T : Th} {Γ : List Md}
end
section
variable {X : Cx} {T : Th} {Γ Γ' : List Md} {J : Jd} {i : Nat}
end
end Q

namespace Q
open PySem PySem.Spec PyProof.Rows L2
structure ClsFn (K : PySem.W.Frag) (C f : Addr) (m : Str) : Prop where
  rd : PySem.W.readsIn K C (.type "type") = true
  ga : PySem.W.specialIn K (.ref C) "__getattribute__" = some (some (.builtin "type.__getattribute__"))
  at_ : PySem.W.findCls K (.ref C) (.type "type") m = some (.val (.ref f))
end Q

namespace Q
open PySem PySem.Spec PyProof.Rows L2
section
variable {P : Program} {w : World} {K : PySem.W.Frag} {mg : Str → Option Value} {base : Heap} {qual : Str} {st : Stmt} {f : Addr} {fd : FuncData} {N ps : List Str} {k : Nat} {f1 f2 : Str}
end
section
variable {X : Cx} {T : Th} {J : Jd} {Γ Γ' : List Md}
end
section
variable {X : Cx} {T : Th} {Γ : List Md}
end
end Q

namespace Q
open PySem PySem.Spec PyProof.Rows L2
section
variable {X : Cx} {a D : Addr} {oe : Obj} {pn : List (Addr × Obj)} {d : Option Addr} {pins : List (Addr × Obj)} {s : Shared} {σ : L2.St} {H : Hp}
end
section
variable {X : Cx} {T : Th} {W : WX} {Γ : List Md} {y : Exc} {d : Option Addr} {m : Md} {a : Addr} {i : Nat}
end
end Q
namespace Q
open PySem PySem.Spec PyProof.Rows L2
end Q

namespace Q
open PySem PySem.Spec PyProof.Rows L2
section
variable {X : Cx}
end
section
variable {T : Th} {g : G} {H : Hp}
end
section
variable {X : Cx} {T : Th} {W : WX} {Γ : List Md}
end
end Q

namespace Q
open PySem PySem.Spec PyProof.Rows L2
section
variable {X : Cx}
end
end Q

namespace Q
open PySem PySem.Spec PyProof.Rows L2
section
variable {T : Th} {g : G} {H : Hp}
end
section
variable {X : Cx} {T : Th} {W : WX} {Γ : List Md}
end
end Q

namespace Q
open PySem PySem.Spec PyProof.Rows L2
section
variable {X : Cx} {k : Nat} {C f : Addr} {fd : FuncData} {ps : List Str} {sp : Sp} {E : L2.St → XK} {o e : Expr} {es : List Expr} {m : Str} {pos apos : Pos} {ta : TE} {t : TA} {pl : Sem Bool}
end
end Q

namespace Q
open PySem PySem.Spec PyProof.Rows L2
structure IsO (K : PySem.W.Frag) (C : Addr) (cv : Value) (b : Bool) : Prop where
  cl : Cls K C
  ha : PySem.W.findIn K (.ref C) "__class__" = some (some (.builtin "object.__class__"))
  hn : PySem.W.specialIn K (.builtin "object.__class__") "__get__" = some (some (.builtin "getset_descriptor.__get__"))
  ht : PySem.W.takesIn K (.builtin "object.__class__") = some true
  hm : PySem.W.mroIn K C (.type "object") = some true
  hk : PySem.W.kitOne K (.ref C) cv = some b
section
variable {X : Cx} {T : Th} {W : WX} {Γ : List Md} {tb : List (Nat × Bool)} {c : V} {cv : Value}
end
end Q

namespace Q
open PySem PySem.Spec PyProof.Rows L2
variable {T : Th}
end Q

namespace Q
open PySem PySem.Spec PyProof.Rows L2
section
variable {X : Cx} {T : Th} {W : WX} {Γ : List Md}
end
end Q

namespace Q
open PySem PySem.Spec PyProof.Rows L2
section
variable {X : Cx} {T : Th} {W : WX} {Γ : List Md}
end
section
variable {X : Cx} {T : Th} {Γ : List Md} {J : Jd} {i K : Nat}
end
end Q

namespace Q
open PySem PySem.Spec PyProof.Rows L2 PySem.Builtin PySem.Builtin.Str
section
variable {X : Cx} {T : Th} {Γ : List Md} {J : Jd}
end
end Q

namespace Q
open PySem PySem.Spec PyProof.Rows L2
section
variable {X : Cx} {T : Th} {W : WX} {Γ : List Md}
end
end Q

namespace Q
open PySem PySem.Spec PyProof.Rows L2
end Q

set_option maxHeartbeats 2000000
namespace Q
open PySem PySem.Spec PyProof.Rows L2
inductive HdsAs (X : Cx) (n : Str) : List ExceptHandler → List (Value × (Addr → Value → Option Addr → TS)) → Prop
  | nil : HdsAs X n [] []
  | cons {x : Str} {c : Value} {ts : Addr → Value → Option Addr → TS} {b₀ : Stmt} {suite : List Stmt} {np pos' : Pos} {hds : List ExceptHandler} {l : List (Value × (Addr → Value → Option Addr → TS))} (hc : Names X x c)
      (hsu : ∀ (a : Addr) (oe : Obj) (cls : Value) (d : Option Addr) (pn : List (Addr × Obj)), Zc cls d oe → (∃ vs, oe.data = .fields vs) → PSs (X.suite a ((a, oe) :: pn)) (b₀ :: suite) (ts a cls d)) (r : HdsAs X n hds l) :
      HdsAs X n (.ExceptHandler (some (.Name x np)) (some n) (b₀ :: suite) pos' :: hds) ((c, ts) :: l)
section
variable {X : Cx} {n : Str} {i : Nat} {body : List Stmt} {h₀ : ExceptHandler} {hds : List ExceptHandler} {l : List (Value × (Addr → Value → Option Addr → TS))} {pos : Pos} {tb : WX → TS} {Wout : WX}
end
section
variable {X : Cx} {T : Th} {Γ : List Md}
end
end Q

set_option maxHeartbeats 2000000
namespace Q
open PySem PySem.Spec PyProof.Rows L2
def DctO (P : Program) (w : World) (d : Addr) (u : HO) : Prop := (∃ ks : List (Key × V), u = .dK ks) ∨ ∃ ps, u = dN P w d ps
theorem DctO.nofrz {P : Program} {w : World} {d : Addr} {u : HO} (h : DctO P w d u) : ∀ o x, u ≠ .frz o x := fun o x e => by
  rcases h with ⟨ks, rfl⟩ | ⟨ps, rfl⟩
  · cases e
  · unfold dN at e; cases e
theorem DctO.noins {P : Program} {w : World} {d : Addr} {u : HO} (h : DctO P w d u) : (∀ l, u ≠ .lst l) ∧ (∀ l, u ≠ .tup l) ∧ (∀ c dx fs, u ≠ .ins c dx fs) ∧ ∀ fs, u ≠ .xd fs := by
  rcases h with ⟨ks, rfl⟩ | ⟨ps, rfl⟩
  · refine ⟨?_, ?_, ?_, ?_⟩ <;> intros <;> intro e <;> cases e
  · unfold dN
    refine ⟨?_, ?_, ?_, ?_⟩ <;> intros <;> intro e <;> cases e
structure Lk (P : Program) (w : World) (d : Addr) (u : HO) (H H' : Hp) : Prop where
  ne : ∀ b, b ≠ d → H' b = H b
  r : Rd H d u
  r' : Rd H' d u
  dc : DctO P w d u
section
variable {T : Th} {g : G} {d : Addr} {u : HO} {H H' : Hp}
theorem Lk.rd (L : Lk T.pr T.w d u H H') {b : Addr} {v : HO} (hv : ∀ o x, v ≠ .frz o x) (h : Rd H b v) : Rd H' b v := by
  by_cases e : b = d
  · subst e
    have hu := L.dc.nofrz
    have e2 : v = u := by
      rcases h with h | ⟨o, h⟩ <;> rcases L.r with r | ⟨o', r⟩ <;> rw [h] at r
      · exact Option.some.inj r
      · exact absurd (Option.some.inj r) (hv _ _)
      · exact absurd (Option.some.inj r).symm (hu _ _)
      · injection r with r
        injection r
    rw [e2]
    exact L.r'
  · rcases h with h | ⟨o, h⟩
    · exact .inl (by rw [L.ne b e]; exact h)
    · exact .inr ⟨o, by rw [L.ne b e]; exact h⟩
theorem Lk.at (L : Lk T.pr T.w d u H H') {b : Addr} {v : HO} (hv : ∀ o x, v ≠ .frz o x) (hu : v ≠ u) (h : H b = some v) : H' b = some v := by
  by_cases e : b = d
  · subst e
    exfalso
    rcases L.r with r | ⟨o', r⟩ <;> rw [h] at r
    · exact hu (Option.some.inj r)
    · exact hv _ _ (Option.some.inj r)
  · rw [L.ne b e]; exact h
theorem dN_nofrz {P : Program} {w : World} {a : Addr} {ps : List (NestedKey × Addr × V)} : ∀ o x, dN P w a ps ≠ .frz o x := fun o x e => by unfold dN at e; cases e
theorem LkT.lk {a : Addr} {vs : List V} (L : Lk T.pr T.w d u H H') (h : LkT T.K g.U H a vs) : LkT T.K g.U H' a vs := h.imp (fun z => ⟨L.rd (fun o x e => by cases e) z.1, z.2⟩) id
theorem LkL.lk {a : Addr} {vs : List V} (L : Lk T.pr T.w d u H H') (h : LkL T.K g.U H a vs) : LkL T.K g.U H' a vs := h.imp (fun z => ⟨L.rd (fun o x e => by cases e) z.1, z.2⟩) id
theorem codeO_ne {P : Program} {w : World} {c d : Addr} {q : Str} {u : HO} (h : DctO P w d u) : LamX.CodeO c q ≠ u := fun e => by
  rcases h with ⟨ks, rfl⟩ | ⟨ps, rfl⟩
  · unfold LamX.CodeO at e; cases e
  · unfold LamX.CodeO dN at e
    injection e with e
    let o1 : Obj := { cls := .none, data := .fields #[.none, .str q 0] }
    have hg : ∀ (a : Addr) (o : Obj), (⟨Array.replicate (c + 1) o1, {}⟩ : Heap).get? a = some o → o = o1 := fun a o z => by
      unfold Heap.get? at z
      rw [Array.getElem?_replicate] at z
      by_cases ha : a < c + 1
      · rw [if_pos ha] at z
        exact (Option.some.inj z).symm
      · rw [if_neg ha] at z
        cases z
    have hc : (⟨Array.replicate (c + 1) o1, {}⟩ : Heap).get? c = some o1 := by
      unfold Heap.get?
      rw [Array.getElem?_replicate, if_pos (Nat.lt_succ_self c)]
    have e2 := congrFun e (⟨Array.replicate (c + 1) o1, {}⟩ : Heap)
    have h1 : ∃ (oc : Obj) (vs : Array Value) (t : Tok), (⟨Array.replicate (c + 1) o1, {}⟩ : Heap).get? c = some oc ∧ oc.data = .fields vs ∧ vs[1]? = some (.str q t) := ⟨o1, _, _, hc, rfl, rfl⟩
    rw [e2] at h1
    obtain ⟨_, _, o, es, ep, xs, h2, h3, h4, _⟩ := h1
    rw [hg _ _ h2] at h4
    cases h4
theorem Lk.fz (L : Lk T.pr T.w d u H H') {b : Addr} {o : Obj} (h : H b = some (fzo o)) : H' b = some (fzo o) := by
  by_cases e : b = d
  · subst e
    exfalso
    rcases L.r with r | ⟨o', r⟩ <;> rw [h] at r
    · exact L.dc.nofrz _ _ (Option.some.inj r).symm
    · injection r with r
      injection r with _ r
      rcases L.dc with ⟨ks, z⟩ | ⟨ps, z⟩
      · rw [z] at r; cases r
      · rw [z] at r; unfold dN at r; cases r
  · rw [L.ne b e]; exact h
theorem Lk.code (L : Lk T.pr T.w d u H H') {b : Addr} {q : Str} (h : H b = some (LamX.CodeO b q)) : H' b = some (LamX.CodeO b q) := L.at (fun o x e => by unfold LamX.CodeO at e; cases e) (codeO_ne L.dc) h
theorem Clo.lk (L : Lk T.pr T.w d u H H') {m : Nat} {x : D} {v : V} (h : Clo T g H m x v) : Clo T g H' m x v := Clo.of rfl (fun a o e hu => ⟨L.fz e, hu⟩) (fun a q e hu => ⟨L.code e, hu⟩) x m v h
mutual
theorem Shr.lk (L : Lk T.pr T.w d u H H') : ∀ (x : D) (v : V), Shr T g H x v → Shr T g H' x v
  | .non, _, h => by simpa only [Shr] using h
  | .bl _, _, h => by simpa only [Shr] using h
  | .int _, _, h => by simpa only [Shr] using h
  | .str _, _, h => by simpa only [Shr] using h
  | .tup l, v, h => by
    simp only [Shr] at h ⊢
    obtain ⟨a, vs, e, q, r⟩ := h
    exact ⟨a, vs, e, LkT.lk L q, ShrL.lk L l vs r⟩
  | .lst l, v, h => by
    simp only [Shr] at h ⊢
    obtain ⟨a, vs, e, q, r⟩ := h
    exact ⟨a, vs, e, ⟨L.at (fun o x e => by cases e) (fun e => L.dc.noins.1 _ e.symm) q.1, q.2⟩, ShrL.lk L l vs r⟩
  | .scr l, v, h => by
    simp only [Shr] at h ⊢
    obtain ⟨a, vs, e, q, r⟩ := h
    exact ⟨a, vs, e, LkL.lk L q, ShrL.lk L l vs r⟩
  | .dct l, v, h => by
    simp only [Shr] at h ⊢
    obtain ⟨a, vs, e, q, r⟩ := h
    refine ⟨a, vs, e, ⟨?_, q.2⟩, ShrK.lk L l vs r⟩
    rcases q.1 with ⟨ks, h1, h2⟩ | ⟨ps, h1, h2⟩
    · exact .inl ⟨ks, L.rd (fun o x e => by cases e) h1, h2⟩
    · exact .inr ⟨ps, L.rd dN_nofrz h1, h2⟩
  | .obj n, v, h => by simpa only [Shr] using h
  | .fn _ _, v, h => by
    simp only [Shr] at h ⊢
    exact h.imp fun m z => Clo.lk L z
  | .gone _, v, h => by simp only [Shr] at h
theorem ShrL.lk (L : Lk T.pr T.w d u H H') : ∀ (ds : List D) (vs : List V), ShrL T g H ds vs → ShrL T g H' ds vs
  | [], _, h => by simpa only [ShrL] using h
  | x :: ds, vs, h => by
    simp only [ShrL] at h ⊢
    obtain ⟨v, ws, e, q, r⟩ := h
    exact ⟨v, ws, e, Shr.lk L x v q, ShrL.lk L ds ws r⟩
theorem ShrK.lk (L : Lk T.pr T.w d u H H') : ∀ (ds : List (D × D)) (vs : List (V × V)), ShrK T g H ds vs → ShrK T g H' ds vs
  | [], _, h => by simpa only [ShrK] using h
  | (k, x) :: ds, vs, h => by
    simp only [ShrK] at h ⊢
    obtain ⟨w, v, ws, e, p, q, r⟩ := h
    exact ⟨w, v, ws, e, Shr.lk L k w p, Shr.lk L x v q, ShrK.lk L ds ws r⟩
end
theorem Own.lk (L : Lk T.pr T.w d u H H') : ∀ (k : Nat) (F : Addr → Prop) (x : D) (v : V), (∀ a, F a → a ≠ d) → Own T g H k F x v → Own T g H' k F x v := by
  intro k
  induction k with
  | zero => intro F x v _ h; simp only [Own] at h ⊢; exact Shr.lk L _ _ h
  | succ k ih =>
    intro F x v hF h
    cases x with
    | lst l =>
      simp only [Own] at h ⊢
      obtain ⟨p, vs, e, hp, hH, hl, Gs, h1, h2, h3⟩ := h
      exact ⟨p, vs, e, hp, by rw [L.ne p (hF p hp)]; exact hH, hl, Gs, h1, h2, fun j x w a b => ih _ _ _ (fun a z => hF a (h1 j a z).1) (h3 j x w a b)⟩
    | dct l =>
      simp only [Own] at h ⊢
      obtain ⟨p, vs, e, hp, hH, hl, Gs, h1, h2, h3⟩ := h
      exact ⟨p, vs, e, hp, hH.at fun o z => by rw [L.ne p (hF p hp)]; exact z, hl, Gs, h1, h2, fun j x w a b => ⟨Shr.lk L _ _ (h3 j x w a b).1, ih _ _ _ (fun a z => hF a (h1 j a z).1) (h3 j x w a b).2⟩⟩
    | _ => simp only [Own] at h ⊢; exact Shr.lk L _ _ h
theorem Rel.lk {Γ : List Md} {ρ : Env} {S : Store} {σ : L2.St} (L : Lk T.pr T.w d u H H') (hd : ¬ g.U d) (R : Rel T g Γ ρ S σ H) : Rel T g Γ ρ S σ H' := by
  have nU : ∀ a, g.U a → a ≠ d := fun a z e => hd (e ▸ z)
  refine ⟨R.len, fun i x e => ?_, R.dF, R.dFO, R.dFB, R.dOB, fun a z => ?_, ⟨R.st.N, R.st.inj, R.st.mB, R.st.bB, R.st.bd, R.st.nd, fun n o e => ?_, fun p hp => ?_⟩, fun a z w r => ?_⟩
  · obtain ⟨v, h1, h2⟩ := R.slot i x e
    refine ⟨v, h1, ?_⟩
    cases hm : Γ.getD i .s <;> rw [hm] at h2 <;> simp only [RepM] at h2 ⊢
    · exact Shr.lk L _ _ h2
    · exact Own.lk L _ _ _ _ (fun a z => nU a (.inr (.inl ⟨i, z⟩))) h2
    · exact Own.lk L _ _ _ _ (fun a z => nU a (.inl z)) h2
    · exact ⟨h2.1, Own.lk L _ _ _ _ (fun a z => nU a (.inr (.inl ⟨i, z⟩))) h2.2⟩
    · exact h2
    · exact Shr.lk L _ _ h2
    · exact ⟨h2.1, L.at (fun o x e => by cases e) (fun e => L.dc.noins.2.2.2 _ e.symm) h2.2.1, h2.2.2⟩
  · rw [L.ne a (nU a z)]; exact R.dom a z
  · obtain ⟨dx, fs, h1, h2, h3⟩ := R.st.ob n o e
    refine ⟨dx, fs, L.at (fun o x e => by cases e) (fun e => L.dc.noins.2.2.1 _ _ _ e.symm) h1, h2, fun j x w a b => ?_⟩
    exact Own.lk L _ _ _ _ (fun a z => nU a (.inr (.inr (R.st.bB _ _ a z).1))) (h3 j x w a b)
  · obtain ⟨h1, h2, ps, h3, h4, h5⟩ := R.st.tb p hp
    refine ⟨h1, h2, ps, by rw [L.ne _ (nU _ (.inr (.inr h1)))]; exact h3, h4, fun pos cv e => ?_⟩
    obtain ⟨c, e1, e2, e3⟩ := h5 pos cv e
    exact ⟨c, e1, L.code e2, e3⟩
  · refine R.nt a z w ?_
    rcases r with r | ⟨o, r⟩
    · exact .inl (by rw [← L.ne a (nU a z)]; exact r)
    · exact .inr ⟨o, by rw [← L.ne a (nU a z)]; exact r⟩
end
section
variable {X : Cx} {pins : List (Addr × Obj)} {σ : L2.St} {H : Hp} {s : Shared} {d : Addr} {o : Obj}
end
def Itn (P : Program) (w : World) (d : Addr) (o : Obj) (ps : List (NestedKey × Addr × V)) : It :=
  ⟨fun i H => H d = some (.frz o (dN P w d ps)) ∧ i < ps.length, fun i H x H' => H' = H ∧ ∃ p, ps[i]? = some p ∧ x = .ref p.2.1, fun i H => H d = some (.frz o (dN P w d ps)) ∧ ps.length ≤ i⟩
section
variable {P : Program} {w : World} {K : PySem.W.Frag} {tg : Expr} {d : Addr} {o : Obj} {es : Array DictEntry} {ep : Nat}
end
inductive ItD (P : Program) (w : World) (d : Addr) (o : Obj) : HO → It → Prop
  | k (ks : List (Key × V)) : ItD P w d o (.dK ks) (Itk d o ks)
  | n (ps : List (NestedKey × Addr × V)) : ItD P w d o (dN P w d ps) (Itn P w d o ps)
theorem ItD.dc {P : Program} {w : World} {d : Addr} {o : Obj} {u : HO} {J : It} (h : ItD P w d o u J) : DctO P w d u := by
  cases h with
  | k ks => exact .inl ⟨ks, rfl⟩
  | n ps => exact .inr ⟨ps, rfl⟩
section
variable {X : Cx} {T : Th} {Γ : List Md} {J : Jd}
end
end Q

set_option maxHeartbeats 2000000
namespace Q
open PySem PySem.Spec PyProof.Rows L2
section
variable {T : Th} {g g' : G} {H H' : Hp}
theorem FrS.bare (f : FrS g H g' H') (dFO : ∀ i a, g'.F i a → ¬ g'.O a) (dOB : ∀ a, g'.O a → ¬ g'.B a) : Stay g.bare H g'.bare H' where
  Z := f.Z
  keep := fun a o h hu => f.keep a o h (by
    by_cases ho : g.O a
    · exact .inr ho
    · refine .inl fun u => hu ?_
      rcases u with u | u | u
      · exact absurd u ho
      · exact .inr (.inl u)
      · exact .inr (.inr u))
  own := fun a h => by
    have hu : g'.U a ∧ ¬ g'.O a := by
      rcases h with h | ⟨i, h⟩ | h
      · exact h.elim
      · exact ⟨.inr (.inl ⟨i, h⟩), dFO i a h⟩
      · exact ⟨.inr (.inr h), fun z => dOB a z h⟩
    refine (f.own a hu.1).imp (fun u => ?_) id
    rcases u with u | u | u
    · exact absurd (by rw [f.O]; exact u) hu.2
    · exact .inr (.inl u)
    · exact .inr (.inr u)
  N := f.N
  μ := f.μ
end
section
variable {X : Cx} {T : Th} {W : WX} {Γ Γ1 Γ' : List Md} {J : Jd}
end
end Q

set_option maxHeartbeats 2000000
namespace Q
open PySem PySem.Spec PyProof.Rows L2
section
variable {T : Th} {g : G} {d : Addr} {u : HO} {H : Hp}
end
section
variable {X : Cx} {T : Th} {Γ Γ' : List Md} {J : Jd}
end
section
variable {T : Th} {W : WX} {Γ : List Md} {g : G} {d : Addr} {u : HO} {H : Hp}
end
section
variable {X : Cx} {T : Th} {W : WX} {Γ : List Md}
end
end Q

set_option maxHeartbeats 2000000
namespace Q
open PySem PySem.Spec PyProof.Rows L2
mutual
theorem nk_imm : ∀ (d : D) (k : NestedKey), nk d = some k → immD d = true
  | .non, _, _ => by simp only [immD]
  | .bl _, _, _ => by simp only [immD]
  | .int _, _, _ => by simp only [immD]
  | .str _, _, _ => by simp only [immD]
  | .tup l, k, e => by
    simp only [nk] at e
    obtain ⟨ks, e1, _⟩ := Option.map_eq_some_iff.mp e
    simp only [immD]
    exact nkL_imm l ks e1
  | .lst _, _, e => by simp only [nk] at e; cases e
  | .scr _, _, e => by simp only [nk] at e; cases e
  | .dct _, _, e => by simp only [nk] at e; cases e
  | .obj _, _, e => by simp only [nk] at e; cases e
  | .fn _ _, _, e => by simp only [nk] at e; cases e
  | .gone _, _, e => by simp only [nk] at e; cases e
theorem nkL_imm : ∀ (l : List D) (ks : List NestedKey), nkL l = some ks → immL l = true
  | [], _, _ => by simp only [immL]
  | d :: r, ks, e => by
    simp only [nkL] at e
    split at e
    · rename_i k ks' e1 e2
      simp only [immL, Bool.and_eq_true]
      exact ⟨nk_imm d k e1, nkL_imm r ks' e2⟩
    · cases e
end
section
variable {T : Th} {g : G} {H : Hp}
end
section
variable {X : Cx} {T : Th} {W : WX} {Γ : List Md} {i K : Nat}
end
section
variable {T : Th} {g : G} {H : Hp}
theorem Prs.putF {α : Type} {m : Nat} {Gs : Nat → Addr → Prop} {Fo : Addr → Prop} {k x : D} {y u : V} (sy : Shr T g H k y) (ow : Own T g H m Fo x u) (f : α → V × V) (new : α) (hn : f new = (y, u)) {l : List (D × D)} {ks : List α} (h : Prs T g H m Gs l (ks.map f)) :
    Prs T g H m (fun j a => (Gs j a ∧ j < l.length) ∨ (j = l.length ∧ Fo a)) (l ++ [(k, x)]) ((ks ++ [new]).map f) := by
  obtain ⟨h1, h2⟩ := h
  rw [List.length_map] at h1
  refine ⟨by simp [h1], fun j d w e1 e2 => ?_⟩
  rw [List.map_append] at e2
  by_cases hj : j < l.length
  · rw [List.getElem?_append_left hj] at e1
    rw [List.getElem?_append_left (by rw [List.length_map]; omega)] at e2
    obtain ⟨i1, i2⟩ := h2 j d w e1 e2
    exact ⟨i1, Own.wide _ _ _ _ _ (fun a z => .inl ⟨z, hj⟩) i2⟩
  · have hj2 : j = l.length := by
      have := (List.getElem?_eq_some_iff.mp e1).1
      simp at this
      omega
    subst hj2
    rw [List.getElem?_append_right (Nat.le_refl _), Nat.sub_self] at e1
    rw [List.getElem?_append_right (by rw [List.length_map]; omega), List.length_map, h1, Nat.sub_self] at e2
    cases e1
    simp only [List.map_cons, List.map_nil, List.getElem?_cons_zero, Option.some.injEq] at e2
    rw [← e2, hn]
    exact ⟨sy, Own.wide _ _ _ _ _ (fun a z => .inr ⟨rfl, z⟩) ow⟩
end
section
variable {X : Cx} {T : Th} {Γ : List Md} {J : Jd} {i K : Nat}
end
section
variable {X : Cx} {T : Th} {Γ : List Md} {J : Jd} {fm : Nat → Str → Nat}
end
section
variable {X : Cx}
end
section
variable {X : Cx} {T : Th} {W : WX} {Γ : List Md}
end
section
variable {X : Cx} {T : Th} {W : WX} {Γ : List Md}
end
end Q

namespace Q
open PySem PySem.Spec PyProof.Rows L2
section
variable {X : Cx} {T : Th} {Γ : List Md}
end
end Q

namespace Q
open PySem PySem.Spec PyProof.Rows L2
section
variable {prog : Program} {w : World} {A : Around} {R : Result → Shared → Prop} {I : Addr} {fp wr : List Addr} {n : Nat} {P : Nat → Value → Prop} {St : Nat → Heap → Prop}
end
section
variable {prog : Program} {w : World} {A : Around} {E : Value → Shared → Prop} {s : Shared} {l : Addr} {xs : Array (Int × Tok)} {Q : Value → Shared → Prop} {d : Value}
end
end Q

namespace Q
open PySem PySem.Spec PyProof.Rows L2
section
variable {X : Cx}
end
def tupK (l : List (D × D)) : Bool := l.all fun p => match p.1 with
  | .tup _ => true
  | _ => false
section
variable {X : Cx} {T : Th} {Γ : List Md}
end
end Q

namespace Q
open PySem PySem.Spec PyProof.Rows L2
section
variable {prog : Program} {w : World} {A : Around} {E : Value → Shared → Prop} {s : Shared} {d : Addr} {es : Array DictEntry} {ep : Nat}
end
mutual
def hsN : NestedKey → Option Int
  | .none => some (reduceHash 4238894112)
  | .num i => some (hashInt i)
  | .text _ => none
  | .tup ks => (hsNs ks).map fun hs => reduceHash (Builtin.Tuple.tupleHashOf hs)
def hsNs : List NestedKey → Option (List Int)
  | [] => some []
  | k :: ks => match hsN k, hsNs ks with
    | some h, some hs => some (h :: hs)
    | _, _ => none
end
mutual
theorem hsN_eq (w : World) : ∀ (k : NestedKey) (h : Int), hsN k = some h → NestedKey.hash w k = h
  | .none, h, e => by
    simp only [hsN, Option.some.injEq] at e
    rw [NestedKey.hash, e]
  | .num i, h, e => by
    simp only [hsN, Option.some.injEq] at e
    rw [NestedKey.hash, e]
  | .text _, h, e => by simp only [hsN] at e; cases e
  | .tup ks, h, e => by
    simp only [hsN] at e
    obtain ⟨hs, e1, e2⟩ := Option.map_eq_some_iff.mp e
    rw [NestedKey.hash, hsNs_eq w ks hs e1, e2]
theorem hsNs_eq (w : World) : ∀ (ks : List NestedKey) (hs : List Int), hsNs ks = some hs → NestedKey.hashes w ks = hs
  | [], hs, e => by
    simp only [hsNs, Option.some.injEq] at e
    rw [NestedKey.hashes, e]
  | k :: ks, hs, e => by
    simp only [hsNs] at e
    split at e
    · rename_i h hs' e1 e2
      cases e
      rw [NestedKey.hashes, hsN_eq w k h e1, hsNs_eq w ks hs' e2]
    · cases e
end
def hsK : List (D × D) → Option (List Int)
  | [] => some []
  | p :: l => match (nk p.1).bind hsN, hsK l with
    | some h, some hs => some (h :: hs)
    | _, _ => none
def ApartK (l : List (D × D)) : Prop := ∃ hs, hsK l = some hs ∧ hs.Nodup
open Classical in
noncomputable def hDictN : D → Option D
  | .dct l => if tupK l = true ∧ ApartK l then some (.dct l) else none
  | _ => none
section
variable {X : Cx}
end
section
variable {X : Cx} {T : Th} {W : WX} {Γ : List Md}
end
end Q

namespace Q
open PySem PySem.Spec PyProof.Rows L2
section
variable {prog : Program} {w : World} {A : Around} {E : Value → Shared → Prop} {s : Shared} {d : Addr} {es : Array DictEntry} {ep : Nat}
end
end Q

namespace Q
open PySem PySem.Spec PyProof.Rows L2
section
variable {X : Cx} {T : Th} {Γ : List Md} {J : Jd}
end
end Q

namespace Q
open PySem PySem.Spec PyProof.Rows L2
section
variable {X : Cx} {T : Th} {W : WX} {Γ : List Md}
variable {J : Jd}
end
section
variable {A : FEP} {h : HM} {ρ ρ1 : Env} {S S1 : Store} {i : Nat} {d z : D} {l0 l l' : List D}
end
end Q

set_option maxHeartbeats 2000000
namespace Q
open PySem PySem.Spec PyProof.Rows L2 LamX NdefX
def TabsU (T : List (Addr × Str)) (U : Addr → Prop) (H : Hp) : Prop := ∀ p ∈ T, ∃ ps : Array Value, H p.1 = some (.tbl ps) ∧ TriplesOk ps.toList ∧ ∀ (pos : Pos) (cv : Value), codeAmong pos ps.toList = some cv → ∃ c, cv = .ref c ∧ H c = some (CodeO c p.2) ∧ ¬ U c
section
variable {X : Cx} {pins : List (Addr × Obj)} {σ : L2.St} {H : Hp} {s : Shared}
theorem lam_mk {T : List (Addr × Str)} {U : Addr → Prop} {c P : Addr} {q : Str} {params : Arguments} {body : Expr} {scope : Scope} {pos : Pos} {E : Value → Shared → Prop} {Q : Value → Shared → Prop} (I : Inv X pins σ H s) (TB : TabB X.base X.mg c P) (hcode : X.env.code = .ref c)
    (hq : X.env.qual ++ "<lambda>" = q) (hm : (P, q) ∈ T) (hu : ∀ p ∈ T, p.1 = P → p.2 = q) (hT : TabsU T U H) (hU : ∀ a, U a → ∃ o, H a = some o) (hdef : defaultsOf params X.env = ([], [])) (hfree : ∀ y ∈ scope.names, y.2 = .free → ∃ c, X.env.cells.lookup y.1 = some c)
    (h : ∀ (f c' : Addr) (pm ctv : Value) (H1 : Hp) (s' : Shared), Inv X pins σ H1 s' → (∀ b o, H b = some o → b ≠ P → H1 b = some o) → TabsU T U H1 → s.heap.objs.size ≤ f → H1 f = none →
      s'.heap.get? f = some (PySem.W.kla_obj "<lambda>" q params body scope (cloFrom X.env.cells scope.names []) pm c' ctv) → H1 c' = some (CodeO c' q) → ¬ U c' → Q (.ref f) s') :
    wpAny (model X.prog X.w) X.A (eval (.Lambda params body scope pos) X.env) Q E s := by
  subst hq
  obtain ⟨ps, hP, ht, ha⟩ := hT _ hm
  refine PySem.W.kla_eval hdef ?_
  have bP : s.heap.BuiltinsAt X.mg P := TB.bm.keeps I.bk
  have hP' : s.heap.get? P = some { cls := .none, data := .fields ps } := I.hok P _ hP
  cases hc : codeAmong pos ps.toList with
  | none =>
    refine PySem.W.kla_makeFunction (mg := X.mg) (c := c) (P := P) (ps := ps) (closure_ok hfree) I.ok.glob (I.mod.glob.keeps I.bk) hcode (TB.code.keeps I.bk) hP' ht hc TB.gP bP fun c' ctv h' tk hx hge hlt hrec htb => ?_
    obtain ⟨c2, oc, vs, t, e2, hoc, hd, hv⟩ := hrec
    cases e2
    have hsz : s.heap.objs.size ≤ h'.objs.size := Nat.le_trans hge (Nat.le_of_lt hlt)
    have nC : H c' = none := I.hok.fresh hge
    have I1 := inv_table (t' := tk) (more := #[rawInt pos.line, rawInt pos.col, .ref c']) (h' := h'.push (PySem.W.kla_obj "<lambda>" (X.env.qual ++ "<lambda>") params body scope (cloFrom X.env.cells scope.names []) ((X.mg "__name__").getD .none) c' ctv)) I hP
      (fun b o hb e => Heap.get?_push_of_some _ (hx b o hb e)) (Heap.get?_push_of_some _ htb) hge ⟨oc, vs, t, Heap.get?_push_of_some _ hoc, hd, hv⟩
    have hE : ∀ b o, H b = some o → b ≠ P → (upd (upd H P (.tbl (ps ++ #[rawInt pos.line, rawInt pos.col, .ref c']))) c' (CodeO c' (X.env.qual ++ "<lambda>"))) b = some o := fun b o e n => by
      rw [upd_ne (ne_of_none e nC), upd_ne n]
      exact e
    have eL : (ps ++ #[rawInt pos.line, rawInt pos.col, .ref c']).toList = ps.toList ++ [rawInt pos.line, rawInt pos.col, .ref c'] := by simp
    have nP : ∀ b q, H b = some (CodeO b q) → b ≠ P := fun b q e z => LamX.codeO_ne ps (Option.some.inj (e.symm.trans (by rw [z]; exact hP)))
    have nU : ¬ U c' := fun u => by
      obtain ⟨o, e⟩ := hU c' u
      rw [nC] at e
      cases e
    refine h h'.objs.size c' ((X.mg "__name__").getD .none) ctv _ _ I1 hE (fun p hp => ?_) hsz ?_ (Heap.get?_push_size _ rfl) upd_same nU
    · by_cases hb : p.1 = P
      · rw [hu p hp hb, hb]
        refine ⟨_, by rw [upd_ne (ne_of_none hP nC), upd_same], by rw [eL]; exact PySem.TriplesOk_snoc _ _ _ _ ht, fun p' cv hcv => ?_⟩
        rw [eL] at hcv
        rcases among_app _ ht hcv with z | z
        · obtain ⟨c0, e1, e2, e3⟩ := ha p' cv z
          exact ⟨c0, e1, hE _ _ e2 (nP _ _ e2), e3⟩
        · exact ⟨c', z, upd_same, nU⟩
      · obtain ⟨ps', a1, a2, a3⟩ := hT p hp
        refine ⟨ps', by rw [upd_ne (ne_of_none a1 nC), upd_ne hb]; exact a1, a2, fun p' cv hcv => ?_⟩
        obtain ⟨c0, e1, e2, e3⟩ := a3 p' cv hcv
        exact ⟨c0, e1, hE _ _ e2 (nP _ _ e2), e3⟩
    · have n1 : h'.objs.size ≠ c' := Nat.ne_of_gt hlt
      have n2 : h'.objs.size ≠ P := Nat.ne_of_gt (Nat.lt_of_lt_of_le (Heap.lt_size hP') hsz)
      rw [upd_ne n1, upd_ne n2]
      exact I.hok.fresh hsz
  | some cv =>
    obtain ⟨c', e, hco, nU⟩ := ha pos cv hc
    subst e
    refine PySem.W.kla_makeFunctionHit (mg := X.mg) (c := c) (P := P) (ps := ps) (closure_ok hfree) I.ok.glob (I.mod.glob.keeps I.bk) hcode (TB.code.keeps I.bk) hP' ht hc bP fun ctv h' tk hx hsz => ?_
    have I1 : Inv X pins σ H { s with heap := h'.push (PySem.W.kla_obj "<lambda>" (X.env.qual ++ "<lambda>") params body scope (cloFrom X.env.cells scope.names []) ((X.mg "__name__").getD .none) c' ctv), toks := tk } := I.kept fun b o e => Heap.get?_push_of_some _ (hx b o e)
    exact h h'.objs.size c' ((X.mg "__name__").getD .none) ctv H _ I1 (fun _ _ e _ => e) hT hsz (I.hok.fresh hsz) (Heap.get?_push_size _ rfl) hco nU
end
open Classical in
noncomputable def mix (C : Addr → Prop) (A B : Hp) : Hp := fun a => if C a then A a else B a
section
variable {P : Program} {w : World} {C : Addr → Prop} {A B H H' H1 : Hp} {h h' : Heap} {fs : List Addr}
theorem mix_t {a : Addr} (c : C a) : mix C A B a = A a := if_pos c
theorem mix_f {a : Addr} (c : ¬ C a) : mix C A B a = B a := if_neg c
theorem hok_less (ok : HOk P w H h) (hC : ∀ a, C a → ∃ o, H a = some (fzo o)) : HOk P w (mix C (fun _ => none) H) h := fun a o e => by
  by_cases hc : C a
  · rw [mix_t hc] at e; cases e
  · rw [mix_f hc] at e
    refine (ok a o e).stay (fun _ _ _ q => q) (fun b q => ?_) fun b xs q => ?_
    · rw [mix_f fun z => ?_]
      · exact q
      · obtain ⟨o', e'⟩ := hC b z
        rw [q] at e'; cases e'
    · rw [mix_f fun z => ?_]
      · exact q
      · obtain ⟨o', e'⟩ := hC b z
        rw [q] at e'; cases e'
theorem hok_mix (ok : HOk P w B h) (hB : ∀ a, C a → B a = none) (hA : ∀ a o, C a → A a = some o → ∃ ob, o = fzo ob ∧ h.get? a = some ob) : HOk P w (mix C A B) h := fun a o e => by
  by_cases hc : C a
  · rw [mix_t hc] at e
    obtain ⟨ob, rfl, g⟩ := hA a o hc e
    exact ⟨g, ob, g⟩
  · rw [mix_f hc] at e
    refine (ok a o e).stay (fun _ _ _ q => q) (fun b q => ?_) fun b xs q => ?_
    · rw [mix_f fun z => by rw [hB b z] at q; cases q]; exact q
    · rw [mix_f fun z => by rw [hB b z] at q; cases q]; exact q
theorem un_less (hC : ∀ a, C a → ∃ o, H a = some (fzo o)) (u : Un fs [] (mix C (fun _ => none) H) H' h h') : Un fs [] H (mix C H H') h h' := by
  have nn : ∀ b, H b = none → ¬ C b := fun b n z => by
    obtain ⟨o, e⟩ := hC b z
    rw [n] at e; cases e
  have ln : ∀ b, H b = none → mix C (fun _ => none) H b = none := fun b n => by rw [mix_f (nn b n)]; exact n
  refine ⟨fun b o e n => u.keep b o e (ln b n), fun b o e n => u.slot b o e (ln b n), fun b o e n hx => ?_, u.there, fun b xs e => ?_, fun b o v e => ?_, fun b ps e => ?_⟩
  · rw [mix_f (nn b n)]
    exact u.free b o e (ln b n) hx
  · have nc : ¬ C b := fun z => by
      obtain ⟨o, e'⟩ := hC b z
      rw [e] at e'; cases e'
    rw [mix_f nc]
    exact u.tups b xs (by rw [mix_f nc]; exact e)
  · by_cases hc : C b
    · rw [mix_t hc]; exact e
    · rw [mix_f hc]
      exact u.frzs b o v (by rw [mix_f hc]; exact e)
  · have nc : ¬ C b := fun z => by
      obtain ⟨o, e'⟩ := hC b z
      rw [e] at e'; cases e'
    obtain ⟨more, m⟩ := u.tbls b ps (by rw [mix_f nc]; exact e)
    exact ⟨more, by rw [mix_f nc]; exact m⟩
theorem un_mix (hB : ∀ a, C a → H1 a = none) (hs : ∀ a, C a → h.objs.size ≤ a) (u : Un fs [] H H1 h h') : Un fs [] H (mix C A H1) h h' := by
  have ns : ∀ b o, H1 b = some o → ¬ C b := fun b o e z => by rw [hB b z] at e; cases e
  refine ⟨u.keep, u.slot, fun b o e n hx => ?_, u.there, fun b xs e => ?_, fun b o v e => ?_, fun b ps e => ?_⟩
  · rw [mix_f fun z => Nat.lt_irrefl _ (Nat.lt_of_lt_of_le (Heap.lt_size e) (hs b z))]
    exact u.free b o e n hx
  · have q := u.tups b xs e
    rw [mix_f (ns b _ q)]; exact q
  · have q := u.frzs b o v e
    rw [mix_f (ns b _ q)]; exact q
  · obtain ⟨more, q⟩ := u.tbls b ps e
    exact ⟨more, by rw [mix_f (ns b _ q)]; exact q⟩
end
def capD : D → Bool
  | .int _ => true
  | .fn _ _ => true
  | _ => false
mutual
def tupD : D → Bool
  | .int _ => true
  | .tup l => tupL l
  | _ => false
def tupL : List D → Bool
  | [] => true
  | d :: r => tupD d && tupL r
end
section
variable {T T' : Th} {g g' : G} {H H' : Hp}
theorem Clo.mono {m m2 : Nat} (hm : m ≤ m2) {d : D} {v : V} (h : Clo T g H m d v) : Clo T g H m2 d v := by
  cases d with
  | int i => simpa only [Clo] using h
  | fn k l =>
    simp only [Clo] at h ⊢
    obtain ⟨f, c, cl, vs, pm, ctv, e, h1, h2, h3, h4, h5, h6, h7, h8, h9, m', h10, h11, h12⟩ := h
    exact ⟨f, c, cl, vs, pm, ctv, e, Nat.lt_of_lt_of_le h1 hm, h2, h3, h4, h5, h6, h7, h8, fun i y w a b => by
      obtain ⟨x, oc, u, k1, k2, k3⟩ := h9 i y w a b
      exact ⟨x, oc, u, k1, Nat.lt_of_lt_of_le k2 hm, k3⟩, m', Nat.le_trans h10 hm, h11, h12⟩
  | _ => simp only [Clo] at h
theorem Clo.low {m2 : Nat} (ok : ∀ a o, H a = some o → a < m2) : ∀ (d : D) (m : Nat) (v : V), Clo T g H m d v → Clo T g H (min m m2) d v := by
  have key : ∀ (n : Nat) (d : D) (m : Nat) (v : V), sizeOf d < n → Clo T g H m d v → Clo T g H (min m m2) d v := by
    intro n
    induction n with
    | zero => intro d m v h; omega
    | succ n ih =>
      have ihL : ∀ (l : List D) (m : Nat) (vs : List V), (∀ d ∈ l, sizeOf d < n) → CloL T g H m l vs → CloL T g H (min m m2) l vs := by
        intro l
        induction l with
        | nil => intro m vs _ h; simpa only [CloL] using h
        | cons d l ihl =>
          intro m vs hs h
          simp only [CloL] at h ⊢
          obtain ⟨v, ws, e, h1, h2⟩ := h
          exact ⟨v, ws, e, ih d m v (hs d List.mem_cons_self) h1, ihl m ws (fun x hx => hs x (List.mem_cons_of_mem _ hx)) h2⟩
      intro d m v hn h
      cases d with
      | int i => simpa only [Clo] using h
      | fn k l =>
        simp only [Clo] at h ⊢
        obtain ⟨f, c, cl, vs, pm, ctv, e, h1, h2, h3, h4, h5, h6, h7, h8, h9, m', h10, h11, h12⟩ := h
        have q1 := ok _ _ h4
        refine ⟨f, c, cl, vs, pm, ctv, e, Nat.lt_min.mpr ⟨h1, q1⟩, h2, h3, h4, h5, h6, h7, h8, fun i y w a b => ?_, min m' m2, Nat.le_min.mpr ⟨Nat.le_trans (Nat.min_le_left _ _) h10, Nat.min_le_right _ _⟩, fun y a z => ?_, ihL l m' vs (fun d hd => ?_) h12⟩
        · obtain ⟨x, oc, u, k1, k2, k3, k4, k5⟩ := h9 i y w a b
          have q2 := ok _ _ k4
          exact ⟨x, oc, u, k1, Nat.lt_min.mpr ⟨k2, q2⟩, k3, k4, k5⟩
        · exact Nat.le_trans (Nat.min_le_left _ _) (h11 y a z)
        · have := List.sizeOf_lt_of_mem hd
          have e := D.fn.sizeOf_spec k l
          omega
      | _ => simp only [Clo] at h
  exact fun d m v h => key (sizeOf d + 1) d m v (Nat.lt_succ_self _) h
theorem cloL_of {m2 : Nat} (ok : ∀ a o, H a = some o → a < m2) : ∀ (ds : List D) (vs : List V), (∀ d ∈ ds, capD d = true) → ShrL T g H ds vs → CloL T g H m2 ds vs
  | [], vs, _, h => by
    simp only [ShrL] at h
    simp only [CloL]
    exact h
  | d :: ds, vs, hc, h => by
    simp only [ShrL] at h
    obtain ⟨v, ws, e, s, r⟩ := h
    simp only [CloL]
    refine ⟨v, ws, e, ?_, cloL_of ok ds ws (fun x hx => hc x (List.mem_cons_of_mem _ hx)) r⟩
    have hd := hc d List.mem_cons_self
    cases d with
    | int i =>
      simp only [Shr] at s
      simp only [Clo]
      exact s
    | fn k l =>
      simp only [Shr] at s
      obtain ⟨m, s⟩ := s
      exact (Clo.low ok _ _ _ s).mono (Nat.min_le_right _ _)
    | _ => simp only [capD] at hd; cases hd
theorem Clo.of2 {M : Nat} (el : T'.lm = T.lm) (hf : ∀ a o, a < M → H a = some (fzo o) → ¬ g.U a → H' a = some (fzo o) ∧ ¬ g'.U a) (hc : ∀ a q, H a = some (LamX.CodeO a q) → ¬ g.U a → H' a = some (LamX.CodeO a q) ∧ ¬ g'.U a) : ∀ (d : D) (m : Nat) (v : V), m ≤ M → Clo T g H m d v → Clo T' g' H' m d v := by
  have key : ∀ (n : Nat) (d : D) (m : Nat) (v : V), m ≤ M → sizeOf d < n → Clo T g H m d v → Clo T' g' H' m d v := by
    intro n
    induction n with
    | zero => intro d m v _ h; omega
    | succ n ih =>
      have ihL : ∀ (l : List D) (m : Nat) (vs : List V), m ≤ M → (∀ d ∈ l, sizeOf d < n) → CloL T g H m l vs → CloL T' g' H' m l vs := by
        intro l
        induction l with
        | nil => intro m vs _ _ h; simpa only [CloL] using h
        | cons d l ihl =>
          intro m vs hm hs h
          simp only [CloL] at h ⊢
          obtain ⟨v, ws, e, h1, h2⟩ := h
          exact ⟨v, ws, e, ih d m v hm (hs d List.mem_cons_self) h1, ihl m ws hm (fun x hx => hs x (List.mem_cons_of_mem _ hx)) h2⟩
      intro d m v hm hn h
      cases d with
      | int i => simpa only [Clo] using h
      | fn k l =>
        simp only [Clo, el] at h ⊢
        obtain ⟨f, c, cl, vs, pm, ctv, e, h1, h2, h3, h4, h5, h6, h7, h8, h9, m', h10, h11, h12⟩ := h
        obtain ⟨f1, f2⟩ := hf _ _ (Nat.lt_of_lt_of_le h1 hm) h4 h2
        obtain ⟨c1, c2⟩ := hc _ _ h5 h3
        refine ⟨f, c, cl, vs, pm, ctv, e, h1, f2, c2, f1, c1, h6, h7, h8, fun i y w a b => ?_, m', h10, h11, ihL l m' vs (by omega) (fun d hd => ?_) h12⟩
        · obtain ⟨x, oc, u, k1, k2, k3, k4, k5⟩ := h9 i y w a b
          obtain ⟨x1, x2⟩ := hf _ _ (Nat.lt_of_lt_of_le k2 hm) k4 k3
          exact ⟨x, oc, u, k1, k2, x2, x1, k5⟩
        · have := List.sizeOf_lt_of_mem hd
          have e := D.fn.sizeOf_spec k l
          omega
      | _ => simp only [Clo] at h
  exact fun d m v hm h => key (sizeOf d + 1) d m v hm (Nat.lt_succ_self _) h
mutual
theorem tup_shr (hR : ∀ a vs, LkT T.K g.U H a vs → LkT T'.K g'.U H' a vs) : ∀ (d : D) (v : V), tupD d = true → Shr T g H d v → Shr T' g' H' d v
  | .int _, _, _, h => by simpa only [Shr] using h
  | .tup l, v, e, h => by
    simp only [tupD] at e
    simp only [Shr] at h ⊢
    obtain ⟨a, vs, e2, q, r⟩ := h
    exact ⟨a, vs, e2, hR a vs q, tup_shrL hR l vs e r⟩
  | .non, _, e, _ => by simp only [tupD] at e; cases e
  | .bl _, _, e, _ => by simp only [tupD] at e; cases e
  | .str _, _, e, _ => by simp only [tupD] at e; cases e
  | .lst _, _, e, _ => by simp only [tupD] at e; cases e
  | .scr _, _, e, _ => by simp only [tupD] at e; cases e
  | .dct _, _, e, _ => by simp only [tupD] at e; cases e
  | .obj _, _, e, _ => by simp only [tupD] at e; cases e
  | .fn _ _, _, e, _ => by simp only [tupD] at e; cases e
  | .gone _, _, e, _ => by simp only [tupD] at e; cases e
theorem tup_shrL (hR : ∀ a vs, LkT T.K g.U H a vs → LkT T'.K g'.U H' a vs) : ∀ (ds : List D) (vs : List V), tupL ds = true → ShrL T g H ds vs → ShrL T' g' H' ds vs
  | [], _, _, h => by simpa only [ShrL] using h
  | d :: ds, vs, e, h => by
    simp only [tupL, Bool.and_eq_true] at e
    simp only [ShrL] at h ⊢
    obtain ⟨v, ws, e2, q, r⟩ := h
    exact ⟨v, ws, e2, tup_shr hR d v e.1 q, tup_shrL hR ds ws e.2 r⟩
end
end
end Q

set_option maxHeartbeats 2000000
namespace Q
open PySem PySem.Spec PyProof.Rows L2 LamX NdefX
section
variable {T : Th} {g : G} {H : Hp}
theorem clo_shr {m : Nat} {d : D} {v : V} (h : Clo T g H m d v) : Shr T g H d v := by
  cases d with
  | int i => simp only [Clo] at h; simp only [Shr]; exact h
  | fn k l => simp only [Shr]; exact ⟨m, h⟩
  | _ => simp only [Clo] at h
theorem CloL.stay {g' : G} {H' : Hp} (st : Stay g H g' H') : ∀ {ds : List D} {m : Nat} {vs : List V}, CloL T g H m ds vs → CloL T g' H' m ds vs
  | [], _, _, h => by simpa only [CloL] using h
  | d :: ds, _, vs, h => by
    simp only [CloL] at h ⊢
    obtain ⟨v, ws, e, q, r⟩ := h
    exact ⟨v, ws, e, q.stay st, CloL.stay st r⟩
theorem CloL.length : ∀ {ds : List D} {m : Nat} {vs : List V}, CloL T g H m ds vs → ds.length = vs.length
  | [], _, _, h => by simp only [CloL] at h; subst h; rfl
  | d :: ds, _, vs, h => by
    simp only [CloL] at h
    obtain ⟨v, ws, rfl, _, r⟩ := h
    simp only [List.length_cons, CloL.length r]
theorem CloL.get : ∀ {ds : List D} {m : Nat} {vs : List V} {i : Nat} {d : D}, CloL T g H m ds vs → ds[i]? = some d → ∃ v, vs[i]? = some v ∧ Clo T g H m d v
  | [], _, _, _, _, _, e => by simp at e
  | d :: ds, _, vs, i, d', h, e => by
    simp only [CloL] at h
    obtain ⟨v, ws, rfl, q, r⟩ := h
    cases i with
    | zero => simp at e; subst e; exact ⟨v, rfl, q⟩
    | succ i =>
      obtain ⟨w, h1, h2⟩ := CloL.get (i := i) r (by simpa using e)
      exact ⟨w, by simpa using h1, h2⟩
end
abbrev E0f : XK := fun _ _ _ => False
theorem cx_no {P : Program} {w : World} {outer : List PySem.Env} {H : Hp} {s s' : Shared} {e : Value} (h : L2.CX P w outer H s E0f e s') : False := by
  obtain ⟨_, _, _, _, _, _, _, _, _, _, _, _, z⟩ := h
  exact z.elim
def LOk (P : Program) (w : World) (K : PySem.W.Frag) (mg : Str → Option Value) (base : Heap) (T : Th) (Λ : D → D → Option Bool) (k : Nat) : Prop :=
  ∀ (A : Around) (outer : List PySem.Env) (s : Shared) (H : Hp) (g : G) (d st : D) (b : Bool) (f : Addr) (vst : V) (u : Value) (Q : VK) (E : XK), Room k A → Env0 P w K mg base A outer s H →
    (∀ a, g.U a → ∃ o, H a = some o) → (∀ a, g.U a → ∀ u, ¬ Rd H a (.tup u)) → Shr T.bare g H d (.ref f) → Shr T.bare g H st vst → tupD st = true → RelV vst u → Λ d st = some b →
    (∀ H', Exx H H' → Q (.bl b) H') → codeAny (model P w) A (.call (.ref f) ⟨[u], []⟩) (CR (L2.CX P w) outer P w H s Q E) s
abbrev lamNF (L : Lam) (cl : List (Str × Addr)) (c : Addr) : NF := ⟨"<lambda>", L.qual, L.params, [], L.scope, cl, c⟩
abbrev lcx (P : Program) (w : World) (K : PySem.W.Frag) (mg : Str → Option Value) (base : Heap) (L : Lam) (p : Str) (cl : List (Str × Addr)) (c f : Addr) (A : Around) (outer : List PySem.Env) (s : Shared) (H : Hp) : Cx :=
  ncx (L2.CX P w) P w K mg base (p :: L.fr) (lamNF L cl c) f A outer s H E0f
abbrev W0 : WX := fun _ _ _ _ => False
structure LamB (P : Program) (w : World) (K : PySem.W.Frag) (mg : Str → Option Value) (base : Heap) (T : Th) (L : Lam) (k : Nat) (p : Str) (F : FE) : Prop where
  S : NScope (p :: L.fr) [p] L.fr L.scope
  bind : ∀ (cl : List (Str × Addr)) (pm cdv ctv u : Value), bindArgs (PySem.W.kla_fn "<lambda>" L.qual L.params L.body L.scope cl pm cdv ctv) ⟨[u], []⟩ = pure [(p, u)]
  body : ∀ (A : Around) (outer : List PySem.Env) (s : Shared) (H : Hp) (f c : Addr) (cl : List (Str × Addr)), Room k (A.deeper (envF (lamNF L cl c) f s.heap.objs.size)) →
    XE (lcx P w K mg base L p cl c f A outer s H) T.bare W0 (ΓS (L.fr.length + 1)) L.body F
def lamK (m : Nat) (LB : Nat → FE) : D → D → Option Bool := fun d st => match d with
  | .fn kk l => if kk < m then (match LB kk ((st :: l).map some) [] with
    | .ok (.bl b) [] => some b
    | _ => none) else none
  | _ => none
section
variable {P : Program} {w : World} {K : PySem.W.Frag} {mg : Str → Option Value} {base : Heap} {T : Th}
theorem lok_no {k : Nat} : LOk P w K mg base T (fun _ _ => none) k := fun A outer s H g d st b f vst u Q E hr e0 dom nt hd hst htu ru hΛ => by cases hΛ
theorem LOk.mono {Λ : D → D → Option Bool} {j k : Nat} (h : LOk P w K mg base T Λ j) (hk : j ≤ k) : LOk P w K mg base T Λ k := fun A outer s H g d st b f vst u Q E hr => h A outer s H g d st b f vst u Q E (hr.mono hk)
theorem lok_succ {m k : Nat} {LB : Nat → FE} {p : Str} (hB : ∀ kk, kk < m → LamB P w K mg base T (T.lm kk) k p (LB kk)) : LOk P w K mg base T (lamK m LB) (k + 1) := by
  intro A outer s H g d st b f vst u Q E hr e0 dom nt hd hst htu ru hΛ hQ
  cases d with
  | fn kk l =>
    have hkk : kk < m := by
      unfold lamK at hΛ
      by_cases h : kk < m
      · exact h
      · simp [h] at hΛ
    have he : LB kk ((st :: l).map some) [] = .ok (.bl b) [] := by
      unfold lamK at hΛ
      simp only [hkk, if_true] at hΛ
      split at hΛ
      · rename_i e
        cases hΛ
        exact e
      · cases hΛ
    obtain ⟨S, hb, body⟩ := hB kk hkk
    simp only [Shr, Clo] at hd
    obtain ⟨m0, f', c, cl, vs, pm, ctv, e, h1, h2, h3, h4, h5, h6, h7, h8, h9, m', h10, h11, h12⟩ := hd
    cases e
    have hcell : ∀ y a, cl.lookup y = some a → ∃ (oc : Obj) (u : Value), ¬ g.U a ∧ H a = some (fzo oc) ∧ oc.data = .cell (some u) := fun y a e => by
      obtain ⟨i, hi⟩ := List.mem_iff_getElem?.mp (h7 y a e)
      have hl : i < vs.length := by rw [h8]; exact (List.getElem?_eq_some_iff.mp hi).1
      obtain ⟨a', oc, u, k1, k2, k3, k4, k5, k6⟩ := h9 i y vs[i] hi (List.getElem?_eq_getElem hl)
      rw [e] at k1
      cases k1
      exact ⟨oc, u, k3, k4, k5⟩
    have hC : ∀ a, (∃ y, cl.lookup y = some a) → ∃ o, H a = some (fzo o) := fun a ⟨y, e⟩ => by
      obtain ⟨oc, u, _, k, _⟩ := hcell y a e
      exact ⟨oc, k⟩
    have nn : ∀ b, H b = none → mix (fun a => ∃ y, cl.lookup y = some a) (fun _ => none) H b = none := fun b n => by
      rw [mix_f fun z => by
        obtain ⟨o, e⟩ := hC b z
        rw [n] at e; cases e]
      exact n
    have e1 : Env0 P w K mg base A outer s (mix (fun a => ∃ y, cl.lookup y = some a) (fun _ => none) H) := ⟨e0.frames, e0.mod, fun b o e => ⟨(e0.bs b o e).1, nn b (e0.bs b o e).2⟩, e0.bsz, e0.funs, fun b hb => nn b (e0.frf b hb), hok_less e0.hok hC, e0.bare⟩
    have lim : s.heap.NoLimit := e0.mod.nolimit.keeps fun b o e => (e0.bs b o e).1
    have of1 := (e0.hok _ _ h4).1
    refine PySem.W.kla_callFunE hr.depth of1 rfl S.co S.gen rfl (codeO_at e0.hok h5) ?_
    rw [hb]
    refine wpAny_pure (wpAny_newFunctionEnv S.nocell (fun y hy => ?_) (fun h₁ hns hsb => ⟨lim.fresh _ hsb, ?_⟩) S.kind)
    · rw [List.mem_singleton.mp hy]
      exact S.par p List.mem_cons_self
    show codeAny _ _ (.expr (T.lm kk).body (envF (lamNF (T.lm kk) cl c) f s.heap.objs.size)) _ _
    have kp : ∀ b o, s.heap.get? b = some o → h₁.get? b = some o := fun b o e => hsb.extBut b o (Nat.ne_of_lt (Heap.lt_size e)) (Heap.get?_push_of_some _ e)
    have CA : CellsAt cl (T.lm kk).fr (vs.map some) s.heap (mix (fun a => ∃ y, cl.lookup y = some a) (fun _ => none) H) := by
      refine ⟨by rw [List.length_map]; exact h8, fun y a e => ?_, h6, fun i y e => ?_⟩
      · obtain ⟨oc, u, _, k, kd⟩ := hcell y a e
        exact ⟨mix_t ⟨y, e⟩, some u, oc, (e0.hok _ _ k).1, kd⟩
      · have hl : i < vs.length := by rw [h8]; exact (List.getElem?_eq_some_iff.mp e).1
        obtain ⟨a', oc, u, k1, k2, k3, k4, k5, k6⟩ := h9 i y vs[i] e (List.getElem?_eq_getElem hl)
        refine ⟨a', k1, fun v ev => ?_⟩
        rw [List.getElem?_map, List.getElem?_eq_getElem hl] at ev
        cases ev
        exact ⟨u, k6, oc, (e0.hok _ _ k4).1, k5⟩
    have J : Inv (lcx P w K mg base (T.lm kk) p cl c f A outer s (mix (fun a => ∃ y, cl.lookup y = some a) (fun _ => none) H)) [] (startF (p :: (T.lm kk).fr) [vst] (vs.map some)) (mix (fun a => ∃ y, cl.lookup y = some a) (fun _ => none) H) { s with heap := h₁, toks := s.toks + ([p].zip [u]).length } :=
      inv_startN S hr.hd e1 rfl (.cons ru .nil) CA hns kp
    have dom2 : ∀ a, g.U a → mix (fun a => ∃ y, cl.lookup y = some a) (fun _ => none) H a = H a := fun a u => mix_f fun ⟨y, e⟩ => by
      obtain ⟨oc, u', k, _⟩ := hcell y a e
      exact k u
    have ht : tX T.bare W0 (ΓS ((T.lm kk).fr.length + 1)) (LB kk) (startF (p :: (T.lm kk).fr) [vst] (vs.map some)) (mix (fun a => ∃ y, cl.lookup y = some a) (fun _ => none) H) (fun v H' => v = .bl b ∧ Exx (mix (fun a => ∃ y, cl.lookup y = some a) (fun _ => none) H) H') := by
      have st1 : Shr T.bare g.zero (mix (fun a => ∃ y, cl.lookup y = some a) (fun _ => none) H) st vst := tup_shr (fun a xs q => q.imp (fun z => ⟨?_, fun u => z.2 (G.zero_U.mp u)⟩) id) st vst htu hst
      have lL : l.length = vs.length := h12.length
      refine ⟨g.zero, (st :: l).map some, [], ⟨?_, fun i d e => ?_, fun _ _ _ h => h.elim, fun _ _ h => h.elim, fun _ _ h => h.elim, fun _ _ h => h, fun a h => ?_, ⟨rfl, fun _ _ h => absurd h (Nat.not_lt_zero _), fun _ h => absurd h (Nat.not_lt_zero _), fun _ _ _ h => h.elim, fun _ _ _ _ _ h => h.elim, fun n o h => by simp at h, fun n o h => by simp at h, fun p hp => absurd (show p ∈ ([] : List (Addr × Str)) from hp) (by simp)⟩, fun a h u r => ?_⟩, ?_⟩
      · unfold startF
        simp [lL, h8]
      · have hΓ : (ΓS ((T.lm kk).fr.length + 1)).getD i .s = .s := by
          unfold ΓS
          simp only [List.getD]
          rw [List.getElem?_replicate]
          split <;> rfl
        rw [hΓ]
        show ∃ v, _ ∧ Shr T.bare g.zero _ d v
        cases i with
        | zero =>
          simp at e
          subst e
          exact ⟨vst, by unfold startF; rfl, st1⟩
        | succ i =>
          rw [List.map_cons, List.getElem?_cons_succ, List.getElem?_map] at e
          cases q : l[i]? with
          | none => rw [q] at e; cases e
          | some d' =>
            rw [q] at e
            cases e
            obtain ⟨v, k1, k2⟩ := h12.get q
            have hi : i < vs.length := (List.getElem?_eq_some_iff.mp k1).1
            refine ⟨v, ?_, clo_shr (Clo.of2 (T := T.bare) (T' := T.bare) (M := m') rfl (fun a o ha e hu => ⟨?_, fun z => hu (G.zero_U.mp z)⟩) (fun a q e hu => ⟨?_, fun z => hu (G.zero_U.mp z)⟩) _ m' v (Nat.le_refl _) k2)⟩
            · unfold startF
              rw [List.map_cons, List.map_nil, List.singleton_append, List.getElem?_cons_succ, List.getElem?_append_left (by simpa using hi), List.getElem?_map, k1] <;> rfl
            · have nc : ¬ ∃ y, cl.lookup y = some a := fun ⟨y, z⟩ => absurd ha (Nat.not_lt.mpr (h11 y a z))
              rw [mix_f nc]
              exact e
            · have nc : ¬ ∃ y, cl.lookup y = some a := fun z => by
                obtain ⟨o, e'⟩ := hC a z
                rw [e] at e'
                unfold CodeO at e'
                cases e'
              rw [mix_f nc]
              exact e
      · rw [dom2 a (G.zero_U.mp h)]
        exact dom a (G.zero_U.mp h)
      · refine nt a (G.zero_U.mp h) u ?_
        unfold Rd at r ⊢
        rw [dom2 a (G.zero_U.mp h)] at r
        exact r
      · rw [he]
        exact fun v g' H' R' f' s' => ⟨shr_bl.mp s', fun a o e => f'.keep a o e fun z => z⟩
      all_goals
        rcases z.1 with z | ⟨o, z⟩
        · refine .inl ?_
          rw [mix_f fun c => ?_]
          · exact z
          · obtain ⟨o', e'⟩ := hC a c
            rw [z] at e'; cases e'
        · refine .inr ⟨o, ?_⟩
          rw [mix_f fun c => ?_]
          · exact z
          · obtain ⟨o', e'⟩ := hC a c
            rw [z] at e'; cases e'
    refine PySem.W.kla_codeExpr (wpAny_mono ((body A outer s _ f c cl (hr.deeper _)).run [] _ _ _ _ J ht) (fun v s' hq => ?_) fun e s' hq => ?_)
    · obtain ⟨w', H', J', rv, rfl, ex⟩ := hq
      have un : Un (frs outer) [] (mix (fun a => ∃ y, cl.lookup y = some a) (fun _ => none) H) H' s.heap s'.heap := J'.base
      refine ⟨.bl b, mix (fun a => ∃ y, cl.lookup y = some a) H H', J'.os, J'.bare, un_less hC un, hok_mix J'.hok (fun a hc => ?_) (fun a o hc e => ?_), rv, hQ _ fun a o e => ?_⟩
      · obtain ⟨o, e⟩ := hC a hc
        exact un.free a o (e0.hok _ _ e).1 (mix_t hc) (by simp)
      · obtain ⟨o', e'⟩ := hC a hc
        rw [e] at e'
        cases e'
        refine ⟨o', rfl, un.keep a o' (e0.hok _ _ e).1 (mix_t hc) (fun z => ?_) (by simp)⟩
        rw [e0.frf a z] at e
        cases e
      · by_cases hc : ∃ y, cl.lookup y = some a
        · rw [mix_t hc]; exact e
        · rw [mix_f hc]
          exact ex a o (by rw [mix_f hc]; exact e)
    · exact wpAny_mono hq (fun _ s'' z => (cx_no z).elim) fun _ s'' z => (cx_no z).elim
  | _ =>
    unfold lamK at hΛ
    cases hΛ
end
end Q

set_option maxHeartbeats 2000000
namespace Q
open PySem PySem.Spec PyProof.Rows L2 LamX NdefX
section
variable {X : Cx} {T : Th} {W : WX} {Γ : List Md} {Λ : D → D → Option Bool}
def FnKn (H : Hp) (f : Addr) : Prop := ∃ (q : Str) (pr : Arguments) (b : Expr) (sc : Scope) (cl : List (Str × Addr)) (pm ctv : Value) (c : Addr), H f = some (fzo (PySem.W.kla_obj "<lambda>" q pr b sc cl pm c ctv))
theorem fnKn_at {pins : List (Addr × Obj)} {σ : L2.St} {H : Hp} {s : Shared} {f : Addr} (I : Inv X pins σ H s) (h : FnKn H f) : PySem.W.FnAt f s.heap := by
  obtain ⟨q, pr, b, sc, cl, pm, ctv, c, e⟩ := h
  exact ⟨_, _, _, _, (I.hok _ _ e).1⟩
theorem fn_kn {g : G} {H : Hp} {k : Nat} {l : List D} {v : V} (h : Shr T g H (.fn k l) v) : ∃ f, v = .ref f ∧ FnKn H f := by
  simp only [Shr, Clo] at h
  obtain ⟨m, f, c, cl, vs, pm, ctv, e, h1, h2, h3, h4, _⟩ := h
  exact ⟨f, e, _, _, _, _, _, _, _, _, h4⟩
def tCallV (T : Th) (Λ : D → D → Option Bool) (i : Nat) (t : TE) : TE := fun σ H Q => ∃ f, σ[i]? = some (some (.ref f)) ∧ FnKn H f ∧
  t σ H fun vst H2 => FnKn H2 f ∧ ∃ (g : G) (d st : D) (b : Bool), (∀ a, g.U a → ∃ o, H2 a = some o) ∧ (∀ a, g.U a → ∀ u, ¬ Rd H2 a (.tup u)) ∧ Shr T.bare g H2 d (.ref f) ∧ Shr T.bare g H2 st vst ∧ tupD st = true ∧ Λ d st = some b ∧ ∀ H', Exx H2 H' → Q (.bl b) H'
theorem pe_callV {j k i : Nat} {x : Str} {e : Expr} {t : TE} {p pos : Pos} (LO : LOk X.prog X.w X.K X.mg X.base T Λ k) (hr : Room j X.A) (hk : k ≤ j) (hN : X.N[i]? = some x) (hv : Vis X.env.scope x) (ha : PE X e t)
    (hd : (x == ("__debug__" : Str)) = false := by decide) (hcd : (x == ("__classdict__" : Str)) = false := by decide)
    (he : starEach (e :: []) X.env = (false, eval e X.env) :: starEach [] X.env := by rfl) (hpl : (backTo pos (starEach [] X.env)).any (·.1) = false := by rfl) :
    PE X (.Call (.Name x p) [e] [] pos) (tCallV T Λ i t) := by
  refine ⟨fun pins s σ H Q I h => ?_⟩
  obtain ⟨f, hs, hf, ht⟩ := h
  refine wpAny_Call_Name_kw (thn ((pe_var (pos := p) hN hv hd hcd).run pins s σ H (fun v H1 => v = .ref f ∧ H1 = H) I ⟨.ref f, hs, rfl, rfl⟩) fun u s1 ⟨v, H1, I1, r1, q1⟩ => ?_)
  obtain ⟨ev, eH⟩ := q1
  subst ev
  rw [eH] at I1
  obtain rfl : u = Value.ref f := r1
  refine PySem.W.callWith_F (first := []) (fnKn_at I1 hf) (thn ((pa_cons ha pa_nil he).run pos pins s1 σ H (fun vs H2 => ∃ vst, vs = [vst] ∧ (FnKn H2 f ∧ ∃ (g : G) (d st : D) (b : Bool), (∀ a, g.U a → ∃ o, H2 a = some o) ∧ (∀ a, g.U a → ∀ u, ¬ Rd H2 a (.tup u)) ∧ Shr T.bare g H2 d (.ref f) ∧ Shr T.bare g H2 st vst ∧ tupD st = true ∧ Λ d st = some b ∧ ∀ H', Exx H2 H' → Q (.bl b) H')) I1 ?_) fun us s2 ⟨vs, H2, I2, r, q⟩ => ?_) he hpl
  · show t σ H _
    have e2 : (fun vst H2 => FnKn H2 f ∧ ∃ (g : G) (d st : D) (b : Bool), (∀ a, g.U a → ∃ o, H2 a = some o) ∧ (∀ a, g.U a → ∀ u, ¬ Rd H2 a (.tup u)) ∧ Shr T.bare g H2 d (.ref f) ∧ Shr T.bare g H2 st vst ∧ tupD st = true ∧ Λ d st = some b ∧ ∀ H', Exx H2 H' → Q (.bl b) H') =
        (fun (x : V) (H1 : Hp) => tNil σ H1 fun xs H2 => ∃ vst, x :: xs = [vst] ∧ (FnKn H2 f ∧ ∃ (g : G) (d st : D) (b : Bool), (∀ a, g.U a → ∃ o, H2 a = some o) ∧ (∀ a, g.U a → ∀ u, ¬ Rd H2 a (.tup u)) ∧ Shr T.bare g H2 d (.ref f) ∧ Shr T.bare g H2 st vst ∧ tupD st = true ∧ Λ d st = some b ∧ ∀ H', Exx H2 H' → Q (.bl b) H')) := by
      funext x H1
      unfold tNil
      simp only [eq_iff_iff]
      constructor
      · exact fun h => ⟨x, rfl, h⟩
      · rintro ⟨y, ey, h⟩
        cases ey
        exact h
    rw [← e2]
    exact ht
  · obtain ⟨vst, rfl, hf2, g, d, st, b, dom, nt, hd2, hst, htu, hΛ, hQ⟩ := q
    refine ⟨fnKn_at I2 hf2, ?_⟩
    have hu : ∃ u, us = [u] ∧ RelV vst u := by
      cases r with
      | cons ru rn => cases rn; exact ⟨_, rfl, ru⟩
    obtain ⟨u, rfl, ru⟩ := hu
    show wpAny _ _ (call (.ref f) [u]) _ _ _
    refine wpAny_call (codeAny_mono (LO X.A X.stack s2 H2 g d st b f vst u Q E0f (hr.mono hk) I2.env0 dom nt hd2 hst htu ru hΛ hQ) fun r s' hq => ?_)
    cases r with
    | error e => exact (cx_no hq).elim
    | ok fl =>
      cases fl with
      | ret u => exact I2.after hq
      | next => exact False.elim hq
      | brk => exact False.elim hq
      | cont => exact False.elim hq
def ansV (Λ : D → D → Option Bool) (d : D) (st : D) (S : Store) : RE := if tupD st = true then (match Λ d st with
  | some b => .ok (.bl b) S
  | none => .no) else .no
def eCallV (Λ : D → D → Option Bool) (i : Nat) (A : FE) : FE := fun ρ S => match ρ[i]? with
  | some (some (.fn k l)) => (A ρ S).bind (ansV Λ (.fn k l))
  | _ => .no
theorem xe_callV {j k i : Nat} {x : Str} {e : Expr} {A : FE} {p pos : Pos} (LO : LOk X.prog X.w X.K X.mg X.base T Λ k) (hr : Room j X.A) (hk : k ≤ j) (hN : X.N[i]? = some x) (hv : Vis X.env.scope x) (hm : Γ.getD i .s = .s) (ha : XE X T W Γ e A)
    (hd : (x == ("__debug__" : Str)) = false := by decide) (hcd : (x == ("__classdict__" : Str)) = false := by decide)
    (he : starEach (e :: []) X.env = (false, eval e X.env) :: starEach [] X.env := by rfl) (hpl : (backTo pos (starEach [] X.env)).any (·.1) = false := by rfl) :
    XE X T W Γ (.Call (.Name x p) [e] [] pos) (eCallV Λ i A) := pe_imp (pe_callV LO hr hk hN hv ha hd hcd he hpl) fun σ H Q ⟨g, ρ, S, R, hg⟩ => by
  unfold eCallV at hg
  split at hg
  · rename_i kk l eρ
    obtain ⟨v, h1, h2⟩ := R.slot i _ eρ
    rw [hm] at h2
    have h2 : Shr T g H (.fn kk l) v := h2
    obtain ⟨f, rfl, hf⟩ := fn_kn h2
    refine ⟨f, h1, hf, g, ρ, S, R, good_bind hg fun st S1 vst g' H' _ R' f' s' hk => ?_⟩
    obtain ⟨v', h1', h2'⟩ := R'.slot i _ eρ
    rw [hm] at h2'
    have h2' : Shr T g' H' (.fn kk l) v' := h2'
    rw [h1] at h1'
    cases h1'
    obtain ⟨f2, e2, hf2⟩ := fn_kn h2'
    cases e2
    unfold ansV at hk
    split at hk
    · rename_i htu
      cases eΛ : Λ (.fn kk l) st with
      | none => rw [eΛ] at hk; exact hk.elim
      | some b =>
        rw [eΛ] at hk
        exact ⟨hf2, g', .fn kk l, st, b, R'.dom, R'.nt, Shr.th (T := T) (T' := T.bare) rfl rfl rfl rfl _ _ h2', Shr.th (T := T) (T' := T.bare) rfl rfl rfl rfl _ _ s', htu, eΛ, fun H2 e => hk (.bl b) g' H2 (R'.ex e) (.ex e) (shr_bl.mpr rfl)⟩
    · exact hk.elim
  · exact hg.elim
end
theorem Rel.tabs {T : Th} {g : G} {Γ : List Md} {ρ : Env} {S : Store} {σ : L2.St} {H H2 : Hp} (R : Rel T g Γ ρ S σ H) (k : ∀ a o, H a = some o → (∀ p ∈ T.tb, a ≠ p.1) → H2 a = some o) (ht : TabsU T.tb g.U H2) : Rel T g Γ ρ S σ H2 ∧ FrS g H g H2 := by
  have tB : ∀ p ∈ T.tb, g.B p.1 := fun p hp => (R.st.tb p hp).1
  have kB : ∀ a o, H a = some o → ¬ g.B a → H2 a = some o := fun a o e hb => k a o e fun p hp z => hb (by rw [z]; exact tB p hp)
  have st : Stay g H g H2 := ⟨fun a o e hu => kB a o e fun z => hu (.inr (.inr z)), fun _ h => .inl h, Nat.le_refl _, fun _ _ => rfl, rfl⟩
  have stb : Stay g.bare H g.bare H2 := ⟨fun a o e hu => kB a o e fun z => hu (.inr (.inr z)), fun _ h => .inl h, Nat.le_refl _, fun _ _ => rfl, rfl⟩
  have hT : ∀ p ∈ T.tb, ∃ ps, H p.1 = some (.tbl ps) := fun p hp => by
    obtain ⟨_, _, ps, e, _⟩ := R.st.tb p hp
    exact ⟨ps, e⟩
  have dm : ∀ a, g.U a → ∃ o, H2 a = some o := fun a u => by
    by_cases h : ∃ p ∈ T.tb, a = p.1
    · obtain ⟨p, hp, rfl⟩ := h
      obtain ⟨ps, e, _⟩ := ht p hp
      exact ⟨_, e⟩
    · obtain ⟨o, e⟩ := R.dom a u
      exact ⟨o, k a o e fun p hp z => h ⟨p, hp, z⟩⟩
  refine ⟨⟨R.len, fun i d e => ?_, R.dF, R.dFO, R.dFB, R.dOB, dm, ⟨R.st.N, R.st.inj, R.st.mB, R.st.bB, R.st.bd, R.st.nd, fun n o e => ?_, fun p hp => ?_⟩, fun a u xs r => ?_⟩, ⟨fun a o e hb => ?_, fun _ h => .inl h, rfl, rfl, Nat.le_refl _, fun _ _ => rfl, fun a o e => ?_⟩⟩
  · obtain ⟨v, h1, h2⟩ := R.slot i d e
    refine ⟨v, h1, ?_⟩
    cases hm : Γ.getD i .s <;> rw [hm] at h2 <;> simp only [RepM] at h2 ⊢
    · exact h2.stay st
    · exact Own.keepF st _ _ _ _ (fun a o z q => kB a o q (R.dFB i a z)) h2
    · exact Own.keepF st _ _ _ _ (fun a o z q => kB a o q (R.dOB a z)) h2
    · exact ⟨h2.1, Own.keepF st _ _ _ _ (fun a o z q => kB a o q (R.dFB i a z)) h2.2⟩
    · exact h2
    · exact h2.stay stb
    · exact ⟨h2.1, st.keep _ _ h2.2.1 h2.2.2, st.off h2.2.1 h2.2.2⟩
  · obtain ⟨dx, fs, h1, h2, h3⟩ := R.st.ob n o e
    refine ⟨dx, fs, k _ _ h1 fun p hp z => ?_, h2, fun j d w a b => Own.keepF st _ _ _ _ (fun a o z q => k a o q fun p hp z2 => ?_) (h3 j d w a b)⟩
    · obtain ⟨ps, e2⟩ := hT p hp
      rw [z, e2] at h1
      cases h1
    · rw [z2] at z
      exact (R.st.tb p hp).2.1 _ _ z
  · obtain ⟨h1, h2, _⟩ := R.st.tb p hp
    obtain ⟨ps, e1, e2, e3⟩ := ht p hp
    exact ⟨h1, h2, ps, e1, e2, e3⟩
  · by_cases h : ∃ p ∈ T.tb, a = p.1
    · obtain ⟨p, hp, rfl⟩ := h
      obtain ⟨ps, e, _⟩ := ht p hp
      rcases r with r | ⟨o, r⟩ <;> rw [e] at r <;> cases r
    · obtain ⟨o, e⟩ := R.dom a u
      have e2 := k a o e fun p hp z => h ⟨p, hp, z⟩
      refine R.nt a u xs ?_
      rcases r with r | ⟨o', r⟩ <;> rw [e2] at r <;> cases r
      · exact .inl e
      · exact .inr ⟨_, e⟩
  · rcases hb with hb | hb
    · exact kB a o e fun z => hb (.inr (.inr z))
    · exact kB a o e (R.dOB a hb)
  · by_cases h : ∃ p ∈ T.tb, a = p.1
    · obtain ⟨p, hp, rfl⟩ := h
      obtain ⟨ps, e, _⟩ := ht p hp
      exact ⟨_, e⟩
    · exact ⟨o, k a o e fun p hp z => h ⟨p, hp, z⟩⟩
end Q

set_option maxHeartbeats 2000000
namespace Q
open PySem PySem.Spec PyProof.Rows L2 LamX NdefX
def mkLam (kk n : Nat) : FF := fun ds S => if ds.all capD = true then .ok (.fn kk ds) (outsOf (ΓS n) n (ds.map some)) S else .no
section
variable {P : Program} {w : World} {K : PySem.W.Frag} {mg : Str → Option Value} {base : Heap} {T : Th}
theorem fn_lam {x qual : Str} {st_ : Stmt} {f : Addr} {fd : FuncData} {N ps : List Str} {n kk k : Nat} {c Pt : Addr} {lp rp : Pos} (F : Fun K x qual st_ f fd) (Sc : FnScope N ps (defScope st_)) (hn : ps.length = n) (hcO : codeOf K f = some c) (TB : TabB base mg c Pt)
    (hmT : (Pt, (T.lm kk).qual) ∈ T.tb) (hu : ∀ p ∈ T.tb, p.1 = Pt → p.2 = (T.lm kk).qual) (hq : qual ++ ".<locals>." ++ "<lambda>" = (T.lm kk).qual)
    (hb : defBody st_ = [.Return (some (.Lambda (T.lm kk).params (T.lm kk).body (T.lm kk).scope lp)) rp])
    (hfr : (T.lm kk).fr = ps) (h1 : ∀ y ∈ (T.lm kk).scope.names, y.2 = .free → y.1 ∈ ps) (h2 : ∀ y ∈ ps, (y, NameKind.free) ∈ (T.lm kk).scope.names) (h3 : ∀ y ∈ ps, (defScope st_).names.lookup y = some .cell)
    (hd : ∀ env : PySem.Env, defaultsOf (T.lm kk).params env = ([], [])) : FnOk P w K mg base (L2.CX P w) (k + 1) f fd ps (spD T n (sgS n) (mkLam kk n)) := by
  obtain ⟨oc, od, kV, dc, pm, an, cdv, ct, osl, rfl, lk, hcd⟩ := F.ex
  have hcv : cdv = .ref c := by
    unfold codeOf at hcO
    rw [lk] at hcO
    cases cdv <;> cases hcO
    rfl
  subst hcv
  refine ⟨fun vs H Q E h => by rw [hn]; exact h.1, fun A outer s H args us vs Q E hr e0 hbd r hsp => ?_⟩
  obtain ⟨hvn, g, ds, S, R, hg⟩ := hsp
  have hl : vs.length = ps.length := by rw [hn]; exact hvn
  have KX : K.In s.heap := e0.mod.kin.keeps fun b o e => (e0.bs b o e).1
  have lim : s.heap.NoLimit := e0.mod.nolimit.keeps fun b o e => (e0.bs b o e).1
  have hkind : ∀ y ∈ ps.zip us, (defScope st_).names.lookup y.1 = some .local ∨ ((defScope st_).names.lookup y.1 = some .cell ∧ ((cellsFrom (s.heap.objs.size + 1) (defScope st_).names []).lookup y.1).isSome = true) := fun ⟨n, v⟩ hy => by
    rcases Sc.par n (List.of_mem_zip hy).1 with q | q
    · exact .inl q
    · exact .inr ⟨q, PySem.W.cellsFrom_some _ _ _ (.inl q)⟩
  refine codeAny_call_function hr.depth (KX _ _ lk) rfl Sc.co Sc.gen rfl (PySem.W.codeRec_of KX hcd) (hbd _ _ _ _ ?_)
  refine wpAny_newFunctionEnv_cells Sc.kind hkind fun env he s1 x1 => ?_
  subst he
  refine ⟨lim.keeps x1.toInCall.keep, codeAny_func ?_⟩
  have I : Inv (cxOf (L2.CX P w) P w K mg base N qual (defScope st_) f (.ref c) A outer s H E) [] (L2.start N vs) H s1 := inv_start Sc hr.hd e0 hl r x1
  have hcap : ds.all capD = true := by
    unfold mkLam at hg
    split at hg
    · assumption
    · exact hg.elim
  unfold mkLam at hg
  rw [if_pos hcap] at hg
  show wpAny _ _ (execs (defBody st_) _) _ _ _
  rw [hb]
  have hT : TabsU T.tb g.U H := fun p hp => (R.st.tb p hp).2.2
  have sz : s.heap.objs.size ≤ s1.heap.objs.size := I.sz
  have hfree : ∀ y ∈ (T.lm kk).scope.names, y.2 = .free → ∃ c', (cxOf (L2.CX P w) P w K mg base N qual (defScope st_) f (.ref c) A outer s H E).env.cells.lookup y.1 = some c' := fun y hy e => I.ok.has _ (.inl (h3 _ (h1 y hy e)))
  refine wpAny_execs_cons (wpAny_Return_some (lam_mk (T := T.tb) (U := g.U) I TB rfl hq hmT hu hT R.dom (hd _) hfree fun f' c' pm' ctv H1 s3 I3 kH T1 fs fn of1 hc nU => ?_))
  show CE outer P w H s Q (.ref f') s3
  have cm : ∀ {y a}, (cloFrom (cxOf (L2.CX P w) P w K mg base N qual (defScope st_) f (.ref c) A outer s H E).env.cells (T.lm kk).scope.names []).lookup y = some a → (cxOf (L2.CX P w) P w K mg base N qual (defScope st_) f (.ref c) A outer s H E).env.cells.lookup y = some a := fun {y a} e => clo_cm hfree e
  have cab : ∀ {y a}, (cxOf (L2.CX P w) P w K mg base N qual (defScope st_) f (.ref c) A outer s H E).env.cells.lookup y = some a → s.heap.objs.size ≤ a := fun {y a} e => I3.ok.cab y a rfl e
  have hC0 : ∀ a, (a = f' ∨ ∃ y, (cxOf (L2.CX P w) P w K mg base N qual (defScope st_) f (.ref c) A outer s H E).env.cells.lookup y = some a) → H1 a = none := fun a h => by
    rcases h with rfl | ⟨y, e⟩
    · exact fn
    · exact I3.freeC y a e
  have hCs : ∀ a, (a = f' ∨ ∃ y, (cxOf (L2.CX P w) P w K mg base N qual (defScope st_) f (.ref c) A outer s H E).env.cells.lookup y = some a) → s.heap.objs.size ≤ a := fun a h => by
    rcases h with rfl | ⟨y, e⟩
    · exact Nat.le_trans sz fs
    · exact cab e
  generalize hCd : (fun a => a = f' ∨ ∃ y, (cxOf (L2.CX P w) P w K mg base N qual (defScope st_) f (.ref c) A outer s H E).env.cells.lookup y = some a) = C at *
  have hC0 : ∀ a, C a → H1 a = none := fun a h => hC0 a (by rw [← hCd] at h; exact h)
  have hCs : ∀ a, C a → s.heap.objs.size ≤ a := fun a h => hCs a (by rw [← hCd] at h; exact h)
  have okm : HOk P w (mix C (fun a => (s3.heap.get? a).map fzo) H1) s3.heap := hok_mix I3.hok hC0 fun a o hc e => by
    obtain ⟨ob, e1, e2⟩ := Option.map_eq_some_iff.mp e
    exact ⟨ob, e2.symm, e1⟩
  have un1 : Un (frs outer) [] H H1 s.heap s3.heap := I3.base
  refine ⟨.ref f', mix C (fun a => (s3.heap.get? a).map fzo) H1, I3.os, I3.bare, un_mix hC0 hCs un1, okm, rfl, ?_⟩
  have keep : ∀ a o, H a = some o → (∀ p ∈ T.tb, a ≠ p.1) → mix C (fun a => (s3.heap.get? a).map fzo) H1 a = some o := fun a o e ht => by
    have nc : ¬ C a := fun z => Nat.lt_irrefl _ (Nat.lt_of_lt_of_le (e0.hok.lt e) (hCs a z))
    rw [mix_f nc]
    exact kH a o e (ht _ hmT)
  have tabs : TabsU T.tb g.U (mix C (fun a => (s3.heap.get? a).map fzo) H1) := fun p hp => by
    obtain ⟨ps', e1, e2, e3⟩ := T1 p hp
    refine ⟨ps', ?_, e2, fun pos cv e => ?_⟩
    · rw [mix_f fun z => by rw [hC0 _ z] at e1; cases e1]
      exact e1
    · obtain ⟨c0, k1, k2, k3⟩ := e3 pos cv e
      refine ⟨c0, k1, ?_, k3⟩
      rw [mix_f fun z => by rw [hC0 _ z] at k2; cases k2]
      exact k2
  obtain ⟨R2, f2⟩ := R.tabs keep tabs
  have pin : ∀ i k, (sgS n).ms.getD i .s = .p k → i < n → vs[i]? = some (g.P i) := fun i k hk _ => by
    rw [rep_s] at hk
    cases hk
  have hms : ∀ i k, (ΓS n).getD i .s ≠ .p k := fun i k hk => by
    rw [rep_s] at hk
    cases hk
  have Ro := R2.outs (Γ := (sgS n).ms) (ms := (sgS n).ms) (g0 := g) (fun i k hk => hk) hvn rfl pin
  refine hg (.ref f') (g.only (sgS n).ms) _ (fun _ => False) (plus_none Ro) f2.only (fun i a z => z.1) (fun _ z => z.elim) ?_
  show Own T _ _ 0 _ _ _
  refine own_shr (shr_plus (clo_shr (m := s3.heap.objs.size) ?_))
  have nUs : ∀ a, s.heap.objs.size ≤ a → ¬ (g.only (sgS n).ms).U a := fun a h u => by
    obtain ⟨o, e⟩ := R.dom a (G.only_U u)
    exact Nat.lt_irrefl _ (Nat.lt_of_lt_of_le (e0.hok.lt e) h)
  have Cf : C f' := by rw [← hCd]; exact .inl rfl
  have Cc : ∀ {y a}, (cxOf (L2.CX P w) P w K mg base N qual (defScope st_) f (.ref c) A outer s H E).env.cells.lookup y = some a → C a := fun {y a} e => by rw [← hCd]; exact .inr ⟨y, e⟩
  have hS : ShrL T g H ds vs := .of (by have := R.len; simpa using this) fun i d v e1 e2 => by
    obtain ⟨v', k1, k2⟩ := R.slot i d (by rw [List.getElem?_map, e1]; rfl)
    rw [rep_s] at k2
    rw [List.getElem?_map, e2] at k1
    cases k1
    exact k2
  have st : Stay g H (g.only (sgS n).ms) (mix C (fun a => (s3.heap.get? a).map fzo) H1) := ⟨fun a o e hu => keep a o e fun p hp z => hu (.inr (.inr (by rw [z]; exact (R.st.tb p hp).1))), fun a h => .inl (G.only_U h), Nat.le_refl _, fun _ _ => rfl, rfl⟩
  simp only [Clo]
  refine ⟨f', c', cloFrom (cxOf (L2.CX P w) P w K mg base N qual (defScope st_) f (.ref c) A outer s H E).env.cells (T.lm kk).scope.names [], vs, pm', ctv, rfl, Heap.lt_size of1, nUs _ (hCs _ Cf), fun u => nU (G.only_U u), ?_, ?_, fun x y a e1 e2 => I3.ok.inj x y a (cm e1) (cm e2), fun y a e => ?_, by rw [hfr]; exact hl, fun i y v hi hv => ?_, s.heap.objs.size, I3.sz, fun y a e => cab (cm e), ?_⟩
  · rw [mix_t Cf, of1] <;> rfl
  · rw [mix_f fun z => by rw [hC0 _ z] at hc; cases hc]
    exact hc
  · rcases cloFrom_mem (PySem.mem_of_lookup e) with hm | ⟨k1, _⟩
    · cases hm
    · rw [hfr]
      exact h1 _ k1 rfl
  · rw [hfr] at hi
    have hm : y ∈ ps := List.mem_of_getElem? hi
    have hip : i < ps.length := (List.getElem?_eq_some_iff.mp hi).1
    obtain ⟨m, hns, hloc⟩ := I3.loc
    have hNi : N[i]? = some y := by
      rw [← Sc.pre, List.getElem?_take_of_lt hip] at hi
      exact hi
    have hσi : (L2.start N vs)[i]? = some (some v) := by
      unfold L2.start
      rw [List.getElem?_append_left (by rw [List.length_map, hl]; exact hip), List.getElem?_map, hv] <;> rfl
    obtain ⟨u, ru, look⟩ := hloc i y v hNi hσi (.inr (.inl (h3 y hm)))
    rcases look with ⟨k, _⟩ | ⟨_, a, ea, oc, go, gd⟩
    · have k : (defScope st_).names.lookup y = some .local := k
      rw [h3 y hm] at k
      cases k
    · exact ⟨a, oc, u, clo_has hfree (h2 y hm) ea, Heap.lt_size go, nUs a (cab ea), by rw [mix_t (Cc ea), go] <;> rfl, gd, ru⟩
  · exact CloL.stay st (cloL_of (fun a o e => e0.hok.lt e) ds vs (List.all_eq_true.mp hcap) hS)
end
end Q

set_option maxHeartbeats 2000000
namespace Q
open PySem PySem.Spec PyProof.Rows L2 LamX
def spLawT (K : PySem.W.Frag) (ts : List Addr) : Sp := fun vs H Q _ => (∀ a ∈ ts, H a = some (.tbl #[])) ∧ ∃ (a : Addr) (ns : List Int), vs = [.ref a] ∧ SqL K H a (ns.map V.int) ∧ ns.length ≤ 63 ∧ (∀ z ∈ ns, Builtin.Int.intBits z ≤ 1048576) ∧ ∀ H', Q (.bl true) H'
def GT (tb : List (Addr × Str)) : G := ⟨0, fun _ => 0, fun _ => False, fun _ _ => False, fun a => ∃ p ∈ tb, p.1 = a, fun _ _ _ => False, fun _ => .non⟩
theorem GT_U {tb : List (Addr × Str)} {a : Addr} : (GT tb).U a ↔ ∃ p ∈ tb, p.1 = a := ⟨fun h => h.elim (fun h => h.elim) fun h => h.elim (fun ⟨_, h⟩ => h.elim) id, fun h => .inr (.inr h)⟩
theorem law_okT {P : Program} {w : World} {mg : Str → Option Value} {base : Heap} {T : Th} {k : Nat} {f : Addr} {fd : FuncData} {ps : List Str} {Φ : FF} (F : FnOk P w T.K mg base (L2.CX P w) k f fd ps (spD T 1 (sgS 1) Φ))
    (h : ∀ ns : List Int, ns.length ≤ 63 → (∀ z ∈ ns, Builtin.Int.intBits z ≤ 1048576) → ∃ outs S', Φ [.scr (ns.map .int)] [] = .ok (.bl true) outs S') : FnOk P w T.K mg base (L2.CX P w) k f fd ps (spLawT T.K (T.tb.map (·.1))) := by
  refine F.imp fun vs H Q E hq => ?_
  obtain ⟨hT, a, ns, rfl, hS, hl, hb, q⟩ := hq
  obtain ⟨outs, S', e⟩ := h ns hl hb
  have hT : ∀ p ∈ T.tb, H p.1 = some (.tbl #[]) := fun p hp => hT _ (List.mem_map.mpr ⟨p, hp, rfl⟩)
  have tU : ∀ a, (GT T.tb).U a → H a = some (.tbl #[]) := fun a u => by
    obtain ⟨p, hp, e⟩ := GT_U.mp u
    rw [← e]
    exact hT p hp
  refine ⟨rfl, GT T.tb, [.scr (ns.map .int)], [], ⟨rfl, fun i d e => ?_, fun _ _ _ h => h.elim, fun _ _ h => h.elim, fun _ _ h => h.elim, fun _ h => h.elim, fun a h => ⟨_, tU a h⟩, ⟨rfl, fun _ _ h => absurd h (Nat.not_lt_zero _), fun _ h => absurd h (Nat.not_lt_zero _), fun _ _ _ h => h.elim, fun _ _ _ _ _ h => h.elim, fun n o h => by simp at h, fun n o h => by simp at h, fun p hp => ⟨⟨p, hp, rfl⟩, fun _ _ z => z, #[], hT p hp, True.intro, fun pos cv z => ?_⟩⟩, fun a h u r => ?_⟩, ?_⟩
  · rw [rep_s]
    cases i with
    | succ i => simp at e
    | zero =>
      simp at e
      subst e
      refine ⟨_, rfl, shr_scr.mpr ⟨a, _, rfl, hS.imp (fun z => ⟨z, fun u => ?_⟩) id, shrL_ints ns⟩⟩
      have t := tU a u
      rcases z with z | ⟨o, z⟩ <;> rw [t] at z <;> cases z
  · have z : codeAmong pos [] = some cv := z
    simp [codeAmong] at z
  · have t := tU a h
    rcases r with r | ⟨o, r⟩ <;> rw [t] at r <;> cases r
  · rw [e]
    intro v g' H' Fo R f nf ho hw
    have hw : Own T (g'.plus Fo) H' 0 Fo (.bl true) v := hw
    simp only [Own] at hw
    rw [shr_bl.mp hw]
    exact q H'
theorem nodup_snd {l : List (Addr × Str)} (h : (l.map (·.1)).Nodup) {i : Nat} {P : Addr} {q : Str} (hi : l[i]? = some (P, q)) : ∀ p ∈ l, p.1 = P → p.2 = q := by
  intro p hp e
  obtain ⟨j, hj⟩ := List.mem_iff_getElem?.mp hp
  have e1 : (l.map (·.1))[i]? = some P := by rw [List.getElem?_map, hi]; rfl
  have e2 : (l.map (·.1))[j]? = some P := by rw [List.getElem?_map, hj, ← e]; rfl
  obtain ⟨h1, k1⟩ := List.getElem?_eq_some_iff.mp e1
  obtain ⟨h2, k2⟩ := List.getElem?_eq_some_iff.mp e2
  have ij : i = j := (List.getElem_inj h).mp (k1.trans k2.symm)
  subst ij
  rw [hi] at hj
  cases hj
  rfl
def lamAt (q : Str) (st : Stmt) (fr : List Str) : Lam := match defBody st with
  | [.Return (some (.Lambda p b sc _)) _] => ⟨q ++ ".<locals>." ++ "<lambda>", p, b, sc, fr⟩
  | _ => default
theorem lawAt_of {l : PySem.W.OpenLaw} {w : World} {K : PySem.W.Frag} {CX : CXT} {k : Nat} {x : Str} {mg : Str → Option Value} {fa : Addr} {h : Heap} {ck : PySem.W.Frag → Bool} {fn : List He.DefD} {mk : List (Str × Option Str)} (X : K.In h) (c : SaysT ck fn mk h K)
    (hl : ∃ fd : FuncData, (∀ (s : Shared) (u : Value), BindsTo s fd ⟨[u], []⟩ [(x, u)]) ∧ ∀ base : Heap, K.In base → base.Ns mainGlobals mg → (∀ p ∈ mk.map (fun a => (codeA K (He.fAd K a), tabA K (He.fAd K a))), TabB base mg p.1 p.2) → FnOk l.prog w K mg base CX k fa fd [x] (spLawT K (mk.map fun a => tabA K (He.fAd K a)))) :
    LawAtS l w K CX k 63 x mg fa h := by
  obtain ⟨fd, hb, hF⟩ := hl
  refine ⟨fd, mk.map (fun a => (codeA K (He.fAd K a), tabA K (He.fAd K a))), _, fun p hp => ?_, fun p hp => ?_, fun p hp => ?_, hb, fun H a ns h1 h2 h3 h4 => ⟨fun b hb => ?_, a, ns, rfl, h4, h1, h2, fun _ => rfl⟩, hF⟩
  · obtain ⟨a, ha, rfl⟩ := List.mem_map.mp hp
    exact (c.2 a ha).1
  · obtain ⟨a, ha, rfl⟩ := List.mem_map.mp hp
    exact (c.2 a ha).2.1
  · obtain ⟨a, ha, rfl⟩ := List.mem_map.mp hp
    exact PySem.W.codeHd_of_K X (c.2 a ha).2.2
  · obtain ⟨a, ha, rfl⟩ := List.mem_map.mp hb
    exact h3 _ (List.mem_map.mpr ⟨a, ha, rfl⟩)
end Q

namespace K31
open PySem PySem.Spec PyProof.Rows L2 Q
def fmL (c : Nat) (f : Str) : Nat :=
  0
noncomputable def lb_colder (Λ : D → D → Option Bool) : FE := (eOp hLt (eOp hIx (eOp hIx (eVar 0) (eC (.int 0))) (eVar 1)) (eVar 2))
noncomputable def f_colder : FF := mkLam 0 2
noncomputable def m_has_room : FS := (fRet (eOp hEq (eOp hMod (eOp hShr (eVar 0) (eVar 1)) (eC (.int 2))) (eC (.int 1))))
noncomputable def f_has_room : FF := fBody 2 2 (ΓS 2) m_has_room
noncomputable def lb_burns (Λ : D → D → Option Bool) : FE := (eCall f_has_room (lCons (eOp hIx (eVar 0) (eC (.int 1))) (lCons (eVar 1) lNil)))
noncomputable def f_burns : FF := mkLam 1 1
noncomputable def lb_rested (Λ : D → D → Option Bool) : FE := (eOp hEq (eOp hIx (eOp hIx (eVar 0) (eC (.int 2))) (eVar 1)) (eC (.int 0)))
noncomputable def f_rested : FF := mkLam 2 1
noncomputable def lb_stocked (Λ : D → D → Option Bool) : FE := (eOp hGe (eOp hIx (eVar 0) (eC (.int 4))) (eVar 1))
noncomputable def f_stocked : FF := mkLam 3 1
noncomputable def lb_both_of (Λ : D → D → Option Bool) : FE := (eAnd (eCallV Λ 1 (eVar 0)) (eCallV Λ 2 (eVar 0)))
noncomputable def f_both_of : FF := mkLam 4 2
noncomputable def lb_one_of (Λ : D → D → Option Bool) : FE := (eOr (eCallV Λ 1 (eVar 0)) (eCallV Λ 2 (eVar 0)))
noncomputable def f_one_of : FF := mkLam 5 2
noncomputable def lb_unlike (Λ : D → D → Option Bool) : FE := (eNot (eCallV Λ 1 (eVar 0)))
noncomputable def f_unlike : FF := mkLam 6 1
noncomputable def lbs (Λ : D → D → Option Bool) : Nat → FE
  | 0 => lb_colder Λ
  | 1 => lb_burns Λ
  | 2 => lb_rested Λ
  | 3 => lb_stocked Λ
  | 4 => lb_both_of Λ
  | 5 => lb_one_of Λ
  | 6 => lb_unlike Λ
  | _ => fun _ _ => .no
noncomputable def lamA : Nat → D → D → Option Bool
  | 0 => fun _ _ => none
  | n + 1 => lamK 7 (lbs (lamA n))
noncomputable def b__law_stream_1 : FS := (fSeq (fSet 3 (eOp hMod (eOp hAdd (eOp hAdd (eOp hMul (eVar 3) (eC (.int 48271))) (eOp hMul (eOp hMul (eC (.int 7919)) (eVar 4)) (eVar 4))) (eC (.int 11))) (eC (.int 2147483647))))
    (fMut 2 mAppend (lCons (eOp hDiv (eVar 3) (eC (.int 3))) lNil)))
theorem u_b__law_stream_1 (ρ : Q.Env) (S : Store) : b__law_stream_1 ρ S = ((fSeq (fSet 3 (eOp hMod (eOp hAdd (eOp hAdd (eOp hMul (eVar 3) (eC (.int 48271))) (eOp hMul (eOp hMul (eC (.int 7919)) (eVar 4)) (eVar 4))) (eC (.int 11))) (eC (.int 2147483647))))
    (fMut 2 mAppend (lCons (eOp hDiv (eVar 3) (eC (.int 3))) lNil)))) ρ S := rfl
noncomputable def m__law_stream : FS := (fSeq (fSet 2 (eLst lNil))
    (fSeq (fSet 3 (eOp hAdd (eOp hMod (eVar 0) (eC (.int 2147483647))) (eC (.int 1))))
    (fSeq (fFor (iRange1 (lCons (eOp hAdd (eVar 1) (eC (.int 2))) lNil)) (tfName 4) b__law_stream_1)
    (fRet (eSl (eVar 2) (some (eC (.int 2))) none)))))
noncomputable def f__law_stream : FF := fBody 5 2 (ΓS 2) m__law_stream
noncomputable def m__law_cell_at : FS := (fSeq (fIf (eOp hLt (eVar 1) (eL hLen (lCons (eVar 0) lNil))) (fRet (eOp hIx (eVar 0) (eVar 1)))
    fPass)
    (fRet (eC (.int 0))))
noncomputable def f__law_cell_at : FF := fBody 2 2 (ΓS 2) m__law_cell_at
noncomputable def e__law_state_1 : FE := (eOp hMod (eOp hIx (eVar 0) (eVar 5)) (eC (.int 7)))
theorem u_e__law_state_1 (ρ : Q.Env) (S : Store) : e__law_state_1 ρ S = ((eOp hMod (eOp hIx (eVar 0) (eVar 5)) (eC (.int 7)))) ρ S := rfl
noncomputable def e__law_state_2 : FE := (eOp hMod (eOp hDiv (eOp hIx (eVar 0) (eVar 5)) (eC (.int 7))) (eC (.int 4)))
theorem u_e__law_state_2 (ρ : Q.Env) (S : Store) : e__law_state_2 ρ S = ((eOp hMod (eOp hDiv (eOp hIx (eVar 0) (eVar 5)) (eC (.int 7))) (eC (.int 4)))) ρ S := rfl
noncomputable def e__law_state_3 : FE := (eOp hMod (eOp hDiv (eOp hIx (eVar 0) (eVar 5)) (eC (.int 28))) (eC (.int 4)))
theorem u_e__law_state_3 (ρ : Q.Env) (S : Store) : e__law_state_3 ρ S = ((eOp hMod (eOp hDiv (eOp hIx (eVar 0) (eVar 5)) (eC (.int 28))) (eC (.int 4)))) ρ S := rfl
noncomputable def m__law_state : FS := (fSeq (fSet 2 (eUn hTuple (eLc (iRange1 (lCons (eVar 1) lNil)) [5] (tfName 5) (eC (.bl true)) e__law_state_1)))
    (fSeq (fSet 3 (eUn hTuple (eLc (iRange1 (lCons (eVar 1) lNil)) [5] (tfName 5) (eC (.bl true)) e__law_state_2)))
    (fSeq (fSet 4 (eUn hTuple (eLc (iRange1 (lCons (eVar 1) lNil)) [5] (tfName 5) (eC (.bl true)) e__law_state_3)))
    (fRet (eTup (lCons (eVar 2) (lCons (eOp hMod (eOp hMod (eOp hIx (eVar 0) (eC (.int 4))) (eC (.int 16))) (eOp hIx (eLst (lCons (eC (.int 2)) (lCons (eC (.int 4)) (lCons (eC (.int 8)) (lCons (eC (.int 16)) lNil))))) (eOp hSub (eVar 1) (eC (.int 1))))) (lCons (eVar 3) (lCons (eVar 4) (lCons (eOp hMod (eOp hIx (eVar 0) (eC (.int 5))) (eC (.int 31))) lNil))))))))))
noncomputable def f__law_state : FF := fBody 6 2 (ΓS 2) m__law_state
noncomputable def m__law_leaf : FS := (fSeq (fSet 2 (eOp hMod (eOp hIx (eVar 0) (eC (.int 1))) (eVar 1)))
    (fSeq (fSet 3 (eOp hMod (eOp hMul (eOp hIx (eVar 0) (eC (.int 3))) (eOp hAdd (eOp hPow (eC (.int 10)) (eC (.int 49))) (eC (.int 9)))) (eOp hPow (eC (.int 10)) (eC (.int 59)))))
    (fSeq (fIf (eOp hEq (eOp hMod (eOp hIx (eVar 0) (eC (.int 0))) (eC (.int 4))) (eC (.int 0))) (fRet (eTup (lCons (eC (.str "colder")) (lCons (eVar 2) (lCons (eOp hSub (eOp hIx (eLst (lCons (eOp hMod (eOp hIx (eVar 0) (eC (.int 3))) (eC (.int 9))) (lCons (eOp hMod (eOp hIx (eVar 0) (eC (.int 3))) (eC (.int 9))) (lCons (eVar 3) lNil)))) (eOp hMod (eOp hIx (eVar 0) (eC (.int 2))) (eC (.int 3)))) (eOp hMod (eOp hDiv (eOp hIx (eVar 0) (eC (.int 2))) (eC (.int 3))) (eC (.int 3)))) lNil)))))
    fPass)
    (fSeq (fIf (eOp hEq (eOp hMod (eOp hIx (eVar 0) (eC (.int 0))) (eC (.int 4))) (eC (.int 1))) (fRet (eTup (lCons (eC (.str "burns")) (lCons (eVar 2) (lCons (eC (.int 0)) lNil)))))
    fPass)
    (fSeq (fIf (eOp hEq (eOp hMod (eOp hIx (eVar 0) (eC (.int 0))) (eC (.int 4))) (eC (.int 2))) (fRet (eTup (lCons (eC (.str "rested")) (lCons (eVar 2) (lCons (eC (.int 0)) lNil)))))
    fPass)
    (fRet (eTup (lCons (eC (.str "stocked")) (lCons (eC (.int 0)) (lCons (eOp hSub (eOp hIx (eLst (lCons (eOp hMod (eOp hIx (eVar 0) (eC (.int 3))) (eC (.int 34))) (lCons (eOp hMod (eOp hIx (eVar 0) (eC (.int 3))) (eC (.int 34))) (lCons (eVar 3) lNil)))) (eOp hMod (eOp hIx (eVar 0) (eC (.int 2))) (eC (.int 3)))) (eOp hMod (eOp hDiv (eOp hIx (eVar 0) (eC (.int 2))) (eC (.int 3))) (eC (.int 3)))) lNil))))))))))
noncomputable def f__law_leaf : FF := fBody 4 2 (ΓS 2) m__law_leaf
noncomputable def m__law_made_leaf : FS := (fSeq (fIf (eOp hEq (eOp hIx (eVar 0) (eC (.int 0))) (eC (.str "colder"))) (fRet (eCall f_colder (lCons (eOp hIx (eVar 0) (eC (.int 1))) (lCons (eOp hIx (eVar 0) (eC (.int 2))) lNil))))
    fPass)
    (fSeq (fIf (eOp hEq (eOp hIx (eVar 0) (eC (.int 0))) (eC (.str "burns"))) (fRet (eCall f_burns (lCons (eOp hIx (eVar 0) (eC (.int 1))) lNil)))
    fPass)
    (fSeq (fIf (eOp hEq (eOp hIx (eVar 0) (eC (.int 0))) (eC (.str "rested"))) (fRet (eCall f_rested (lCons (eOp hIx (eVar 0) (eC (.int 1))) lNil)))
    fPass)
    (fRet (eCall f_stocked (lCons (eOp hIx (eVar 0) (eC (.int 2))) lNil))))))
noncomputable def f__law_made_leaf : FF := fBody 1 1 (ΓS 1) m__law_made_leaf
noncomputable def b__law_in_bits_1 : FS := (fSet 0 (eOp hDiv (eVar 0) (eC (.int 2))))
theorem u_b__law_in_bits_1 (ρ : Q.Env) (S : Store) : b__law_in_bits_1 ρ S = ((fSet 0 (eOp hDiv (eVar 0) (eC (.int 2))))) ρ S := rfl
noncomputable def m__law_in_bits : FS := (fSeq (fFor (iRange1 (lCons (eVar 1) lNil)) (tfName 2) b__law_in_bits_1)
    (fRet (eOp hEq (eOp hMod (eVar 0) (eC (.int 2))) (eC (.int 1)))))
noncomputable def f__law_in_bits : FF := fBody 3 2 (ΓS 2) m__law_in_bits
noncomputable def m__law_holds : FS := (fSeq (fIf (eOp hEq (eOp hIx (eVar 0) (eC (.int 0))) (eC (.str "colder"))) (fRet (eOp hLt (eOp hIx (eOp hIx (eVar 1) (eC (.int 0))) (eOp hIx (eVar 0) (eC (.int 1)))) (eOp hIx (eVar 0) (eC (.int 2)))))
    fPass)
    (fSeq (fIf (eOp hEq (eOp hIx (eVar 0) (eC (.int 0))) (eC (.str "burns"))) (fRet (eCall f__law_in_bits (lCons (eOp hIx (eVar 1) (eC (.int 1))) (lCons (eOp hIx (eVar 0) (eC (.int 1))) lNil))))
    fPass)
    (fSeq (fIf (eOp hEq (eOp hIx (eVar 0) (eC (.int 0))) (eC (.str "rested"))) (fRet (eOp hEq (eOp hIx (eOp hIx (eVar 1) (eC (.int 2))) (eOp hIx (eVar 0) (eC (.int 1)))) (eC (.int 0))))
    fPass)
    (fRet (eOp hGe (eOp hIx (eVar 1) (eC (.int 4))) (eOp hIx (eVar 0) (eC (.int 2))))))))
noncomputable def f__law_holds : FF := fBody 2 2 (ΓS 2) m__law_holds
noncomputable def e__law_more__p_1 : FE := (eCall f__law_holds (lCons (eVar 8) (lCons (eVar 10) lNil)))
theorem u_e__law_more__p_1 (ρ : Q.Env) (S : Store) : e__law_more__p_1 ρ S = ((eCall f__law_holds (lCons (eVar 8) (lCons (eVar 10) lNil)))) ρ S := rfl
noncomputable def e__law_more__p_2 : FE := (eNot (eVar 11))
theorem u_e__law_more__p_2 (ρ : Q.Env) (S : Store) : e__law_more__p_2 ρ S = ((eNot (eVar 11))) ρ S := rfl
noncomputable def e__law_more__p_3 : FE := (eAnd (eOp hIx (eOp hIx (eVar 6) (eC (.int 1))) (eVar 9)) (eOp hIx (eOp hIx (eVar 7) (eC (.int 1))) (eVar 9)))
theorem u_e__law_more__p_3 (ρ : Q.Env) (S : Store) : e__law_more__p_3 ρ S = ((eAnd (eOp hIx (eOp hIx (eVar 6) (eC (.int 1))) (eVar 9)) (eOp hIx (eOp hIx (eVar 7) (eC (.int 1))) (eVar 9)))) ρ S := rfl
noncomputable def e__law_more__p_4 : FE := (eOr (eOp hIx (eOp hIx (eVar 6) (eC (.int 1))) (eVar 9)) (eOp hIx (eOp hIx (eVar 7) (eC (.int 1))) (eVar 9)))
theorem u_e__law_more__p_4 (ρ : Q.Env) (S : Store) : e__law_more__p_4 ρ S = ((eOr (eOp hIx (eOp hIx (eVar 6) (eC (.int 1))) (eVar 9)) (eOp hIx (eOp hIx (eVar 7) (eC (.int 1))) (eVar 9)))) ρ S := rfl
noncomputable def m__law_more__p : FS := (fSeq (fSet 4 (eOp hMod (eOp hIx (eVar 0) (eC (.int 0))) (eC (.int 5))))
    (fSeq (fSet 5 (eC (.int 41)))
    (fSeq (fIf (eOp hGt (eFlat (eL hLen (lCons (eVar 1) lNil))) (eC (.int 0))) (fSet 5 (eOp hAdd (eOp hAdd (eFlat (eOp hIx (eOp hIx (eVar 1) (eOp hMod (eOp hIx (eVar 0) (eC (.int 1))) (eL hLen (lCons (eVar 1) lNil)))) (eC (.int 2)))) (eFlat (eOp hIx (eOp hIx (eVar 1) (eOp hMod (eOp hIx (eVar 0) (eC (.int 2))) (eL hLen (lCons (eVar 1) lNil)))) (eC (.int 2))))) (eC (.int 1))))
    fPass)
    (fSeq (fIf (eOr (eOp hLt (eVar 4) (eC (.int 2))) (eOp hGt (eVar 5) (eC (.int 40)))) (fSeq (fSet 8 (eCall f__law_leaf (lCons (eSl (eVar 0) (some (eC (.int 1))) none) (lCons (eVar 2) lNil))))
    (fRet (eTup (lCons (eCall f__law_made_leaf (lCons (eVar 8) lNil)) (lCons (eLc (iSeq (eVar 3)) [10] (tfName 10) (eC (.bl true)) e__law_more__p_1) (lCons (eC (.int 1)) lNil))))))
    fPass)
    (fSeq (fSet 6 (eOp hIxO (eVar 1) (eOp hMod (eOp hIx (eVar 0) (eC (.int 1))) (eFlat (eL hLen (lCons (eVar 1) lNil))))))
    (fSeq (fIf (eOp hEq (eVar 4) (eC (.int 2))) (fRet (eTup (lCons (eCall f_unlike (lCons (eOp hIx (eVar 6) (eC (.int 0))) lNil)) (lCons (eLc (iSeq (eOp hIx (eVar 6) (eC (.int 1)))) [11] (tfName 11) (eC (.bl true)) e__law_more__p_2) (lCons (eOp hAdd (eOp hIx (eVar 6) (eC (.int 2))) (eC (.int 1))) lNil)))))
    fPass)
    (fSeq (fSet 7 (eOp hIxO (eVar 1) (eOp hMod (eOp hIx (eVar 0) (eC (.int 2))) (eFlat (eL hLen (lCons (eVar 1) lNil))))))
    (fSeq (fIf (eOp hEq (eVar 4) (eC (.int 3))) (fRet (eTup (lCons (eCall f_both_of (lCons (eOp hIx (eVar 6) (eC (.int 0))) (lCons (eOp hIx (eVar 7) (eC (.int 0))) lNil))) (lCons (eLc (iRange1 (lCons (eC (.int 3)) lNil)) [9] (tfName 9) (eC (.bl true)) e__law_more__p_3) (lCons (eOp hAdd (eOp hAdd (eOp hIx (eVar 6) (eC (.int 2))) (eOp hIx (eVar 7) (eC (.int 2)))) (eC (.int 1))) lNil)))))
    fPass)
    (fRet (eTup (lCons (eCall f_one_of (lCons (eOp hIx (eVar 6) (eC (.int 0))) (lCons (eOp hIx (eVar 7) (eC (.int 0))) lNil))) (lCons (eLc (iRange1 (lCons (eC (.int 3)) lNil)) [9] (tfName 9) (eC (.bl true)) e__law_more__p_4) (lCons (eOp hAdd (eOp hAdd (eOp hIx (eVar 6) (eC (.int 2))) (eOp hIx (eVar 7) (eC (.int 2)))) (eC (.int 1))) lNil)))))))))))))
noncomputable def f__law_more__p : FF := fBody 12 4 [.s, .p 1, .s, .s] m__law_more__p
noncomputable def b__law_asked_1 : FS := (fSeq (fSet 4 (eCallV (lamA 41) 0 (eOp hIx (eVar 2) (eVar 3))))
    (fIf (eOr (eNot (eUn (hIsi "bool") (eVar 4))) (eOp hNe (eVar 4) (eOp hIx (eVar 1) (eVar 3)))) (fRet (eC (.bl false)))
    fPass))
theorem u_b__law_asked_1 (ρ : Q.Env) (S : Store) : b__law_asked_1 ρ S = ((fSeq (fSet 4 (eCallV (lamA 41) 0 (eOp hIx (eVar 2) (eVar 3))))
    (fIf (eOr (eNot (eUn (hIsi "bool") (eVar 4))) (eOp hNe (eVar 4) (eOp hIx (eVar 1) (eVar 3)))) (fRet (eC (.bl false)))
    fPass))) ρ S := rfl
noncomputable def m__law_asked : FS := (fSeq (fFor (iRange1 (lCons (eC (.int 3)) lNil)) (tfName 3) b__law_asked_1)
    (fRet (eC (.bl true))))
noncomputable def f__law_asked : FF := fBody 5 3 (ΓS 3) m__law_asked
noncomputable def e_law_1 : FE := (eCall f__law_state (lCons (eCall f__law_stream (lCons (eOp hAdd (eCall f__law_cell_at (lCons (eVar 0) (lCons (eC (.int 1)) lNil))) (eOp hMul (eVar 7) (eVar 7))) (lCons (eC (.int 8)) lNil))) (lCons (eVar 2) lNil)))
theorem u_e_law_1 (ρ : Q.Env) (S : Store) : e_law_1 ρ S = ((eCall f__law_state (lCons (eCall f__law_stream (lCons (eOp hAdd (eCall f__law_cell_at (lCons (eVar 0) (lCons (eC (.int 1)) lNil))) (eOp hMul (eVar 7) (eVar 7))) (lCons (eC (.int 8)) lNil))) (lCons (eVar 2) lNil)))) ρ S := rfl
noncomputable def b_law_2 : FS := (fSeq (fSetP 6 (eCallP f__law_more__p [none, some (4, 1), none, none] (lCons (eCall f__law_stream (lCons (eVar 5) (lCons (eC (.int 5)) lNil))) (lCons (eVar 4) (lCons (eVar 2) (lCons (eVar 3) lNil))))))
    (fIf (eOp hLe (eOp hIx (eVar 6) (eC (.int 2))) (eC (.int 40))) (fSeq (fMut 4 mAppend (lCons (eVar 6) lNil))
    (fIf (eNot (eCall f__law_asked (lCons (eOp hIx (eVar 6) (eC (.int 0))) (lCons (eOp hIx (eVar 6) (eC (.int 1))) (lCons (eVar 3) lNil))))) (fRet (eC (.bl false)))
    fPass))
    fPass))
theorem u_b_law_2 (ρ : Q.Env) (S : Store) : b_law_2 ρ S = ((fSeq (fSetP 6 (eCallP f__law_more__p [none, some (4, 1), none, none] (lCons (eCall f__law_stream (lCons (eVar 5) (lCons (eC (.int 5)) lNil))) (lCons (eVar 4) (lCons (eVar 2) (lCons (eVar 3) lNil))))))
    (fIf (eOp hLe (eOp hIx (eVar 6) (eC (.int 2))) (eC (.int 40))) (fSeq (fMut 4 mAppend (lCons (eVar 6) lNil))
    (fIf (eNot (eCall f__law_asked (lCons (eOp hIx (eVar 6) (eC (.int 0))) (lCons (eOp hIx (eVar 6) (eC (.int 1))) (lCons (eVar 3) lNil))))) (fRet (eC (.bl false)))
    fPass))
    fPass))) ρ S := rfl
noncomputable def b_law_3 : FS := (fIf (eNot (eCall f__law_asked (lCons (eOp hIx (eVar 6) (eC (.int 0))) (lCons (eOp hIx (eVar 6) (eC (.int 1))) (lCons (eVar 3) lNil))))) (fRet (eC (.bl false)))
    fPass)
theorem u_b_law_3 (ρ : Q.Env) (S : Store) : b_law_3 ρ S = ((fIf (eNot (eCall f__law_asked (lCons (eOp hIx (eVar 6) (eC (.int 0))) (lCons (eOp hIx (eVar 6) (eC (.int 1))) (lCons (eVar 3) lNil))))) (fRet (eC (.bl false)))
    fPass)) ρ S := rfl
noncomputable def m_law : FS := (fSeq (fSet 1 (eCall f__law_stream (lCons (eCall f__law_cell_at (lCons (eVar 0) (lCons (eC (.int 0)) lNil))) (lCons (eC (.int 3)) lNil))))
    (fSeq (fSet 2 (eOp hAdd (eC (.int 1)) (eOp hMod (eOp hIx (eVar 1) (eC (.int 0))) (eC (.int 4)))))
    (fSeq (fSet 3 (eLc (iRange1 (lCons (eC (.int 3)) lNil)) [7] (tfName 7) (eC (.bl true)) e_law_1))
    (fSeq (fSet 4 (eLst lNil))
    (fSeq (fFor (iSeq (eSl (eVar 0) (some (eC (.int 2))) (some (eC (.int 38))))) (tfName 5) b_law_2)
    (fSeq (fFor (iSeq (eVar 4)) (tfName 6) b_law_3)
    (fRet (eC (.bl true)))))))))
noncomputable def f_law : FF := fBody 8 1 (ΓS 1) m_law
end K31

namespace Q
open PySem PySem.Spec PyProof.Rows L2
end Q

namespace K31
open PySem PySem.Spec PyProof.Rows L2 Q
abbrev N_colder : List Str := ["room", "band"]
theorem sc_colder : FnScope N_colder ["room", "band"] (defScope s_colder) := ⟨rfl, rfl, rfl, by decide +kernel, rfl, by decide +kernel, by decide +kernel⟩
abbrev N_has_room : List Str := ["bits", "room"]
theorem sc_has_room : FnScope N_has_room ["bits", "room"] (defScope s_has_room) := ⟨rfl, rfl, rfl, by decide +kernel, rfl, by decide +kernel, by decide +kernel⟩
abbrev N_burns : List Str := ["room"]
theorem sc_burns : FnScope N_burns ["room"] (defScope s_burns) := ⟨rfl, rfl, rfl, by decide +kernel, rfl, by decide +kernel, by decide +kernel⟩
abbrev N_rested : List Str := ["room"]
theorem sc_rested : FnScope N_rested ["room"] (defScope s_rested) := ⟨rfl, rfl, rfl, by decide +kernel, rfl, by decide +kernel, by decide +kernel⟩
abbrev N_stocked : List Str := ["wood"]
theorem sc_stocked : FnScope N_stocked ["wood"] (defScope s_stocked) := ⟨rfl, rfl, rfl, by decide +kernel, rfl, by decide +kernel, by decide +kernel⟩
abbrev N_both_of : List Str := ["one", "other"]
theorem sc_both_of : FnScope N_both_of ["one", "other"] (defScope s_both_of) := ⟨rfl, rfl, rfl, by decide +kernel, rfl, by decide +kernel, by decide +kernel⟩
abbrev N_one_of : List Str := ["one", "other"]
theorem sc_one_of : FnScope N_one_of ["one", "other"] (defScope s_one_of) := ⟨rfl, rfl, rfl, by decide +kernel, rfl, by decide +kernel, by decide +kernel⟩
abbrev N_unlike : List Str := ["one"]
theorem sc_unlike : FnScope N_unlike ["one"] (defScope s_unlike) := ⟨rfl, rfl, rfl, by decide +kernel, rfl, by decide +kernel, by decide +kernel⟩
abbrev N__law_stream : List Str := ["_law_cell", "_law_many", "_law_found", "_law_number", "_law_k"]
theorem sc__law_stream : FnScope N__law_stream ["_law_cell", "_law_many"] (defScope s__law_stream) := ⟨rfl, rfl, rfl, by decide +kernel, rfl, by decide +kernel, by decide +kernel⟩
abbrev N__law_cell_at : List Str := ["_law_script", "_law_k"]
theorem sc__law_cell_at : FnScope N__law_cell_at ["_law_script", "_law_k"] (defScope s__law_cell_at) := ⟨rfl, rfl, rfl, by decide +kernel, rfl, by decide +kernel, by decide +kernel⟩
abbrev N__law_state : List Str := ["_law_xs", "_law_rooms", "_law_bands", "_law_waits", "_law_failed", "_law_k"]
theorem sc__law_state : FnScope N__law_state ["_law_xs", "_law_rooms"] (defScope s__law_state) := ⟨rfl, rfl, rfl, by decide +kernel, rfl, by decide +kernel, by decide +kernel⟩
abbrev N__law_leaf : List Str := ["_law_xs", "_law_rooms", "_law_room", "_law_far"]
theorem sc__law_leaf : FnScope N__law_leaf ["_law_xs", "_law_rooms"] (defScope s__law_leaf) := ⟨rfl, rfl, rfl, by decide +kernel, rfl, by decide +kernel, by decide +kernel⟩
abbrev N__law_made_leaf : List Str := ["_law_leaf_here"]
theorem sc__law_made_leaf : FnScope N__law_made_leaf ["_law_leaf_here"] (defScope s__law_made_leaf) := ⟨rfl, rfl, rfl, by decide +kernel, rfl, by decide +kernel, by decide +kernel⟩
abbrev N__law_in_bits : List Str := ["_law_bits", "_law_room", "_law_k"]
theorem sc__law_in_bits : FnScope N__law_in_bits ["_law_bits", "_law_room"] (defScope s__law_in_bits) := ⟨rfl, rfl, rfl, by decide +kernel, rfl, by decide +kernel, by decide +kernel⟩
abbrev N__law_holds : List Str := ["_law_leaf_here", "_law_state_here"]
theorem sc__law_holds : FnScope N__law_holds ["_law_leaf_here", "_law_state_here"] (defScope s__law_holds) := ⟨rfl, rfl, rfl, by decide +kernel, rfl, by decide +kernel, by decide +kernel⟩
abbrev N__law_more__p : List Str := ["_law_xs", "_law_some", "_law_rooms", "_law_states", "_law_kind", "_law_many", "_law_one", "_law_other", "_law_leaf_here", "_law_k", "_law_state_here", "_law_truth"]
theorem sc__law_more__p : FnScope N__law_more__p ["_law_xs", "_law_some", "_law_rooms", "_law_states"] (defScope s__law_more__p) := ⟨rfl, rfl, rfl, by decide +kernel, rfl, by decide +kernel, by decide +kernel⟩
abbrev N__law_asked : List Str := ["_law_condition", "_law_due", "_law_states", "_law_k", "_law_found"]
theorem sc__law_asked : FnScope N__law_asked ["_law_condition", "_law_due", "_law_states"] (defScope s__law_asked) := ⟨rfl, rfl, rfl, by decide +kernel, rfl, by decide +kernel, by decide +kernel⟩
abbrev N_law : List Str := ["_law_script", "_law_first", "_law_rooms", "_law_states", "_law_some", "_law_cell", "_law_made", "_law_k"]
theorem sc_law : FnScope N_law ["_law_script"] (defScope s_law) := ⟨rfl, rfl, rfl, by decide +kernel, rfl, by decide +kernel, by decide +kernel⟩
set_option maxHeartbeats 0 in
structure Facts (K : PySem.W.Frag) (mg : Str → Option Value) where
  a_colder : Addr
  d_colder : FuncData
  a_has_room : Addr
  d_has_room : FuncData
  a_burns : Addr
  d_burns : FuncData
  a_rested : Addr
  d_rested : FuncData
  a_stocked : Addr
  d_stocked : FuncData
  a_both_of : Addr
  d_both_of : FuncData
  a_one_of : Addr
  d_one_of : FuncData
  a_unlike : Addr
  d_unlike : FuncData
  a__law_stream : Addr
  d__law_stream : FuncData
  a__law_cell_at : Addr
  d__law_cell_at : FuncData
  a__law_state : Addr
  d__law_state : FuncData
  a__law_leaf : Addr
  d__law_leaf : FuncData
  a__law_made_leaf : Addr
  d__law_made_leaf : FuncData
  a__law_in_bits : Addr
  d__law_in_bits : FuncData
  a__law_holds : Addr
  d__law_holds : FuncData
  a__law_more__p : Addr
  d__law_more__p : FuncData
  a__law_asked : Addr
  d__law_asked : FuncData
  a_law : Addr
  d_law : FuncData
  F_colder : Fun K "colder" "colder" s_colder a_colder d_colder
  b_colder : Binds K d_colder ["room", "band"] []
  g_colder : mg "colder" = some (.ref a_colder)
  F_has_room : Fun K "has_room" "has_room" s_has_room a_has_room d_has_room
  b_has_room : Binds K d_has_room ["bits", "room"] []
  g_has_room : mg "has_room" = some (.ref a_has_room)
  F_burns : Fun K "burns" "burns" s_burns a_burns d_burns
  b_burns : Binds K d_burns ["room"] []
  g_burns : mg "burns" = some (.ref a_burns)
  F_rested : Fun K "rested" "rested" s_rested a_rested d_rested
  b_rested : Binds K d_rested ["room"] []
  g_rested : mg "rested" = some (.ref a_rested)
  F_stocked : Fun K "stocked" "stocked" s_stocked a_stocked d_stocked
  b_stocked : Binds K d_stocked ["wood"] []
  g_stocked : mg "stocked" = some (.ref a_stocked)
  F_both_of : Fun K "both_of" "both_of" s_both_of a_both_of d_both_of
  b_both_of : Binds K d_both_of ["one", "other"] []
  g_both_of : mg "both_of" = some (.ref a_both_of)
  F_one_of : Fun K "one_of" "one_of" s_one_of a_one_of d_one_of
  b_one_of : Binds K d_one_of ["one", "other"] []
  g_one_of : mg "one_of" = some (.ref a_one_of)
  F_unlike : Fun K "unlike" "unlike" s_unlike a_unlike d_unlike
  b_unlike : Binds K d_unlike ["one"] []
  g_unlike : mg "unlike" = some (.ref a_unlike)
  F__law_stream : Fun K "_law_stream" "_law_stream" s__law_stream a__law_stream d__law_stream
  b__law_stream : Binds K d__law_stream ["_law_cell", "_law_many"] []
  g__law_stream : mg "_law_stream" = some (.ref a__law_stream)
  F__law_cell_at : Fun K "_law_cell_at" "_law_cell_at" s__law_cell_at a__law_cell_at d__law_cell_at
  b__law_cell_at : Binds K d__law_cell_at ["_law_script", "_law_k"] []
  g__law_cell_at : mg "_law_cell_at" = some (.ref a__law_cell_at)
  F__law_state : Fun K "_law_state" "_law_state" s__law_state a__law_state d__law_state
  b__law_state : Binds K d__law_state ["_law_xs", "_law_rooms"] []
  g__law_state : mg "_law_state" = some (.ref a__law_state)
  F__law_leaf : Fun K "_law_leaf" "_law_leaf" s__law_leaf a__law_leaf d__law_leaf
  b__law_leaf : Binds K d__law_leaf ["_law_xs", "_law_rooms"] []
  g__law_leaf : mg "_law_leaf" = some (.ref a__law_leaf)
  F__law_made_leaf : Fun K "_law_made_leaf" "_law_made_leaf" s__law_made_leaf a__law_made_leaf d__law_made_leaf
  b__law_made_leaf : Binds K d__law_made_leaf ["_law_leaf_here"] []
  g__law_made_leaf : mg "_law_made_leaf" = some (.ref a__law_made_leaf)
  F__law_in_bits : Fun K "_law_in_bits" "_law_in_bits" s__law_in_bits a__law_in_bits d__law_in_bits
  b__law_in_bits : Binds K d__law_in_bits ["_law_bits", "_law_room"] []
  g__law_in_bits : mg "_law_in_bits" = some (.ref a__law_in_bits)
  F__law_holds : Fun K "_law_holds" "_law_holds" s__law_holds a__law_holds d__law_holds
  b__law_holds : Binds K d__law_holds ["_law_leaf_here", "_law_state_here"] []
  g__law_holds : mg "_law_holds" = some (.ref a__law_holds)
  F__law_more__p : Fun K "_law_more" "_law_more" s__law_more__p a__law_more__p d__law_more__p
  b__law_more__p : Binds K d__law_more__p ["_law_xs", "_law_some", "_law_rooms", "_law_states"] []
  g__law_more__p : mg "_law_more" = some (.ref a__law_more__p)
  F__law_asked : Fun K "_law_asked" "_law_asked" s__law_asked a__law_asked d__law_asked
  b__law_asked : Binds K d__law_asked ["_law_condition", "_law_due", "_law_states"] []
  g__law_asked : mg "_law_asked" = some (.ref a__law_asked)
  F_law : Fun K "law" "law" s_law a_law d_law
  b_law : Binds K d_law ["_law_script"] []
  g_law : mg "law" = some (.ref a_law)
  tk_colder : codeOf K a_colder = some (codeA K a_colder)
  tk_burns : codeOf K a_burns = some (codeA K a_burns)
  tk_rested : codeOf K a_rested = some (codeA K a_rested)
  tk_stocked : codeOf K a_stocked = some (codeA K a_stocked)
  tk_both_of : codeOf K a_both_of = some (codeA K a_both_of)
  tk_one_of : codeOf K a_one_of = some (codeA K a_one_of)
  tk_unlike : codeOf K a_unlike = some (codeA K a_unlike)
  td : [tabA K a_colder, tabA K a_burns, tabA K a_rested, tabA K a_stocked, tabA K a_both_of, tabA K a_one_of, tabA K a_unlike].Nodup
  z_bool : mg "bool" = none
  z_isinstance : mg "isinstance" = none
  z_len : mg "len" = none
  z_range : mg "range" = none
  z_tuple : mg "tuple" = none
section
variable {P : Program} {w : World} {K : PySem.W.Frag} {mg : Str → Option Value} {base : Heap}
def lmL : Nat → Lam
  | 0 => lamAt "colder" s_colder ["room", "band"]
  | 1 => lamAt "burns" s_burns ["room"]
  | 2 => lamAt "rested" s_rested ["room"]
  | 3 => lamAt "stocked" s_stocked ["wood"]
  | 4 => lamAt "both_of" s_both_of ["one", "other"]
  | 5 => lamAt "one_of" s_one_of ["one", "other"]
  | 6 => lamAt "unlike" s_unlike ["one"]
  | _ => default
def tbs (Fx : Facts K mg) : List (Addr × Str) := [(tabA K Fx.a_colder, (lmL 0).qual), (tabA K Fx.a_burns, (lmL 1).qual), (tabA K Fx.a_rested, (lmL 2).qual), (tabA K Fx.a_stocked, (lmL 3).qual), (tabA K Fx.a_both_of, (lmL 4).qual), (tabA K Fx.a_one_of, (lmL 5).qual), (tabA K Fx.a_unlike, (lmL 6).qual)]
def tcs (Fx : Facts K mg) : List (Addr × Addr) := [(codeA K Fx.a_colder, tabA K Fx.a_colder), (codeA K Fx.a_burns, tabA K Fx.a_burns), (codeA K Fx.a_rested, tabA K Fx.a_rested), (codeA K Fx.a_stocked, tabA K Fx.a_stocked), (codeA K Fx.a_both_of, tabA K Fx.a_both_of), (codeA K Fx.a_one_of, tabA K Fx.a_one_of), (codeA K Fx.a_unlike, tabA K Fx.a_unlike)]
structure TBs (Fx : Facts K mg) (base : Heap) : Prop where
  h : ∀ p ∈ tcs Fx, LamX.TabB base mg p.1 p.2
def th (P : Program) (w : World) (Fx : Facts K mg) (tb : List (Addr × Str)) : Th := ⟨K, P, w, fun k => match k with
  | _ => 0, 0, fmL, tb, lmL⟩
variable {tb : List (Addr × Str)}
variable (Fx : Facts K mg)
variable (TBx : TBs Fx base)
include TBx
theorem ok_colder : FnOk P w K mg base (L2.CX P w) 1 Fx.a_colder Fx.d_colder ["room", "band"] (spD (th P w Fx (tbs Fx)) 2 (sgS 2) f_colder) :=
  fn_lam (T := th P w Fx (tbs Fx)) (kk := 0) (N := N_colder) Fx.F_colder sc_colder rfl Fx.tk_colder (TBx.h _ (List.mem_of_getElem? (i := 0) (show (tcs Fx)[0]? = some (codeA K Fx.a_colder, tabA K Fx.a_colder) from rfl))) (List.mem_of_getElem? (i := 0) (show (tbs Fx)[0]? = some _ from rfl)) (nodup_snd (l := tbs Fx) Fx.td (i := 0) rfl) rfl rfl rfl (show ∀ y ∈ (lmL 0).scope.names, y.2 = NameKind.free → y.1 ∈ (["room", "band"] : List Str) by decide +kernel) (show ∀ y ∈ (["room", "band"] : List Str), (y, NameKind.free) ∈ (lmL 0).scope.names by decide +kernel) (show ∀ y ∈ (["room", "band"] : List Str), (defScope s_colder).names.lookup y = some NameKind.cell by decide +kernel) (fun _ => rfl)
theorem ok_has_room : FnOk P w K mg base (L2.CX P w) 1 Fx.a_has_room Fx.d_has_room ["bits", "room"] (spD (th P w Fx tb) 2 (sgS 2) f_has_room) :=
  fn_okSR (N := N_has_room) (B := m_has_room) (Γ' := (ΓS 2)) (okRule_fun Fx.F_has_room) sc_has_room rfl (by decide) fun cdv A outer s H E hr =>
    (xb_one (xs_ret gp_s gp_s rfl (xe_op ok_eq (xe_op ok_mod (xe_op ok_shr (xv (pv 0)) (xv (pv 1)) (fun h h2 => pe_op op_shr h h2)) xe_int (fun h h2 => pe_op op_mod h h2)) xe_int (fun h h2 => pe_cmpR (op_eqD hr.units) h h2 (nomark _))) (fun h => ps_ret h)))
theorem ok_burns : FnOk P w K mg base (L2.CX P w) 1 Fx.a_burns Fx.d_burns ["room"] (spD (th P w Fx (tbs Fx)) 1 (sgS 1) f_burns) :=
  fn_lam (T := th P w Fx (tbs Fx)) (kk := 1) (N := N_burns) Fx.F_burns sc_burns rfl Fx.tk_burns (TBx.h _ (List.mem_of_getElem? (i := 1) (show (tcs Fx)[1]? = some (codeA K Fx.a_burns, tabA K Fx.a_burns) from rfl))) (List.mem_of_getElem? (i := 1) (show (tbs Fx)[1]? = some _ from rfl)) (nodup_snd (l := tbs Fx) Fx.td (i := 1) rfl) rfl rfl rfl (show ∀ y ∈ (lmL 1).scope.names, y.2 = NameKind.free → y.1 ∈ (["room"] : List Str) by decide +kernel) (show ∀ y ∈ (["room"] : List Str), (y, NameKind.free) ∈ (lmL 1).scope.names by decide +kernel) (show ∀ y ∈ (["room"] : List Str), (defScope s_burns).names.lookup y = some NameKind.cell by decide +kernel) (fun _ => rfl)
theorem ok_rested : FnOk P w K mg base (L2.CX P w) 1 Fx.a_rested Fx.d_rested ["room"] (spD (th P w Fx (tbs Fx)) 1 (sgS 1) f_rested) :=
  fn_lam (T := th P w Fx (tbs Fx)) (kk := 2) (N := N_rested) Fx.F_rested sc_rested rfl Fx.tk_rested (TBx.h _ (List.mem_of_getElem? (i := 2) (show (tcs Fx)[2]? = some (codeA K Fx.a_rested, tabA K Fx.a_rested) from rfl))) (List.mem_of_getElem? (i := 2) (show (tbs Fx)[2]? = some _ from rfl)) (nodup_snd (l := tbs Fx) Fx.td (i := 2) rfl) rfl rfl rfl (show ∀ y ∈ (lmL 2).scope.names, y.2 = NameKind.free → y.1 ∈ (["room"] : List Str) by decide +kernel) (show ∀ y ∈ (["room"] : List Str), (y, NameKind.free) ∈ (lmL 2).scope.names by decide +kernel) (show ∀ y ∈ (["room"] : List Str), (defScope s_rested).names.lookup y = some NameKind.cell by decide +kernel) (fun _ => rfl)
theorem ok_stocked : FnOk P w K mg base (L2.CX P w) 1 Fx.a_stocked Fx.d_stocked ["wood"] (spD (th P w Fx (tbs Fx)) 1 (sgS 1) f_stocked) :=
  fn_lam (T := th P w Fx (tbs Fx)) (kk := 3) (N := N_stocked) Fx.F_stocked sc_stocked rfl Fx.tk_stocked (TBx.h _ (List.mem_of_getElem? (i := 3) (show (tcs Fx)[3]? = some (codeA K Fx.a_stocked, tabA K Fx.a_stocked) from rfl))) (List.mem_of_getElem? (i := 3) (show (tbs Fx)[3]? = some _ from rfl)) (nodup_snd (l := tbs Fx) Fx.td (i := 3) rfl) rfl rfl rfl (show ∀ y ∈ (lmL 3).scope.names, y.2 = NameKind.free → y.1 ∈ (["wood"] : List Str) by decide +kernel) (show ∀ y ∈ (["wood"] : List Str), (y, NameKind.free) ∈ (lmL 3).scope.names by decide +kernel) (show ∀ y ∈ (["wood"] : List Str), (defScope s_stocked).names.lookup y = some NameKind.cell by decide +kernel) (fun _ => rfl)
theorem ok_both_of : FnOk P w K mg base (L2.CX P w) 1 Fx.a_both_of Fx.d_both_of ["one", "other"] (spD (th P w Fx (tbs Fx)) 2 (sgS 2) f_both_of) :=
  fn_lam (T := th P w Fx (tbs Fx)) (kk := 4) (N := N_both_of) Fx.F_both_of sc_both_of rfl Fx.tk_both_of (TBx.h _ (List.mem_of_getElem? (i := 4) (show (tcs Fx)[4]? = some (codeA K Fx.a_both_of, tabA K Fx.a_both_of) from rfl))) (List.mem_of_getElem? (i := 4) (show (tbs Fx)[4]? = some _ from rfl)) (nodup_snd (l := tbs Fx) Fx.td (i := 4) rfl) rfl rfl rfl (show ∀ y ∈ (lmL 4).scope.names, y.2 = NameKind.free → y.1 ∈ (["one", "other"] : List Str) by decide +kernel) (show ∀ y ∈ (["one", "other"] : List Str), (y, NameKind.free) ∈ (lmL 4).scope.names by decide +kernel) (show ∀ y ∈ (["one", "other"] : List Str), (defScope s_both_of).names.lookup y = some NameKind.cell by decide +kernel) (fun _ => rfl)
theorem ok_one_of : FnOk P w K mg base (L2.CX P w) 1 Fx.a_one_of Fx.d_one_of ["one", "other"] (spD (th P w Fx (tbs Fx)) 2 (sgS 2) f_one_of) :=
  fn_lam (T := th P w Fx (tbs Fx)) (kk := 5) (N := N_one_of) Fx.F_one_of sc_one_of rfl Fx.tk_one_of (TBx.h _ (List.mem_of_getElem? (i := 5) (show (tcs Fx)[5]? = some (codeA K Fx.a_one_of, tabA K Fx.a_one_of) from rfl))) (List.mem_of_getElem? (i := 5) (show (tbs Fx)[5]? = some _ from rfl)) (nodup_snd (l := tbs Fx) Fx.td (i := 5) rfl) rfl rfl rfl (show ∀ y ∈ (lmL 5).scope.names, y.2 = NameKind.free → y.1 ∈ (["one", "other"] : List Str) by decide +kernel) (show ∀ y ∈ (["one", "other"] : List Str), (y, NameKind.free) ∈ (lmL 5).scope.names by decide +kernel) (show ∀ y ∈ (["one", "other"] : List Str), (defScope s_one_of).names.lookup y = some NameKind.cell by decide +kernel) (fun _ => rfl)
theorem ok_unlike : FnOk P w K mg base (L2.CX P w) 1 Fx.a_unlike Fx.d_unlike ["one"] (spD (th P w Fx (tbs Fx)) 1 (sgS 1) f_unlike) :=
  fn_lam (T := th P w Fx (tbs Fx)) (kk := 6) (N := N_unlike) Fx.F_unlike sc_unlike rfl Fx.tk_unlike (TBx.h _ (List.mem_of_getElem? (i := 6) (show (tcs Fx)[6]? = some (codeA K Fx.a_unlike, tabA K Fx.a_unlike) from rfl))) (List.mem_of_getElem? (i := 6) (show (tbs Fx)[6]? = some _ from rfl)) (nodup_snd (l := tbs Fx) Fx.td (i := 6) rfl) rfl rfl rfl (show ∀ y ∈ (lmL 6).scope.names, y.2 = NameKind.free → y.1 ∈ (["one"] : List Str) by decide +kernel) (show ∀ y ∈ (["one"] : List Str), (y, NameKind.free) ∈ (lmL 6).scope.names by decide +kernel) (show ∀ y ∈ (["one"] : List Str), (defScope s_unlike).names.lookup y = some NameKind.cell by decide +kernel) (fun _ => rfl)
theorem ok_lam : ∀ n : Nat, LOk P w K mg base (th P w Fx tb) (lamA n) (1 + n)
  | 0 => lok_no
  | n + 1 => have ih := ok_lam n
    lok_succ (p := "state") (m := 7) (LB := lbs (lamA n)) fun kk hk => match kk, hk with
    | 0, _ => ⟨show NdefX.NScope ("state" :: (lmL 0).fr) ["state"] (lmL 0).fr (lmL 0).scope from NdefX.nscope_by (by decide +kernel), fun _ _ _ _ _ => rfl, fun A outer s H f c cl hr =>
      (xe_op ok_lt (xe_op ok_ix (xe_op ok_ix (xv (pv 0)) xe_int (fun h h2 => pe_ix ix_A h h2 (fun _ _ => rfl))) (xv (pv 1)) (fun h h2 => pe_ix ix_A h h2 (fun _ _ => rfl))) (xv (pv 2)) (fun h h2 => pe_cmpR op_lt h h2 (nomark _)))⟩
    | 1, _ => ⟨show NdefX.NScope ("state" :: (lmL 1).fr) ["state"] (lmL 1).fr (lmL 1).scope from NdefX.nscope_by (by decide +kernel), fun _ _ _ _ _ => rfl, fun A outer s H f c cl hr =>
      (xe_callS (ok_has_room Fx TBx) rfl (la1 (la1 la0)) (xl_cons (xe_op ok_ix (xv (pv 0)) xe_int (fun h h2 => pe_ix ix_A h h2 (fun _ _ => rfl))) (xl_cons (xv (pv 1)) xl_nil (fun h h2 => pa_cons h h2)) (fun h h2 => pa_cons h h2)) (fun h => pe_callS (ok_has_room Fx TBx) (hr.mono (by first | omega | (simp only [Nat.add_eq]; omega))) (by rfl) Fx.g_has_room Fx.F_has_room.kp Fx.b_has_room (fun σ => passAt L2.takes0 σ) h))⟩
    | 2, _ => ⟨show NdefX.NScope ("state" :: (lmL 2).fr) ["state"] (lmL 2).fr (lmL 2).scope from NdefX.nscope_by (by decide +kernel), fun _ _ _ _ _ => rfl, fun A outer s H f c cl hr =>
      (xe_op ok_eq (xe_op ok_ix (xe_op ok_ix (xv (pv 0)) xe_int (fun h h2 => pe_ix ix_A h h2 (fun _ _ => rfl))) (xv (pv 1)) (fun h h2 => pe_ix ix_A h h2 (fun _ _ => rfl))) xe_int (fun h h2 => pe_cmpR (op_eqD hr.units) h h2 (nomark _)))⟩
    | 3, _ => ⟨show NdefX.NScope ("state" :: (lmL 3).fr) ["state"] (lmL 3).fr (lmL 3).scope from NdefX.nscope_by (by decide +kernel), fun _ _ _ _ _ => rfl, fun A outer s H f c cl hr =>
      (xe_op ok_ge (xe_op ok_ix (xv (pv 0)) xe_int (fun h h2 => pe_ix ix_A h h2 (fun _ _ => rfl))) (xv (pv 1)) (fun h h2 => pe_cmpR op_ge h h2 (nomark _)))⟩
    | 4, _ => ⟨show NdefX.NScope ("state" :: (lmL 4).fr) ["state"] (lmL 4).fr (lmL 4).scope from NdefX.nscope_by (by decide +kernel), fun _ _ _ _ _ => rfl, fun A outer s H f c cl hr =>
      (xe_and (xe_callV (i := 1) (show LOk P w K mg base (th P w Fx tb).bare _ _ from ih) hr (Nat.le_refl _) rfl (by first | exact Or.inl rfl | exact Or.inr (Or.inl rfl) | exact Or.inr (Or.inr rfl)) rep_s (xv (pv 0))) (xe_and1 (xe_callV (i := 2) (show LOk P w K mg base (th P w Fx tb).bare _ _ from ih) hr (Nat.le_refl _) rfl (by first | exact Or.inl rfl | exact Or.inr (Or.inl rfl) | exact Or.inr (Or.inr rfl)) rep_s (xv (pv 0)))))⟩
    | 5, _ => ⟨show NdefX.NScope ("state" :: (lmL 5).fr) ["state"] (lmL 5).fr (lmL 5).scope from NdefX.nscope_by (by decide +kernel), fun _ _ _ _ _ => rfl, fun A outer s H f c cl hr =>
      (xe_or (xe_callV (i := 1) (show LOk P w K mg base (th P w Fx tb).bare _ _ from ih) hr (Nat.le_refl _) rfl (by first | exact Or.inl rfl | exact Or.inr (Or.inl rfl) | exact Or.inr (Or.inr rfl)) rep_s (xv (pv 0))) (xe_and1 (xe_callV (i := 2) (show LOk P w K mg base (th P w Fx tb).bare _ _ from ih) hr (Nat.le_refl _) rfl (by first | exact Or.inl rfl | exact Or.inr (Or.inl rfl) | exact Or.inr (Or.inr rfl)) rep_s (xv (pv 0)))))⟩
    | 6, _ => ⟨show NdefX.NScope ("state" :: (lmL 6).fr) ["state"] (lmL 6).fr (lmL 6).scope from NdefX.nscope_by (by decide +kernel), fun _ _ _ _ _ => rfl, fun A outer s H f c cl hr =>
      (xe_not (xe_callV (i := 1) (show LOk P w K mg base (th P w Fx tb).bare _ _ from ih) hr (Nat.le_refl _) rfl (by first | exact Or.inl rfl | exact Or.inr (Or.inl rfl) | exact Or.inr (Or.inr rfl)) rep_s (xv (pv 0))))⟩
    | kk + 7, h => absurd h (by omega)
theorem ok__law_stream : FnOk P w K mg base (L2.CX P w) 1 Fx.a__law_stream Fx.d__law_stream ["_law_cell", "_law_many"] (spD (th P w Fx tb) 2 (sgS 2) f__law_stream) :=
  fn_okSR (N := N__law_stream) (B := m__law_stream) (Γ' := (ΓS 5)) (okRule_fun Fx.F__law_stream) sc__law_stream rfl (by decide) fun cdv A outer s H E hr =>
    (xb_cons (xs_own (Γ' := [.s, .s, .o 1, .s, .s]) (i := 2) (k := 1) gp_s (by decide) (xf_lst xl_nil) (fun h => ps_set (i := 2) (sc__law_stream).nd rfl (Or.inl rfl) h) rfl)
    (xb_cons (xs_set (Γ' := [.s, .s, .o 1, .s, .s]) (i := 3) gp_s (xe_op ok_add (xe_op ok_mod (xe_var (pv 0) rfl) xe_int (fun h h2 => pe_op op_mod h h2)) xe_int (fun h h2 => pe_op op_addA h h2)) (fun h => ps_set (i := 3) (sc__law_stream).nd rfl (Or.inl rfl) h) rfl)
    (xb_cons (xs_for (is := [4]) gp_s (passes_of rfl) rfl (xi_range1 (xl_cons (xe_op ok_add (xe_var (pv 1) rfl) xe_int (fun h h2 => pe_op op_addA h h2)) xl_nil (fun h h2 => pa_cons h h2)) (fun h => pi_range1 (by rfl) Fx.z_range h)) (pg_name (i := 4) (sc__law_stream).nd rfl (Or.inl rfl)) (tg_name rfl) (xb_cons (xs_set (Γ' := [.s, .s, .o 1, .s, .s]) (i := 3) gp_s (xe_op ok_mod (xe_op ok_add (xe_op ok_add (xe_op ok_mul (xe_var (pv 3) rfl) xe_int (fun h h2 => pe_op op_mulA h h2)) (xe_op ok_mul (xe_op ok_mul xe_int (xe_var (pv 4) rfl) (fun h h2 => pe_op op_mulA h h2)) (xe_var (pv 4) rfl) (fun h h2 => pe_op op_mulA h h2)) (fun h h2 => pe_op op_addA h h2)) xe_int (fun h h2 => pe_op op_addA h h2)) xe_int (fun h h2 => pe_op op_mod h h2)) (fun h => ps_set (i := 3) (sc__law_stream).nd rfl (Or.inl rfl) h) rfl)
    (xb_one (xs_mut (i := 2) rfl gp_s trivial ok_append (xl_cons (xe_op ok_div (xe_var (pv 3) rfl) xe_int (fun h h2 => pe_op op_fdivA h h2)) xl_nil (fun h h2 => pa_cons h h2)) (fun h => ps_expr (pe_bm PySem.F.plainAttrs_list PySem.F.slot_list_append PySem.F.type_list_append mt_append (pv 2) h))))))
    (xb_frz (i := 2) (k := 1) (Γ1 := (ΓS 5)) rfl rfl (xb_one (xs_ret gp_s gp_s rfl (xe_sl rfl (xv (pv 2)) (XBd.some xe_int) XBd.none) (fun h => ps_ret h)))))))
theorem ok__law_cell_at : FnOk P w K mg base (L2.CX P w) 1 Fx.a__law_cell_at Fx.d__law_cell_at ["_law_script", "_law_k"] (spD (th P w Fx tb) 2 (sgS 2) f__law_cell_at) :=
  fn_okSR (N := N__law_cell_at) (B := m__law_cell_at) (Γ' := (ΓS 2)) (okRule_fun Fx.F__law_cell_at) sc__law_cell_at rfl (by decide) fun cdv A outer s H E hr =>
    (xb_cons (xs_if gp_s (xt_op ok_lt (xv (pv 1)) (xe_L ok_len (xl_cons (xv (pv 0)) xl_nil (fun h h2 => pa_cons h h2)) (fun h => pe_callB call_lenA (by rfl) Fx.z_len PySem.boot_len h)) (fun h h2 => pt_cmpR op_lt h h2 (nomark _))) (xb_one (xs_ret gp_s gp_s rfl (xe_op ok_ix (xv (pv 0)) (xv (pv 1)) (fun h h2 => pe_ix ix_A h h2 (fun _ _ => rfl))) (fun h => ps_ret h)))
    xb_nil)
    (xb_one (xs_ret gp_s gp_s rfl xe_int (fun h => ps_ret h))))
theorem ok__law_state : FnOk P w K mg base (L2.CX P w) 1 Fx.a__law_state Fx.d__law_state ["_law_xs", "_law_rooms"] (spD (th P w Fx tb) 2 (sgS 2) f__law_state) :=
  fn_okSR (N := N__law_state) (B := m__law_state) (Γ' := (ΓS 6)) (okRule_fun Fx.F__law_state) sc__law_state rfl (by decide) fun cdv A outer s H E hr =>
    (xb_cons (xs_set (i := 2) gp_s (xe_un ok_tuple (xe_lc (own := [("_law_k", 5)]) (is := [5]) rfl (sc__law_state).nd (xif_of (xi_range1 (xl_cons (xv (pv 1)) xl_nil (fun h h2 => pa_cons h h2)) (fun h => pi_range1 (by rfl) Fx.z_range h))) (blkOk_by (own := [("_law_k", 5)]) (N := N__law_state) (sc := defScope s__law_state) (by decide +kernel)) (by decide) (fun _ _ _ _ _ => (pg_name (i := 5) (sc__law_state).nd rfl (Or.inl rfl))) (tg_name set_rep) (fun _ _ _ _ _ => xts_nil) (fun _ _ _ _ _ => (xe_op ok_mod (xe_op ok_ix (xv (pv 0)) (xv (pv 5)) (fun h h2 => pe_ix ix_A h h2 (fun _ _ => rfl))) xe_int (fun h h2 => pe_op op_mod h h2)))) (fun h => pe_callTy call_tuple_of (by rfl) Fx.z_tuple PyProof.Rows.boot_tuple (pa_cons h pa_nil))) (fun h => ps_set (i := 2) (sc__law_state).nd rfl (Or.inl rfl) h) set_rep)
    (xb_cons (xs_set (i := 3) gp_s (xe_un ok_tuple (xe_lc (own := [("_law_k", 5)]) (is := [5]) rfl (sc__law_state).nd (xif_of (xi_range1 (xl_cons (xv (pv 1)) xl_nil (fun h h2 => pa_cons h h2)) (fun h => pi_range1 (by rfl) Fx.z_range h))) (blkOk_by (own := [("_law_k", 5)]) (N := N__law_state) (sc := defScope s__law_state) (by decide +kernel)) (by decide) (fun _ _ _ _ _ => (pg_name (i := 5) (sc__law_state).nd rfl (Or.inl rfl))) (tg_name set_rep) (fun _ _ _ _ _ => xts_nil) (fun _ _ _ _ _ => (xe_op ok_mod (xe_op ok_div (xe_op ok_ix (xv (pv 0)) (xv (pv 5)) (fun h h2 => pe_ix ix_A h h2 (fun _ _ => rfl))) xe_int (fun h h2 => pe_op op_fdivA h h2)) xe_int (fun h h2 => pe_op op_mod h h2)))) (fun h => pe_callTy call_tuple_of (by rfl) Fx.z_tuple PyProof.Rows.boot_tuple (pa_cons h pa_nil))) (fun h => ps_set (i := 3) (sc__law_state).nd rfl (Or.inl rfl) h) set_rep)
    (xb_cons (xs_set (i := 4) gp_s (xe_un ok_tuple (xe_lc (own := [("_law_k", 5)]) (is := [5]) rfl (sc__law_state).nd (xif_of (xi_range1 (xl_cons (xv (pv 1)) xl_nil (fun h h2 => pa_cons h h2)) (fun h => pi_range1 (by rfl) Fx.z_range h))) (blkOk_by (own := [("_law_k", 5)]) (N := N__law_state) (sc := defScope s__law_state) (by decide +kernel)) (by decide) (fun _ _ _ _ _ => (pg_name (i := 5) (sc__law_state).nd rfl (Or.inl rfl))) (tg_name set_rep) (fun _ _ _ _ _ => xts_nil) (fun _ _ _ _ _ => (xe_op ok_mod (xe_op ok_div (xe_op ok_ix (xv (pv 0)) (xv (pv 5)) (fun h h2 => pe_ix ix_A h h2 (fun _ _ => rfl))) xe_int (fun h h2 => pe_op op_fdivA h h2)) xe_int (fun h h2 => pe_op op_mod h h2)))) (fun h => pe_callTy call_tuple_of (by rfl) Fx.z_tuple PyProof.Rows.boot_tuple (pa_cons h pa_nil))) (fun h => ps_set (i := 4) (sc__law_state).nd rfl (Or.inl rfl) h) set_rep)
    (xb_one (xs_ret gp_s gp_s rfl (xe_tup (xl_cons (xv (pv 2)) (xl_cons (xe_op ok_mod (xe_op ok_mod (xe_op ok_ix (xv (pv 0)) xe_int (fun h h2 => pe_ix ix_A h h2 (fun _ _ => rfl))) xe_int (fun h h2 => pe_op op_mod h h2)) (xe_op ok_ix (xe_lst (xl_cons xe_int (xl_cons xe_int (xl_cons xe_int (xl_cons xe_int xl_nil (fun h h2 => pa_cons h h2)) (fun h h2 => pa_cons h h2)) (fun h h2 => pa_cons h h2)) (fun h h2 => pa_cons h h2))) (xe_op ok_sub (xv (pv 1)) xe_int (fun h h2 => pe_op op_sub h h2)) (fun h h2 => pe_ix ix_A h h2 (fun _ _ => rfl))) (fun h h2 => pe_op op_mod h h2)) (xl_cons (xv (pv 3)) (xl_cons (xv (pv 4)) (xl_cons (xe_op ok_mod (xe_op ok_ix (xv (pv 0)) xe_int (fun h h2 => pe_ix ix_A h h2 (fun _ _ => rfl))) xe_int (fun h h2 => pe_op op_mod h h2)) xl_nil (fun h h2 => pa_cons h h2)) (fun h h2 => pa_cons h h2)) (fun h h2 => pa_cons h h2)) (fun h h2 => pa_cons h h2)) (fun h h2 => pa_cons h h2))) (fun h => ps_ret h))))))
theorem ok__law_leaf : FnOk P w K mg base (L2.CX P w) 1 Fx.a__law_leaf Fx.d__law_leaf ["_law_xs", "_law_rooms"] (spD (th P w Fx tb) 2 (sgS 2) f__law_leaf) :=
  fn_okSR (N := N__law_leaf) (B := m__law_leaf) (Γ' := (ΓS 4)) (okRule_fun Fx.F__law_leaf) sc__law_leaf rfl (by decide) fun cdv A outer s H E hr =>
    (xb_cons (xs_set (i := 2) gp_s (xe_op ok_mod (xe_op ok_ix (xv (pv 0)) xe_int (fun h h2 => pe_ix ix_A h h2 (fun _ _ => rfl))) (xv (pv 1)) (fun h h2 => pe_op op_mod h h2)) (fun h => ps_set (i := 2) (sc__law_leaf).nd rfl (Or.inl rfl) h) set_rep)
    (xb_cons (xs_set (i := 3) gp_s (xe_op ok_mod (xe_op ok_mul (xe_op ok_ix (xv (pv 0)) xe_int (fun h h2 => pe_ix ix_A h h2 (fun _ _ => rfl))) (xe_op ok_add (xe_op ok_pow xe_int xe_int (fun h h2 => pe_op op_pow h h2)) xe_int (fun h h2 => pe_op op_addA h h2)) (fun h h2 => pe_op op_mulA h h2)) (xe_op ok_pow xe_int xe_int (fun h h2 => pe_op op_pow h h2)) (fun h h2 => pe_op op_mod h h2)) (fun h => ps_set (i := 3) (sc__law_leaf).nd rfl (Or.inl rfl) h) set_rep)
    (xb_cons (xs_if gp_s (xt_op ok_eq (xe_op ok_mod (xe_op ok_ix (xv (pv 0)) xe_int (fun h h2 => pe_ix ix_A h h2 (fun _ _ => rfl))) xe_int (fun h h2 => pe_op op_mod h h2)) xe_int (fun h h2 => pt_cmpR (op_eqD hr.units) h h2 (nomark _))) (xb_one (xs_ret gp_s gp_s rfl (xe_tup (xl_cons xe_str (xl_cons (xv (pv 2)) (xl_cons (xe_op ok_sub (xe_op ok_ix (xe_lst (xl_cons (xe_op ok_mod (xe_op ok_ix (xv (pv 0)) xe_int (fun h h2 => pe_ix ix_A h h2 (fun _ _ => rfl))) xe_int (fun h h2 => pe_op op_mod h h2)) (xl_cons (xe_op ok_mod (xe_op ok_ix (xv (pv 0)) xe_int (fun h h2 => pe_ix ix_A h h2 (fun _ _ => rfl))) xe_int (fun h h2 => pe_op op_mod h h2)) (xl_cons (xv (pv 3)) xl_nil (fun h h2 => pa_cons h h2)) (fun h h2 => pa_cons h h2)) (fun h h2 => pa_cons h h2))) (xe_op ok_mod (xe_op ok_ix (xv (pv 0)) xe_int (fun h h2 => pe_ix ix_A h h2 (fun _ _ => rfl))) xe_int (fun h h2 => pe_op op_mod h h2)) (fun h h2 => pe_ix ix_A h h2 (fun _ _ => rfl))) (xe_op ok_mod (xe_op ok_div (xe_op ok_ix (xv (pv 0)) xe_int (fun h h2 => pe_ix ix_A h h2 (fun _ _ => rfl))) xe_int (fun h h2 => pe_op op_fdivA h h2)) xe_int (fun h h2 => pe_op op_mod h h2)) (fun h h2 => pe_op op_sub h h2)) xl_nil (fun h h2 => pa_cons h h2)) (fun h h2 => pa_cons h h2)) (fun h h2 => pa_cons h h2))) (fun h => ps_ret h)))
    xb_nil)
    (xb_cons (xs_if gp_s (xt_op ok_eq (xe_op ok_mod (xe_op ok_ix (xv (pv 0)) xe_int (fun h h2 => pe_ix ix_A h h2 (fun _ _ => rfl))) xe_int (fun h h2 => pe_op op_mod h h2)) xe_int (fun h h2 => pt_cmpR (op_eqD hr.units) h h2 (nomark _))) (xb_one (xs_ret gp_s gp_s rfl (xe_tup (xl_cons xe_str (xl_cons (xv (pv 2)) (xl_cons xe_int xl_nil (fun h h2 => pa_cons h h2)) (fun h h2 => pa_cons h h2)) (fun h h2 => pa_cons h h2))) (fun h => ps_ret h)))
    xb_nil)
    (xb_cons (xs_if gp_s (xt_op ok_eq (xe_op ok_mod (xe_op ok_ix (xv (pv 0)) xe_int (fun h h2 => pe_ix ix_A h h2 (fun _ _ => rfl))) xe_int (fun h h2 => pe_op op_mod h h2)) xe_int (fun h h2 => pt_cmpR (op_eqD hr.units) h h2 (nomark _))) (xb_one (xs_ret gp_s gp_s rfl (xe_tup (xl_cons xe_str (xl_cons (xv (pv 2)) (xl_cons xe_int xl_nil (fun h h2 => pa_cons h h2)) (fun h h2 => pa_cons h h2)) (fun h h2 => pa_cons h h2))) (fun h => ps_ret h)))
    xb_nil)
    (xb_one (xs_ret gp_s gp_s rfl (xe_tup (xl_cons xe_str (xl_cons xe_int (xl_cons (xe_op ok_sub (xe_op ok_ix (xe_lst (xl_cons (xe_op ok_mod (xe_op ok_ix (xv (pv 0)) xe_int (fun h h2 => pe_ix ix_A h h2 (fun _ _ => rfl))) xe_int (fun h h2 => pe_op op_mod h h2)) (xl_cons (xe_op ok_mod (xe_op ok_ix (xv (pv 0)) xe_int (fun h h2 => pe_ix ix_A h h2 (fun _ _ => rfl))) xe_int (fun h h2 => pe_op op_mod h h2)) (xl_cons (xv (pv 3)) xl_nil (fun h h2 => pa_cons h h2)) (fun h h2 => pa_cons h h2)) (fun h h2 => pa_cons h h2))) (xe_op ok_mod (xe_op ok_ix (xv (pv 0)) xe_int (fun h h2 => pe_ix ix_A h h2 (fun _ _ => rfl))) xe_int (fun h h2 => pe_op op_mod h h2)) (fun h h2 => pe_ix ix_A h h2 (fun _ _ => rfl))) (xe_op ok_mod (xe_op ok_div (xe_op ok_ix (xv (pv 0)) xe_int (fun h h2 => pe_ix ix_A h h2 (fun _ _ => rfl))) xe_int (fun h h2 => pe_op op_fdivA h h2)) xe_int (fun h h2 => pe_op op_mod h h2)) (fun h h2 => pe_op op_sub h h2)) xl_nil (fun h h2 => pa_cons h h2)) (fun h h2 => pa_cons h h2)) (fun h h2 => pa_cons h h2))) (fun h => ps_ret h))))))))
theorem ok__law_made_leaf : FnOk P w K mg base (L2.CX P w) 2 Fx.a__law_made_leaf Fx.d__law_made_leaf ["_law_leaf_here"] (spD (th P w Fx (tbs Fx)) 1 (sgS 1) f__law_made_leaf) :=
  fn_okSR (N := N__law_made_leaf) (B := m__law_made_leaf) (Γ' := (ΓS 1)) (okRule_fun Fx.F__law_made_leaf) sc__law_made_leaf rfl (by decide) fun cdv A outer s H E hr =>
    (xb_cons (xs_if gp_s (xt_op ok_eq (xe_op ok_ix (xv (pv 0)) xe_int (fun h h2 => pe_ix ix_A h h2 (fun _ _ => rfl))) xe_str (fun h h2 => pt_cmpR (op_eqD hr.units) h h2 (nomark _))) (xb_one (xs_ret gp_s gp_s rfl (xe_callS (ok_colder Fx TBx) rfl (la1 (la1 la0)) (xl_cons (xe_op ok_ix (xv (pv 0)) xe_int (fun h h2 => pe_ix ix_A h h2 (fun _ _ => rfl))) (xl_cons (xe_op ok_ix (xv (pv 0)) xe_int (fun h h2 => pe_ix ix_A h h2 (fun _ _ => rfl))) xl_nil (fun h h2 => pa_cons h h2)) (fun h h2 => pa_cons h h2)) (fun h => pe_callS (ok_colder Fx TBx) (hr.mono (by decide)) (by rfl) Fx.g_colder Fx.F_colder.kp Fx.b_colder (fun σ => passAt (takes_of rfl rfl rfl rfl) σ) h)) (fun h => ps_ret h)))
    xb_nil)
    (xb_cons (xs_if gp_s (xt_op ok_eq (xe_op ok_ix (xv (pv 0)) xe_int (fun h h2 => pe_ix ix_A h h2 (fun _ _ => rfl))) xe_str (fun h h2 => pt_cmpR (op_eqD hr.units) h h2 (nomark _))) (xb_one (xs_ret gp_s gp_s rfl (xe_callS (ok_burns Fx TBx) rfl (la1 la0) (xl_cons (xe_op ok_ix (xv (pv 0)) xe_int (fun h h2 => pe_ix ix_A h h2 (fun _ _ => rfl))) xl_nil (fun h h2 => pa_cons h h2)) (fun h => pe_callS (ok_burns Fx TBx) (hr.mono (by decide)) (by rfl) Fx.g_burns Fx.F_burns.kp Fx.b_burns (fun σ => passAt (takes_of rfl rfl rfl rfl) σ) h)) (fun h => ps_ret h)))
    xb_nil)
    (xb_cons (xs_if gp_s (xt_op ok_eq (xe_op ok_ix (xv (pv 0)) xe_int (fun h h2 => pe_ix ix_A h h2 (fun _ _ => rfl))) xe_str (fun h h2 => pt_cmpR (op_eqD hr.units) h h2 (nomark _))) (xb_one (xs_ret gp_s gp_s rfl (xe_callS (ok_rested Fx TBx) rfl (la1 la0) (xl_cons (xe_op ok_ix (xv (pv 0)) xe_int (fun h h2 => pe_ix ix_A h h2 (fun _ _ => rfl))) xl_nil (fun h h2 => pa_cons h h2)) (fun h => pe_callS (ok_rested Fx TBx) (hr.mono (by decide)) (by rfl) Fx.g_rested Fx.F_rested.kp Fx.b_rested (fun σ => passAt (takes_of rfl rfl rfl rfl) σ) h)) (fun h => ps_ret h)))
    xb_nil)
    (xb_one (xs_ret gp_s gp_s rfl (xe_callS (ok_stocked Fx TBx) rfl (la1 la0) (xl_cons (xe_op ok_ix (xv (pv 0)) xe_int (fun h h2 => pe_ix ix_A h h2 (fun _ _ => rfl))) xl_nil (fun h h2 => pa_cons h h2)) (fun h => pe_callS (ok_stocked Fx TBx) (hr.mono (by decide)) (by rfl) Fx.g_stocked Fx.F_stocked.kp Fx.b_stocked (fun σ => passAt (takes_of rfl rfl rfl rfl) σ) h)) (fun h => ps_ret h))))))
theorem ok__law_in_bits : FnOk P w K mg base (L2.CX P w) 1 Fx.a__law_in_bits Fx.d__law_in_bits ["_law_bits", "_law_room"] (spD (th P w Fx tb) 2 (sgS 2) f__law_in_bits) :=
  fn_okSR (N := N__law_in_bits) (B := m__law_in_bits) (Γ' := (ΓS 3)) (okRule_fun Fx.F__law_in_bits) sc__law_in_bits rfl (by decide) fun cdv A outer s H E hr =>
    (xb_cons (xs_for (is := [2]) gp_s (passes_of rfl) rfl (xi_range1 (xl_cons (xv (pv 1)) xl_nil (fun h h2 => pa_cons h h2)) (fun h => pi_range1 (by rfl) Fx.z_range h)) (pg_name (i := 2) (sc__law_in_bits).nd rfl (Or.inl rfl)) (tg_name set_rep) (xb_one (xs_set (i := 0) gp_s (xe_op ok_div (xv (pv 0)) xe_int (fun h h2 => pe_op op_fdivA h h2)) (fun h => ps_set (i := 0) (sc__law_in_bits).nd rfl (Or.inl rfl) h) set_rep)))
    (xb_one (xs_ret gp_s gp_s rfl (xe_op ok_eq (xe_op ok_mod (xv (pv 0)) xe_int (fun h h2 => pe_op op_mod h h2)) xe_int (fun h h2 => pe_cmpR (op_eqD hr.units) h h2 (nomark _))) (fun h => ps_ret h))))
theorem ok__law_holds : FnOk P w K mg base (L2.CX P w) 2 Fx.a__law_holds Fx.d__law_holds ["_law_leaf_here", "_law_state_here"] (spD (th P w Fx tb) 2 (sgS 2) f__law_holds) :=
  fn_okSR (N := N__law_holds) (B := m__law_holds) (Γ' := (ΓS 2)) (okRule_fun Fx.F__law_holds) sc__law_holds rfl (by decide) fun cdv A outer s H E hr =>
    (xb_cons (xs_if gp_s (xt_op ok_eq (xe_op ok_ix (xv (pv 0)) xe_int (fun h h2 => pe_ix ix_A h h2 (fun _ _ => rfl))) xe_str (fun h h2 => pt_cmpR (op_eqD hr.units) h h2 (nomark _))) (xb_one (xs_ret gp_s gp_s rfl (xe_op ok_lt (xe_op ok_ix (xe_op ok_ix (xv (pv 1)) xe_int (fun h h2 => pe_ix ix_A h h2 (fun _ _ => rfl))) (xe_op ok_ix (xv (pv 0)) xe_int (fun h h2 => pe_ix ix_A h h2 (fun _ _ => rfl))) (fun h h2 => pe_ix ix_A h h2 (fun _ _ => rfl))) (xe_op ok_ix (xv (pv 0)) xe_int (fun h h2 => pe_ix ix_A h h2 (fun _ _ => rfl))) (fun h h2 => pe_cmpR op_lt h h2 (nomark _))) (fun h => ps_ret h)))
    xb_nil)
    (xb_cons (xs_if gp_s (xt_op ok_eq (xe_op ok_ix (xv (pv 0)) xe_int (fun h h2 => pe_ix ix_A h h2 (fun _ _ => rfl))) xe_str (fun h h2 => pt_cmpR (op_eqD hr.units) h h2 (nomark _))) (xb_one (xs_ret gp_s gp_s rfl (xe_callS (ok__law_in_bits Fx TBx) rfl (la1 (la1 la0)) (xl_cons (xe_op ok_ix (xv (pv 1)) xe_int (fun h h2 => pe_ix ix_A h h2 (fun _ _ => rfl))) (xl_cons (xe_op ok_ix (xv (pv 0)) xe_int (fun h h2 => pe_ix ix_A h h2 (fun _ _ => rfl))) xl_nil (fun h h2 => pa_cons h h2)) (fun h h2 => pa_cons h h2)) (fun h => pe_callS (ok__law_in_bits Fx TBx) (hr.mono (by decide)) (by rfl) Fx.g__law_in_bits Fx.F__law_in_bits.kp Fx.b__law_in_bits (fun σ => passAt (takes_of rfl rfl rfl rfl) σ) h)) (fun h => ps_ret h)))
    xb_nil)
    (xb_cons (xs_if gp_s (xt_op ok_eq (xe_op ok_ix (xv (pv 0)) xe_int (fun h h2 => pe_ix ix_A h h2 (fun _ _ => rfl))) xe_str (fun h h2 => pt_cmpR (op_eqD hr.units) h h2 (nomark _))) (xb_one (xs_ret gp_s gp_s rfl (xe_op ok_eq (xe_op ok_ix (xe_op ok_ix (xv (pv 1)) xe_int (fun h h2 => pe_ix ix_A h h2 (fun _ _ => rfl))) (xe_op ok_ix (xv (pv 0)) xe_int (fun h h2 => pe_ix ix_A h h2 (fun _ _ => rfl))) (fun h h2 => pe_ix ix_A h h2 (fun _ _ => rfl))) xe_int (fun h h2 => pe_cmpR (op_eqD hr.units) h h2 (nomark _))) (fun h => ps_ret h)))
    xb_nil)
    (xb_one (xs_ret gp_s gp_s rfl (xe_op ok_ge (xe_op ok_ix (xv (pv 1)) xe_int (fun h h2 => pe_ix ix_A h h2 (fun _ _ => rfl))) (xe_op ok_ix (xv (pv 0)) xe_int (fun h h2 => pe_ix ix_A h h2 (fun _ _ => rfl))) (fun h h2 => pe_cmpR op_ge h h2 (nomark _))) (fun h => ps_ret h))))))
theorem ok__law_more__p : FnOk P w K mg base (L2.CX P w) 3 Fx.a__law_more__p Fx.d__law_more__p ["_law_xs", "_law_some", "_law_rooms", "_law_states"] (spD (th P w Fx (tbs Fx)) 4 ⟨[.s, .p 1, .s, .s], 0⟩ f__law_more__p) :=
  fn_okPR (N := N__law_more__p) (B := m__law_more__p) (Γ0 := [.s, .p 1, .s, .s, .s, .s, .s, .s, .s, .s, .s, .s]) (Γ' := [.s, .p 1, .s, .s, .s, .s, .s, .s, .s, .s, .s, .s]) (okRule_fun Fx.F__law_more__p) sc__law_more__p rfl (by decide) rfl rfl fun cdv A outer s H E hr =>
    (xb_cons (xs_set (Γ' := [.s, .p 1, .s, .s, .s, .s, .s, .s, .s, .s, .s, .s]) (i := 4) (gp_p rfl) (xe_op ok_mod (xe_op ok_ix (xe_var (pv 0) rfl) xe_int (fun h h2 => pe_ix ix_A h h2 (fun _ _ => rfl))) xe_int (fun h h2 => pe_op op_mod h h2)) (fun h => ps_set (i := 4) (sc__law_more__p).nd rfl (Or.inl rfl) h) rfl)
    (xb_cons (xs_set (Γ' := [.s, .p 1, .s, .s, .s, .s, .s, .s, .s, .s, .s, .s]) (i := 5) (gp_p rfl) xe_int (fun h => ps_set (i := 5) (sc__law_more__p).nd rfl (Or.inl rfl) h) rfl)
    (xb_cons (xs_if (gp_p rfl) (xt_op ok_gt (xe_flat (xq_L ok_len (xql_cons (xq_var (pv 1) (fun v h => by cases h)) xql_nil (fun h h2 => pa_cons h h2)) (fun h => pe_callB call_lenA (by rfl) Fx.z_len PySem.boot_len h))) xe_int (fun h h2 => pt_cmpR op_gt h h2 (nomark _))) (xb_one (xs_set (Γ' := [.s, .p 1, .s, .s, .s, .s, .s, .s, .s, .s, .s, .s]) (i := 5) (gp_p rfl) (xe_op ok_add (xe_op ok_add (xe_flat (xq_op ok_ix (xq_op ok_ix (xq_var (pv 1) (fun v h => by cases h)) (xq_op ok_mod (xq_op ok_ix (xq_of (xe_var (pv 0) rfl)) (xq_of xe_int) (fun h h2 => pe_ix ix_A h h2 (fun _ _ => rfl))) (xq_L ok_len (xql_cons (xq_var (pv 1) (fun v h => by cases h)) xql_nil (fun h h2 => pa_cons h h2)) (fun h => pe_callB call_lenA (by rfl) Fx.z_len PySem.boot_len h)) (fun h h2 => pe_op op_mod h h2)) (fun h h2 => pe_ix ix_A h h2 (fun _ _ => rfl))) (xq_of xe_int) (fun h h2 => pe_ix ix_A h h2 (fun _ _ => rfl)))) (xe_flat (xq_op ok_ix (xq_op ok_ix (xq_var (pv 1) (fun v h => by cases h)) (xq_op ok_mod (xq_op ok_ix (xq_of (xe_var (pv 0) rfl)) (xq_of xe_int) (fun h h2 => pe_ix ix_A h h2 (fun _ _ => rfl))) (xq_L ok_len (xql_cons (xq_var (pv 1) (fun v h => by cases h)) xql_nil (fun h h2 => pa_cons h h2)) (fun h => pe_callB call_lenA (by rfl) Fx.z_len PySem.boot_len h)) (fun h h2 => pe_op op_mod h h2)) (fun h h2 => pe_ix ix_A h h2 (fun _ _ => rfl))) (xq_of xe_int) (fun h h2 => pe_ix ix_A h h2 (fun _ _ => rfl)))) (fun h h2 => pe_op op_addA h h2)) xe_int (fun h h2 => pe_op op_addA h h2)) (fun h => ps_set (i := 5) (sc__law_more__p).nd rfl (Or.inl rfl) h) rfl))
    xb_nil)
    (xb_cons (xs_if (gp_p rfl) (PW.pt (xw_or (xt_op ok_lt (xe_var (pv 4) rfl) xe_int (fun h h2 => pt_cmpR op_lt h h2 (nomark _))) (xw_or1 (xt_op ok_gt (xe_var (pv 5) rfl) xe_int (fun h h2 => pt_cmpR op_gt h h2 (nomark _)))))) (xb_cons (xs_set (Γ' := [.s, .p 1, .s, .s, .s, .s, .s, .s, .s, .s, .s, .s]) (i := 8) (gp_p rfl) (xe_callS (ok__law_leaf Fx TBx) rfl (la1 (la1 la0)) (xl_cons (xe_sl rfl (xe_var (pv 0) rfl) (XBd.some xe_int) XBd.none) (xl_cons (xe_var (pv 2) rfl) xl_nil (fun h h2 => pa_cons h h2)) (fun h h2 => pa_cons h h2)) (fun h => pe_callS (ok__law_leaf Fx TBx) (hr.mono (by decide)) (by rfl) Fx.g__law_leaf Fx.F__law_leaf.kp Fx.b__law_leaf (fun σ => passAt (takes_of rfl rfl rfl rfl) σ) h)) (fun h => ps_set (i := 8) (sc__law_more__p).nd rfl (Or.inr rfl) h) rfl)
    (xb_one (xs_ret (gp_p rfl) (gp_p rfl) rfl (xe_tup (xl_cons (xe_callS (ok__law_made_leaf Fx TBx) rfl (la1 la0) (xl_cons (xe_var (pv 8) rfl) xl_nil (fun h h2 => pa_cons h h2)) (fun h => pe_callS (ok__law_made_leaf Fx TBx) (hr.mono (by decide)) (by rfl) Fx.g__law_made_leaf Fx.F__law_made_leaf.kp Fx.b__law_made_leaf (fun σ => passAt (takes_of rfl rfl rfl rfl) σ) h)) (xl_cons (xe_lc (own := [("_law_state_here", 10)]) (is := [10]) rfl (sc__law_more__p).nd (xif_of (xi_seq rfl (xe_var (pv 3) rfl))) (blkOk_by (own := [("_law_state_here", 10)]) (N := N__law_more__p) (sc := defScope s__law_more__p) (by decide +kernel)) (by decide) (fun _ _ _ _ _ => (pg_name (i := 10) (sc__law_more__p).nd rfl (Or.inl rfl))) (tg_name rfl) (fun _ _ _ _ _ => xts_nil) (fun _ _ _ _ _ => (xe_callS (ok__law_holds Fx TBx) rfl (la1 (la1 la0)) (xl_cons (xe_var (pv 8) rfl) (xl_cons (xe_var (pv 10) rfl) xl_nil (fun h h2 => pa_cons h h2)) (fun h h2 => pa_cons h h2)) (fun h => pe_callS (ok__law_holds Fx TBx) (hr.mono (by decide)) (by rfl) Fx.g__law_holds Fx.F__law_holds.kp Fx.b__law_holds (fun σ => passAt takes0 σ) h)))) (xl_cons xe_int xl_nil (fun h h2 => pa_cons h h2)) (fun h h2 => pa_cons h h2)) (fun h h2 => pa_cons h h2))) (fun h => ps_ret h))))
    xb_nil)
    (xb_cons (xs_set (Γ' := [.s, .p 1, .s, .s, .s, .s, .s, .s, .s, .s, .s, .s]) (i := 6) (gp_p rfl) (xe_ofC (xc_oix (i := 1) trivial (pv 1) (xc_op ok_mod (xc_op ok_ix (xc_var (pv 0) rfl) xc_int (fun h h2 => pe_ix ix_A h h2 (fun _ _ => rfl))) (xc_flat (xv_L ok_len (xvl_cons (xv_var (pv 1) (fun v h => by cases h)) xvl_nil (fun h h2 => pa_cons h h2)) (fun h => pe_callB call_lenA (by rfl) Fx.z_len PySem.boot_len h))) (fun h h2 => pe_op op_mod h h2)) (fun h h2 => pe_ix ix_A h h2 (fun _ _ => rfl)))) (fun h => ps_set (i := 6) (sc__law_more__p).nd rfl (Or.inr rfl) h) rfl)
    (xb_cons (xs_if (gp_p rfl) (xt_op ok_eq (xe_var (pv 4) rfl) xe_int (fun h h2 => pt_cmpR (op_eqD hr.units) h h2 (nomark _))) (xb_one (xs_ret (gp_p rfl) (gp_p rfl) rfl (xe_tup (xl_cons (xe_callS (ok_unlike Fx TBx) rfl (la1 la0) (xl_cons (xe_op ok_ix (xe_var (pv 6) rfl) xe_int (fun h h2 => pe_ix ix_A h h2 (fun _ _ => rfl))) xl_nil (fun h h2 => pa_cons h h2)) (fun h => pe_callS (ok_unlike Fx TBx) (hr.mono (by decide)) (by rfl) Fx.g_unlike Fx.F_unlike.kp Fx.b_unlike (fun σ => passAt (takes_of rfl rfl rfl rfl) σ) h)) (xl_cons (xe_lc (own := [("_law_truth", 11)]) (is := [11]) rfl (sc__law_more__p).nd (xif_of (xi_seq rfl (xe_op ok_ix (xe_var (pv 6) rfl) xe_int (fun h h2 => pe_ix ix_A h h2 (fun _ _ => rfl))))) (blkOk_by (own := [("_law_truth", 11)]) (N := N__law_more__p) (sc := defScope s__law_more__p) (by decide +kernel)) (by decide) (fun _ _ _ _ _ => (pg_name (i := 11) (sc__law_more__p).nd rfl (Or.inl rfl))) (tg_name rfl) (fun _ _ _ _ _ => xts_nil) (fun _ _ _ _ _ => (xe_not (xe_var (pv 11) rfl)))) (xl_cons (xe_op ok_add (xe_op ok_ix (xe_var (pv 6) rfl) xe_int (fun h h2 => pe_ix ix_A h h2 (fun _ _ => rfl))) xe_int (fun h h2 => pe_op op_addA h h2)) xl_nil (fun h h2 => pa_cons h h2)) (fun h h2 => pa_cons h h2)) (fun h h2 => pa_cons h h2))) (fun h => ps_ret h)))
    xb_nil)
    (xb_cons (xs_set (Γ' := [.s, .p 1, .s, .s, .s, .s, .s, .s, .s, .s, .s, .s]) (i := 7) (gp_p rfl) (xe_ofC (xc_oix (i := 1) trivial (pv 1) (xc_op ok_mod (xc_op ok_ix (xc_var (pv 0) rfl) xc_int (fun h h2 => pe_ix ix_A h h2 (fun _ _ => rfl))) (xc_flat (xv_L ok_len (xvl_cons (xv_var (pv 1) (fun v h => by cases h)) xvl_nil (fun h h2 => pa_cons h h2)) (fun h => pe_callB call_lenA (by rfl) Fx.z_len PySem.boot_len h))) (fun h h2 => pe_op op_mod h h2)) (fun h h2 => pe_ix ix_A h h2 (fun _ _ => rfl)))) (fun h => ps_set (i := 7) (sc__law_more__p).nd rfl (Or.inr rfl) h) rfl)
    (xb_cons (xs_if (gp_p rfl) (xt_op ok_eq (xe_var (pv 4) rfl) xe_int (fun h h2 => pt_cmpR (op_eqD hr.units) h h2 (nomark _))) (xb_one (xs_ret (gp_p rfl) (gp_p rfl) rfl (xe_tup (xl_cons (xe_callS (ok_both_of Fx TBx) rfl (la1 (la1 la0)) (xl_cons (xe_op ok_ix (xe_var (pv 6) rfl) xe_int (fun h h2 => pe_ix ix_A h h2 (fun _ _ => rfl))) (xl_cons (xe_op ok_ix (xe_var (pv 7) rfl) xe_int (fun h h2 => pe_ix ix_A h h2 (fun _ _ => rfl))) xl_nil (fun h h2 => pa_cons h h2)) (fun h h2 => pa_cons h h2)) (fun h => pe_callS (ok_both_of Fx TBx) (hr.mono (by decide)) (by rfl) Fx.g_both_of Fx.F_both_of.kp Fx.b_both_of (fun σ => passAt (takes_of rfl rfl rfl rfl) σ) h)) (xl_cons (xe_lc (own := [("_law_k", 9)]) (is := [9]) rfl (sc__law_more__p).nd (xif_of (xi_range1 (xl_cons xe_int xl_nil (fun h h2 => pa_cons h h2)) (fun h => pi_range1 (by rfl) Fx.z_range h))) (blkOk_by (own := [("_law_k", 9)]) (N := N__law_more__p) (sc := defScope s__law_more__p) (by decide +kernel)) (by decide) (fun _ _ _ _ _ => (pg_name (i := 9) (sc__law_more__p).nd rfl (Or.inl rfl))) (tg_name rfl) (fun _ _ _ _ _ => xts_nil) (fun _ _ _ _ _ => (xe_and (xe_op ok_ix (xe_op ok_ix (xe_var (pv 6) rfl) xe_int (fun h h2 => pe_ix ix_A h h2 (fun _ _ => rfl))) (xe_var (pv 9) rfl) (fun h h2 => pe_ix ix_A h h2 (fun _ _ => rfl))) (xe_and1 (xe_op ok_ix (xe_op ok_ix (xe_var (pv 7) rfl) xe_int (fun h h2 => pe_ix ix_A h h2 (fun _ _ => rfl))) (xe_var (pv 9) rfl) (fun h h2 => pe_ix ix_A h h2 (fun _ _ => rfl))))))) (xl_cons (xe_op ok_add (xe_op ok_add (xe_op ok_ix (xe_var (pv 6) rfl) xe_int (fun h h2 => pe_ix ix_A h h2 (fun _ _ => rfl))) (xe_op ok_ix (xe_var (pv 7) rfl) xe_int (fun h h2 => pe_ix ix_A h h2 (fun _ _ => rfl))) (fun h h2 => pe_op op_addA h h2)) xe_int (fun h h2 => pe_op op_addA h h2)) xl_nil (fun h h2 => pa_cons h h2)) (fun h h2 => pa_cons h h2)) (fun h h2 => pa_cons h h2))) (fun h => ps_ret h)))
    xb_nil)
    (xb_one (xs_ret (gp_p rfl) (gp_p rfl) rfl (xe_tup (xl_cons (xe_callS (ok_one_of Fx TBx) rfl (la1 (la1 la0)) (xl_cons (xe_op ok_ix (xe_var (pv 6) rfl) xe_int (fun h h2 => pe_ix ix_A h h2 (fun _ _ => rfl))) (xl_cons (xe_op ok_ix (xe_var (pv 7) rfl) xe_int (fun h h2 => pe_ix ix_A h h2 (fun _ _ => rfl))) xl_nil (fun h h2 => pa_cons h h2)) (fun h h2 => pa_cons h h2)) (fun h => pe_callS (ok_one_of Fx TBx) (hr.mono (by decide)) (by rfl) Fx.g_one_of Fx.F_one_of.kp Fx.b_one_of (fun σ => passAt (takes_of rfl rfl rfl rfl) σ) h)) (xl_cons (xe_lc (own := [("_law_k", 9)]) (is := [9]) rfl (sc__law_more__p).nd (xif_of (xi_range1 (xl_cons xe_int xl_nil (fun h h2 => pa_cons h h2)) (fun h => pi_range1 (by rfl) Fx.z_range h))) (blkOk_by (own := [("_law_k", 9)]) (N := N__law_more__p) (sc := defScope s__law_more__p) (by decide +kernel)) (by decide) (fun _ _ _ _ _ => (pg_name (i := 9) (sc__law_more__p).nd rfl (Or.inl rfl))) (tg_name rfl) (fun _ _ _ _ _ => xts_nil) (fun _ _ _ _ _ => (xe_or (xe_op ok_ix (xe_op ok_ix (xe_var (pv 6) rfl) xe_int (fun h h2 => pe_ix ix_A h h2 (fun _ _ => rfl))) (xe_var (pv 9) rfl) (fun h h2 => pe_ix ix_A h h2 (fun _ _ => rfl))) (xe_and1 (xe_op ok_ix (xe_op ok_ix (xe_var (pv 7) rfl) xe_int (fun h h2 => pe_ix ix_A h h2 (fun _ _ => rfl))) (xe_var (pv 9) rfl) (fun h h2 => pe_ix ix_A h h2 (fun _ _ => rfl))))))) (xl_cons (xe_op ok_add (xe_op ok_add (xe_op ok_ix (xe_var (pv 6) rfl) xe_int (fun h h2 => pe_ix ix_A h h2 (fun _ _ => rfl))) (xe_op ok_ix (xe_var (pv 7) rfl) xe_int (fun h h2 => pe_ix ix_A h h2 (fun _ _ => rfl))) (fun h h2 => pe_op op_addA h h2)) xe_int (fun h h2 => pe_op op_addA h h2)) xl_nil (fun h h2 => pa_cons h h2)) (fun h h2 => pa_cons h h2)) (fun h h2 => pa_cons h h2))) (fun h => ps_ret h)))))))))))
theorem ok__law_asked : FnOk P w K mg base (L2.CX P w) 43 Fx.a__law_asked Fx.d__law_asked ["_law_condition", "_law_due", "_law_states"] (spD (th P w Fx tb) 3 (sgS 3) f__law_asked) :=
  fn_okSR (N := N__law_asked) (B := m__law_asked) (Γ' := (ΓS 5)) (okRule_fun Fx.F__law_asked) sc__law_asked rfl (by decide) fun cdv A outer s H E hr =>
    (xb_cons (xs_for (is := [3]) gp_s (passes_of rfl) rfl (xi_range1 (xl_cons xe_int xl_nil (fun h h2 => pa_cons h h2)) (fun h => pi_range1 (by rfl) Fx.z_range h)) (pg_name (i := 3) (sc__law_asked).nd rfl (Or.inl rfl)) (tg_name set_rep) (xb_cons (xs_set (i := 4) gp_s (xe_callV (i := 0) (ok_lam Fx TBx 41) hr (by decide) rfl (by first | exact Or.inl rfl | exact Or.inr (Or.inl rfl) | exact Or.inr (Or.inr rfl)) rep_s (xe_op ok_ix (xv (pv 2)) (xv (pv 3)) (fun h h2 => pe_ix ix_A h h2 (fun _ _ => rfl)))) (fun h => ps_set (i := 4) (sc__law_asked).nd rfl (Or.inl rfl) h) set_rep)
    (xb_one (xs_if gp_s (PW.pt (xw_or (xt_not (xt_val (xe_isi (n := "bool") rfl (xv (pv 4)) (fun h => pe_callB call_isi (by rfl) Fx.z_isinstance PyProof.Rows.boot_isinstance (pa_cons h (pa_cons (pe_bltn (v := .ty "bool") (by rfl) Fx.z_bool (by decide +kernel) rfl) pa_nil)))) (fun h => .inl (pt_val h)))) (xw_or1 (xt_op ok_ne (xv (pv 4)) (xe_op ok_ix (xv (pv 1)) (xv (pv 3)) (fun h h2 => pe_ix ix_A h h2 (fun _ _ => rfl))) (fun h h2 => pt_cmpR (op_neD hr.units) h h2 (nomark _)))))) (xb_one (xs_ret gp_s gp_s rfl xe_bl (fun h => ps_ret h)))
    xb_nil))))
    (xb_one (xs_ret gp_s gp_s rfl xe_bl (fun h => ps_ret h))))
theorem ok_law : FnOk P w K mg base (L2.CX P w) 44 Fx.a_law Fx.d_law ["_law_script"] (spD (th P w Fx (tbs Fx)) 1 (sgS 1) f_law) :=
  fn_okSR (N := N_law) (B := m_law) (Γ' := (ΓS 8)) (okRule_fun Fx.F_law) sc_law rfl (by decide) fun cdv A outer s H E hr =>
    (xb_cons (xs_set (i := 1) gp_s (xe_callS (ok__law_stream Fx TBx) rfl (la1 (la1 la0)) (xl_cons (xe_callS (ok__law_cell_at Fx TBx) rfl (la1 (la1 la0)) (xl_cons (xv (pv 0)) (xl_cons xe_int xl_nil (fun h h2 => pa_cons h h2)) (fun h h2 => pa_cons h h2)) (fun h => pe_callS (ok__law_cell_at Fx TBx) (hr.mono (by decide)) (by rfl) Fx.g__law_cell_at Fx.F__law_cell_at.kp Fx.b__law_cell_at (fun σ => passAt (takes_of rfl rfl rfl rfl) σ) h)) (xl_cons xe_int xl_nil (fun h h2 => pa_cons h h2)) (fun h h2 => pa_cons h h2)) (fun h => pe_callS (ok__law_stream Fx TBx) (hr.mono (by decide)) (by rfl) Fx.g__law_stream Fx.F__law_stream.kp Fx.b__law_stream (fun σ => passAt (takes_of rfl rfl rfl rfl) σ) h)) (fun h => ps_set (i := 1) (sc_law).nd rfl (Or.inl rfl) h) set_rep)
    (xb_cons (xs_set (i := 2) gp_s (xe_op ok_add xe_int (xe_op ok_mod (xe_op ok_ix (xv (pv 1)) xe_int (fun h h2 => pe_ix ix_A h h2 (fun _ _ => rfl))) xe_int (fun h h2 => pe_op op_mod h h2)) (fun h h2 => pe_op op_addA h h2)) (fun h => ps_set (i := 2) (sc_law).nd rfl (Or.inr rfl) h) set_rep)
    (xb_cons (xs_setP (i := 3) gp_s (ps_lcS (ps_lcX (is := [7]) (by decide) (tg_name set_rep) (ps_setLc (own := [("_law_k", 7)]) (i := 3) rfl (sc_law).nd rfl rfl (by rfl) (xif_of (xi_range1 (xl_cons xe_int xl_nil (fun h h2 => pa_cons h h2)) (fun h => pi_range1 (by rfl) Fx.z_range h))) (blkOk_by (own := [("_law_k", 7)]) (N := N_law) (sc := defScope s_law) (by decide +kernel)) (fun _ _ _ _ _ => (pg_name (i := 7) (sc_law).nd rfl (Or.inl rfl))) (fun _ _ _ _ _ => xts_nil) (fun _ _ _ _ _ => (xe_callS (ok__law_state Fx TBx) rfl (la1 (la1 la0)) (xl_cons (xe_callS (ok__law_stream Fx TBx) rfl (la1 (la1 la0)) (xl_cons (xe_op ok_add (xe_callS (ok__law_cell_at Fx TBx) rfl (la1 (la1 la0)) (xl_cons (xv (pv 0)) (xl_cons xe_int xl_nil (fun h h2 => pa_cons h h2)) (fun h h2 => pa_cons h h2)) (fun h => pe_callS (ok__law_cell_at Fx TBx) (hr.mono (by decide)) (by rfl) Fx.g__law_cell_at Fx.F__law_cell_at.kp Fx.b__law_cell_at (fun σ => passAt takes0 σ) h)) (xe_op ok_mul (xv (pv 7)) (xv (pv 7)) (fun h h2 => pe_op op_mulA h h2)) (fun h h2 => pe_op op_addA h h2)) (xl_cons xe_int xl_nil (fun h h2 => pa_cons h h2)) (fun h h2 => pa_cons h h2)) (fun h => pe_callS (ok__law_stream Fx TBx) (hr.mono (by decide)) (by rfl) Fx.g__law_stream Fx.F__law_stream.kp Fx.b__law_stream (fun σ => passAt takes0 σ) h)) (xl_cons (xv (pv 2)) xl_nil (fun h h2 => pa_cons h h2)) (fun h h2 => pa_cons h h2)) (fun h => pe_callS (ok__law_state Fx TBx) (hr.mono (by decide)) (by rfl) Fx.g__law_state Fx.F__law_state.kp Fx.b__law_state (fun σ => passAt takes0 σ) h)))))) set_rep)
    (xb_cons (xs_own (Γ' := [.s, .s, .s, .s, .o 1, .s, .s, .s]) (i := 4) (k := 1) gp_s (by decide) (xf_lst xl_nil) (fun h => ps_set (i := 4) (sc_law).nd rfl (Or.inl rfl) h) rfl)
    (xb_cons (xs_for (is := [5]) gp_s (passes_of rfl) rfl (xi_seq rfl (xe_sl rfl (xe_var (pv 0) rfl) (XBd.some xe_int) (XBd.some xe_int))) (pg_name (i := 5) (sc_law).nd rfl (Or.inl rfl)) (tg_name rfl) (xb_cons (xs_setPP (Γ' := [.s, .s, .s, .s, .o 1, .s, .s, .s]) (i := 6) gp_s (xp_call (ks := [none, some (4, 1), none, none]) (ok__law_more__p Fx TBx) rfl (by decide) (ownA_of (ownr_s (ownr_p (.inl rfl) (ownr_s (ownr_s ownr_nil))))) (by decide) (la1 (la1 (la1 (la1 la0)))) (xpa_s (xe_callS (ok__law_stream Fx TBx) rfl (la1 (la1 la0)) (xl_cons (xe_var (pv 5) rfl) (xl_cons xe_int xl_nil (fun h h2 => pa_cons h h2)) (fun h h2 => pa_cons h h2)) (fun h => pe_callS (ok__law_stream Fx TBx) (hr.mono (by decide)) (by rfl) Fx.g__law_stream Fx.F__law_stream.kp Fx.b__law_stream (fun σ => passAt (takes_of rfl rfl rfl rfl) σ) h)) (xpa_p (pv 4) (xpa_s (xe_var (pv 2) rfl) (xpa_s (xe_var (pv 3) rfl) xpa_nil (fun h h2 => pa_cons h h2)) (fun h h2 => pa_cons h h2)) (fun h h2 => pa_cons h h2)) (fun h h2 => pa_cons h h2)) (fun h => pe_callS (ok__law_more__p Fx TBx) (hr.mono (by decide)) (by rfl) Fx.g__law_more__p Fx.F__law_more__p.kp Fx.b__law_more__p (fun σ => passAt (takes_of rfl rfl rfl rfl) σ) h)) (fun h => ps_set (i := 6) (sc_law).nd rfl (Or.inl rfl) h) rfl)
    (xb_one (xs_if gp_s (xt_op ok_le (xe_op ok_ix (xe_var (pv 6) rfl) xe_int (fun h h2 => pe_ix ix_A h h2 (fun _ _ => rfl))) xe_int (fun h h2 => pt_cmpR op_le h h2 (nomark _))) (xb_cons (xs_mut (i := 4) rfl gp_s trivial ok_append (xl_cons (xe_var (pv 6) rfl) xl_nil (fun h h2 => pa_cons h h2)) (fun h => ps_expr (pe_bm PySem.F.plainAttrs_list PySem.F.slot_list_append PySem.F.type_list_append mt_append (pv 4) h)))
    (xb_one (xs_if gp_s (xt_not (xt_val (xe_callS (ok__law_asked Fx TBx) rfl (la1 (la1 (la1 la0))) (xl_cons (xe_op ok_ix (xe_var (pv 6) rfl) xe_int (fun h h2 => pe_ix ix_A h h2 (fun _ _ => rfl))) (xl_cons (xe_op ok_ix (xe_var (pv 6) rfl) xe_int (fun h h2 => pe_ix ix_A h h2 (fun _ _ => rfl))) (xl_cons (xe_var (pv 3) rfl) xl_nil (fun h h2 => pa_cons h h2)) (fun h h2 => pa_cons h h2)) (fun h h2 => pa_cons h h2)) (fun h => pe_callS (ok__law_asked Fx TBx) (hr.mono (by decide)) (by rfl) Fx.g__law_asked Fx.F__law_asked.kp Fx.b__law_asked (fun σ => passAt (takes_of rfl rfl rfl rfl) σ) h)) (fun h => .inl (pt_val h)))) (xb_frz (i := 4) (k := 1) (Γ1 := (ΓS 8)) rfl rfl (xb_one (xs_ret gp_s gp_s rfl xe_bl (fun h => ps_ret h))))
    xb_nil)))
    xb_nil))))
    (xb_frz (i := 4) (k := 1) (Γ1 := (ΓS 8)) rfl rfl (xb_cons (xs_for (is := [6]) gp_s (passes_of rfl) rfl (xi_seq rfl (xv (pv 4))) (pg_name (i := 6) (sc_law).nd rfl (Or.inl rfl)) (tg_name set_rep) (xb_one (xs_if gp_s (xt_not (xt_val (xe_callS (ok__law_asked Fx TBx) rfl (la1 (la1 (la1 la0))) (xl_cons (xe_op ok_ix (xv (pv 6)) xe_int (fun h h2 => pe_ix ix_A h h2 (fun _ _ => rfl))) (xl_cons (xe_op ok_ix (xv (pv 6)) xe_int (fun h h2 => pe_ix ix_A h h2 (fun _ _ => rfl))) (xl_cons (xv (pv 3)) xl_nil (fun h h2 => pa_cons h h2)) (fun h h2 => pa_cons h h2)) (fun h h2 => pa_cons h h2)) (fun h => pe_callS (ok__law_asked Fx TBx) (hr.mono (by decide)) (by rfl) Fx.g__law_asked Fx.F__law_asked.kp Fx.b__law_asked (fun σ => passAt (takes_of rfl rfl rfl rfl) σ) h)) (fun h => .inl (pt_val h)))) (xb_one (xs_ret gp_s gp_s rfl xe_bl (fun h => ps_ret h)))
    xb_nil)))
    (xb_one (xs_ret gp_s gp_s rfl xe_bl (fun h => ps_ret h))))))))))
end
set_option maxHeartbeats 0 in
theorem facts_mk {K : PySem.W.Frag} {h : Heap} {mg : Str → Option Value} (X : K.In h) (G : h.Ns mainGlobals mg)
    (hg0 : cg0 K)
    (hg1 : cg1 K)
    {d1 : FuncData} (F1 : Fun K "colder" "colder" s_colder (fA1 K) d1)
    {d2 : FuncData} (F2 : Fun K "has_room" "has_room" s_has_room (fA2 K) d2)
    {d3 : FuncData} (F3 : Fun K "burns" "burns" s_burns (fA3 K) d3)
    {d4 : FuncData} (F4 : Fun K "rested" "rested" s_rested (fA4 K) d4)
    {d5 : FuncData} (F5 : Fun K "stocked" "stocked" s_stocked (fA5 K) d5)
    {d6 : FuncData} (F6 : Fun K "both_of" "both_of" s_both_of (fA6 K) d6)
    {d7 : FuncData} (F7 : Fun K "one_of" "one_of" s_one_of (fA7 K) d7)
    {d8 : FuncData} (F8 : Fun K "unlike" "unlike" s_unlike (fA8 K) d8)
    {d9 : FuncData} (F9 : Fun K "_law_stream" "_law_stream" s__law_stream (fA9 K) d9)
    {d10 : FuncData} (F10 : Fun K "_law_cell_at" "_law_cell_at" s__law_cell_at (fA10 K) d10)
    {d11 : FuncData} (F11 : Fun K "_law_state" "_law_state" s__law_state (fA11 K) d11)
    {d12 : FuncData} (F12 : Fun K "_law_leaf" "_law_leaf" s__law_leaf (fA12 K) d12)
    {d13 : FuncData} (F13 : Fun K "_law_made_leaf" "_law_made_leaf" s__law_made_leaf (fA13 K) d13)
    {d14 : FuncData} (F14 : Fun K "_law_in_bits" "_law_in_bits" s__law_in_bits (fA14 K) d14)
    {d15 : FuncData} (F15 : Fun K "_law_holds" "_law_holds" s__law_holds (fA15 K) d15)
    {d16 : FuncData} (F16 : Fun K "_law_more" "_law_more" s__law_more__p (fA16 K) d16)
    {d17 : FuncData} (F17 : Fun K "_law_asked" "_law_asked" s__law_asked (fA17 K) d17)
    {d18 : FuncData} (F18 : Fun K "law" "law" s_law (fA18 K) d18)
    : ∃ Fx : Facts K mg, Fx.a_law = fA18 K ∧ (∀ (s : Shared) (v : Value), BindsTo s Fx.d_law ⟨[v], []⟩ [("_law_script", v)]) ∧ Fx.a_colder = fA1 K ∧ Fx.a_burns = fA3 K ∧ Fx.a_rested = fA4 K ∧ Fx.a_stocked = fA5 K ∧ Fx.a_both_of = fA6 K ∧ Fx.a_one_of = fA7 K ∧ Fx.a_unlike = fA8 K := by
  obtain ⟨a1, a2, a3, a4, a5, a6, a7, a8, a9, a10, a11, a12, a13, a14, a15, a16, a17, a18, z_bool, z_isinstance⟩ := hg0
  obtain ⟨z_len, z_range, z_tuple, tk_colder, tk_burns, tk_rested, tk_stocked, tk_both_of, tk_one_of, tk_unlike, td⟩ := hg1
  have b1 := F1.binds (ps := ["room", "band"]) fun _ _ _ _ _ _ us hl => match us, hl with | [_, _], _ => rfl
  have b2 := F2.binds (ps := ["bits", "room"]) fun _ _ _ _ _ _ us hl => match us, hl with | [_, _], _ => rfl
  have b3 := F3.binds (ps := ["room"]) fun _ _ _ _ _ _ us hl => match us, hl with | [_], _ => rfl
  have b4 := F4.binds (ps := ["room"]) fun _ _ _ _ _ _ us hl => match us, hl with | [_], _ => rfl
  have b5 := F5.binds (ps := ["wood"]) fun _ _ _ _ _ _ us hl => match us, hl with | [_], _ => rfl
  have b6 := F6.binds (ps := ["one", "other"]) fun _ _ _ _ _ _ us hl => match us, hl with | [_, _], _ => rfl
  have b7 := F7.binds (ps := ["one", "other"]) fun _ _ _ _ _ _ us hl => match us, hl with | [_, _], _ => rfl
  have b8 := F8.binds (ps := ["one"]) fun _ _ _ _ _ _ us hl => match us, hl with | [_], _ => rfl
  have b9 := F9.binds (ps := ["_law_cell", "_law_many"]) fun _ _ _ _ _ _ us hl => match us, hl with | [_, _], _ => rfl
  have b10 := F10.binds (ps := ["_law_script", "_law_k"]) fun _ _ _ _ _ _ us hl => match us, hl with | [_, _], _ => rfl
  have b11 := F11.binds (ps := ["_law_xs", "_law_rooms"]) fun _ _ _ _ _ _ us hl => match us, hl with | [_, _], _ => rfl
  have b12 := F12.binds (ps := ["_law_xs", "_law_rooms"]) fun _ _ _ _ _ _ us hl => match us, hl with | [_, _], _ => rfl
  have b13 := F13.binds (ps := ["_law_leaf_here"]) fun _ _ _ _ _ _ us hl => match us, hl with | [_], _ => rfl
  have b14 := F14.binds (ps := ["_law_bits", "_law_room"]) fun _ _ _ _ _ _ us hl => match us, hl with | [_, _], _ => rfl
  have b15 := F15.binds (ps := ["_law_leaf_here", "_law_state_here"]) fun _ _ _ _ _ _ us hl => match us, hl with | [_, _], _ => rfl
  have b16 := F16.binds (ps := ["_law_xs", "_law_some", "_law_rooms", "_law_states"]) fun _ _ _ _ _ _ us hl => match us, hl with | [_, _, _, _], _ => rfl
  have b17 := F17.binds (ps := ["_law_condition", "_law_due", "_law_states"]) fun _ _ _ _ _ _ us hl => match us, hl with | [_, _, _], _ => rfl
  have b18 := F18.binds (ps := ["_law_script"]) fun _ _ _ _ _ _ us hl => match us, hl with | [_], _ => rfl
  have hbl : ∀ (s : Shared) (v : Value), BindsTo s d18 ⟨[v], []⟩ [("_law_script", v)] := by
    intro s v
    obtain ⟨_, _, _, _, _, _, _, _, _, e, _, _⟩ := F18.ex
    rw [e]
    exact .of_eq rfl
  exact ⟨{
    a_colder := fA1 K,
    d_colder := d1,
    a_has_room := fA2 K,
    d_has_room := d2,
    a_burns := fA3 K,
    d_burns := d3,
    a_rested := fA4 K,
    d_rested := d4,
    a_stocked := fA5 K,
    d_stocked := d5,
    a_both_of := fA6 K,
    d_both_of := d6,
    a_one_of := fA7 K,
    d_one_of := d7,
    a_unlike := fA8 K,
    d_unlike := d8,
    a__law_stream := fA9 K,
    d__law_stream := d9,
    a__law_cell_at := fA10 K,
    d__law_cell_at := d10,
    a__law_state := fA11 K,
    d__law_state := d11,
    a__law_leaf := fA12 K,
    d__law_leaf := d12,
    a__law_made_leaf := fA13 K,
    d__law_made_leaf := d13,
    a__law_in_bits := fA14 K,
    d__law_in_bits := d14,
    a__law_holds := fA15 K,
    d__law_holds := d15,
    a__law_more__p := fA16 K,
    d__law_more__p := d16,
    a__law_asked := fA17 K,
    d__law_asked := d17,
    a_law := fA18 K,
    d_law := d18,
    F_colder := F1,
    b_colder := b1,
    g_colder := PySem.W.mg_of X G a1,
    F_has_room := F2,
    b_has_room := b2,
    g_has_room := PySem.W.mg_of X G a2,
    F_burns := F3,
    b_burns := b3,
    g_burns := PySem.W.mg_of X G a3,
    F_rested := F4,
    b_rested := b4,
    g_rested := PySem.W.mg_of X G a4,
    F_stocked := F5,
    b_stocked := b5,
    g_stocked := PySem.W.mg_of X G a5,
    F_both_of := F6,
    b_both_of := b6,
    g_both_of := PySem.W.mg_of X G a6,
    F_one_of := F7,
    b_one_of := b7,
    g_one_of := PySem.W.mg_of X G a7,
    F_unlike := F8,
    b_unlike := b8,
    g_unlike := PySem.W.mg_of X G a8,
    F__law_stream := F9,
    b__law_stream := b9,
    g__law_stream := PySem.W.mg_of X G a9,
    F__law_cell_at := F10,
    b__law_cell_at := b10,
    g__law_cell_at := PySem.W.mg_of X G a10,
    F__law_state := F11,
    b__law_state := b11,
    g__law_state := PySem.W.mg_of X G a11,
    F__law_leaf := F12,
    b__law_leaf := b12,
    g__law_leaf := PySem.W.mg_of X G a12,
    F__law_made_leaf := F13,
    b__law_made_leaf := b13,
    g__law_made_leaf := PySem.W.mg_of X G a13,
    F__law_in_bits := F14,
    b__law_in_bits := b14,
    g__law_in_bits := PySem.W.mg_of X G a14,
    F__law_holds := F15,
    b__law_holds := b15,
    g__law_holds := PySem.W.mg_of X G a15,
    F__law_more__p := F16,
    b__law_more__p := b16,
    g__law_more__p := PySem.W.mg_of X G a16,
    F__law_asked := F17,
    b__law_asked := b17,
    g__law_asked := PySem.W.mg_of X G a17,
    F_law := F18,
    b_law := b18,
    g_law := PySem.W.mg_of X G a18,
    tk_colder := tk_colder,
    tk_burns := tk_burns,
    tk_rested := tk_rested,
    tk_stocked := tk_stocked,
    tk_both_of := tk_both_of,
    tk_one_of := tk_one_of,
    tk_unlike := tk_unlike,
    td := td,
    z_bool := PySem.W.mg_none_of X G z_bool,
    z_isinstance := PySem.W.mg_none_of X G z_isinstance,
    z_len := PySem.W.mg_none_of X G z_len,
    z_range := PySem.W.mg_none_of X G z_range,
    z_tuple := PySem.W.mg_none_of X G z_tuple }, rfl, hbl, rfl, rfl, rfl, rfl, rfl, rfl, rfl⟩
end K31

namespace Q
open PySem PySem.Spec PyProof.Rows L2
def frac (a b : Int) : Int × Int := if b < 0 then (a.fdiv (-(Int.gcd a b)), b.fdiv (-(Int.gcd a b))) else (a / Int.gcd a b, b / Int.gcd a b)
theorem gcd_pos {a b : Int} (hb : b ≠ 0) : 0 < Int.gcd a b := Nat.gcd_pos_of_pos_right _ (by omega)
theorem frac_neg {a b : Int} (hn : b < 0) : frac a b = (-(a / Int.gcd a b), -(b / Int.gcd a b)) := by
  have g0 := gcd_pos (a := a) (b := b) (by omega)
  have d1 : (Int.gcd a b : Int) ∣ a := Int.gcd_dvd_left ..
  have d2 : (Int.gcd a b : Int) ∣ b := Int.gcd_dvd_right ..
  obtain ⟨x, hx⟩ := d1
  obtain ⟨y, hy⟩ := d2
  unfold frac
  rw [if_pos hn]
  generalize (Int.gcd a b : Nat) = d at *
  have hd : (d : Int) ≠ 0 := by omega
  have k : ∀ z x : Int, z = d * x → z.fdiv (-(d : Int)) = -x ∧ z / d = x := fun z x e => by
    subst e
    constructor
    · rw [show (d : Int) * x = (-x) * (-(d : Int)) by rw [Int.neg_mul_neg, Int.mul_comm]]
      exact Int.mul_fdiv_cancel _ (by omega)
    · exact Int.mul_ediv_cancel_left _ hd
  rw [(k a x hx).1, (k b y hy).1, (k a x hx).2, (k b y hy).2]
theorem frac_ok {a b : Int} (hb : b ≠ 0) : 0 < (frac a b).2 ∧ (frac a b).1 * b = a * (frac a b).2 ∧ Int.gcd (frac a b).1 (frac a b).2 = 1 ∧ (frac a b).1.natAbs ≤ a.natAbs ∧ (frac a b).2.natAbs ≤ b.natAbs := by
  have g0 := gcd_pos (a := a) hb
  have d1 : (Int.gcd a b : Int) ∣ a := Int.gcd_dvd_left ..
  have d2 : (Int.gcd a b : Int) ∣ b := Int.gcd_dvd_right ..
  have e1 : (a / (Int.gcd a b : Int)) * Int.gcd a b = a := Int.ediv_mul_cancel d1
  have e2 : (b / (Int.gcd a b : Int)) * Int.gcd a b = b := Int.ediv_mul_cancel d2
  have cg : Int.gcd (a / Int.gcd a b) (b / Int.gcd a b) = 1 := Int.gcd_ediv_gcd_ediv_gcd g0
  have n1 : (a / (Int.gcd a b : Int)).natAbs ≤ a.natAbs := by
    conv => rhs; rw [← e1]
    rw [Int.natAbs_mul, Int.natAbs_natCast]
    exact Nat.le_mul_of_pos_right _ g0
  have n2 : (b / (Int.gcd a b : Int)).natAbs ≤ b.natAbs := by
    conv => rhs; rw [← e2]
    rw [Int.natAbs_mul, Int.natAbs_natCast]
    exact Nat.le_mul_of_pos_right _ g0
  generalize hx : a / (Int.gcd a b : Int) = x at *
  generalize hy : b / (Int.gcd a b : Int) = y at *
  have gp : (0 : Int) < Int.gcd a b := by omega
  have cross : x * b = a * y := by
    calc x * b = x * (y * (Int.gcd a b : Int)) := by rw [e2]
      _ = (x * (Int.gcd a b : Int)) * y := by rw [Int.mul_comm y, ← Int.mul_assoc]
      _ = a * y := by rw [e1]
  by_cases hn : b < 0
  · rw [frac_neg hn, hx, hy]
    refine ⟨?_, ?_, ?_, by rw [Int.natAbs_neg]; exact n1, by rw [Int.natAbs_neg]; exact n2⟩
    · show 0 < -y
      have : y < 0 := by
        rcases Int.lt_trichotomy y 0 with h | h | h
        · exact h
        · rw [h, Int.zero_mul] at e2; omega
        · have := Int.mul_pos h gp; omega
      omega
    · show -x * b = a * -y
      rw [Int.neg_mul, Int.mul_neg, cross]
    · show Int.gcd (-x) (-y) = 1
      rw [Int.neg_gcd, Int.gcd_neg]; exact cg
  · have ef : frac a b = (x, y) := by unfold frac; rw [if_neg hn, hx, hy]
    rw [ef]
    refine ⟨?_, ?_, cg, n1, n2⟩
    · show 0 < y
      rcases Int.lt_trichotomy y 0 with h | h | h
      · have := Int.mul_neg_of_neg_of_pos h gp; omega
      · rw [h, Int.zero_mul] at e2; omega
      · exact h
    · exact cross

def rD (q : Rat) : D := .tup [.int q.num, .int q.den]
def rI (a b : Int) : Rat := (a : Rat) / (b : Rat)
theorem intc {b : Int} (h : b ≠ 0) : (b : Rat) ≠ 0 := by simpa using h
theorem rI_eq {a b x y : Int} (hb : b ≠ 0) (hy : y ≠ 0) (e : x * b = a * y) : rI x y = rI a b := by
  have h1 := intc hb
  have h2 := intc hy
  have e1 : (x : Rat) * b = a * y := by rw [← Rat.intCast_mul, ← Rat.intCast_mul, e]
  unfold rI
  grind
theorem rI_low {x y : Int} (hy : 0 < y) (g : Int.gcd x y = 1) : (rI x y).num = x ∧ ((rI x y).den : Int) = y := by
  have c : x.natAbs.Coprime y.toNat := by
    have : y.toNat = y.natAbs := by omega
    rw [this]
    exact g
  have hz : y.toNat ≠ 0 := by omega
  have e : (⟨x, y.toNat, hz, c⟩ : Rat) = rI x y := by
    rw [Rat.mk_eq_divInt, Rat.divInt_eq_div, Int.toNat_of_nonneg (by omega)]
    rfl
  rw [← e]
  exact ⟨rfl, Int.toNat_of_nonneg (by omega)⟩
def rb (n : Nat) (q : Rat) : Prop := q.num.natAbs < 2 ^ n ∧ q.den < 2 ^ n
theorem bd_mono {a m n : Nat} (ha : a < 2 ^ m) (h : m ≤ n) : a < 2 ^ n := Nat.lt_of_lt_of_le ha (Nat.pow_le_pow_right (by decide) h)
theorem rb_rI {a b : Int} {n : Nat} (hb : b ≠ 0) (h1 : a.natAbs < 2 ^ n) (h2 : b.natAbs < 2 ^ n) : rb n (rI a b) := by
  obtain ⟨q1, q2, q3, q4, q5⟩ := frac_ok (a := a) hb
  have e := rI_eq hb (by omega) q2
  obtain ⟨k1, k2⟩ := rI_low q1 q3
  rw [← e]
  constructor
  · rw [k1]; omega
  · have : ((rI (frac a b).1 (frac a b).2).den : Int).natAbs < 2 ^ n := by rw [k2]; omega
    rwa [Int.natAbs_natCast] at this
theorem rb_mono {m n : Nat} {q : Rat} (h : rb m q) (k : m ≤ n) : rb n q := ⟨bd_mono h.1 k, bd_mono h.2 k⟩
theorem rb.den {n : Nat} {q : Rat} (h : rb n q) : ((q.den : Nat) : Int).natAbs < 2 ^ n := by rw [Int.natAbs_natCast]; exact h.2
theorem rb_0 : rb 1 0 := ⟨by decide, by decide⟩
theorem hIx_rD0 (q : Rat) : hIx (rD q) (.int 0) = some (.int q.num) := hIxT0
theorem hIx_rD1 (q : Rat) : hIx (rD q) (.int 1) = some (.int q.den) := hIxT1
def sumQ (f : Nat → Rat) : Nat → Rat
  | 0 => 0
  | n + 1 => sumQ f n + f n
end Q

namespace Q
open PySem PySem.Spec PyProof.Rows L2
section
variable {fm : Nat → Str → Nat} {c n i : Nat} {f : Str} {ρ : Env} {S : Store} {l m : List D} {x d : D} {r q : Nat}
theorem ev_fldV {cs : List Nat} {a : FE} : eFldV cs f a ρ S = (a ρ S).bind fun x S1 => fldV cs f x S1 := rfl
theorem ev_fld {cs : List Nat} {a : FE} : eFld fm cs f a ρ S = (a ρ S).bind fun x S1 => fldK fm cs f x S1 := rfl
theorem ev_meth {m : Str} {tbl : List (Nat × FF)} {dd : List D} {a : FE} {as : FL} : eMeth m tbl dd a as ρ S = (a ρ S).bind fun x S1 => methK m tbl dd x S1 (fun S2 => as ρ S2) := rfl
end
theorem rfe_ok {d : D} {o : Env} {S : Store} : RFE (.ok d o S) = .ok d S := rfl
def tbl {α : Type} (m : Nat) (f : Nat → α) : List α := (List.range m).map f
theorem tbl_len {α : Type} {m : Nat} {f : Nat → α} : (tbl m f).length = m := by unfold tbl; simp
theorem tbl_get {α : Type} {m r : Nat} {f : Nat → α} (h : r < m) : (tbl m f)[r]? = some (f r) := by
  unfold tbl
  rw [List.getElem?_map, List.getElem?_range h]
  rfl
theorem tbl_succ {α : Type} {m : Nat} {f : Nat → α} : tbl (m + 1) f = tbl m f ++ [f m] := by
  unfold tbl
  rw [List.range_succ, List.map_append]
  rfl
theorem tbl_congr {α : Type} {m : Nat} {f g : Nat → α} (h : ∀ j, j < m → f j = g j) : tbl m f = tbl m g := by
  unfold tbl
  exact List.map_congr_left fun j hj => h j (List.mem_range.mp hj)
theorem tbl_map {α β : Type} {m : Nat} {f : Nat → α} {g : α → β} : (tbl m f).map g = tbl m fun i => g (f i) := by
  unfold tbl
  rw [List.map_map]
  rfl
structure Hs where
  most : Int
  cap : Int
  load : Int
  many : Nat
  marks : Nat → List Rat
  flow : Nat → Nat → Rat
  sky : Nat → Rat × Rat × Rat
  stove : Nat → Option (Rat × Int × Int × Int)
def rsD (m : List Rat) : D := .lst (m.map rD)
def skyD (s : Rat × Rat × Rat) : D := .tup [rD s.1, rD s.2.1, rD s.2.2]
def stoveD : Option (Rat × Int × Int × Int) → D
  | none => .non
  | some (h, w, s, f) => .tup [rD h, .int w, .int s, .int f]
def Hs.flows (h : Hs) : D := .lst (tbl h.many fun i => .lst (tbl h.many fun j => rD (h.flow i j)))
def Hs.fs (h : Hs) : List (Str × D) := [("most", .int h.most), ("cap", .int h.cap), ("load", .int h.load), ("my_marks", .lst (tbl h.many fun i => rsD (h.marks i))), ("my_flows", h.flows), ("my_skies", .lst (tbl h.many fun i => skyD (h.sky i))), ("my_stoves", .lst (tbl h.many fun i => stoveD (h.stove i)))]
def Hs.ob (h : Hs) (c : Nat) : Ob := ⟨c, h.fs⟩
def At (S : Store) (n c : Nat) (h : Hs) : Prop := S[n]? = some (h.ob c)
def Hs.taken (h : Hs) (r : Nat) : Rat := (h.sky r).1 + sumQ (h.flow r) h.many
structure Hs.Wf (h : Hs) (k : Nat) : Prop where
  m4 : h.many ≤ 4
  bf : ∀ i j, i < h.many → j < h.many → rb k (h.flow i j)
  bs : ∀ i, i < h.many → rb k (h.sky i).1
def Hs.none (a b c : Int) : Hs := ⟨a, b, c, 0, fun _ => [], fun _ _ => 0, fun _ => (0, 0, 0), fun _ => .none⟩
section
variable {S : Store} {n c : Nat} {h : Hs} {fm : Nat → Str → Nat}
theorem At.lt (a : At S n c h) : n < S.length := (List.getElem?_eq_some_iff.mp a).1
theorem At.set {h' : Hs} (a : At S n c h) : At (S.set n (h'.ob c)) n c h' := by
  show (S.set n (h'.ob c))[n]? = _
  rw [List.getElem?_set_self a.lt]
theorem At.marks (a : At S n c h) : getF S n "my_marks" = some (c, .lst (tbl h.many fun i => rsD (h.marks i))) := by
  unfold getF; rw [a]; rfl
theorem At.flows (a : At S n c h) : getF S n "my_flows" = some (c, .lst (tbl h.many fun i => .lst (tbl h.many fun j => rD (h.flow i j)))) := by
  unfold getF; rw [a]; rfl
theorem At.most (a : At S n c h) : getF S n "most" = some (c, .int h.most) := by
  unfold getF; rw [a]; rfl
theorem At.cap (a : At S n c h) : getF S n "cap" = some (c, .int h.cap) := by
  unfold getF; rw [a]; rfl
theorem At.load (a : At S n c h) : getF S n "load" = some (c, .int h.load) := by
  unfold getF; rw [a]; rfl
theorem setF_of {f : Str} {d : D} {o : Ob} (ho : S[n]? = some o) : setF S n f d = S.set n ⟨o.cls, putD f d o.fs⟩ := by
  unfold setF
  rw [ho]
theorem At.putF (a : At S n c h) {f : Str} {d : D} (h' : Hs) (e : putD f d h.fs = h'.fs) : setF S n f d = S.set n (h'.ob c) := by
  rw [setF_of a]
  show S.set n ⟨c, putD f d h.fs⟩ = _
  rw [e]
  rfl
section
variable {a b e mk fl sk st : D}
end
end
end Q

namespace Q
open PySem PySem.Spec PyProof.Rows L2
theorem hTru_of {b : Bool} : hTru (.bl b) = some (.bl b) := rfl
theorem rangeL_tbl (m : Nat) : rangeL 0 (m : Int) = tbl m fun j => .int j := by
  unfold rangeL tbl
  rw [show ((m : Int) - 0).toNat = m by omega]
  exact List.map_congr_left fun j _ => by rw [Int.zero_add]
theorem forL_range {v : Nat} {b : FS} (I : Nat → Env → Store → Prop) {m : Nat} {ρ : Env} {S : Store} (h0 : I 0 ρ S) (turn : ∀ i, i < m → ∀ ρ S, I i ρ S → ∃ ρ2 S2, b (ρ.set v (some (.int i))) S = .nx ρ2 S2 ∧ I (i + 1) ρ2 S2) :
    ∃ ρ' S', forL (tfName v) b (rangeL 0 (m : Int)) ρ S = .nx ρ' S' ∧ I m ρ' S' := by
  obtain ⟨ρ', S', e, h⟩ := forL_all (tf := tfName v) (b := b) I (ds := rangeL 0 (m : Int)) h0 (fun i d ρ S hd h => by
    obtain ⟨rfl, hi⟩ := rangeL_get hd
    rw [Int.zero_add] at hi ⊢
    exact ⟨_, rfl, .inl (turn i (by omega) ρ S h)⟩)
  rw [rangeL_length, show ((m : Int) - 0).toNat = m by omega] at h
  exact ⟨ρ', S', e, h⟩
theorem forL_list {α : Type} {v : Nat} {b : FS} (f : α → D) (I : Nat → Env → Store → Prop) {l : List α} {ρ : Env} {S : Store} (h0 : I 0 ρ S) (turn : ∀ i (hi : i < l.length), ∀ ρ S, I i ρ S → ∃ ρ2 S2, b (ρ.set v (some (f l[i]))) S = .nx ρ2 S2 ∧ I (i + 1) ρ2 S2) :
    ∃ ρ' S', forL (tfName v) b (l.map f) ρ S = .nx ρ' S' ∧ I l.length ρ' S' := by
  obtain ⟨ρ', S', e, h⟩ := forL_all (tf := tfName v) (b := b) I (ds := l.map f) h0 (fun i d ρ S hd h => by
    rw [List.getElem?_map] at hd
    obtain ⟨x, e1, e2⟩ := Option.map_eq_some_iff.mp hd
    obtain ⟨hi, e3⟩ := List.getElem?_eq_some_iff.mp e1
    subst e3 e2
    exact ⟨_, rfl, .inl (turn i hi ρ S h)⟩)
  rw [List.length_map] at h
  exact ⟨ρ', S', e, h⟩
theorem eLc_range {it : FL} {vs : List Nat} {v m : Nat} {E : FE} {ρ : Env} {S S1 : Store} (f : Nat → D) (hi : it ρ S = .ok (rangeL 0 (m : Int)) S1) (hm : m ≤ 1000000)
    (h : ∀ j, j < m → E ((wipeE ρ vs).set v (some (.int j))) S1 = .ok (f j) S1) : eLc it vs (tfName v) (eC (.bl true)) E ρ S = .ok (.lst (tbl m f)) S1 := by
  have e := eLc_eq (it := it) (vs := vs) (tf := tfName v) (C := eC (.bl true)) (E := E) (ρ := ρ) (S := S) (S1 := S1) (ds := rangeL 0 (m : Int)) (fun _ => true) (fun d => match d with
    | .int j => f j.toNat
    | _ => .non) hi (by rw [rangeL_length]; omega) (fun d hd => by
      obtain ⟨i, hi, e⟩ := List.getElem_of_mem hd
      have hg : (rangeL 0 (m : Int))[i]? = some d := by rw [List.getElem?_eq_getElem hi, e]
      obtain ⟨rfl, h2⟩ := rangeL_get hg
      rw [Int.zero_add] at h2 ⊢
      exact ⟨_, rfl, rfl, fun _ => h i (by omega)⟩)
  rw [e, rangeL_tbl, List.filter_eq_self.mpr (fun _ _ => rfl), tbl_map]
  rw [tbl_congr (g := f) (fun j _ => by show f (j : Int).toNat = f j; rw [Int.toNat_natCast])]
theorem cutD_mid {l : List D} (a b : Nat) : cutD l (some (a : Int)) (some (b : Int)) = (l.drop a).take (b - a) := by
  unfold cutD
  rw [HT.sIx_nat, HT.sIx_nat]
  by_cases ha : a ≤ l.length
  · rw [Nat.min_eq_left ha]
    by_cases hb : b ≤ l.length
    · rw [Nat.min_eq_left hb]
    · rw [Nat.min_eq_right (by omega), List.take_of_length_le (by simp), List.take_of_length_le (by simp; omega)]
  · rw [Nat.min_eq_right (show l.length ≤ a by omega), List.drop_of_length_le (Nat.le_refl _), List.drop_of_length_le (show l.length ≤ a by omega), List.take_nil, List.take_nil]
def pick (c k m : Int) : Int := (c % 1000003 + 1) * (k * k + 48271) % 65537 % m
def cellAt (ns : List Int) (k : Nat) : Int := ns[k]?.getD 0
def small (ns : List Int) : Prop := ∀ z ∈ ns, Builtin.Int.intBits z ≤ 1048576
theorem hIx_ints {ns : List Int} {k : Nat} (h : k < ns.length) : hIx (.lst (ns.map .int)) (.int k) = some (.int (cellAt ns k)) := hIx_lst (by
  rw [List.getElem?_map, List.getElem?_eq_getElem h]
  unfold cellAt
  rw [List.getElem?_eq_getElem h]
  rfl)
theorem hIx_scrs {ns : List Int} {k : Nat} (h : k < ns.length) : hIx (.scr (ns.map .int)) (.int k) = some (.int (cellAt ns k)) := hIx_scr (by
  rw [List.getElem?_map, List.getElem?_eq_getElem h]
  unfold cellAt
  rw [List.getElem?_eq_getElem h]
  rfl)
theorem cell_none {ns : List Int} {k : Nat} (h : ¬ k < ns.length) : cellAt ns k = 0 := by
  unfold cellAt
  rw [List.getElem?_eq_none (by omega)]
  rfl
theorem hIx_tbl {m r : Nat} {f : Nat → D} (h : r < m) : hIx (.lst (tbl m f)) (.int r) = some (f r) := hIx_lst (tbl_get h)
def heatOf : Option (Rat × Int × Int × Int) → Rat
  | none => 0
  | some s => s.1
def Hs.part (h : Hs) (r j : Nat) : Rat := if r = j then 1 - h.taken r else h.flow r j
def Hs.warm (h : Hs) (r : Nat) (air : Nat → Rat) (w : Rat) (b : Bool) : Rat := (h.sky r).1 * w + sumQ (fun j => h.part r j * air j) h.many + (if b = true then heatOf (h.stove r) else 0)
end Q

namespace Q
open PySem PySem.Spec PyProof.Rows L2
section
variable {ρ : Env} {S : Store} {K i k : Nat} {js : List Nat} {d x : D} {l : List D}
theorem hMul_sm {a b : Int} (ha : a.natAbs < 2 ^ 220) (hb : b.natAbs < 2 ^ 220) : hMul (.int a) (.int b) = some (.int (a * b)) := hMul_bd ha hb (by decide)
theorem hDiv_sm {a b : Int} (h : 0 < b) (hb : b < 2 ^ 220) : hDiv (.int a) (.int b) = some (.int (a / b)) := hDiv_pos h (by
  have : (2 : Nat) ^ 220 < 2 ^ 8999 := Nat.pow_lt_pow_right (by decide) (by decide)
  omega)
theorem rgK1_ok {n : Int} (h0 : -1000000000000 ≤ n) (h1 : n ≤ 1000000000000) : rgK1 [.int n] S = .ok (rangeL 0 n) S := rgK1_int ⟨h0, h1⟩
theorem rgK2_ok {m n : Int} (h0 : -1000000000000 ≤ m) (h1 : m ≤ 1000000000000) (h2 : -1000000000000 ≤ n) (h3 : n ≤ 1000000000000) : rgK2 [.int m, .int n] S = .ok (rangeL m n) S := rgK2_int ⟨⟨h0, h1⟩, ⟨h2, h3⟩⟩
theorem beq_f {a b : Int} (h : a ≠ b) : (a == b) = false := by simpa using h
theorem beq_t {a b : Int} (h : a = b) : (a == b) = true := by simpa using h
theorem mAppend_ok (h : l.length < 1000000) : mAppend l [x] = some (.non, l ++ [x]) := mAppend_lt h
theorem ev_pvar : pVar i ρ S = (match ρ[i]? with | some (some d) => .ok [] d S | _ => .no) := rfl
theorem ev_pkey {p : FV} {c : Str} : pKey K p c ρ S = (match p ρ S with | .ok js d S1 => pKeyK K js S1 (posT d c) | .exc y S1 => .exc y S1 | .no => .no) := rfl
theorem pKeyK_ok {j : Nat} : pKeyK K js S (some (j, d)) = if js.length + 1 ≤ K then .ok (js ++ [j]) d S else .no := rfl
theorem ev_vmut {p : FV} {h : HM} {a : FL} : fVMut K i p h a ρ S = (p ρ S).bindS ρ fun js d S1 => lstK d fun l => if K = js.length + 1 then (a ρ S1).bindR ρ fun ds S2 => optK (h l ds) fun zl => slotPut K 1 i js (.lst zl.2) S2 ρ else .no := rfl
def vputK (K i : Nat) (js : List Nat) (x k : D) (S : Store) (ρ : Env) (l : List (D × D)) : RS := if (keyF k = true ∧ sortOk l k = true ∧ l.length < 1000000) ∧ js.length + 1 ≤ K ∧ (K - js.length - 1 = 0 ∨ plainV x = true) then slotPut K (K - js.length - 1 + 1) i js (.dct (dput l k x)) S ρ else .no
theorem ev_vput {p : FV} {e v : FE} : fVPut K i p e v ρ S = (v ρ S).bindS ρ fun x S1 => (p ρ S1).bindS ρ fun js d S2 => (e ρ S2).bindS ρ fun k S3 => dctK d fun l => vputK K i js x k S3 ρ l := rfl
def slotK (o : Option (Option D)) (b : Bool) (i : Nat) (js : List Nat) (x : D) (S : Store) (ρ : Env) : RS := match o with
  | some (some d0) => if b = true then .nx (ρ.set i (some (setAt js d0 x))) S else .no
  | _ => .no
theorem slotPut_ok : slotPut K k i js x S ρ = slotK ρ[i]? (K == js.length + k) i js x S ρ := by
  unfold slotPut slotK
  cases ρ[i]? with
  | none => rfl
  | some o => cases o with
    | none => rfl
    | some d => simp only [beq_iff_eq]
theorem slotK_ok {d0 : D} : slotK (some (some d0)) true i js x S ρ = .nx (ρ.set i (some (setAt js d0 x))) S := rfl
theorem rv_ok {k : List Nat → D → Store → RS} : (RV.ok js d S).bindS ρ k = k js d S := rfl
theorem rl_bindR {ds : List D} {k : List D → Store → RS} : (RL.ok ds S).bindR ρ k = k ds S := rfl
theorem lstK_lst {k : List D → RS} : lstK (.lst l) k = k l := rfl
theorem dctK_dct {l : List (D × D)} {k : List (D × D) → RS} : dctK (.dct l) k = k l := rfl
theorem optK_some {α : Type} {a : α} {k : α → RS} : optK (some a) k = k a := rfl
theorem setAt_nil {y : D} : setAt [] d x = x := rfl
theorem hIxD_lst {c : D} : hIxD (.lst l) c = hIx (.lst l) c := rfl
theorem hIxD_tup {c : D} : hIxD (.tup l) c = hIx (.tup l) c := rfl
theorem keyF_str {c : Str} : keyF (.str c) = true := rfl
theorem keyF_pair {a b : Int} : keyF (.tup [.int a, .int b]) = true := by
  unfold keyF
  simp only [nk, nkL, Option.map_some, Option.any_some]
  exact of_decide_eq_true rfl
end
section
variable {ρ : Env} {S : Store}
def call0R (r : RF) (S : Store) : RE := match r with
  | .ok d _ [] => .ok d S
  | _ => .no
def call0K (Φ : FF) (ds : List D) (S : Store) : RE := if noObjL ds = true then call0R (Φ ds []) S else .no
theorem ev_call0 {Φ : FF} {as : FL} : eCall0 Φ as ρ S = (match as ρ S with
    | .ok ds S1 => if noObjL ds = true then (match Φ ds [] with
      | .ok d _ [] => RE.ok d S1
      | _ => .no) else .no
    | .exc y S1 => .exc y S1
    | .no => .no) := rfl
theorem ev_call0' {Φ : FF} {as : FL} : eCall0 Φ as ρ S = (as ρ S).bindE (call0K Φ) := by
  rw [ev_call0]
  cases as ρ S <;> rfl
def call0C (b : Bool) (r : RF) (S : Store) : RE := if b = true then call0R r S else .no
theorem call0K_ok {Φ : FF} {ds : List D} : call0K Φ ds S = call0C (noObjL ds) (Φ ds []) S := rfl
theorem call0C_t {r : RF} : call0C true r S = call0R r S := rfl
theorem call0R_ok {d : D} {o : Env} : call0R (.ok d o []) S = .ok d S := rfl
theorem noObjL_nil : noObjL [] = true := by simp only [noObjL]
theorem noObjL_cons {d : D} {l : List D} : noObjL (d :: l) = (noObj d && noObjL l) := by simp only [noObjL]
theorem noObj_int {i : Int} : noObj (.int i) = true := by simp only [noObj]
theorem noObj_bl {i : Bool} : noObj (.bl i) = true := by simp only [noObj]
theorem noObj_str {i : Str} : noObj (.str i) = true := by simp only [noObj]
theorem noObj_non : noObj .non = true := by simp only [noObj]
theorem noObj_tup {l : List D} : noObj (.tup l) = noObjL l := by simp only [noObj]
theorem noObj_lst {l : List D} : noObj (.lst l) = noObjL l := by simp only [noObj]
theorem noObj_scr {l : List D} : noObj (.scr l) = noObjL l := by simp only [noObj]
theorem noObj_rD {q : Rat} : noObj (rD q) = true := by unfold rD; simp only [noObj, noObjL, Bool.and_self]
theorem noObjL_all {l : List D} (h : ∀ d ∈ l, noObj d = true) : noObjL l = true := by
  induction l with
  | nil => exact noObjL_nil
  | cons d l ih => rw [noObjL_cons, h d (List.mem_cons_self ..), ih fun e he => h e (List.mem_cons_of_mem _ he)]; rfl
theorem noObjL_ints {l : List Int} : noObjL (l.map .int) = true := noObjL_all fun d hd => by
  obtain ⟨i, _, rfl⟩ := List.mem_map.mp hd
  exact noObj_int
theorem noObjL_rats {l : List Rat} : noObjL (l.map rD) = true := noObjL_all fun d hd => by
  obtain ⟨i, _, rfl⟩ := List.mem_map.mp hd
  exact noObj_rD
def dctR (o : Option (List (D × D))) (b : Bool) (S : Store) : RE := match o with
  | some l => if b = true then .ok (.dct l) S else .no
  | none => .no
theorem ev_dct {its : List (Str × Itm)} : eDct its ρ S = dctR (eItms its ρ S) (decide (its.length ≤ 15 ∧ (its.map (·.1)).Nodup)) S := by
  unfold eDct dctR
  cases eItms its ρ S with
  | none => rfl
  | some l => simp only [decide_eq_true_eq]
theorem dctR_ok {l : List (D × D)} {b : Bool} (h : b = true) : dctR (some l) b S = .ok (.dct l) S := if_pos h
def itS (r : RE) (k : Str) (o : Option (List (D × D))) : Option (List (D × D)) := match r with
  | .ok x _ => if plainV x = true then o.map ((.str k, x) :: ·) else none
  | _ => none
theorem itms_nil : eItms [] ρ S = some [] := rfl
theorem itms_l {k : Str} {r : List (Str × Itm)} : eItms ((k, .l) :: r) ρ S = (eItms r ρ S).map ((.str k, .lst []) :: ·) := rfl
theorem itms_d {k : Str} {r : List (Str × Itm)} : eItms ((k, .d) :: r) ρ S = (eItms r ρ S).map ((.str k, .dct []) :: ·) := rfl
theorem itms_s {k : Str} {F : FE} {r : List (Str × Itm)} : eItms ((k, .s F) :: r) ρ S = itS (F ρ S) k (eItms r ρ S) := rfl
theorem itS_ok {x : D} {k : Str} {S1 : Store} {o : Option (List (D × D))} (h : plainV x = true) : itS (.ok x S1) k o = o.map ((.str k, x) :: ·) := if_pos h
end
end Q

namespace Q
open PySem PySem.Spec PyProof.Rows L2
structure Td where
  many : Nat
  nb : Nat → Nat
  mv : Nat → Nat → Int
  sky : Nat → Int × Int × Int
  stove : Nat → Option (Int × Int × Int × Int)
  flow : Nat → Nat → Int
  s0 : Int
  s1 : Int
  s2 : Int
  s3 : Int
  b0 : Int
  b1 : Int
  b2 : Int
structure Td.Ok (t : Td) : Prop where
  m1 : 1 ≤ t.many
  m4 : t.many ≤ 4
  nb1 : ∀ r, 1 ≤ t.nb r
  nb6 : ∀ r, t.nb r ≤ 6
  nbp : ∀ n, n < t.many → (tbl n fun r => (t.nb r : Int)).foldl (fun z q => z * q) (t.nb n : Int) ≤ 400
  rise : ∀ r j, t.mv r j < t.mv r (j + 1)
  mlo : ∀ r j, -320 ≤ t.mv r j
  mhi : ∀ r j, t.mv r j ≤ 1600 + 160 * j
  m200 : ∀ r j, j ≤ t.nb r → t.mv r j ≤ 1600
  sk0 : ∀ r, 0 ≤ (t.sky r).1
  sk3 : ∀ r, (t.sky r).1 ≤ 4
  slo : ∀ r, -480 ≤ (t.sky r).2.1
  sle : ∀ r, (t.sky r).2.1 ≤ (t.sky r).2.2
  shi : ∀ r, (t.sky r).2.2 ≤ 1600
  st : ∀ r h w s f, t.stove r = some (h, w, s, f) → (0 ≤ h ∧ h ≤ 800) ∧ (0 ≤ w ∧ w ≤ 9) ∧ (0 ≤ s ∧ s ≤ 3) ∧ (0 ≤ f ∧ f ≤ 3)
  f0 : ∀ r o, 0 ≤ t.flow r o
  f3 : ∀ r o, t.flow r o ≤ 3
  tk : ∀ r o, (t.sky r).1 + (if t.many ≤ 3 then 2 else 3) * t.flow r o ≤ 12
  p0 : 0 < t.s0
  p1 : 0 < t.s1
  p3 : 0 < t.s3
  q0 : t.s0 ≤ 1000000000
  q1 : t.s1 ≤ 8000000000
  q3 : t.s3 ≤ 1000000000
  l2 : -1000000000 ≤ t.s2
  h2 : t.s2 ≤ 1000000000
  b00 : 0 ≤ t.b0
  b04 : t.b0 ≤ 4
  b10 : 0 ≤ t.b1
  b130 : t.b1 ≤ 30
  b20 : 0 ≤ t.b2
  b230 : t.b2 ≤ 30
def Td.marks (t : Td) (r : Nat) : List Int := tbl (t.nb r + 1) (t.mv r)
def msD (l : List Int) : D := .lst (l.map .int)
def Td.mkD (t : Td) (n : Nat) : D := .lst (tbl n fun r => msD (t.marks r))
section
variable {a b c f s g x : D}
end
section
variable {t : Td}
end
def Td.warm (t : Td) (n p : Int) : Rat := rI (n * t.s0 * t.s3 + p * t.s2 * t.s1) (p * t.s1 * t.s3)
def Td.mks (t : Td) (r : Nat) : List Rat := tbl (t.nb r + 1) fun j => t.warm (t.mv r j) 1
def Td.sk (t : Td) (r : Nat) : Rat × Rat × Rat := (rI (t.sky r).1 12, t.warm (t.sky r).2.1 1, t.warm (t.sky r).2.2 1)
def Td.sv (t : Td) (r : Nat) : Option (Rat × Int × Int × Int) := (t.stove r).map fun q => (rI (q.1 * t.s0) t.s1, q.2.1, q.2.2.1, q.2.2.2)
def Td.fl (t : Td) (r o : Nat) : Rat := rI (t.flow r o) 12
section
variable {t : Td} (ok : t.Ok)
include ok
theorem Td.Ok.den {p : Int} (hp : 0 < p) : 0 < p * t.s1 * t.s3 := Int.mul_pos (Int.mul_pos hp ok.p1) ok.p3
end
def Td.h0 (t : Td) (n : Nat) : Hs := ⟨t.b0, t.b1, t.b2, n, fun i => if i < n then t.mks i else [], fun _ _ => 0, fun _ => (0, 0, 0), fun _ => none⟩
def Td.hj (t : Td) (k o : Nat) : Hs := { t.h0 t.many with flow := fun i j => if (i < k ∧ j < t.many ∨ i = k ∧ j < o) ∧ i ≠ j then t.fl i j else 0, sky := fun i => if i ≤ k then t.sk i else (0, 0, 0), stove := fun i => if i ≤ k then t.sv i else none }
def Td.hk (t : Td) (k : Nat) : Hs := { t.h0 t.many with flow := fun i j => if (i < k ∧ j < t.many) ∧ i ≠ j then t.fl i j else 0, sky := fun i => if i < k then t.sk i else (0, 0, 0), stove := fun i => if i < k then t.sv i else none }
def Td.hs (t : Td) : Hs := t.hk t.many
section
variable {t : Td}
end
section
variable {t : Td} (ok : t.Ok)
include ok
theorem Td.Ok.share_rb {x : Int} (h0 : 0 ≤ x) (h3 : x ≤ 4) : rb 103 (rI x 12) := rb_rI (by decide) (by
  have : (2 : Nat) ^ 103 = 10141204801825835211973625643008 := by decide
  omega) (by decide)
theorem Td.Ok.fl_rb (r o : Nat) : rb 103 (t.fl r o) := ok.share_rb (ok.f0 r o) (Int.le_trans (ok.f3 r o) (by decide))
theorem Td.Ok.sk_rb (r : Nat) : rb 103 (t.sk r).1 := ok.share_rb (ok.sk0 r) (ok.sk3 r)
structure Td.Part (t : Td) (h : Hs) : Prop where
  many : h.many = t.many
  flow : ∀ i j, h.flow i j = 0 ∨ h.flow i j = t.fl i j
  self : ∀ i, h.flow i i = 0
  sky : ∀ i, (h.sky i).1 = 0 ∨ (h.sky i).1 = (t.sk i).1
theorem Td.Part.wf {h : Hs} (g : t.Part h) : h.Wf 103 where
  m4 := by rw [g.many]; exact ok.m4
  bf i j _ _ := by
    rcases g.flow i j with e | e
    · rw [e]; exact rb_mono rb_0 (by decide)
    · rw [e]; exact ok.fl_rb i j
  bs i _ := by
    rcases g.sky i with e | e
    · rw [e]; exact rb_mono rb_0 (by decide)
    · rw [e]; exact ok.sk_rb i
omit ok in
theorem rI_fl {x : Int} {c : Int} : (c : Rat) * rI x 12 = rI (c * x) 12 := by
  unfold rI
  rw [Rat.intCast_mul]
  grind
omit ok
end
theorem rfe_exc {x : Exc} {o : Env} {S : Store} : RFE (.exc x o S) = .exc x S := rfl
section
variable {t : Td}
end
end Q

namespace Q
open PySem PySem.Spec PyProof.Rows L2
def sumI (f : Nat → Int) : Nat → Int
  | 0 => 0
  | n + 1 => sumI f n + f n
def Td.off (t : Td) (r j : Nat) : Int := if j = r then 0 else t.flow r j
def Td.rest (t : Td) (r : Nat) : Int := 12 - (t.sky r).1 - sumI (t.off r) t.many
def Td.span (t : Td) (r : Nat) (n : Nat → Int) (m : Int) : Int := (t.sky r).1 * m + sumI (fun j => t.off r j * n j) t.many + t.rest r * n r
def heat4 : Option (Int × Int × Int × Int) → Int
  | none => 0
  | some q => q.1
section
variable {t : Td} (ok : t.Ok)
include ok
omit ok
include ok
end
def Td.lo (t : Td) (r : Nat) (bd : Nat → Nat) (b : Bool) : Int := t.span r (fun j => t.mv j (bd j)) (t.sky r).2.1 + (if b = true then 12 * heat4 (t.stove r) else 0)
def Td.hi (t : Td) (r : Nat) (bd : Nat → Nat) (b : Bool) : Int := t.span r (fun j => t.mv j (bd j + 1)) (t.sky r).2.2 + (if b = true then 12 * heat4 (t.stove r) else 0)
section
variable {t : Td} (ok : t.Ok)
include ok
end
end Q

namespace Q
open PySem PySem.Spec PyProof.Rows L2
section
variable {ρ : Env} {S : Store}
theorem ev_callD {Φ : FF} {dd : List D} {as : FL} : eCallD Φ dd as ρ S = (as ρ S).bindE fun ds S1 => RFE (Φ (ds ++ dd) S1) := by
  unfold eCallD
  cases as ρ S <;> rfl
theorem ev_make {c : Nat} {Φ : FF} {dd : List D} {as : FL} : eMake c Φ dd as ρ S = (as ρ S).bindE fun ds S1 => makeR S1.length (Φ (.obj S1.length :: (ds ++ dd)) (S1 ++ [⟨c, []⟩])) := by
  unfold eMake
  cases as ρ S <;> rfl
theorem makeR_ok {n : Nat} {o : Env} : makeR n (.ok .non o S) = .ok (.obj n) S := rfl
theorem makeR_exc {n : Nat} {x : Exc} {o : Env} : makeR n (.exc x o S) = .exc x S := rfl
end
section
variable {t : Td} (ok : t.Ok)
include ok
theorem Td.Ok.bands {n : Nat} (hn : n < t.many) : (tbl n t.mks).foldl (fun z q => z * ((q.length : Int) - 1)) (((t.mks n).length : Int) - 1) ≤ 400 := by
  have e : ∀ r, (((t.mks r).length : Nat) : Int) - 1 = t.nb r := fun r => by
    have : (t.mks r).length = t.nb r + 1 := tbl_len
    omega
  have h := ok.nbp n hn
  have k : ∀ (l : List Nat) (z : Int), (l.map t.mks).foldl (fun z q => z * ((q.length : Int) - 1)) z = (l.map fun r => (t.nb r : Int)).foldl (fun z q => z * q) z := by
    intro l
    induction l with
    | nil => exact fun _ => rfl
    | cons a l ih =>
      intro z
      rw [List.map_cons, List.map_cons, List.foldl_cons, List.foldl_cons, e]
      exact ih _
  rw [e]
  unfold tbl at h ⊢
  rw [k]
  exact h
end
structure Hs.Good (g : Hs) (k : Nat) : Prop where
  k5 : k ≤ 500
  b0 : 0 ≤ g.most ∧ g.most ≤ 4
  b1 : 0 ≤ g.cap ∧ g.cap ≤ 30
  b2 : 0 ≤ g.load ∧ g.load ≤ 30
  m4 : g.many ≤ 4
  l2 : ∀ i, i < g.many → 2 ≤ (g.marks i).length
  l7 : ∀ i, i < g.many → (g.marks i).length ≤ 7
  mb : ∀ i, i < g.many → ∀ q ∈ g.marks i, rb k q
  rise : ∀ i, i < g.many → ∀ j (hj : j + 1 < (g.marks i).length), (g.marks i)[j] < (g.marks i)[j + 1]
  bands : ∀ i, i < g.many → (tbl i g.marks).foldl (fun z q => z * ((q.length : Int) - 1)) (((g.marks i).length : Int) - 1) ≤ 400
  fb : ∀ i j, i < g.many → j < g.many → rb k (g.flow i j)
  f0 : ∀ i j, i < g.many → j < g.many → 0 ≤ g.flow i j
  fs : ∀ i, i < g.many → g.flow i i = 0
  sb : ∀ i, i < g.many → rb k (g.sky i).1
  s0 : ∀ i, i < g.many → 0 ≤ (g.sky i).1
  lb : ∀ i, i < g.many → rb k (g.sky i).2.1
  hb : ∀ i, i < g.many → rb k (g.sky i).2.2
  lh : ∀ i, i < g.many → ¬ (g.sky i).2.2 < (g.sky i).2.1
  t1 : ∀ i, i < g.many → ¬ 1 < g.taken i
  st : ∀ i q w s f, i < g.many → g.stove i = some (q, w, s, f) → rb k q ∧ ¬ q < 0 ∧ (0 ≤ w ∧ w ≤ 9) ∧ (0 ≤ s ∧ s ≤ 3) ∧ (0 ≤ f ∧ f ≤ 3)
theorem Hs.Good.wf {g : Hs} {k : Nat} (G : g.Good k) : g.Wf k := ⟨G.m4, G.fb, G.sb⟩
def Hs.st0 (g : Hs) (n : Nat) : Hs := ⟨g.most, g.cap, g.load, n, fun i => if i < n then g.marks i else [], fun _ _ => 0, fun _ => (0, 0, 0), fun _ => .none⟩
section
variable {g : Hs} {sk st a b k i o c : Nat}
section
variable (G : g.Good k)
include G
end
end
def Hs.like (h : Hs) (u v w : Int) : Hs := { h with most := u, cap := v, load := w }
theorem Hs.Good.like {h : Hs} {k : Nat} (G : h.Good k) {u v w : Int} (hu : 0 ≤ u ∧ u ≤ 4) (hv : 0 ≤ v ∧ v ≤ 30) (hw : 0 ≤ w ∧ w ≤ 30) : (h.like u v w).Good k where
  k5 := G.k5
  b0 := hu
  b1 := hv
  b2 := hw
  m4 := G.m4
  l2 := G.l2
  l7 := G.l7
  mb := G.mb
  rise := G.rise
  bands := G.bands
  fb := G.fb
  f0 := G.f0
  fs := G.fs
  sb := G.sb
  s0 := G.s0
  lb := G.lb
  hb := G.hb
  lh := G.lh
  t1 := G.t1
  st := G.st
theorem At.app {S : Store} {n c : Nat} {h : Hs} (a : At S n c h) (l : List Ob) : At (S ++ l) n c h := by
  have hl := a.lt
  unfold At at a ⊢
  rw [List.getElem?_append_left hl]
  exact a
end Q

namespace Q
open PySem PySem.Spec PyProof.Rows L2
section
variable {ρ : Env} {S : Store} {K m i j s : Nat} {js : List Nat} {d x : D} {l : List D}
end
end Q

namespace Q
open PySem PySem.Spec PyProof.Rows L2
def Td.mild (t : Td) : Td := { t with mv := fun r j => if t.nb r ≤ j then 200 + ((j : Int) - t.nb r) else if j = 0 then -40 else t.mv r j }
theorem Td.Ok.mild {t : Td} (ok : t.Ok) (h : ∀ r j, -30 ≤ t.mv r j ∧ (j < t.nb r → t.mv r j < 200)) : t.mild.Ok :=
  { ok with
    rise := fun r j => by
      have h1 := h r j
      have h2 := h r (j + 1)
      have h3 := ok.rise r j
      have h4 := ok.nb1 r
      show (if t.nb r ≤ j then 200 + ((j : Int) - t.nb r) else if j = 0 then -40 else t.mv r j) < (if t.nb r ≤ j + 1 then 200 + (((j + 1 : Nat) : Int) - t.nb r) else if j + 1 = 0 then -40 else t.mv r (j + 1))
      by_cases c : t.nb r ≤ j
      · rw [if_pos c, if_pos (by omega)]; omega
      · rw [if_neg c]
        by_cases c1 : t.nb r ≤ j + 1
        · rw [if_pos c1]
          split <;> omega
        · rw [if_neg c1, if_neg (show ¬ (j + 1 = 0) by omega)]
          split <;> omega
    mlo := fun r j => by
      have h1 := h r j
      show -320 ≤ (if t.nb r ≤ j then 200 + ((j : Int) - t.nb r) else if j = 0 then -40 else t.mv r j)
      split
      · omega
      · split <;> omega
    mhi := fun r j => by
      have h1 := h r j
      show (if t.nb r ≤ j then 200 + ((j : Int) - t.nb r) else if j = 0 then -40 else t.mv r j) ≤ _
      split
      · omega
      · split <;> omega
    m200 := fun r j hj => by
      have h1 := h r j
      have hj : j ≤ t.nb r := hj
      show (if t.nb r ≤ j then 200 + ((j : Int) - t.nb r) else if j = 0 then -40 else t.mv r j) ≤ 1600
      split
      · omega
      · split <;> omega }
end Q

namespace Q
open PySem PySem.Spec PyProof.Rows L2
theorem mod2_int (n : Nat) : ((n : Int) % 2 == 1) = decide (n % 2 = 1) := by
  by_cases h : n % 2 = 1
  · rw [decide_eq_true h]; simp; omega
  · rw [decide_eq_false h]; simp; omega
theorem hShr_nat {n r : Nat} : hShr (.int n) (.int r) = some (.int ((n / 2 ^ r : Nat) : Int)) := by
  show (if (0 : Int) ≤ (r : Int) then some (D.int ((n : Int) / 2 ^ (r : Int).toNat)) else none) = _
  rw [if_pos (by omega), Int.toNat_natCast]
  rfl
def bitsOf (l : List Nat) : Nat := l.foldl (fun n r => n ||| 2 ^ r) 0
def rms (k n : Nat) : List Nat := (List.range k).filter fun j => n.testBit j
def cntB (n : Nat) : Nat := (rms 61 n).length
structure Stt where
  bd : List Int
  bu : Nat
  wt : List Int
  fl : List Int
  hp : Int
def itD (l : List Int) : D := .tup (l.map .int)
def Stt.d (s : Stt) : D := .tup [itD s.bd, .int s.bu, itD s.wt, itD s.fl, .int s.hp]
def gi (l : List Int) (r : Nat) : Int := l.getD r 0
section
variable {s : Stt} {l : List Int} {r : Nat}
end
section
variable {b c : Bool} {S : Store} {ρ : Env}
end
structure IsSt (h : Hs) (s : Stt) : Prop where
  l0 : s.bd.length = h.many
  l2 : s.wt.length = h.many
  l3 : s.fl.length = h.many
  bu : s.bu < 2 ^ h.many
  mo : (cntB s.bu : Int) ≤ h.most
  h0 : 0 ≤ s.hp
  h1 : s.hp ≤ h.cap
  b0 : ∀ r, r < h.many → 0 ≤ gi s.bd r
  b1 : ∀ r, r < h.many → gi s.bd r + 2 ≤ (h.marks r).length
  n : ∀ r, r < h.many → h.stove r = none → s.bu.testBit r = false ∧ gi s.wt r = 0 ∧ gi s.fl r = 0
  y : ∀ r q, r < h.many → h.stove r = some q → (0 ≤ gi s.wt r ∧ gi s.wt r ≤ q.2.2.1) ∧ (0 ≤ gi s.fl r ∧ gi s.fl r ≤ q.2.2.2) ∧ (gi s.fl r = 0 ∨ s.bu.testBit r = false ∧ gi s.wt r = 0)
def woodAt (h : Hs) (r : Nat) : Int := match h.stove r with
  | none => 0
  | some q => q.2.1
def woodL (h : Hs) (l : List Nat) : Int := l.foldl (fun z r => z + woodAt h r) 0
def woodOf (h : Hs) (n : Nat) : Int := woodL h (rms h.many n)
structure OkO (h : Hs) (s : Stt) (o : Nat) : Prop where
  lt : o < 2 ^ h.many
  st : ∀ r, r < h.many → o.testBit r = true → (h.stove r).isSome = true
  wt : ∀ r, r < h.many → 0 < gi s.wt r → o.testBit r = s.bu.testBit r
  mo : (cntB o : Int) ≤ h.most
  wd : woodOf h o ≤ s.hp
def subsL (l : List Nat) : List Nat := l.foldl (fun f r => f ++ f.map (· + 2 ^ r)) [0]
def partsL (k n : Nat) : List Nat := subsL (rms k n)
def failsAt (h : Hs) (r : Nat) : Int := match h.stove r with
  | none => 0
  | some q => q.2.2.2
def stayAt (h : Hs) (r : Nat) : Int := match h.stove r with
  | none => 0
  | some q => q.2.2.1
def mayS (h : Hs) (s : Stt) (o : Nat) : Nat := bitsOf (((rms h.many o).filter fun r => !s.bu.testBit r).filter fun r => decide (gi s.fl r < failsAt h r))
def waitB (h : Hs) (s : Stt) (b : Nat) (r : Nat) : Int := if b.testBit r ≠ s.bu.testBit r then stayAt h r else max 0 (gi s.wt r - 1)
def failB (s : Stt) (b out : Nat) (r : Nat) : Int := if b.testBit r = true then (if out.testBit r = true then 1 else 0) else gi s.fl r + (if out.testBit r = true then 1 else 0)
def heapB (h : Hs) (s : Stt) (b : Nat) : Int := min h.cap (s.hp - woodOf h b + h.load)
def behS (h : Hs) (s : Stt) (o out : Nat) (bd : List Int) : Stt := ⟨bd, o - out, tbl h.many (waitB h s (o - out)), tbl h.many (failB s (o - out) out), heapB h s (o - out)⟩
end Q

namespace Q
open PySem PySem.Spec PyProof.Rows L2
section
variable (t : Td) (c : Int) (k : Nat)
variable {t c k}
end
end Q

namespace Q
open PySem PySem.Spec PyProof.Rows L2
section
variable {h : Hs} {s : Stt} {w : Nat} (m4 : h.many ≤ 4) (i : IsSt h s)
include m4
include i
variable (h0 : ∀ r, r < h.many → 0 ≤ woodAt h r)
include h0
end
section
variable {h : Hs} {s : Stt} {w : Nat}
end
end Q

namespace Q
open PySem PySem.Spec PyProof.Rows L2
end Q

namespace Q
open PySem PySem.Spec PyProof.Rows L2
def wkFs (m : Nat) (s : D) (k : Int) (e : Bool) : List (Str × D) := [("my_hold", .obj m), ("my_state", s), ("my_turns", .int k), ("my_end", .bl e)]
section
variable {S : Store} {w W m : Nat} {s : D} {k : Int} {e : Bool} (a : S[w]? = some ⟨W, wkFs m s k e⟩)
include a
end
def Td.pT (t : Td) (r : Nat) (lo hi : Int) (b : Nat) : Bool := decide (12 * t.mv r b ≤ hi) && decide (lo ≤ 12 * t.mv r (b + 1))
def Td.tch (t : Td) (r : Nat) (lo hi : Int) : List Nat := (List.range (t.nb r)).filter (t.pT r lo hi)
def Td.ins (t : Td) (r : Nat) (lo hi : Int) : Bool := decide (12 * t.mv r 0 ≤ lo) && decide (hi ≤ 12 * t.mv r (t.nb r))
def rowsB (tc : Nat → List Nat) : Nat → List (List Int)
  | 0 => [[]]
  | n + 1 => (rowsB tc n).flatMap fun row => (tc n).map fun b => row ++ [((b : Nat) : Int)]
def Stt.bdN (s : Stt) (j : Nat) : Nat := (gi s.bd j).toNat
def Td.loB (t : Td) (s : Stt) (b r : Nat) : Int := t.lo r s.bdN (b.testBit r)
def Td.hiB (t : Td) (s : Stt) (b r : Nat) : Int := t.hi r s.bdN (b.testBit r)
def Td.tcB (t : Td) (s : Stt) (b r : Nat) : List Nat := t.tch r (t.loB s b r) (t.hiB s b r)
def Td.rowsOf (t : Td) (s : Stt) (b : Nat) : List (List Int) := rowsB (t.tcB s b) t.many
def Td.outL (t : Td) (s : Stt) (o : Nat) (l : List Nat) : List Stt := l.flatMap fun out => (t.rowsOf s (o - out)).map fun row => behS t.hs s o out row
def Td.outs (t : Td) (s : Stt) (o : Nat) : List Stt := t.outL s o (partsL t.many (mayS t.hs s o))
section
variable {t : Td} (ok : t.Ok) {s : Stt} (i : IsSt t.hs s)
include ok i
omit ok i
end
end Q

namespace Q
open PySem PySem.Spec PyProof.Rows L2
section
variable {t : Td} (ok : t.Ok)
include ok
end
end Q

namespace Q
open PySem PySem.Spec PyProof.Rows L2
section
variable {K i : Nat} {js : List Nat} {ρ ρ1 : Env} {S S1 S2 : Store} {x : D}
theorem callP_ok {Φ : FF} {ks : List AK} {as : FL} {ds : List D} {d : D} {outs : Env} (ha : as ρ S = .ok ds S1) (hf : Φ ds S1 = .ok d outs S2) : eCallP Φ ks as ρ S = .ok d (putOuts ks outs ρ) S2 := by
  unfold eCallP
  rw [ha]
  show (match Φ ds S1 with
    | .ok d outs S2 => REP.ok d (putOuts ks outs ρ) S2
    | .exc x outs S2 => .exc x (putOuts ks outs ρ) S2
    | .no => .no) = _
  rw [hf]
theorem setP_ok {C : FEP} {d : D} {j : Nat} (h : C ρ S = .ok d ρ1 S1) : fSetP j C ρ S = .nx (ρ1.set j (some d)) S1 := by
  unfold fSetP
  rw [h]
  rfl
end
section
variable {a b c x : D} {S : Store} {ρ : Env} {i : Nat}
end
end Q

set_option maxHeartbeats 2000000
namespace Q
open PySem PySem.Spec PyProof.Rows L2
structure Sx where
  n : Nat
  b : Nat → Int
  u : Nat
  w : Nat → Int
  f : Nat → Int
  h : Int
def Sx.d (s : Sx) : D := .tup [.tup (tbl s.n fun j => .int (s.b j)), .int s.u, .tup (tbl s.n fun j => .int (s.w j)), .tup (tbl s.n fun j => .int (s.f j)), .int s.h]
theorem tupL_of {l : List D} (h : ∀ d ∈ l, tupD d = true) : tupL l = true := by
  induction l with
  | nil => rfl
  | cons d r ih =>
    rw [tupL, h d List.mem_cons_self, ih fun x hx => h x (List.mem_cons_of_mem _ hx)]
    rfl
theorem tupL_tbl {n : Nat} {f : Nat → Int} : tupL (tbl n fun j => .int (f j)) = true := tupL_of fun d hd => by
  obtain ⟨i, hi⟩ := List.mem_iff_getElem?.mp hd
  have hn : i < n := by
    have := (List.getElem?_eq_some_iff.mp hi).1
    rw [tbl_len] at this
    exact this
  rw [tbl_get hn] at hi
  cases hi
  rfl
theorem Sx.tup (s : Sx) : tupD s.d = true := by
  unfold Sx.d
  simp only [tupD, tupL, tupL_tbl, Bool.and_true]
inductive Cnd where
  | cold (r : Nat) (w : Int) | burn (r : Nat) | rest (r : Nat) | stock (w : Int)
  | both (a b : Cnd) | one (a b : Cnd) | un (a : Cnd)
def Cnd.d : Cnd → D
  | .cold r w => .fn 0 [.int r, .int w]
  | .burn r => .fn 1 [.int r]
  | .rest r => .fn 2 [.int r]
  | .stock w => .fn 3 [.int w]
  | .both a b => .fn 4 [a.d, b.d]
  | .one a b => .fn 5 [a.d, b.d]
  | .un a => .fn 6 [a.d]
def Cnd.holds (s : Sx) : Cnd → Bool
  | .cold r w => decide (s.b r < w)
  | .burn r => s.u.testBit r
  | .rest r => decide (s.w r = 0)
  | .stock w => decide (w ≤ s.h)
  | .both a b => a.holds s && b.holds s
  | .one a b => a.holds s || b.holds s
  | .un a => !a.holds s
def Cnd.depth : Cnd → Nat
  | .both a b => max a.depth b.depth + 1
  | .one a b => max a.depth b.depth + 1
  | .un a => a.depth + 1
  | _ => 1
def Cnd.many : Cnd → Nat
  | .both a b => a.many + b.many + 1
  | .one a b => a.many + b.many + 1
  | .un a => a.many + 1
  | _ => 1
theorem Cnd.depth_le : ∀ c : Cnd, c.depth ≤ c.many
  | .cold _ _ => Nat.le_refl _
  | .burn _ => Nat.le_refl _
  | .rest _ => Nat.le_refl _
  | .stock _ => Nat.le_refl _
  | .both a b => by
    have := a.depth_le; have := b.depth_le
    unfold Cnd.depth Cnd.many; omega
  | .one a b => by
    have := a.depth_le; have := b.depth_le
    unfold Cnd.depth Cnd.many; omega
  | .un a => by
    have := a.depth_le
    unfold Cnd.depth Cnd.many; omega
def Cnd.Ok (n : Nat) : Cnd → Prop
  | .cold r _ => r < n
  | .burn r => r < n
  | .rest r => r < n
  | .stock _ => True
  | .both a b => a.Ok n ∧ b.Ok n
  | .one a b => a.Ok n ∧ b.Ok n
  | .un a => a.Ok n
theorem Cnd.isFn (c : Cnd) : ∃ k l, c.d = .fn k l := by
  cases c <;> exact ⟨_, _, rfl⟩
theorem Cnd.cap (c : Cnd) : capD c.d = true := by
  cases c <;> rfl
def Cnd.leaf : Cnd → D
  | .cold r w => .tup [.str "colder", .int r, .int w]
  | .burn r => .tup [.str "burns", .int r, .int 0]
  | .rest r => .tup [.str "rested", .int r, .int 0]
  | .stock w => .tup [.str "stocked", .int 0, .int w]
  | _ => .non
def Cnd.Leaf : Cnd → Prop
  | .both _ _ => False
  | .one _ _ => False
  | .un _ => False
  | _ => True
def callVK (Λ : D → D → Option Bool) : Option (Option D) → RE → RE
  | some (some (.fn k l)), r => r.bind (ansV Λ (.fn k l))
  | _, _ => .no
theorem ev_callV {Λ : D → D → Option Bool} {i : Nat} {A : FE} {ρ : Env} {S : Store} : eCallV Λ i A ρ S = callVK Λ ρ[i]? (A ρ S) := by
  unfold eCallV callVK
  generalize ρ[i]? = o
  rcases o with _ | _ | d
  · rfl
  · rfl
  · cases d <;> rfl
theorem callVK_ok {Λ : D → D → Option Bool} {c : Cnd} {s : Sx} {b : Bool} {S : Store} (h : Λ c.d s.d = some b) : callVK Λ (some (some c.d)) (.ok s.d S) = .ok (.bl b) S := by
  obtain ⟨k, l, e⟩ := c.isFn
  rw [e] at h ⊢
  show ansV Λ (.fn k l) s.d S = _
  unfold ansV
  rw [if_pos s.tup, h]
theorem lamK_ok {m kk : Nat} {LB : Nat → FE} {l : List D} {st : D} {b : Bool} (hk : kk < m) (e : LB kk ((st :: l).map some) [] = .ok (.bl b) []) : lamK m LB (.fn kk l) st = some b := by
  unfold lamK
  simp only [if_pos hk, e]
theorem Sx.ix0 (s : Sx) : hIx s.d (.int 0) = some (.tup (tbl s.n fun j => .int (s.b j))) := rfl
theorem Sx.ix1 (s : Sx) : hIx s.d (.int 1) = some (.int s.u) := rfl
theorem Sx.ix2 (s : Sx) : hIx s.d (.int 2) = some (.tup (tbl s.n fun j => .int (s.w j))) := rfl
theorem Sx.ix4 (s : Sx) : hIx s.d (.int 4) = some (.int s.h) := rfl
theorem testBit_int {u r : Nat} : (((u / 2 ^ r : Nat) : Int) % 2 == 1) = u.testBit r := by
  rw [mod2_int, Nat.testBit_eq_decide_div_mod_eq]
theorem mkLam_ok {k n : Nat} {ds : List D} {S : Store} (h : ds.all capD = true) : mkLam k n ds S = .ok (.fn k ds) (outsOf (ΓS n) n (ds.map some)) S := if_pos h
end Q

set_option maxHeartbeats 2000000
set_option pp.maxSteps 400
namespace K31
open PySem PySem.Spec PyProof.Rows L2 Q
local macro_rules | `(tactic| walk_at "ev") => `(tactic| simp -implicitDefEqProofs only [hTru_of, ev_meth, ev_fldV, rfe_ok, tbl_len, hIx_rD0, hIx_rD1, ev_body, outsOf, ΓS, List.replicate, List.map_cons, List.map_nil, List.cons_append, List.nil_append, List.headD_cons, List.tail_cons, ev_var, ev_c, ev_op, ev_un, ev_nil, ev_cons, ev_L, ev_tup, ev_lst, ev_call, ev_and, ev_or, ev_not, ev_if, ev_seq, ev_set, ev_ret, ev_drop, ev_pass, ev_brk, ev_ct, ev_raise, ev_ifS, ev_for, ev_held, ev_tru, ev_mut, ev_mutset, mutK_lst, mutR_some, ev_flat, flatK_int, flatK_bl, flatK_str, flatK_non, ev_m1, m1K_str, hIsi_list_lst, hIsi_bool_bl, hIsi_int_bl, hEq_bl, hNe_bl, List.length_map, bind_ok, bind_exc, bindS_ok, bindS_exc, of_some, seq_nx, seq_rt, seq_exc, seq_bk, seq_ct, condS_t, condS_f, condE_t, condE_f, notD_bl, bindE_ok, bindE_exc, bindL_ok, bindL_exc, bindLL_ok, bindLL_exc, bindLS_ok, bindLS_exc, toE_ok, toE_exc, toF_nx, toF_rt, toF_exc, slotE_some, List.getElem?_cons_zero, List.getElem?_cons_succ, List.set_cons_zero, List.set_cons_succ, hNe_int, hEq_int, hAdd_int, hSub_int, hLt_int, hLe_int, hGt_int, hGe_int, hNeg_int, hAbs_int, hIsi_int_int, hIsi_bool_int, hIsi_tuple_tup, hIxT0, hIxT1, hIxT2, hIxT3, hIxT4, hIxL0, hIxL1, hIxL2, hIxL3, hLen_lst, hLen_tup, hLen_scr, ev_sl, bnd_none, bnd_some, bndK_int, hSl_scr, hSl_lst, ev_range1, ev_iseq, seqK_lst, seqK_tup, seqK_scr, Bool.not_true, Bool.not_false, List.length_cons, List.length_nil, Nat.sub_self, Nat.reduceSub, Nat.reduceAdd, Nat.reduceLeDiff, decide_true, decide_false, reduceIte, Int.reduceSub, Int.reduceAdd, Int.reduceMul, Int.reduceNeg, Int.reduceMod, Int.reduceDiv, Int.reduceBEq, Int.reduceLT, Int.reduceLE, Int.cast_ofNat_Int, BEq.rfl, Nat.reduceBEq, Nat.zero_add])
local macro_rules | `(tactic| walk_at "evh") => `(tactic| simp -implicitDefEqProofs only [hTru_of, ev_meth, ev_fldV, rfe_ok, tbl_len, hIx_rD0, hIx_rD1, ev_body, outsOf, ΓS, List.replicate, List.map_cons, List.map_nil, List.cons_append, List.nil_append, List.headD_cons, List.tail_cons, ev_var, ev_c, ev_op, ev_un, ev_nil, ev_cons, ev_L, ev_tup, ev_lst, ev_call, ev_and, ev_or, ev_not, ev_if, ev_seq, ev_set, ev_ret, ev_drop, ev_pass, ev_brk, ev_ct, ev_raise, ev_ifS, ev_for, ev_held, ev_tru, ev_mut, ev_mutset, mutK_lst, mutR_some, ev_flat, flatK_int, flatK_bl, flatK_str, flatK_non, ev_m1, m1K_str, hIsi_list_lst, hIsi_bool_bl, hIsi_int_bl, hEq_bl, hNe_bl, List.length_map, bind_ok, bind_exc, bindS_ok, bindS_exc, of_some, seq_nx, seq_rt, seq_exc, seq_bk, seq_ct, condS_t, condS_f, condE_t, condE_f, notD_bl, bindE_ok, bindE_exc, bindL_ok, bindL_exc, bindLL_ok, bindLL_exc, bindLS_ok, bindLS_exc, toE_ok, toE_exc, toF_nx, toF_rt, toF_exc, slotE_some, List.getElem?_cons_zero, List.getElem?_cons_succ, List.set_cons_zero, List.set_cons_succ, hNe_int, hEq_int, hAdd_int, hSub_int, hLt_int, hLe_int, hGt_int, hGe_int, hNeg_int, hAbs_int, hIsi_int_int, hIsi_bool_int, hIsi_tuple_tup, hIxT0, hIxT1, hIxT2, hIxT3, hIxT4, hIxL0, hIxL1, hIxL2, hIxL3, hLen_lst, hLen_tup, hLen_scr, ev_sl, bnd_none, bnd_some, bndK_int, hSl_scr, hSl_lst, ev_range1, ev_iseq, seqK_lst, seqK_tup, seqK_scr, Bool.not_true, Bool.not_false, List.length_cons, List.length_nil, Nat.sub_self, Nat.reduceSub, Nat.reduceAdd, Nat.reduceLeDiff, decide_true, decide_false, reduceIte, Int.reduceSub, Int.reduceAdd, Int.reduceMul, Int.reduceNeg, Int.reduceMod, Int.reduceDiv, Int.reduceBEq, Int.reduceLT, Int.reduceLE, Int.cast_ofNat_Int, BEq.rfl, Nat.reduceBEq, Nat.zero_add, *])
local macro_rules | `(tactic| walk_at "gs") => `(tactic| simp -implicitDefEqProofs (disch := first | omega | (exact rfl) | assumption) only [hTru_of, ev_meth, ev_fldV, rfe_ok, tbl_len, hIx_rD0, hIx_rD1, ev_body, outsOf, ΓS, List.replicate, List.map_cons, List.map_nil, List.cons_append, List.nil_append, List.headD_cons, List.tail_cons, ev_var, ev_c, ev_op, ev_un, ev_nil, ev_cons, ev_L, ev_tup, ev_lst, ev_call, ev_and, ev_or, ev_not, ev_if, ev_seq, ev_set, ev_ret, ev_drop, ev_pass, ev_brk, ev_ct, ev_raise, ev_ifS, ev_for, ev_held, ev_tru, ev_mut, ev_mutset, mutK_lst, mutR_some, ev_flat, flatK_int, flatK_bl, flatK_str, flatK_non, ev_m1, m1K_str, hIsi_list_lst, hIsi_bool_bl, hIsi_int_bl, hEq_bl, hNe_bl, List.length_map, bind_ok, bind_exc, bindS_ok, bindS_exc, of_some, seq_nx, seq_rt, seq_exc, seq_bk, seq_ct, condS_t, condS_f, condE_t, condE_f, notD_bl, bindE_ok, bindE_exc, bindL_ok, bindL_exc, bindLL_ok, bindLL_exc, bindLS_ok, bindLS_exc, toE_ok, toE_exc, toF_nx, toF_rt, toF_exc, slotE_some, List.getElem?_cons_zero, List.getElem?_cons_succ, List.set_cons_zero, List.set_cons_succ, hNe_int, hEq_int, hAdd_int, hSub_int, hLt_int, hLe_int, hGt_int, hGe_int, hNeg_int, hAbs_int, hIsi_int_int, hIsi_bool_int, hIsi_tuple_tup, hIxT0, hIxT1, hIxT2, hIxT3, hIxT4, hIxL0, hIxL1, hIxL2, hIxL3, hLen_lst, hLen_tup, hLen_scr, ev_sl, bnd_none, bnd_some, bndK_int, hSl_scr, hSl_lst, ev_range1, ev_iseq, seqK_lst, seqK_tup, seqK_scr, Bool.not_true, Bool.not_false, List.length_cons, List.length_nil, Nat.sub_self, Nat.reduceSub, Nat.reduceAdd, Nat.reduceLeDiff, decide_true, decide_false, reduceIte, Int.reduceSub, Int.reduceAdd, Int.reduceMul, Int.reduceNeg, Int.reduceMod, Int.reduceDiv, Int.reduceBEq, Int.reduceLT, Int.reduceLE, Int.cast_ofNat_Int, BEq.rfl, Nat.reduceBEq, Nat.zero_add, hMul_sm, hDiv_sm, hMod_pos, rgK1_ok, rgK2_ok, beq_f, beq_t, decide_eq_true, decide_eq_false, hAdd_int, ev_pvar, ev_pkey, pKeyK_ok, ev_vmut, ev_vput, slotPut_ok, rv_ok, rl_bindR, lstK_lst, dctK_dct, optK_some, mAppend_ok, setAt_nil, hIxD_lst, hIxD_tup, keyF_str, keyF_pair, ev_range2, Nat.not_lt_zero, Bool.false_eq_true, slotK_ok, ev_call0', call0K_ok, call0R_ok, noObjL_nil, noObjL_cons, noObj_int, noObj_bl, noObj_str, noObj_non, noObj_tup, noObj_lst, noObj_scr, noObj_rD, noObjL_ints, noObjL_rats, Bool.and_self, Bool.and_true, Bool.true_and, ev_dct, dctR_ok, itms_nil, itms_l, itms_d, itms_s, itS_ok, Option.map_some, call0C_t, rfe_exc, List.append_nil, Bool.false_and, Bool.and_false, ev_callD, ev_make, makeR_ok, makeR_exc, ev_fld, hIxO_lst])
local macro_rules | `(tactic| walk_at "go") => `(tactic| try simp -implicitDefEqProofs (disch := first | omega | (exact rfl) | assumption) only [hTru_of, ev_meth, ev_fldV, rfe_ok, tbl_len, hIx_rD0, hIx_rD1, ev_body, outsOf, ΓS, List.replicate, List.map_cons, List.map_nil, List.cons_append, List.nil_append, List.headD_cons, List.tail_cons, ev_var, ev_c, ev_op, ev_un, ev_nil, ev_cons, ev_L, ev_tup, ev_lst, ev_call, ev_and, ev_or, ev_not, ev_if, ev_seq, ev_set, ev_ret, ev_drop, ev_pass, ev_brk, ev_ct, ev_raise, ev_ifS, ev_for, ev_held, ev_tru, ev_mut, ev_mutset, mutK_lst, mutR_some, ev_flat, flatK_int, flatK_bl, flatK_str, flatK_non, ev_m1, m1K_str, hIsi_list_lst, hIsi_bool_bl, hIsi_int_bl, hEq_bl, hNe_bl, List.length_map, bind_ok, bind_exc, bindS_ok, bindS_exc, of_some, seq_nx, seq_rt, seq_exc, seq_bk, seq_ct, condS_t, condS_f, condE_t, condE_f, notD_bl, bindE_ok, bindE_exc, bindL_ok, bindL_exc, bindLL_ok, bindLL_exc, bindLS_ok, bindLS_exc, toE_ok, toE_exc, toF_nx, toF_rt, toF_exc, slotE_some, List.getElem?_cons_zero, List.getElem?_cons_succ, List.set_cons_zero, List.set_cons_succ, hNe_int, hEq_int, hAdd_int, hSub_int, hLt_int, hLe_int, hGt_int, hGe_int, hNeg_int, hAbs_int, hIsi_int_int, hIsi_bool_int, hIsi_tuple_tup, hIxT0, hIxT1, hIxT2, hIxT3, hIxT4, hIxL0, hIxL1, hIxL2, hIxL3, hLen_lst, hLen_tup, hLen_scr, ev_sl, bnd_none, bnd_some, bndK_int, hSl_scr, hSl_lst, ev_range1, ev_iseq, seqK_lst, seqK_tup, seqK_scr, Bool.not_true, Bool.not_false, List.length_cons, List.length_nil, Nat.sub_self, Nat.reduceSub, Nat.reduceAdd, Nat.reduceLeDiff, decide_true, decide_false, reduceIte, Int.reduceSub, Int.reduceAdd, Int.reduceMul, Int.reduceNeg, Int.reduceMod, Int.reduceDiv, Int.reduceBEq, Int.reduceLT, Int.reduceLE, Int.cast_ofNat_Int, BEq.rfl, Nat.reduceBEq, Nat.zero_add, hMul_sm, hDiv_sm, hMod_pos, rgK1_ok, rgK2_ok, beq_f, beq_t, decide_eq_true, decide_eq_false, hAdd_int, ev_pvar, ev_pkey, pKeyK_ok, ev_vmut, ev_vput, slotPut_ok, rv_ok, rl_bindR, lstK_lst, dctK_dct, optK_some, mAppend_ok, setAt_nil, hIxD_lst, hIxD_tup, keyF_str, keyF_pair, ev_range2, Nat.not_lt_zero, Bool.false_eq_true, slotK_ok, ev_call0', call0K_ok, call0R_ok, noObjL_nil, noObjL_cons, noObj_int, noObj_bl, noObj_str, noObj_non, noObj_tup, noObj_lst, noObj_scr, noObj_rD, noObjL_ints, noObjL_rats, Bool.and_self, Bool.and_true, Bool.true_and, ev_dct, dctR_ok, itms_nil, itms_l, itms_d, itms_s, itS_ok, Option.map_some, call0C_t, rfe_exc, List.append_nil, Bool.false_and, Bool.and_false, ev_callD, ev_make, makeR_ok, makeR_exc, ev_fld, hIxO_lst])
theorem cell_scr (ns : List Int) (k : Nat) (S : Store) : f__law_cell_at [.scr (ns.map .int), .int k] S = .ok (.int (cellAt ns k)) [none, none] S := by
  unfold f__law_cell_at m__law_cell_at
  walk_at "ev"
  by_cases h : k < ns.length
  · rw [decide_eq_true (show (k : Int) < ns.length by omega)]
    walk_at "ev"
    rw [hIx_scrs h]
    walk_at "ev"
  · rw [decide_eq_false (show ¬ (k : Int) < ns.length by omega), cell_none h]
    walk_at "ev"
theorem cell_lst (ns : List Int) (k : Nat) (S : Store) : f__law_cell_at [.lst (ns.map .int), .int k] S = .ok (.int (cellAt ns k)) [none, none] S := by
  unfold f__law_cell_at m__law_cell_at
  walk_at "ev"
  by_cases h : k < ns.length
  · rw [decide_eq_true (show (k : Int) < ns.length by omega)]
    walk_at "ev"
    rw [hIx_ints h]
    walk_at "ev"
  · rw [decide_eq_false (show ¬ (k : Int) < ns.length by omega), cell_none h]
    walk_at "ev"
theorem cell_scr0 (ns : List Int) (S : Store) : f__law_cell_at [.scr (ns.map .int), .int 0] S = .ok (.int (cellAt ns 0)) [none, none] S := cell_scr ns 0 S
theorem cell_scr1 (ns : List Int) (S : Store) : f__law_cell_at [.scr (ns.map .int), .int 1] S = .ok (.int (cellAt ns 1)) [none, none] S := cell_scr ns 1 S
theorem cell_scr2 (ns : List Int) (S : Store) : f__law_cell_at [.scr (ns.map .int), .int 2] S = .ok (.int (cellAt ns 2)) [none, none] S := cell_scr ns 2 S
theorem cell_scr3 (ns : List Int) (S : Store) : f__law_cell_at [.scr (ns.map .int), .int 3] S = .ok (.int (cellAt ns 3)) [none, none] S := cell_scr ns 3 S
theorem cell_lst0 (ns : List Int) (S : Store) : f__law_cell_at [.lst (ns.map .int), .int 0] S = .ok (.int (cellAt ns 0)) [none, none] S := cell_lst ns 0 S
theorem cell_lst1 (ns : List Int) (S : Store) : f__law_cell_at [.lst (ns.map .int), .int 1] S = .ok (.int (cellAt ns 1)) [none, none] S := cell_lst ns 1 S
local macro_rules | `(tactic| walk_at "gs") => `(tactic| simp -implicitDefEqProofs (disch := first | omega | (exact rfl) | assumption) only [hTru_of, ev_meth, ev_fldV, rfe_ok, tbl_len, hIx_rD0, hIx_rD1, ev_body, outsOf, ΓS, List.replicate, List.map_cons, List.map_nil, List.cons_append, List.nil_append, List.headD_cons, List.tail_cons, ev_var, ev_c, ev_op, ev_un, ev_nil, ev_cons, ev_L, ev_tup, ev_lst, ev_call, ev_and, ev_or, ev_not, ev_if, ev_seq, ev_set, ev_ret, ev_drop, ev_pass, ev_brk, ev_ct, ev_raise, ev_ifS, ev_for, ev_held, ev_tru, ev_mut, ev_mutset, mutK_lst, mutR_some, ev_flat, flatK_int, flatK_bl, flatK_str, flatK_non, ev_m1, m1K_str, hIsi_list_lst, hIsi_bool_bl, hIsi_int_bl, hEq_bl, hNe_bl, List.length_map, bind_ok, bind_exc, bindS_ok, bindS_exc, of_some, seq_nx, seq_rt, seq_exc, seq_bk, seq_ct, condS_t, condS_f, condE_t, condE_f, notD_bl, bindE_ok, bindE_exc, bindL_ok, bindL_exc, bindLL_ok, bindLL_exc, bindLS_ok, bindLS_exc, toE_ok, toE_exc, toF_nx, toF_rt, toF_exc, slotE_some, List.getElem?_cons_zero, List.getElem?_cons_succ, List.set_cons_zero, List.set_cons_succ, hNe_int, hEq_int, hAdd_int, hSub_int, hLt_int, hLe_int, hGt_int, hGe_int, hNeg_int, hAbs_int, hIsi_int_int, hIsi_bool_int, hIsi_tuple_tup, hIxT0, hIxT1, hIxT2, hIxT3, hIxT4, hIxL0, hIxL1, hIxL2, hIxL3, hLen_lst, hLen_tup, hLen_scr, ev_sl, bnd_none, bnd_some, bndK_int, hSl_scr, hSl_lst, ev_range1, ev_iseq, seqK_lst, seqK_tup, seqK_scr, Bool.not_true, Bool.not_false, List.length_cons, List.length_nil, Nat.sub_self, Nat.reduceSub, Nat.reduceAdd, Nat.reduceLeDiff, decide_true, decide_false, reduceIte, Int.reduceSub, Int.reduceAdd, Int.reduceMul, Int.reduceNeg, Int.reduceMod, Int.reduceDiv, Int.reduceBEq, Int.reduceLT, Int.reduceLE, Int.cast_ofNat_Int, BEq.rfl, Nat.reduceBEq, Nat.zero_add, hMul_sm, hDiv_sm, hMod_pos, rgK1_ok, rgK2_ok, beq_f, beq_t, decide_eq_true, decide_eq_false, hAdd_int, ev_pvar, ev_pkey, pKeyK_ok, ev_vmut, ev_vput, slotPut_ok, rv_ok, rl_bindR, lstK_lst, dctK_dct, optK_some, mAppend_ok, setAt_nil, hIxD_lst, hIxD_tup, keyF_str, keyF_pair, ev_range2, Nat.not_lt_zero, Bool.false_eq_true, slotK_ok, ev_call0', call0K_ok, call0R_ok, noObjL_nil, noObjL_cons, noObj_int, noObj_bl, noObj_str, noObj_non, noObj_tup, noObj_lst, noObj_scr, noObj_rD, noObjL_ints, noObjL_rats, Bool.and_self, Bool.and_true, Bool.true_and, ev_dct, dctR_ok, itms_nil, itms_l, itms_d, itms_s, itS_ok, Option.map_some, call0C_t, rfe_exc, List.append_nil, Bool.false_and, Bool.and_false, ev_callD, ev_make, makeR_ok, makeR_exc, ev_fld, hIxO_lst, cell_scr0, cell_scr1, cell_scr2, cell_scr3, cell_lst0, cell_lst1, cell_scr, cell_lst])
local macro_rules | `(tactic| walk_at "go") => `(tactic| try simp -implicitDefEqProofs (disch := first | omega | (exact rfl) | assumption) only [hTru_of, ev_meth, ev_fldV, rfe_ok, tbl_len, hIx_rD0, hIx_rD1, ev_body, outsOf, ΓS, List.replicate, List.map_cons, List.map_nil, List.cons_append, List.nil_append, List.headD_cons, List.tail_cons, ev_var, ev_c, ev_op, ev_un, ev_nil, ev_cons, ev_L, ev_tup, ev_lst, ev_call, ev_and, ev_or, ev_not, ev_if, ev_seq, ev_set, ev_ret, ev_drop, ev_pass, ev_brk, ev_ct, ev_raise, ev_ifS, ev_for, ev_held, ev_tru, ev_mut, ev_mutset, mutK_lst, mutR_some, ev_flat, flatK_int, flatK_bl, flatK_str, flatK_non, ev_m1, m1K_str, hIsi_list_lst, hIsi_bool_bl, hIsi_int_bl, hEq_bl, hNe_bl, List.length_map, bind_ok, bind_exc, bindS_ok, bindS_exc, of_some, seq_nx, seq_rt, seq_exc, seq_bk, seq_ct, condS_t, condS_f, condE_t, condE_f, notD_bl, bindE_ok, bindE_exc, bindL_ok, bindL_exc, bindLL_ok, bindLL_exc, bindLS_ok, bindLS_exc, toE_ok, toE_exc, toF_nx, toF_rt, toF_exc, slotE_some, List.getElem?_cons_zero, List.getElem?_cons_succ, List.set_cons_zero, List.set_cons_succ, hNe_int, hEq_int, hAdd_int, hSub_int, hLt_int, hLe_int, hGt_int, hGe_int, hNeg_int, hAbs_int, hIsi_int_int, hIsi_bool_int, hIsi_tuple_tup, hIxT0, hIxT1, hIxT2, hIxT3, hIxT4, hIxL0, hIxL1, hIxL2, hIxL3, hLen_lst, hLen_tup, hLen_scr, ev_sl, bnd_none, bnd_some, bndK_int, hSl_scr, hSl_lst, ev_range1, ev_iseq, seqK_lst, seqK_tup, seqK_scr, Bool.not_true, Bool.not_false, List.length_cons, List.length_nil, Nat.sub_self, Nat.reduceSub, Nat.reduceAdd, Nat.reduceLeDiff, decide_true, decide_false, reduceIte, Int.reduceSub, Int.reduceAdd, Int.reduceMul, Int.reduceNeg, Int.reduceMod, Int.reduceDiv, Int.reduceBEq, Int.reduceLT, Int.reduceLE, Int.cast_ofNat_Int, BEq.rfl, Nat.reduceBEq, Nat.zero_add, hMul_sm, hDiv_sm, hMod_pos, rgK1_ok, rgK2_ok, beq_f, beq_t, decide_eq_true, decide_eq_false, hAdd_int, ev_pvar, ev_pkey, pKeyK_ok, ev_vmut, ev_vput, slotPut_ok, rv_ok, rl_bindR, lstK_lst, dctK_dct, optK_some, mAppend_ok, setAt_nil, hIxD_lst, hIxD_tup, keyF_str, keyF_pair, ev_range2, Nat.not_lt_zero, Bool.false_eq_true, slotK_ok, ev_call0', call0K_ok, call0R_ok, noObjL_nil, noObjL_cons, noObj_int, noObj_bl, noObj_str, noObj_non, noObj_tup, noObj_lst, noObj_scr, noObj_rD, noObjL_ints, noObjL_rats, Bool.and_self, Bool.and_true, Bool.true_and, ev_dct, dctR_ok, itms_nil, itms_l, itms_d, itms_s, itS_ok, Option.map_some, call0C_t, rfe_exc, List.append_nil, Bool.false_and, Bool.and_false, ev_callD, ev_make, makeR_ok, makeR_exc, ev_fld, hIxO_lst, cell_scr0, cell_scr1, cell_scr2, cell_scr3, cell_lst0, cell_lst1, cell_scr, cell_lst])
def strN (c : Int) : Nat → Int
  | 0 => c % 2147483647 + 1
  | k + 1 => (strN c k * 48271 + 7919 * k * k + 11) % 2147483647
def strA (c : Int) (j : Nat) : Int := strN c (j + 1) / 3
theorem strN_bd (c : Int) : ∀ k, 0 ≤ strN c k ∧ strN c k ≤ 2147483647
  | 0 => by
    unfold strN
    omega
  | k + 1 => by
    unfold strN
    omega
theorem strA_bd (c : Int) (k : Nat) : 0 ≤ strA c k ∧ strA c k < 2147483647 := by
  have := strN_bd c (k + 1)
  unfold strA
  omega
theorem tbl_drop2 {α : Type} {m : Nat} {f : Nat → α} : (tbl (m + 2) f).drop 2 = tbl m fun j => f (j + 2) := by
  apply List.ext_getElem?
  intro i
  rw [List.getElem?_drop]
  by_cases h : i < m
  · rw [tbl_get (r := 2 + i) (by omega), tbl_get h, Nat.add_comm]
  · rw [List.getElem?_eq_none (by rw [tbl_len]; omega), List.getElem?_eq_none (by rw [tbl_len]; omega)]
theorem stream_eq {c : Int} {m : Nat} (hm : m ≤ 1000) (S : Store) : f__law_stream [.int c, .int m] S = .ok (.lst (tbl m fun j => .int (strA c (j + 2)))) [none, none] S := by
  obtain ⟨ρ1, S1, e1, x4, rfl, rfl⟩ := forL_range (v := 4) (b := b__law_stream_1) (fun i ρ S1 => ∃ x4, ρ = [some (.int c), some (.int m), some (.lst (tbl i fun j => .int (strA c j))), some (.int (strN c i)), x4] ∧ S = S1) (m := m + 2)
    (ρ := [some (.int c), some (.int m), some (.lst []), some (.int (c % 2147483647 + 1)), none]) (S := S) ⟨_, rfl, rfl⟩ (by
    rintro i hi ρ S1 ⟨x4, rfl, rfl⟩
    have b := strN_bd c i
    have p40 : (2 : Nat) ^ 40 = 1099511627776 := by decide
    have h1 : hMul (.int (strN c i)) (.int 48271) = some (.int (strN c i * 48271)) := hMul_bd (m := 40) (n := 40) (by omega) (by decide) (by decide)
    have h2 : hMul (.int 7919) (.int i) = some (.int (7919 * i)) := hMul_bd (m := 40) (n := 40) (by decide) (by omega) (by decide)
    have h3 : hMul (.int (7919 * i)) (.int i) = some (.int (7919 * i * i)) := hMul_bd (m := 40) (n := 40) (by omega) (by omega) (by decide)
    have h4 : hMod (.int (strN c i * 48271 + 7919 * i * i + 11)) (.int 2147483647) = some (.int (strN c (i + 1))) := hMod_pos (by decide)
    have h5 : hDiv (.int (strN c (i + 1))) (.int 3) = some (.int (strA c i)) := hDiv_sm (by decide) (by decide)
    refine ⟨_, _, ?_, some (.int i), rfl, rfl⟩
    simp only [u_b__law_stream_1]
    (repeat (first | simp only [h1, h2, h3, h4, h5, mAppend_lt (l := tbl i fun j => D.int (strA c j)) (by rw [tbl_len]; omega)] | walk_at "gs"))
    rw [tbl_succ]
    try rfl)
  have h0 : hMod (.int c) (.int 2147483647) = some (.int (c % 2147483647)) := hMod_pos (by decide)
  have hr : rgK1 [.int ((m : Int) + 2)] S = .ok (rangeL 0 ((m : Int) + 2)) S := rgK1_ok (by omega) (by omega)
  have e1 : forL (tfName 4) b__law_stream_1 (rangeL 0 ((m : Int) + 2)) [some (.int c), some (.int m), some (.lst []), some (.int (c % 2147483647 + 1)), none] S = .nx _ S := e1
  have hc : cutD (tbl (m + 2) fun j => D.int (strA c j)) (some 2) none = tbl m fun j => .int (strA c (j + 2)) := (cutD_drop 2).trans tbl_drop2
  unfold f__law_stream m__law_stream
  (repeat (first | simp only [h0, hr, e1, hc] | walk_at "gs")) <;> exact rfl
local macro_rules | `(tactic| walk_at "gs") => `(tactic| simp -implicitDefEqProofs (disch := first | omega | (exact rfl) | assumption) only [hTru_of, ev_meth, ev_fldV, rfe_ok, tbl_len, hIx_rD0, hIx_rD1, ev_body, outsOf, ΓS, List.replicate, List.map_cons, List.map_nil, List.cons_append, List.nil_append, List.headD_cons, List.tail_cons, ev_var, ev_c, ev_op, ev_un, ev_nil, ev_cons, ev_L, ev_tup, ev_lst, ev_call, ev_and, ev_or, ev_not, ev_if, ev_seq, ev_set, ev_ret, ev_drop, ev_pass, ev_brk, ev_ct, ev_raise, ev_ifS, ev_for, ev_held, ev_tru, ev_mut, ev_mutset, mutK_lst, mutR_some, ev_flat, flatK_int, flatK_bl, flatK_str, flatK_non, ev_m1, m1K_str, hIsi_list_lst, hIsi_bool_bl, hIsi_int_bl, hEq_bl, hNe_bl, List.length_map, bind_ok, bind_exc, bindS_ok, bindS_exc, of_some, seq_nx, seq_rt, seq_exc, seq_bk, seq_ct, condS_t, condS_f, condE_t, condE_f, notD_bl, bindE_ok, bindE_exc, bindL_ok, bindL_exc, bindLL_ok, bindLL_exc, bindLS_ok, bindLS_exc, toE_ok, toE_exc, toF_nx, toF_rt, toF_exc, slotE_some, List.getElem?_cons_zero, List.getElem?_cons_succ, List.set_cons_zero, List.set_cons_succ, hNe_int, hEq_int, hAdd_int, hSub_int, hLt_int, hLe_int, hGt_int, hGe_int, hNeg_int, hAbs_int, hIsi_int_int, hIsi_bool_int, hIsi_tuple_tup, hIxT0, hIxT1, hIxT2, hIxT3, hIxT4, hIxL0, hIxL1, hIxL2, hIxL3, hLen_lst, hLen_tup, hLen_scr, ev_sl, bnd_none, bnd_some, bndK_int, hSl_scr, hSl_lst, ev_range1, ev_iseq, seqK_lst, seqK_tup, seqK_scr, Bool.not_true, Bool.not_false, List.length_cons, List.length_nil, Nat.sub_self, Nat.reduceSub, Nat.reduceAdd, Nat.reduceLeDiff, decide_true, decide_false, reduceIte, Int.reduceSub, Int.reduceAdd, Int.reduceMul, Int.reduceNeg, Int.reduceMod, Int.reduceDiv, Int.reduceBEq, Int.reduceLT, Int.reduceLE, Int.cast_ofNat_Int, BEq.rfl, Nat.reduceBEq, Nat.zero_add, hMul_sm, hDiv_sm, hMod_pos, rgK1_ok, rgK2_ok, beq_f, beq_t, decide_eq_true, decide_eq_false, hAdd_int, ev_pvar, ev_pkey, pKeyK_ok, ev_vmut, ev_vput, slotPut_ok, rv_ok, rl_bindR, lstK_lst, dctK_dct, optK_some, mAppend_ok, setAt_nil, hIxD_lst, hIxD_tup, keyF_str, keyF_pair, ev_range2, Nat.not_lt_zero, Bool.false_eq_true, slotK_ok, ev_call0', call0K_ok, call0R_ok, noObjL_nil, noObjL_cons, noObj_int, noObj_bl, noObj_str, noObj_non, noObj_tup, noObj_lst, noObj_scr, noObj_rD, noObjL_ints, noObjL_rats, Bool.and_self, Bool.and_true, Bool.true_and, ev_dct, dctR_ok, itms_nil, itms_l, itms_d, itms_s, itS_ok, Option.map_some, call0C_t, rfe_exc, List.append_nil, Bool.false_and, Bool.and_false, ev_callD, ev_make, makeR_ok, makeR_exc, ev_fld, hIxO_lst, cell_scr0, cell_scr1, cell_scr2, cell_scr3, cell_lst0, cell_lst1, cell_scr, cell_lst, stream_eq])
local macro_rules | `(tactic| walk_at "go") => `(tactic| try simp -implicitDefEqProofs (disch := first | omega | (exact rfl) | assumption) only [hTru_of, ev_meth, ev_fldV, rfe_ok, tbl_len, hIx_rD0, hIx_rD1, ev_body, outsOf, ΓS, List.replicate, List.map_cons, List.map_nil, List.cons_append, List.nil_append, List.headD_cons, List.tail_cons, ev_var, ev_c, ev_op, ev_un, ev_nil, ev_cons, ev_L, ev_tup, ev_lst, ev_call, ev_and, ev_or, ev_not, ev_if, ev_seq, ev_set, ev_ret, ev_drop, ev_pass, ev_brk, ev_ct, ev_raise, ev_ifS, ev_for, ev_held, ev_tru, ev_mut, ev_mutset, mutK_lst, mutR_some, ev_flat, flatK_int, flatK_bl, flatK_str, flatK_non, ev_m1, m1K_str, hIsi_list_lst, hIsi_bool_bl, hIsi_int_bl, hEq_bl, hNe_bl, List.length_map, bind_ok, bind_exc, bindS_ok, bindS_exc, of_some, seq_nx, seq_rt, seq_exc, seq_bk, seq_ct, condS_t, condS_f, condE_t, condE_f, notD_bl, bindE_ok, bindE_exc, bindL_ok, bindL_exc, bindLL_ok, bindLL_exc, bindLS_ok, bindLS_exc, toE_ok, toE_exc, toF_nx, toF_rt, toF_exc, slotE_some, List.getElem?_cons_zero, List.getElem?_cons_succ, List.set_cons_zero, List.set_cons_succ, hNe_int, hEq_int, hAdd_int, hSub_int, hLt_int, hLe_int, hGt_int, hGe_int, hNeg_int, hAbs_int, hIsi_int_int, hIsi_bool_int, hIsi_tuple_tup, hIxT0, hIxT1, hIxT2, hIxT3, hIxT4, hIxL0, hIxL1, hIxL2, hIxL3, hLen_lst, hLen_tup, hLen_scr, ev_sl, bnd_none, bnd_some, bndK_int, hSl_scr, hSl_lst, ev_range1, ev_iseq, seqK_lst, seqK_tup, seqK_scr, Bool.not_true, Bool.not_false, List.length_cons, List.length_nil, Nat.sub_self, Nat.reduceSub, Nat.reduceAdd, Nat.reduceLeDiff, decide_true, decide_false, reduceIte, Int.reduceSub, Int.reduceAdd, Int.reduceMul, Int.reduceNeg, Int.reduceMod, Int.reduceDiv, Int.reduceBEq, Int.reduceLT, Int.reduceLE, Int.cast_ofNat_Int, BEq.rfl, Nat.reduceBEq, Nat.zero_add, hMul_sm, hDiv_sm, hMod_pos, rgK1_ok, rgK2_ok, beq_f, beq_t, decide_eq_true, decide_eq_false, hAdd_int, ev_pvar, ev_pkey, pKeyK_ok, ev_vmut, ev_vput, slotPut_ok, rv_ok, rl_bindR, lstK_lst, dctK_dct, optK_some, mAppend_ok, setAt_nil, hIxD_lst, hIxD_tup, keyF_str, keyF_pair, ev_range2, Nat.not_lt_zero, Bool.false_eq_true, slotK_ok, ev_call0', call0K_ok, call0R_ok, noObjL_nil, noObjL_cons, noObj_int, noObj_bl, noObj_str, noObj_non, noObj_tup, noObj_lst, noObj_scr, noObj_rD, noObjL_ints, noObjL_rats, Bool.and_self, Bool.and_true, Bool.true_and, ev_dct, dctR_ok, itms_nil, itms_l, itms_d, itms_s, itS_ok, Option.map_some, call0C_t, rfe_exc, List.append_nil, Bool.false_and, Bool.and_false, ev_callD, ev_make, makeR_ok, makeR_exc, ev_fld, hIxO_lst, cell_scr0, cell_scr1, cell_scr2, cell_scr3, cell_lst0, cell_lst1, cell_scr, cell_lst, stream_eq])
theorem has_room_nat (n r : Nat) (S : Store) : f_has_room [.int n, .int r] S = .ok (.bl (n.testBit r)) [none, none] S := by
  have h1 : hMod (.int ((n / 2 ^ r : Nat) : Int)) (.int 2) = some (.int (((n / 2 ^ r : Nat) : Int) % 2)) := hMod_pos (by decide)
  unfold f_has_room m_has_room
  (repeat (first | simp only [hShr_nat, h1, testBit_int (u := n) (r := r)] | walk_at "gs")) <;> exact rfl
theorem lam_ok (s : Sx) : ∀ (c : Cnd) (n : Nat), c.Ok s.n → c.depth ≤ n → lamA n c.d s.d = some (c.holds s)
  | c, 0, _, h => by
    have : 1 ≤ c.depth := by cases c <;> unfold Cnd.depth <;> omega
    omega
  | .cold r w, n + 1, ok, _ => by
    have e1 : hIx (.tup (tbl s.n fun j => .int (s.b j))) (.int r) = some (.int (s.b r)) := hIx_tup (tbl_get ok)
    refine lamK_ok (by decide) ?_
    show lb_colder (lamA n) _ _ = _
    unfold lb_colder
    (repeat (first | simp only [s.ix0, e1] | walk_at "gs")) <;> exact rfl
  | .burn r, n + 1, ok, _ => by
    have e1 := has_room_nat s.u r []
    refine lamK_ok (by decide) ?_
    show lb_burns (lamA n) _ _ = _
    unfold lb_burns
    (repeat (first | simp only [s.ix1, e1] | walk_at "gs")) <;> exact rfl
  | .rest r, n + 1, ok, _ => by
    have e1 : hIx (.tup (tbl s.n fun j => .int (s.w j))) (.int r) = some (.int (s.w r)) := hIx_tup (tbl_get ok)
    have e2 : hEq (.int (s.w r)) (.int 0) = some (.bl (decide (s.w r = 0))) := by
      rw [hEq_int]
      rfl
    refine lamK_ok (by decide) ?_
    show lb_rested (lamA n) _ _ = _
    unfold lb_rested
    (repeat (first | simp only [s.ix2, e1, e2] | walk_at "gs")) <;> exact rfl
  | .stock w, n + 1, ok, _ => by
    refine lamK_ok (by decide) ?_
    show lb_stocked (lamA n) _ _ = _
    unfold lb_stocked
    (repeat (first | simp only [s.ix4] | walk_at "gs")) <;> exact rfl
  | .both a b, n + 1, ok, h => by
    unfold Cnd.depth at h
    have e1 := lam_ok s a n ok.1 (by omega)
    have e2 := lam_ok s b n ok.2 (by omega)
    refine lamK_ok (by decide) ?_
    show lb_both_of (lamA n) _ _ = _
    unfold lb_both_of
    have k1 := callVK_ok (S := []) e1
    have k2 := callVK_ok (S := []) e2
    cases q : a.holds s
    · rw [q] at k1
      (repeat (first | simp only [ev_callV, k1] | walk_at "gs"))
      show _ = RE.ok (.bl (a.holds s && b.holds s)) []
      rw [q] <;> rfl
    · rw [q] at k1
      (repeat (first | simp only [ev_callV, k1, k2] | walk_at "gs"))
      show _ = RE.ok (.bl (a.holds s && b.holds s)) []
      rw [q] <;> rfl
  | .one a b, n + 1, ok, h => by
    unfold Cnd.depth at h
    have e1 := lam_ok s a n ok.1 (by omega)
    have e2 := lam_ok s b n ok.2 (by omega)
    refine lamK_ok (by decide) ?_
    show lb_one_of (lamA n) _ _ = _
    unfold lb_one_of
    have k1 := callVK_ok (S := []) e1
    have k2 := callVK_ok (S := []) e2
    cases q : a.holds s
    · rw [q] at k1
      (repeat (first | simp only [ev_callV, k1, k2] | walk_at "gs"))
      show _ = RE.ok (.bl (a.holds s || b.holds s)) []
      rw [q] <;> rfl
    · rw [q] at k1
      (repeat (first | simp only [ev_callV, k1] | walk_at "gs"))
      show _ = RE.ok (.bl (a.holds s || b.holds s)) []
      rw [q] <;> rfl
  | .un a, n + 1, ok, h => by
    unfold Cnd.depth at h
    have e1 := lam_ok s a n ok (by omega)
    refine lamK_ok (by decide) ?_
    show lb_unlike (lamA n) _ _ = _
    unfold lb_unlike
    have k1 := callVK_ok (S := []) e1
    (repeat (first | simp only [ev_callV, k1] | walk_at "gs"))
    try rfl
theorem in_bits_eq (u r : Nat) (hr : r ≤ 60) (S : Store) : f__law_in_bits [.int u, .int r] S = .ok (.bl (u.testBit r)) [none, none] S := by
  obtain ⟨ρ1, S1, e1, x, rfl, rfl⟩ := forL_range (v := 2) (b := b__law_in_bits_1) (fun i ρ S1 => ∃ x, ρ = [some (.int ((u / 2 ^ i : Nat) : Int)), some (.int r), x] ∧ S = S1) (m := r)
    (ρ := [some (.int u), some (.int r), none]) (S := S) ⟨none, by rw [Nat.pow_zero, Nat.div_one], rfl⟩ (by
    rintro i hi ρ S1 ⟨x, rfl, rfl⟩
    have h1 : ((u / 2 ^ i : Nat) : Int) / 2 = ((u / 2 ^ (i + 1) : Nat) : Int) := by
      rw [Nat.pow_succ, ← Nat.div_div_eq_div_mul]
      rfl
    refine ⟨_, _, ?_, some (.int i), rfl, rfl⟩
    simp only [u_b__law_in_bits_1]
    (repeat (first | simp only [h1] | walk_at "gs"))
    try rfl)
  have hr1 : rgK1 [.int (r : Int)] S = .ok (rangeL 0 (r : Int)) S := rgK1_ok (by omega) (by omega)
  have h1 : hMod (.int ((u / 2 ^ r : Nat) : Int)) (.int 2) = some (.int (((u / 2 ^ r : Nat) : Int) % 2)) := hMod_pos (by decide)
  unfold f__law_in_bits m__law_in_bits
  (repeat (first | simp only [hr1, e1, h1, testBit_int (u := u) (r := r)] | walk_at "gs")) <;> exact rfl
theorem str_t (x : Str) (h : PyData.canLay0 (.str x) = true := by decide +kernel) : hEq (.str x) (.str x) = some (.bl true) := hEq_t (by simp only [plD]; exact h)
theorem str_f (x y : Str) (h : PyData.canLay0 (.str x) = true := by decide +kernel) (h2 : PyData.canLay0 (.str y) = true := by decide +kernel) (e : x ≠ y := by decide) : hEq (.str x) (.str y) = some (.bl false) := hEq_f (by simp only [plD]; exact h) (by simp only [plD]; exact h2) fun z => e (by cases z; rfl)
theorem holds_eq (c : Cnd) (s : Sx) (hl : c.Leaf) (ok : c.Ok s.n) (hn : s.n ≤ 60) (S : Store) : f__law_holds [c.leaf, s.d] S = .ok (.bl (c.holds s)) [none, none] S := by
  unfold f__law_holds m__law_holds
  cases c with
  | cold r w =>
    have e1 : hIx (.tup (tbl s.n fun j => .int (s.b j))) (.int r) = some (.int (s.b r)) := hIx_tup (tbl_get ok)
    (repeat (first | simp only [Cnd.leaf, str_t "colder", s.ix0, e1] | walk_at "gs")) <;> exact rfl
  | burn r =>
    have ok : r < s.n := ok
    have e1 := in_bits_eq s.u r (by omega) S
    (repeat (first | simp only [Cnd.leaf, str_f "burns" "colder", str_t "burns", s.ix1, e1] | walk_at "gs")) <;> exact rfl
  | rest r =>
    have e1 : hIx (.tup (tbl s.n fun j => .int (s.w j))) (.int r) = some (.int (s.w r)) := hIx_tup (tbl_get ok)
    have e2 : hEq (.int (s.w r)) (.int 0) = some (.bl (decide (s.w r = 0))) := by
      rw [hEq_int]
      rfl
    (repeat (first | simp only [Cnd.leaf, str_f "rested" "colder", str_f "rested" "burns", str_t "rested", s.ix2, e1, e2] | walk_at "gs")) <;> exact rfl
  | stock w => (repeat (first | simp only [Cnd.leaf, str_f "stocked" "colder", str_f "stocked" "burns", str_f "stocked" "rested", s.ix4] | walk_at "gs")) <;> exact rfl
  | _ => exact hl.elim
theorem made_leaf_eq (c : Cnd) (hl : c.Leaf) (S : Store) : f__law_made_leaf [c.leaf] S = .ok c.d [none] S := by
  unfold f__law_made_leaf m__law_made_leaf
  cases c with
  | cold r w =>
    have e1 : f_colder [.int r, .int w] S = .ok (.fn 0 [.int r, .int w]) _ S := mkLam_ok rfl
    (repeat (first | simp only [Cnd.leaf, str_t "colder", e1] | walk_at "gs")) <;> exact rfl
  | burn r =>
    have e1 : f_burns [.int r] S = .ok (.fn 1 [.int r]) _ S := mkLam_ok rfl
    (repeat (first | simp only [Cnd.leaf, str_f "burns" "colder", str_t "burns", e1] | walk_at "gs")) <;> exact rfl
  | rest r =>
    have e1 : f_rested [.int r] S = .ok (.fn 2 [.int r]) _ S := mkLam_ok rfl
    (repeat (first | simp only [Cnd.leaf, str_f "rested" "colder", str_f "rested" "burns", str_t "rested", e1] | walk_at "gs")) <;> exact rfl
  | stock w =>
    have e1 : f_stocked [.int w] S = .ok (.fn 3 [.int w]) _ S := mkLam_ok rfl
    (repeat (first | simp only [Cnd.leaf, str_f "stocked" "colder", str_f "stocked" "burns", str_f "stocked" "rested", e1] | walk_at "gs")) <;> exact rfl
  | _ => exact hl.elim
theorem both_of_eq (a b : Cnd) (S : Store) : f_both_of [a.d, b.d] S = .ok (Cnd.both a b).d [none, none] S := mkLam_ok (by simp [a.cap, b.cap])
theorem one_of_eq (a b : Cnd) (S : Store) : f_one_of [a.d, b.d] S = .ok (Cnd.one a b).d [none, none] S := mkLam_ok (by simp [a.cap, b.cap])
theorem unlike_eq (a : Cnd) (S : Store) : f_unlike [a.d] S = .ok (Cnd.un a).d [none] S := mkLam_ok (by simp [a.cap])
def stX (c : Int) (n : Nat) : Sx := ⟨n, fun (j : Nat) => strA c (j + 2) % 7, ((strA c 6 % 16) % ((2 ^ n : Nat) : Int)).toNat, fun (j : Nat) => strA c (j + 2) / 7 % 4, fun (j : Nat) => strA c (j + 2) / 28 % 4, strA c 7 % 31⟩
theorem state_eq (c : Int) (n : Nat) (h1 : 1 ≤ n) (h4 : n ≤ 4) (S : Store) : f__law_state [.lst (tbl 8 fun j => .int (strA c (j + 2))), .int n] S = .ok (stX c n).d [none, none] S := by
  have hx : ∀ j : Nat, j < 8 → hIx (.lst (tbl 8 fun (j : Nat) => D.int (strA c (j + 2)))) (.int j) = some (.int (strA c (j + 2))) := fun j hj => hIx_tbl hj
  have hr : rgK1 [.int (n : Int)] S = .ok (rangeL 0 (n : Int)) S := rgK1_ok (by omega) (by omega)
  have l1 : ∀ x2 x3 x4 x5, eLc (iRange1 (lCons (eVar 1) lNil)) [5] (tfName 5) (eC (.bl true)) e__law_state_1 [some (.lst (tbl 8 fun j => D.int (strA c (j + 2)))), some (.int n), x2, x3, x4, x5] S = .ok (.lst (tbl n fun j => .int (strA c (j + 2) % 7))) S := fun x2 x3 x4 x5 => eLc_range (m := n) (fun j => .int (strA c (j + 2) % 7))
    (by (repeat (first | simp only [hr] | walk_at "gs")) <;> exact rfl) (by omega) (fun j hj => by
      have h1 := hx j (by omega)
      have h2 : hMod (.int (strA c (j + 2))) (.int 7) = some (.int (strA c (j + 2) % 7)) := hMod_pos (by decide)
      simp only [u_e__law_state_1]
      (repeat (first | simp only [wipeE, h1, h2] | walk_at "gs")) <;> exact rfl)
  have l2 : ∀ x2 x3 x4 x5, eLc (iRange1 (lCons (eVar 1) lNil)) [5] (tfName 5) (eC (.bl true)) e__law_state_2 [some (.lst (tbl 8 fun j => D.int (strA c (j + 2)))), some (.int n), x2, x3, x4, x5] S = .ok (.lst (tbl n fun j => .int (strA c (j + 2) / 7 % 4))) S := fun x2 x3 x4 x5 => eLc_range (m := n) (fun j => .int (strA c (j + 2) / 7 % 4))
    (by (repeat (first | simp only [hr] | walk_at "gs")) <;> exact rfl) (by omega) (fun j hj => by
      have h1 := hx j (by omega)
      have h2 : hDiv (.int (strA c (j + 2))) (.int 7) = some (.int (strA c (j + 2) / 7)) := hDiv_sm (by decide) (by decide)
      have h3 : hMod (.int (strA c (j + 2) / 7)) (.int 4) = some (.int (strA c (j + 2) / 7 % 4)) := hMod_pos (by decide)
      simp only [u_e__law_state_2]
      (repeat (first | simp only [wipeE, h1, h2, h3] | walk_at "gs")) <;> exact rfl)
  have l3 : ∀ x2 x3 x4 x5, eLc (iRange1 (lCons (eVar 1) lNil)) [5] (tfName 5) (eC (.bl true)) e__law_state_3 [some (.lst (tbl 8 fun j => D.int (strA c (j + 2)))), some (.int n), x2, x3, x4, x5] S = .ok (.lst (tbl n fun j => .int (strA c (j + 2) / 28 % 4))) S := fun x2 x3 x4 x5 => eLc_range (m := n) (fun j => .int (strA c (j + 2) / 28 % 4))
    (by (repeat (first | simp only [hr] | walk_at "gs")) <;> exact rfl) (by omega) (fun j hj => by
      have h1 := hx j (by omega)
      have h2 : hDiv (.int (strA c (j + 2))) (.int 28) = some (.int (strA c (j + 2) / 28)) := hDiv_sm (by decide) (by decide)
      have h3 : hMod (.int (strA c (j + 2) / 28)) (.int 4) = some (.int (strA c (j + 2) / 28 % 4)) := hMod_pos (by decide)
      simp only [u_e__law_state_3]
      (repeat (first | simp only [wipeE, h1, h2, h3] | walk_at "gs")) <;> exact rfl)
  have x4 : hIx (.lst (tbl 8 fun (j : Nat) => D.int (strA c (j + 2)))) (.int 4) = some (.int (strA c 6)) := hx 4 (by decide)
  have x5 : hIx (.lst (tbl 8 fun (j : Nat) => D.int (strA c (j + 2)))) (.int 5) = some (.int (strA c 7)) := hx 5 (by decide)
  have m1 : hMod (.int (strA c 6)) (.int 16) = some (.int (strA c 6 % 16)) := hMod_pos (by decide)
  have m2 : hMod (.int (strA c 7)) (.int 31) = some (.int (strA c 7 % 31)) := hMod_pos (by decide)
  have tb : ∀ f : Nat → D, hTuple (.lst (tbl n f)) = some (.tup (tbl n f)) := fun f => rfl
  have p : hIx (.lst [.int 2, .int 4, .int 8, .int 16]) (.int ((n : Int) - 1)) = some (.int ((2 ^ n : Nat) : Int)) := by
    have : n = 1 ∨ n = 2 ∨ n = 3 ∨ n = 4 := by omega
    rcases this with rfl | rfl | rfl | rfl <;> rfl
  have pp : (0 : Int) < ((2 ^ n : Nat) : Int) := by
    have := Nat.two_pow_pos n
    omega
  have m3 : hMod (.int (strA c 6 % 16)) (.int ((2 ^ n : Nat) : Int)) = some (.int (strA c 6 % 16 % ((2 ^ n : Nat) : Int))) := hMod_pos pp
  have m4 : strA c 6 % 16 % ((2 ^ n : Nat) : Int) = (((strA c 6 % 16 % ((2 ^ n : Nat) : Int)).toNat : Nat) : Int) := (Int.toNat_of_nonneg (Int.emod_nonneg _ (by omega))).symm
  unfold f__law_state m__law_state
  (repeat (first | simp only [l1, l2, l3, x4, x5, m1, m2, tb, p, m3] | walk_at "gs"))
  show _ = RF.ok (stX c n).d [none, none] S
  unfold Sx.d stX
  simp only []
  rw [← m4]
def cndX (a b c d : Int) (far : Int) (n : Nat) : Cnd :=
  if a % 4 = 0 then .cold (b % (n : Int)).toNat ((if c % 3 = 0 then d % 9 else if c % 3 = 1 then d % 9 else far) - c / 3 % 3)
  else if a % 4 = 1 then .burn (b % (n : Int)).toNat
  else if a % 4 = 2 then .rest (b % (n : Int)).toNat
  else .stock ((if c % 3 = 0 then d % 34 else if c % 3 = 1 then d % 34 else far) - c / 3 % 3)
theorem cndX_leaf {a b c d far : Int} {n : Nat} : (cndX a b c d far n).Leaf := by
  unfold cndX
  split
  · exact trivial
  · split
    · exact trivial
    · split <;> exact trivial
theorem cndX_ok {a b c d far : Int} {n : Nat} (hn : 1 ≤ n) : (cndX a b c d far n).Ok n := by
  have h : (b % (n : Int)).toNat < n := by
    have h1 := Int.emod_nonneg b (b := (n : Int)) (by omega)
    have h2 := Int.emod_lt_of_pos b (b := (n : Int)) (by omega)
    omega
  unfold cndX
  split
  · exact h
  · split
    · exact h
    · split
      · exact h
      · exact trivial
theorem leaf_eq (l : List D) (a b c d : Int) (n : Nat) (hn : 1 ≤ n) (h0 : hIx (.lst l) (.int 0) = some (.int a)) (h1 : hIx (.lst l) (.int 1) = some (.int b)) (h2 : hIx (.lst l) (.int 2) = some (.int c)) (h3 : hIx (.lst l) (.int 3) = some (.int d)) (hd : 0 ≤ d ∧ d < 2147483647) (S : Store) :
    f__law_leaf [.lst l, .int n] S = .ok (cndX a b c d (d * (10 ^ 49 + 9) % 10 ^ 59) n).leaf [none, none] S := by
  have m1 : hMod (.int b) (.int n) = some (.int (b % (n : Int))) := hMod_pos (by omega)
  have e1 : b % (n : Int) = (((b % (n : Int)).toNat : Nat) : Int) := (Int.toNat_of_nonneg (Int.emod_nonneg _ (by omega))).symm
  have p1 : hPow (.int 10) (.int 49) = some (.int (10 ^ 49)) := rfl
  have p2 : hPow (.int 10) (.int 59) = some (.int (10 ^ 59)) := rfl
  have p40 : (2 : Nat) ^ 40 = 1099511627776 := by decide
  have u1 : hMul (.int d) (.int (10 ^ 49 + 9)) = some (.int (d * (10 ^ 49 + 9))) := hMul_bd (m := 40) (n := 400) (by omega) (by decide) (by decide)
  have u2 : hMod (.int (d * (10 ^ 49 + 9))) (.int (10 ^ 59)) = some (.int (d * (10 ^ 49 + 9) % 10 ^ 59)) := hMod_pos (by decide)
  have v0 : hMod (.int a) (.int 4) = some (.int (a % 4)) := hMod_pos (by decide)
  have w1 : hMod (.int c) (.int 3) = some (.int (c % 3)) := hMod_pos (by decide)
  have w2 : hDiv (.int c) (.int 3) = some (.int (c / 3)) := hDiv_sm (by decide) (by decide)
  have w3 : hMod (.int (c / 3)) (.int 3) = some (.int (c / 3 % 3)) := hMod_pos (by decide)
  have z9 : hMod (.int d) (.int 9) = some (.int (d % 9)) := hMod_pos (by decide)
  have z34 : hMod (.int d) (.int 34) = some (.int (d % 34)) := hMod_pos (by decide)
  have pick : ∀ x y z : Int, hIx (.lst [.int x, .int y, .int z]) (.int (c % 3)) = some (.int (if c % 3 = 0 then x else if c % 3 = 1 then y else z)) := fun x y z => by
    have : c % 3 = 0 ∨ c % 3 = 1 ∨ c % 3 = 2 := by omega
    rcases this with e | e | e <;> rw [e] <;> rfl
  unfold f__law_leaf m__law_leaf
  have : a % 4 = 0 ∨ a % 4 = 1 ∨ a % 4 = 2 ∨ a % 4 = 3 := by omega
  rcases this with e | e | e | e <;> rw [e] at v0
  · (repeat (first | simp only [h0, h1, h2, h3, m1, p1, p2, u1, u2, v0, w1, w2, w3, z9, pick] | walk_at "gs"))
    unfold cndX
    rw [if_pos e, Cnd.leaf, ← e1]
  · (repeat (first | simp only [h0, h1, h2, h3, m1, p1, p2, u1, u2, v0] | walk_at "gs"))
    unfold cndX
    rw [if_neg (show ¬ a % 4 = 0 by omega), if_pos e, Cnd.leaf, ← e1]
  · (repeat (first | simp only [h0, h1, h2, h3, m1, p1, p2, u1, u2, v0] | walk_at "gs"))
    unfold cndX
    rw [if_neg (show ¬ a % 4 = 0 by omega), if_neg (show ¬ a % 4 = 1 by omega), if_pos e, Cnd.leaf, ← e1]
  · (repeat (first | simp only [h0, h1, h2, h3, m1, p1, p2, u1, u2, v0, w1, w2, w3, z34, pick] | walk_at "gs"))
    unfold cndX
    rw [if_neg (show ¬ a % 4 = 0 by omega), if_neg (show ¬ a % 4 = 1 by omega), if_neg (show ¬ a % 4 = 2 by omega), Cnd.leaf]
def mkD (s : Nat → Sx) (c : Cnd) : D := .tup [c.d, .lst (tbl 3 fun j => .bl (c.holds (s j))), .int c.many]
def stsD (s : Nat → Sx) : D := .lst (tbl 3 fun j => (s j).d)
theorem eLc_seq {it : FL} {vs : List Nat} {v : Nat} {E : FE} {ρ : Q.Env} {S S1 : Store} {m : Nat} (g f : Nat → D) (hi : it ρ S = .ok (tbl m g) S1) (hm : m ≤ 1000000)
    (h : ∀ j, j < m → E ((wipeE ρ vs).set v (some (g j))) S1 = .ok (f j) S1) : eLc it vs (tfName v) (eC (.bl true)) E ρ S = .ok (.lst (tbl m f)) S1 := by
  have e := eLc_eq (it := it) (vs := vs) (tf := tfName v) (C := eC (.bl true)) (E := E) (ρ := ρ) (S := S) (S1 := S1) (ds := tbl m g) (fun _ => true) (fun d => match E ((wipeE ρ vs).set v (some d)) S1 with
    | .ok y _ => y
    | _ => .non) hi (by rw [tbl_len]; exact hm) (fun d hd => by
    obtain ⟨i, hi⟩ := List.mem_iff_getElem?.mp hd
    have hn : i < m := by
      have := (List.getElem?_eq_some_iff.mp hi).1
      rw [tbl_len] at this
      exact this
    rw [tbl_get hn] at hi
    cases hi
    refine ⟨_, rfl, rfl, fun _ => ?_⟩
    rw [h i hn])
  rw [e, List.filter_eq_self.mpr (fun _ _ => rfl), tbl_map]
  rw [tbl_congr (g := f) (fun j hj => by simp only [h j hj])]
theorem asked_eq (c : Cnd) (s : Nat → Sx) (n : Nat) (hn : ∀ j, j < 3 → (s j).n = n) (ok : c.Ok n) (hd : c.depth ≤ 41) (S : Store) :
    f__law_asked [c.d, .lst (tbl 3 fun j => .bl (c.holds (s j))), stsD s] S = .ok (.bl true) [none, none, none] S := by
  obtain ⟨ρ1, S1, e1, x3, x4, rfl, rfl⟩ := forL_range (v := 3) (b := b__law_asked_1) (fun i ρ S1 => ∃ x3 x4, ρ = [some c.d, some (.lst (tbl 3 fun j => .bl (c.holds (s j)))), some (stsD s), x3, x4] ∧ S = S1) (m := 3)
    (ρ := [some c.d, some (.lst (tbl 3 fun j => .bl (c.holds (s j)))), some (stsD s), none, none]) (S := S) ⟨_, _, rfl, rfl⟩ (by
    rintro i hi ρ S1 ⟨x3, x4, rfl, rfl⟩
    have k0 : hIx (stsD s) (.int i) = some (s i).d := hIx_tbl hi
    have k1 : hIx (.lst (tbl 3 fun j => .bl (c.holds (s j)))) (.int i) = some (.bl (c.holds (s i))) := hIx_tbl hi
    have k2 := callVK_ok (S := S) (lam_ok (s i) c 41 (by rw [hn i hi]; exact ok) hd)
    refine ⟨_, _, ?_, some (.int i), some (.bl (c.holds (s i))), rfl, rfl⟩
    simp only [u_b__law_asked_1]
    (repeat (first | simp only [k0, k1, ev_callV, k2] | walk_at "gs"))
    try rfl)
  have e1 : forL (tfName 3) b__law_asked_1 (rangeL 0 3) [some c.d, some (.lst (tbl 3 fun j => .bl (c.holds (s j)))), some (stsD s), none, none] S = _ := e1
  have hr : rgK1 [.int 3] S = .ok (rangeL 0 3) S := rgK1_ok (n := 3) (by omega) (by omega)
  unfold f__law_asked m__law_asked
  (repeat (first | simp only [hr, e1] | walk_at "gs")) <;> exact rfl
theorem mkD_0 (s : Nat → Sx) (c : Cnd) : hIx (mkD s c) (.int 0) = some c.d := rfl
theorem mkD_1 (s : Nat → Sx) (c : Cnd) : hIx (mkD s c) (.int 1) = some (.lst (tbl 3 fun j => .bl (c.holds (s j)))) := rfl
theorem mkD_2 (s : Nat → Sx) (c : Cnd) : hIx (mkD s c) (.int 2) = some (.int c.many) := rfl
theorem more_eq (x : Int) (L : List Cnd) (s : Nat → Sx) (n : Nat) (hn : 1 ≤ n) (h4 : n ≤ 4) (hs : ∀ j, j < 3 → (s j).n = n) (hL : ∀ c ∈ L, c.Ok n ∧ c.many ≤ 40) (hl : L.length ≤ 1000) (S : Store) :
    ∃ c, c.Ok n ∧ f__law_more__p [.lst (tbl 5 fun (j : Nat) => .int (strA x (j + 2))), .lst (L.map (mkD s)), .int n, stsD s] S = .ok (mkD s c) [none, some (.lst (L.map (mkD s))), none, none] S := by
  have x0 : hIx (.lst (tbl 5 fun (j : Nat) => D.int (strA x (j + 2)))) (.int 0) = some (.int (strA x 2)) := hIx_tbl (r := 0) (by decide)
  have x1 : hIx (.lst (tbl 5 fun (j : Nat) => D.int (strA x (j + 2)))) (.int 1) = some (.int (strA x 3)) := hIx_tbl (r := 1) (by decide)
  have x2 : hIx (.lst (tbl 5 fun (j : Nat) => D.int (strA x (j + 2)))) (.int 2) = some (.int (strA x 4)) := hIx_tbl (r := 2) (by decide)
  have m0 : hMod (.int (strA x 2)) (.int 5) = some (.int (strA x 2 % 5)) := hMod_pos (by decide)
  have hcut : cutD (tbl 5 fun (j : Nat) => D.int (strA x (j + 2))) (some 1) none = tbl 4 fun (j : Nat) => .int (strA x (j + 3)) := rfl
  have y0 : hIx (.lst (tbl 4 fun (j : Nat) => D.int (strA x (j + 3)))) (.int 0) = some (.int (strA x 3)) := hIx_tbl (r := 0) (by decide)
  have y1 : hIx (.lst (tbl 4 fun (j : Nat) => D.int (strA x (j + 3)))) (.int 1) = some (.int (strA x 4)) := hIx_tbl (r := 1) (by decide)
  have y2 : hIx (.lst (tbl 4 fun (j : Nat) => D.int (strA x (j + 3)))) (.int 2) = some (.int (strA x 5)) := hIx_tbl (r := 2) (by decide)
  have y3 : hIx (.lst (tbl 4 fun (j : Nat) => D.int (strA x (j + 3)))) (.int 3) = some (.int (strA x 6)) := hIx_tbl (r := 3) (by decide)
  have lf := leaf_eq _ _ _ _ _ n hn y0 y1 y2 y3 (strA_bd x 6)
  generalize hq : cndX (strA x 3) (strA x 4) (strA x 5) (strA x 6) (strA x 6 * (10 ^ 49 + 9) % 10 ^ 59) n = q at lf
  have qL : q.Leaf := by rw [← hq]; exact cndX_leaf
  have qO : q.Ok n := by rw [← hq]; exact cndX_ok hn
  have mk := made_leaf_eq q qL
  have c1 : ∀ x1 x4 x5 x6 x7 x9 x10 x11 S, eLc (iSeq (eVar 3)) [10] (tfName 10) (eC (.bl true)) e__law_more__p_1 [some (.lst (tbl 5 fun (j : Nat) => D.int (strA x (j + 2)))), x1, some (.int n), some (stsD s), x4, x5, x6, x7, some q.leaf, x9, x10, x11] S = .ok (.lst (tbl 3 fun j => .bl (q.holds (s j)))) S :=
    fun x1 x4 x5 x6 x7 x9 x10 x11 S => eLc_seq (m := 3) (fun j => (s j).d) _ (by unfold stsD; (repeat (walk_at "gs")) <;> exact rfl) (by omega) (fun j hj => by
      have k1 := holds_eq q (s j) qL (by rw [hs j hj]; exact qO) (by rw [hs j hj]; omega) S
      simp only [u_e__law_more__p_1]
      (repeat (first | simp only [wipeE, k1] | walk_at "gs")) <;> exact rfl)
  have qm : (q.many : Int) = 1 := by cases q <;> first | rfl | exact qL.elim
  have leaf : ∀ (x5 : Int), (strA x 2 % 5 < 2 ∨ x5 > 40) → ∀ (x6 x7 : Option D), True := fun _ _ _ _ => trivial
  by_cases hE : L = []
  · subst hE
    refine ⟨q, qO, ?_⟩
    unfold f__law_more__p m__law_more__p
    by_cases hk : strA x 2 % 5 < 2
    · (repeat (first | simp only [x0, m0, hcut, lf, mk, c1, decide_eq_true hk] | walk_at "gs"))
      unfold mkD
      rw [qm] <;> rfl
    · (repeat (first | simp only [x0, m0, hcut, lf, mk, c1, decide_eq_false hk] | walk_at "gs"))
      unfold mkD
      rw [qm] <;> rfl
  · have hp : 0 < L.length := List.length_pos_iff.mpr hE
    obtain ⟨i1, hi1, l1⟩ : ∃ i1 : Nat, strA x 3 % (L.length : Int) = (i1 : Int) ∧ i1 < L.length := by
      have h1 := Int.emod_nonneg (strA x 3) (b := (L.length : Int)) (by omega)
      have h2 := Int.emod_lt_of_pos (strA x 3) (b := (L.length : Int)) (by omega)
      exact ⟨(strA x 3 % (L.length : Int)).toNat, by omega, by omega⟩
    obtain ⟨i2, hi2, l2⟩ : ∃ i2 : Nat, strA x 4 % (L.length : Int) = (i2 : Int) ∧ i2 < L.length := by
      have h1 := Int.emod_nonneg (strA x 4) (b := (L.length : Int)) (by omega)
      have h2 := Int.emod_lt_of_pos (strA x 4) (b := (L.length : Int)) (by omega)
      exact ⟨(strA x 4 % (L.length : Int)).toNat, by omega, by omega⟩
    have m1 : hMod (.int (strA x 3)) (.int (L.length : Int)) = some (.int i1) := by rw [hMod_pos (by omega), hi1]
    have m2 : hMod (.int (strA x 4)) (.int (L.length : Int)) = some (.int i2) := by rw [hMod_pos (by omega), hi2]
    have g1 : hIx (.lst (L.map (mkD s))) (.int i1) = some (mkD s L[i1]) := hIx_lst (by rw [List.getElem?_map, List.getElem?_eq_getElem l1]; rfl)
    have g2 : hIx (.lst (L.map (mkD s))) (.int i2) = some (mkD s L[i2]) := hIx_lst (by rw [List.getElem?_map, List.getElem?_eq_getElem l2]; rfl)
    have o1 := hL _ (List.getElem_mem l1)
    have o2 := hL _ (List.getElem_mem l2)
    have hg : decide ((L.length : Int) > 0) = true := decide_eq_true (by omega)
    generalize ha : L[i1] = a at g1 o1
    generalize hb : L[i2] = b at g2 o2
    by_cases hk : strA x 2 % 5 < 2
    · refine ⟨q, qO, ?_⟩
      unfold f__law_more__p m__law_more__p
      (repeat (first | simp only [x0, x1, x2, m0, hi1, hi2, g1, g2, mkD_2, hg, hcut, lf, mk, c1, decide_eq_true hk] | walk_at "gs"))
      unfold mkD
      rw [qm] <;> rfl
    · by_cases hm : (a.many : Int) + b.many + 1 > 40
      · refine ⟨q, qO, ?_⟩
        unfold f__law_more__p m__law_more__p
        (repeat (first | simp only [x0, x1, x2, m0, hi1, hi2, g1, g2, mkD_2, hg, hcut, lf, mk, c1, decide_eq_false hk, decide_eq_true hm] | walk_at "gs"))
        unfold mkD
        rw [qm] <;> rfl
      · have t1 : ∀ r : Nat, r < 3 → hIx (.lst (tbl 3 fun j => .bl (a.holds (s j)))) (.int r) = some (.bl (a.holds (s r))) := fun r hr => hIx_tbl hr
        have t2 : ∀ r : Nat, r < 3 → hIx (.lst (tbl 3 fun j => .bl (b.holds (s j)))) (.int r) = some (.bl (b.holds (s r))) := fun r hr => hIx_tbl hr
        have k5 : strA x 2 % 5 = 2 ∨ strA x 2 % 5 = 3 ∨ strA x 2 % 5 = 4 := by omega
        have hr : rgK1 [.int 3] S = .ok (rangeL 0 ((3 : Nat) : Int)) S := rgK1_ok (n := 3) (by omega) (by omega)
        rcases k5 with k5 | k5 | k5 <;> rw [k5] at m0
        · refine ⟨.un a, o1.1, ?_⟩
          have c2 : ∀ x4 x5 x7 x8 x9 x10 x11 S, eLc (iSeq (eOp hIx (eVar 6) (eC (.int 1)))) [11] (tfName 11) (eC (.bl true)) e__law_more__p_2 [some (.lst (tbl 5 fun (j : Nat) => D.int (strA x (j + 2)))), some (.lst (L.map (mkD s))), some (.int n), some (stsD s), x4, x5, some (mkD s a), x7, x8, x9, x10, x11] S = .ok (.lst (tbl 3 fun j => .bl (!a.holds (s j)))) S :=
            fun x4 x5 x7 x8 x9 x10 x11 S => eLc_seq (m := 3) (fun j => .bl (a.holds (s j))) _ (by (repeat (first | simp only [mkD_1] | walk_at "gs")) <;> exact rfl) (by omega) (fun j hj => by
              simp only [u_e__law_more__p_2]
              (repeat (first | simp only [wipeE] | walk_at "gs")) <;> exact rfl)
          have u := unlike_eq a
          unfold f__law_more__p m__law_more__p
          (repeat (first | simp only [x0, x1, x2, m0, hi1, hi2, g1, g2, mkD_2, mkD_0, hg, decide_eq_false hm, c2, u] | walk_at "gs"))
          try rfl
        · refine ⟨.both a b, ⟨o1.1, o2.1⟩, ?_⟩
          have c3 : ∀ x4 x5 x8 x9 x10 x11, eLc (iRange1 (lCons (eC (.int 3)) lNil)) [9] (tfName 9) (eC (.bl true)) e__law_more__p_3 [some (.lst (tbl 5 fun (j : Nat) => D.int (strA x (j + 2)))), some (.lst (L.map (mkD s))), some (.int n), some (stsD s), x4, x5, some (mkD s a), some (mkD s b), x8, x9, x10, x11] S = .ok (.lst (tbl 3 fun j => .bl (a.holds (s j) && b.holds (s j)))) S :=
            fun x4 x5 x8 x9 x10 x11 => eLc_range (m := 3) _ (by (repeat (first | simp only [hr] | walk_at "gs")) <;> exact rfl) (by omega) (fun j hj => by
              simp only [u_e__law_more__p_3]
              cases qa : a.holds (s j) <;> (repeat (first | simp only [wipeE, mkD_1, t1 j hj, t2 j hj, qa] | walk_at "gs")) <;> try rfl)
          have u := both_of_eq a b
          unfold f__law_more__p m__law_more__p
          (repeat (first | simp only [x0, x1, x2, m0, hi1, hi2, g1, g2, mkD_2, mkD_0, hg, decide_eq_false hm, c3, u] | walk_at "gs"))
          try rfl
        · refine ⟨.one a b, ⟨o1.1, o2.1⟩, ?_⟩
          have c4 : ∀ x4 x5 x8 x9 x10 x11, eLc (iRange1 (lCons (eC (.int 3)) lNil)) [9] (tfName 9) (eC (.bl true)) e__law_more__p_4 [some (.lst (tbl 5 fun (j : Nat) => D.int (strA x (j + 2)))), some (.lst (L.map (mkD s))), some (.int n), some (stsD s), x4, x5, some (mkD s a), some (mkD s b), x8, x9, x10, x11] S = .ok (.lst (tbl 3 fun j => .bl (a.holds (s j) || b.holds (s j)))) S :=
            fun x4 x5 x8 x9 x10 x11 => eLc_range (m := 3) _ (by (repeat (first | simp only [hr] | walk_at "gs")) <;> exact rfl) (by omega) (fun j hj => by
              simp only [u_e__law_more__p_4]
              cases qa : a.holds (s j) <;> (repeat (first | simp only [wipeE, mkD_1, t1 j hj, t2 j hj, qa] | walk_at "gs")) <;> try rfl)
          have u := one_of_eq a b
          unfold f__law_more__p m__law_more__p
          (repeat (first | simp only [x0, x1, x2, m0, hi1, hi2, g1, g2, mkD_2, mkD_0, hg, decide_eq_false hm, c4, u] | walk_at "gs"))
          try rfl
theorem law_eq (ns : List Int) (hl : ns.length ≤ 63) (hb : small ns) : ∃ outs S', f_law [.scr (ns.map .int)] [] = .ok (.bl true) outs S' := by
  have s3 : ∀ S, f__law_stream [.int (cellAt ns 0), .int 3] S = .ok (.lst (tbl 3 fun (j : Nat) => .int (strA (cellAt ns 0) (j + 2)))) [none, none] S := stream_eq (m := 3) (by decide)
  have x0 : hIx (.lst (tbl 3 fun (j : Nat) => D.int (strA (cellAt ns 0) (j + 2)))) (.int 0) = some (.int (strA (cellAt ns 0) 2)) := hIx_tbl (r := 0) (by decide)
  have m0 : hMod (.int (strA (cellAt ns 0) 2)) (.int 4) = some (.int (strA (cellAt ns 0) 2 % 4)) := hMod_pos (by decide)
  obtain ⟨n, en, hn1, hn4⟩ : ∃ n : Nat, 1 + strA (cellAt ns 0) 2 % 4 = (n : Int) ∧ 1 ≤ n ∧ n ≤ 4 := ⟨(1 + strA (cellAt ns 0) 2 % 4).toNat, by omega, by omega, by omega⟩
  obtain ⟨s, es⟩ : ∃ s : Nat → Sx, s = fun (j : Nat) => stX (cellAt ns 1 + (j : Int) * j) n := ⟨_, rfl⟩
  have hs : ∀ j, j < 3 → (s j).n = n := fun j _ => by rw [es] <;> rfl
  have hr : ∀ S, rgK1 [.int 3] S = .ok (rangeL 0 ((3 : Nat) : Int)) S := fun S => rgK1_ok (n := 3) (by omega) (by omega)
  have cc : ∀ x1 x3 x4 x5 x6 x7 S, eLc (iRange1 (lCons (eC (.int 3)) lNil)) [7] (tfName 7) (eC (.bl true)) e_law_1 [some (.scr (ns.map .int)), x1, some (.int n), x3, x4, x5, x6, x7] S = .ok (stsD s) S :=
    fun x1 x3 x4 x5 x6 x7 S => eLc_range (m := 3) (fun j => (s j).d) (by (repeat (first | simp only [hr] | walk_at "gs")) <;> exact rfl) (by omega) (fun j hj => by
      have p40 : (2 : Nat) ^ 40 = 1099511627776 := by decide
      have h2 : hMul (.int j) (.int j) = some (.int ((j : Int) * j)) := hMul_bd (m := 40) (n := 40) (by omega) (by omega) (by decide)
      have s8 : f__law_stream [.int (cellAt ns 1 + (j : Int) * j), .int 8] S = .ok (.lst (tbl 8 fun (i : Nat) => .int (strA (cellAt ns 1 + (j : Int) * j) (i + 2)))) [none, none] S := stream_eq (m := 8) (by decide) S
      have st := state_eq (cellAt ns 1 + (j : Int) * j) n hn1 hn4 S
      have e : (s j).d = (stX (cellAt ns 1 + (j : Int) * j) n).d := by rw [es]
      have c1 := cell_scr1 ns S
      rw [e]
      simp only [u_e_law_1]
      (repeat (first | simp only [wipeE, c1, h2, s8, st] | walk_at "gs")) <;> exact rfl)
  obtain ⟨ρ1, S1, e1, L, x5, x6, hL, hl1, rfl, rfl⟩ := forL_list (v := 5) (b := b_law_2) D.int (fun i ρ S1 => ∃ (L : List Cnd) (x5 x6 : Option D), (∀ c ∈ L, c.Ok n ∧ c.many ≤ 40) ∧ L.length ≤ i ∧
      ρ = [some (.scr (ns.map .int)), some (.lst (tbl 3 fun (j : Nat) => D.int (strA (cellAt ns 0) (j + 2)))), some (.int n), some (stsD s), some (.lst (L.map (mkD s))), x5, x6, none] ∧ S1 = []) (l := (ns.drop 2).take 36)
    (ρ := [some (.scr (ns.map .int)), some (.lst (tbl 3 fun (j : Nat) => D.int (strA (cellAt ns 0) (j + 2)))), some (.int n), some (stsD s), some (.lst []), none, none, none]) (S := []) ⟨[], _, _, by simp, Nat.zero_le _, rfl, rfl⟩ (by
    rintro i hi ρ S1 ⟨L, x5, x6, hL, hLi, rfl, rfl⟩
    have hi36 : i < 36 := by
      rw [List.length_take] at hi
      omega
    generalize ((ns.drop 2).take 36)[i] = x
    have s5 : f__law_stream [.int x, .int 5] [] = .ok (.lst (tbl 5 fun (j : Nat) => .int (strA x (j + 2)))) [none, none] [] := stream_eq (m := 5) (by decide) []
    obtain ⟨c, co, em⟩ := more_eq x L s n hn1 hn4 hs hL (by omega) []
    have ha : (lCons (eCall f__law_stream (lCons (eVar 5) (lCons (eC (.int 5)) lNil))) (lCons (eVar 4) (lCons (eVar 2) (lCons (eVar 3) lNil)))) [some (.scr (ns.map .int)), some (.lst (tbl 3 fun (j : Nat) => D.int (strA (cellAt ns 0) (j + 2)))), some (.int n), some (stsD s), some (.lst (L.map (mkD s))), some (.int x), x6, none] [] =
        .ok [.lst (tbl 5 fun (j : Nat) => .int (strA x (j + 2))), .lst (L.map (mkD s)), .int n, stsD s] [] := by
      (repeat (first | simp only [s5] | walk_at "gs")) <;> exact rfl
    have ep := setP_ok (j := 6) (callP_ok (ks := [none, some (4, 1), none, none]) ha em)
    by_cases hm : c.many ≤ 40
    · have hm2 : decide ((c.many : Int) ≤ 40) = true := decide_eq_true (by omega)
      have ak := asked_eq c s n hs co (by have := c.depth_le; omega) []
      have ap := mAppend_lt (l := L.map (mkD s)) (d := mkD s c) (by rw [List.length_map]; omega)
      refine ⟨_, [], ?_, L ++ [c], some (.int x), some (mkD s c), fun y hy => ?_, by rw [List.length_append]; simp; omega, rfl, rfl⟩
      · simp only [u_b_law_2]
        rw [show ∀ A B : FS, fSeq A B = fun ρ S => (A ρ S).seq B from fun _ _ => rfl]
        simp only []
        rw [List.set_cons_succ, List.set_cons_succ, List.set_cons_succ, List.set_cons_succ, List.set_cons_succ, List.set_cons_zero, ep]
        (repeat (first | simp only [putOuts, mkD_0, mkD_1, mkD_2, hm2, ap, ak] | walk_at "gs"))
        rw [List.map_append] <;> rfl
      · rcases List.mem_append.mp hy with h | h
        · exact hL y h
        · rw [List.mem_singleton.mp h]
          exact ⟨co, hm⟩
    · have hm2 : decide ((c.many : Int) ≤ 40) = false := decide_eq_false (by omega)
      refine ⟨_, [], ?_, L, some (.int x), some (mkD s c), hL, by omega, rfl, rfl⟩
      simp only [u_b_law_2]
      rw [show ∀ A B : FS, fSeq A B = fun ρ S => (A ρ S).seq B from fun _ _ => rfl]
      simp only []
      rw [List.set_cons_succ, List.set_cons_succ, List.set_cons_succ, List.set_cons_succ, List.set_cons_succ, List.set_cons_zero, ep]
      (repeat (first | simp only [putOuts, mkD_0, mkD_1, mkD_2, hm2] | walk_at "gs"))
      try rfl)
  obtain ⟨ρ2, S2, e2, y6, rfl, rfl⟩ := forL_list (v := 6) (b := b_law_3) (mkD s) (fun i ρ S1 => ∃ (y6 : Option D), ρ = [some (.scr (ns.map .int)), some (.lst (tbl 3 fun (j : Nat) => D.int (strA (cellAt ns 0) (j + 2)))), some (.int n), some (stsD s), some (.lst (L.map (mkD s))), x5, y6, none] ∧ S1 = []) (l := L)
    (ρ := [some (.scr (ns.map .int)), some (.lst (tbl 3 fun (j : Nat) => D.int (strA (cellAt ns 0) (j + 2)))), some (.int n), some (stsD s), some (.lst (L.map (mkD s))), x5, x6, none]) (S := []) ⟨_, rfl, rfl⟩ (by
    rintro i hi ρ S1 ⟨y6, rfl, rfl⟩
    have hc := hL _ (List.getElem_mem hi)
    generalize L[i] = c at hc ⊢
    have ak := asked_eq c s n hs hc.1 (by have := c.depth_le; omega) []
    refine ⟨_, [], ?_, some (mkD s c), rfl, rfl⟩
    simp only [u_b_law_3]
    (repeat (first | simp only [mkD_0, mkD_1, ak] | walk_at "gs")) <;> exact rfl)
  have c0 := cell_scr0 ns []
  have hc : cutD (ns.map D.int) (some 2) (some 38) = ((ns.drop 2).take 36).map D.int := by
    have e := cutD_mid (l := ns.map D.int) 2 38
    rw [List.map_take, List.map_drop]
    exact e
  refine ⟨[none], [], ?_⟩
  unfold f_law m_law
  (repeat (first | simp only [c0, s3, x0, m0, en, cc, hc, e1, e2] | walk_at "gs")) <;> exact rfl
end K31

namespace K31
open PySem PySem.Spec PyProof.Rows L2 Q
set_option maxHeartbeats 0 in
theorem law_mk {l : PySem.W.OpenLaw} {w : World} {K : PySem.W.Frag} {h : Heap} {mg : Str → Option Value} {fa : Addr} (X : K.In h) (G : h.Ns mainGlobals mg) (hfa : mg "law" = some (.ref fa)) (c : Q.SaysH hck hfn K)
    : ∃ fd : FuncData, (∀ (s : Shared) (v : Value), BindsTo s fd ⟨[v], []⟩ [("_law_script", v)]) ∧ ∀ base : Heap, K.In base → base.Ns mainGlobals mg → (∀ p ∈ hmk.map (fun a => (codeA K (He.fAd K a), tabA K (He.fAd K a))), LamX.TabB base mg p.1 p.2) → FnOk l.prog w K mg base (L2.CX l.prog w) 44 fa fd ["_law_script"] (spLawT K (hmk.map fun a => tabA K (He.fAd K a))) := by
  have hc := c.chk
  obtain ⟨hg0, hc⟩ := He.ba hc
  have hg0 := of_decide_eq_true hg0
  have hg1 := hc
  have hg1 := of_decide_eq_true hg1
  obtain ⟨d1, F1⟩ := c.def_ 0 (d := hd1) (by kernel_rfl)
  have F1 := fun_of (st := s_colder) F1
  obtain ⟨d2, F2⟩ := c.def_ 1 (d := hd2) (by kernel_rfl)
  have F2 := fun_of (st := s_has_room) F2
  obtain ⟨d3, F3⟩ := c.def_ 2 (d := hd3) (by kernel_rfl)
  have F3 := fun_of (st := s_burns) F3
  obtain ⟨d4, F4⟩ := c.def_ 3 (d := hd4) (by kernel_rfl)
  have F4 := fun_of (st := s_rested) F4
  obtain ⟨d5, F5⟩ := c.def_ 4 (d := hd5) (by kernel_rfl)
  have F5 := fun_of (st := s_stocked) F5
  obtain ⟨d6, F6⟩ := c.def_ 5 (d := hd6) (by kernel_rfl)
  have F6 := fun_of (st := s_both_of) F6
  obtain ⟨d7, F7⟩ := c.def_ 6 (d := hd7) (by kernel_rfl)
  have F7 := fun_of (st := s_one_of) F7
  obtain ⟨d8, F8⟩ := c.def_ 7 (d := hd8) (by kernel_rfl)
  have F8 := fun_of (st := s_unlike) F8
  obtain ⟨d9, F9⟩ := c.def_ 8 (d := hd9) (by kernel_rfl)
  have F9 := fun_of (st := s__law_stream) F9
  obtain ⟨d10, F10⟩ := c.def_ 9 (d := hd10) (by kernel_rfl)
  have F10 := fun_of (st := s__law_cell_at) F10
  obtain ⟨d11, F11⟩ := c.def_ 10 (d := hd11) (by kernel_rfl)
  have F11 := fun_of (st := s__law_state) F11
  obtain ⟨d12, F12⟩ := c.def_ 11 (d := hd12) (by kernel_rfl)
  have F12 := fun_of (st := s__law_leaf) F12
  obtain ⟨d13, F13⟩ := c.def_ 12 (d := hd13) (by kernel_rfl)
  have F13 := fun_of (st := s__law_made_leaf) F13
  obtain ⟨d14, F14⟩ := c.def_ 13 (d := hd14) (by kernel_rfl)
  have F14 := fun_of (st := s__law_in_bits) F14
  obtain ⟨d15, F15⟩ := c.def_ 14 (d := hd15) (by kernel_rfl)
  have F15 := fun_of (st := s__law_holds) F15
  obtain ⟨d16, F16⟩ := c.def_ 15 (d := hd16) (by kernel_rfl)
  have F16 := fun_of (st := s__law_more__p) F16
  obtain ⟨d17, F17⟩ := c.def_ 16 (d := hd17) (by kernel_rfl)
  have F17 := fun_of (st := s__law_asked) F17
  obtain ⟨d18, F18⟩ := c.def_ 17 (d := hd18) (by kernel_rfl)
  have F18 := fun_of (st := s_law) F18
  obtain ⟨Fx, ea, hb, em⟩ := facts_mk X G hg0 hg1 F1 F2 F3 F4 F5 F6 F7 F8 F9 F10 F11 F12 F13 F14 F15 F16 F17 F18
  have e := hfa.symm.trans Fx.g_law
  cases e
  refine ⟨Fx.d_law, hb, fun base _ _ hT => ?_⟩
  obtain ⟨em0, em1, em2, em3, em4, em5, em6⟩ := em
  have TBx : TBs Fx base := ⟨by
    intro p hp
    refine hT p ?_
    unfold tcs at hp
    rw [em0, em1, em2, em3, em4, em5, em6] at hp
    exact hp⟩
  have q := law_okT (T := th l.prog w Fx (tbs Fx)) (ok_law Fx TBx) law_eq
  have e2 : (th l.prog w Fx (tbs Fx)).tb.map (·.1) = hmk.map fun a => tabA K (He.fAd K a) := by
    show (tbs Fx).map (·.1) = _
    unfold tbs
    rw [em0, em1, em2, em3, em4, em5, em6]
    rfl
  rw [e2] at q
  exact q
end K31
open PySem PySem.W PyProof.Rows
set_option maxRecDepth 100000 in
set_option maxHeartbeats 0 in
theorem PySem.Challenge.cw_stoke_k31_conditions_put_together_holds : PySem.Challenge.rw_stoke_k31_conditions_put_together.Holds := by
  w_on; o_law
  refine HandSHeadRun.head_any (r := OpenLaw.row PySem.Challenge.rw_stoke_k31_conditions_put_together) (q := view (OpenLaw.row PySem.Challenge.rw_stoke_k31_conditions_put_together).prog [20]) (H := K31.hk) (ob := K31.hob) (M := 12000) (loose := K31.hnm) (d := HandSHeadRun.topDef (OpenLaw.row PySem.Challenge.rw_stoke_k31_conditions_put_together).prog 20) (kwd := []) K31.hob_eq
    (by kernel_rfl) (fun s => by kernel_rfl) K31.hrun (by kernel_rfl) (by kernel_rfl) (by kernel_rfl) (by rfl) (by first | assumption | decide +kernel) (by decide +kernel) ⟨rfl, rfl, rfl, rfl, rfl, by decide +kernel⟩ ?hw ?hc
  case hw => w_witness2
  case hc =>
    refine LamX.walk_ofTsE (l := PySem.Challenge.rw_stoke_k31_conditions_put_together) (n := 63) (k := 44) (x := "_law_script") (CX := fun w => L2.CX PySem.Challenge.rw_stoke_k31_conditions_put_together.prog w) rfl (by decide) (by kernel_rfl) ⟨rfl, by decide, by decide⟩ ?F (fun w H s e s' h => Q.law_cx PySem.Challenge.rw_stoke_k31_conditions_put_together.prog w H s e s' h)
    intro w mg fa h Y G hmg0
    obtain ⟨K, KX, c⟩ := Y
    have hmg : mg ("law" : PySem.Str) = some (.ref fa) := by
      have e : (HandSHeadRun.topDef (OpenLaw.row PySem.Challenge.rw_stoke_k31_conditions_put_together).prog 20).name = ("law" : PySem.Str) := by kernel_rfl
      rw [← e]
      exact hmg0
    exact ⟨K, KX, Q.lawAt_of KX c (K31.law_mk KX G hmg c.1)⟩
