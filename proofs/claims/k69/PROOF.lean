import PyProof.Rows.All
import Wide.All
import OpenK.AllK
import Wide.FinOn
import KE.KStateDown
import HandS.Head0
import HandS.Head1
import HandS.Head2
import HandS.HeadHook1
import HandS.HeadHook2
import HandS.EndBits
import HandS.Words
import HandS.ForMost
import HandS.ForExc
import HandS.Wide
import HandS.Dict
import HandS.Lambda
import KE.KeyNested
import HandS.Text
import HandS.TupAny
import KE.IntBitsLaws
import HandS.TupMul
import HandS.IsInst
import HandS.ExcIs
import HandS.SetFor
import HandS.SortInts
import HandS.Replace
import HandS.StrMore
import HandS.WideBits
import Wide.Txt
import KE.IntTextLaws
import HandS.Defaults
import HandS.More
import PyProof.SeqI3
import HandS.Rev
import HandS.RevTup
import HandS.Deep
import HandS.Style
import HandS.ExcInit
import HandS.ExcField
import KE.KExcIs
import KE.SortData
import HandS.Conv
import PyProof.StrCalls6
import PyProof.StrBlock2
import PyProof.Rows.StrJoinRep
import HandS.TryMany
import HandS.Iter
import HandS.DictComp
import HandS.TryOnly
import HandS.SortKw
import KE.KDictCopyH
import KE.KDictList
import KE.KDictKeyed
import HandS.TupLen
import HandS.Nested
import HandS.EndTab
import HandS.HeadWalk
import KE.KNestM
import KE.KDictDisplayH
import KE.KEqDict
import KE.KDictSum
import HandS.HotCalls
import HandS.DictTup
import PySem.Challenge.RW_stoke_k69_parts_of_a_hold
set_option Elab.async false
set_option linter.all false
set_option maxRecDepth 100000
set_option maxHeartbeats 2000000
namespace Q
open PySem PySem.Spec PyProof.Rows L2
theorem walk_ofBE {l : PySem.W.OpenLaw} {n k : Nat} {q : Program} {loose : List Str} {XP : (Str → Option Value) → Heap → Prop} {YP : World → Heap → Prop} {d : DefRec} {CX : World → CXT} {sp : PySem.W.Frag → Sp} {x : Str}
    (hn : l.most = some n) (hn2 : n ≤ sizeLine) (hdf : d.params.defaults = []) (hr : Room k callerA)
    (F : ∀ (w : World) (mg : Str → Option Value) (fa : Addr) (h : Heap), YP w h → h.Ns mainGlobals mg → mg d.name = some (.ref fa) →
      ∃ (K : PySem.W.Frag), K.In h ∧ ∃ fd : FuncData, (∀ (s : Shared) (u : Value), BindsTo s fd ⟨[u], []⟩ [(x, u)]) ∧
        ∀ base : Heap, K.In base → base.Ns mainGlobals mg → FnOk l.prog w K mg base (CX w) k fa fd [x] (sp K))
    (hsp : ∀ (K : PySem.W.Frag) (H : Hp) (a : Addr) (ns : List Int), ns.length ≤ n → (∀ z ∈ ns, Builtin.Int.intBits z ≤ 1048576) → Only H → SqL K H a (ns.map V.int) → sp K [.ref a] H (fun v _ => v = .bl true) fun _ _ _ => False)
    (hCX : ∀ (w : World) (H : Hp) (s : Shared) (e : Value) (s' : Shared), CX w [] H s (fun _ _ _ => False) e s' → False) :
    PySem.W.WalkO q loose XP YP l.row.toRowW d [] (fun f vs => PySem.call f vs) := by
  refine Att.attach_callB hn hdf fun w s₀ s₁ mg mb fa o pm cd doc a vs ns G Y ho hd hcd hmg hobj hints hlen hbits hg => ?_
  obtain ⟨K, KX, fd, hb, hF⟩ := F w mg fa _ Y G.T.g hmg
  exact law_call KX G.T.g G.T.b G.T.builtins G.T.nolimit hg hobj hints (Nat.le_trans hlen hn2) hr hF hb (fun H hO hS => hsp K H a ns hlen hbits hO hS) fun H e s' => hCX w H s₁ e s'
abbrev AlH : Type := Bool × List He.FnW
def obsH (ck : PySem.W.Frag → Bool) (fn : List He.DefD) (K : PySem.W.Frag) : AlH := (ck K && fn.all fun d => d.ok K, fn.map fun d => He.fnW K d.at_)
def valH (fn : List He.DefD) : AlH := (true, fn.map He.DefD.val)
def SaysH (ck : PySem.W.Frag → Bool) (fn : List He.DefD) (K : PySem.W.Frag) : Prop := obsH ck fn K = valH fn
def asH (lo n : Nat) : List Addr := mainGlobals :: List.range' lo (n - lo)
def hookH (lo : Nat) (ck : PySem.W.Frag → Bool) (fn : List He.DefD) : PySem.W.Hook where
  α := AlH
  obs := fun s => obsH ck fn (He.frG s.heap.get? (asH lo s.heap.objs.size))
  val := fun _ => valH fn
  says := fun _ h => ∃ K : PySem.W.Frag, K.In h ∧ SaysH ck fn K
  of := fun _ _ e => ⟨_, He.frG_in, e⟩
  keeps := fun _ _ _ ⟨K, hK, c⟩ k => ⟨K, PySem.W.Frag.In.keeps hK k, c⟩
def obsS (lo : Nat) (ck : PySem.W.Frag → Bool) (fn : List He.DefD) (s : PySem.W.SharedT) : AlH := obsH ck fn (He.frG (HandSHeadRun.getT s) (asH lo s.n))
theorem obsS_eq (lo : Nat) (ck : PySem.W.Frag → Bool) (fn : List He.DefD) (s : PySem.W.SharedT) : obsS lo ck fn s = (hookH lo ck fn).obs s.abs := by
  show obsH ck fn (He.frG (HandSHeadRun.getT s) (asH lo s.n)) = obsH ck fn (He.frG s.abs.heap.get? (asH lo s.abs.heap.objs.size))
  have e : HandSHeadRun.getT s = s.abs.heap.get? := funext (HandSHeadRun.getT_eq s)
  have e2 : s.abs.heap.objs.size = s.n := PySem.W.absHeap_size s.tree s.n s.life
  rw [e, e2]
section
variable {ck : PySem.W.Frag → Bool} {fn : List He.DefD} {K : PySem.W.Frag}
theorem SaysH.chk (c : SaysH ck fn K) : ck K = true := (He.ba (show (ck K && fn.all fun d => d.ok K) = true from congrArg (fun z : AlH => z.1) c)).1
theorem SaysH.def_ (c : SaysH ck fn K) (i : Nat) {d : He.DefD} (h : fn[i]? = some d) : ∃ fd, FunD K d.name d.qual d.params d.body d.scope (d.dvs K) (d.kws K) (He.fAd K d.at_) fd := by
  have c2 := (He.ba (show (ck K && fn.all fun d => d.ok K) = true from congrArg (fun z : AlH => z.1) c)).2
  have e : fn.map (fun d => He.fnW K d.at_) = fn.map He.DefD.val := congrArg (fun z : AlH => z.2) c
  have e2 : (fn.map fun d => He.fnW K d.at_)[i]? = (fn.map He.DefD.val)[i]? := by rw [e]
  rw [List.getElem?_map, List.getElem?_map, h] at e2
  exact He.DefD.funD (Option.some.inj e2) (List.all_eq_true.mp c2 d (List.mem_of_getElem? h))
end
theorem fun_of {K : PySem.W.Frag} {x q : Str} {st : Stmt} {f : Addr} {fd : FuncData} (F : FunD K x q (defArgs st) (defBody st) (defScope st) [] [] f fd) : Fun K x q st f fd := by
  obtain ⟨oc, od, dV, kV, doc, pm, an, cdv, ct, osl, rfl, lk, hcd, hd, _⟩ := F.ex
  rcases hd with ⟨_, rfl⟩ | ⟨h, _⟩
  · exact ⟨⟨oc, od, kV, doc, pm, an, cdv, ct, osl, rfl, lk, hcd⟩, F.kp⟩
  · exact absurd rfl h
end Q

namespace K69
open PySem PySem.Spec PyProof.Rows L2 Q
def topS (i : Nat) : Stmt := PySem.Challenge.pw_stoke_k69_parts_of_a_hold.main.body.getD i (.Pass ⟨0, 0, 0, 0⟩)
abbrev s_is_bound : Stmt := topS 19
abbrev s_Hold____init__ : Stmt := (inClass (topS 21) 0)
abbrev s_Hold__many : Stmt := (inClass (topS 21) 7)
abbrev s_under : Stmt := topS 15
abbrev s_Hold__ask_room : Stmt := (inClass (topS 21) 1)
abbrev s_divisor : Stmt := topS 11
abbrev s_fraction : Stmt := topS 12
abbrev s_minus : Stmt := topS 14
abbrev s_plus : Stmt := topS 13
abbrev s_Hold__taken_share : Stmt := (inClass (topS 21) 2)
abbrev s_Hold__share : Stmt := (inClass (topS 21) 9)
abbrev s_is_touching : Stmt := topS 24
abbrev s_part_by : Stmt := topS 25
abbrev s_parts_of : Stmt := topS 26
abbrev s__law_parts : Stmt := topS 31
abbrev s__law_right : Stmt := topS 32
abbrev s_do_rise : Stmt := topS 20
abbrev s_Hold__put_room : Stmt := (inClass (topS 21) 3)
abbrev s__law_cell_at : Stmt := topS 28
abbrev s_Hold__put_flow : Stmt := (inClass (topS 21) 4)
abbrev s__law_part : Stmt := topS 29
abbrev s__law_share : Stmt := topS 30
abbrev s_law : Stmt := topS 33
abbrev cA_Hold (K : PySem.W.Frag) : Addr := He.ga K "Hold"
abbrev fA1 (K : PySem.W.Frag) : Addr := He.fAd K ("is_bound", none)
abbrev fA2 (K : PySem.W.Frag) : Addr := He.fAd K ("Hold", some "__init__")
abbrev fA3 (K : PySem.W.Frag) : Addr := He.fAd K ("Hold", some "many")
abbrev fA4 (K : PySem.W.Frag) : Addr := He.fAd K ("under", none)
abbrev fA5 (K : PySem.W.Frag) : Addr := He.fAd K ("Hold", some "ask_room")
abbrev fA6 (K : PySem.W.Frag) : Addr := He.fAd K ("divisor", none)
abbrev fA7 (K : PySem.W.Frag) : Addr := He.fAd K ("fraction", none)
abbrev fA8 (K : PySem.W.Frag) : Addr := He.fAd K ("minus", none)
abbrev fA9 (K : PySem.W.Frag) : Addr := He.fAd K ("plus", none)
abbrev fA10 (K : PySem.W.Frag) : Addr := He.fAd K ("Hold", some "taken_share")
abbrev fA11 (K : PySem.W.Frag) : Addr := He.fAd K ("Hold", some "share")
abbrev fA12 (K : PySem.W.Frag) : Addr := He.fAd K ("is_touching", none)
abbrev fA13 (K : PySem.W.Frag) : Addr := He.fAd K ("part_by", none)
abbrev fA14 (K : PySem.W.Frag) : Addr := He.fAd K ("parts_of", none)
abbrev fA15 (K : PySem.W.Frag) : Addr := He.fAd K ("_law_parts", none)
abbrev fA16 (K : PySem.W.Frag) : Addr := He.fAd K ("_law_right", none)
abbrev fA17 (K : PySem.W.Frag) : Addr := He.fAd K ("do_rise", none)
abbrev fA18 (K : PySem.W.Frag) : Addr := He.fAd K ("Hold", some "put_room")
abbrev fA19 (K : PySem.W.Frag) : Addr := He.fAd K ("_law_cell_at", none)
abbrev fA20 (K : PySem.W.Frag) : Addr := He.fAd K ("Hold", some "put_flow")
abbrev fA21 (K : PySem.W.Frag) : Addr := He.fAd K ("_law_part", none)
abbrev fA22 (K : PySem.W.Frag) : Addr := He.fAd K ("_law_share", none)
abbrev fA23 (K : PySem.W.Frag) : Addr := He.fAd K ("law", none)
abbrev cg0 (K : PySem.W.Frag) : Prop :=
    (PySem.W.nsIn K mainGlobals "Hold" = some (some (.ref (cA_Hold K)))) ∧
    (PySem.W.nsIn K mainGlobals "is_bound" = some (some (.ref (fA1 K)))) ∧
    (PySem.W.findIn K (.ref (cA_Hold K)) "__init__" = some (some (.ref (fA2 K)))) ∧
    (PySem.W.isFn K (.ref (fA2 K)) = true) ∧
    (PySem.W.findIn K (.ref (cA_Hold K)) "many" = some (some (.ref (fA3 K)))) ∧
    (PySem.W.isFn K (.ref (fA3 K)) = true) ∧
    (PySem.W.nsIn K mainGlobals "under" = some (some (.ref (fA4 K)))) ∧
    (PySem.W.findIn K (.ref (cA_Hold K)) "ask_room" = some (some (.ref (fA5 K)))) ∧
    (PySem.W.isFn K (.ref (fA5 K)) = true) ∧
    (PySem.W.nsIn K mainGlobals "divisor" = some (some (.ref (fA6 K)))) ∧
    (PySem.W.nsIn K mainGlobals "fraction" = some (some (.ref (fA7 K)))) ∧
    (PySem.W.nsIn K mainGlobals "minus" = some (some (.ref (fA8 K)))) ∧
    (PySem.W.nsIn K mainGlobals "plus" = some (some (.ref (fA9 K)))) ∧
    (PySem.W.findIn K (.ref (cA_Hold K)) "taken_share" = some (some (.ref (fA10 K)))) ∧
    (PySem.W.isFn K (.ref (fA10 K)) = true) ∧
    (PySem.W.findIn K (.ref (cA_Hold K)) "share" = some (some (.ref (fA11 K)))) ∧
    (PySem.W.isFn K (.ref (fA11 K)) = true) ∧
    (PySem.W.nsIn K mainGlobals "is_touching" = some (some (.ref (fA12 K)))) ∧
    (PySem.W.nsIn K mainGlobals "part_by" = some (some (.ref (fA13 K)))) ∧
    (PySem.W.nsIn K mainGlobals "parts_of" = some (some (.ref (fA14 K))))
abbrev cg1 (K : PySem.W.Frag) : Prop :=
    (PySem.W.nsIn K mainGlobals "_law_parts" = some (some (.ref (fA15 K)))) ∧
    (PySem.W.nsIn K mainGlobals "_law_right" = some (some (.ref (fA16 K)))) ∧
    (PySem.W.nsIn K mainGlobals "do_rise" = some (some (.ref (fA17 K)))) ∧
    (PySem.W.findIn K (.ref (cA_Hold K)) "put_room" = some (some (.ref (fA18 K)))) ∧
    (PySem.W.isFn K (.ref (fA18 K)) = true) ∧
    (PySem.W.nsIn K mainGlobals "_law_cell_at" = some (some (.ref (fA19 K)))) ∧
    (PySem.W.findIn K (.ref (cA_Hold K)) "put_flow" = some (some (.ref (fA20 K)))) ∧
    (PySem.W.isFn K (.ref (fA20 K)) = true) ∧
    (PySem.W.nsIn K mainGlobals "_law_part" = some (some (.ref (fA21 K)))) ∧
    (PySem.W.nsIn K mainGlobals "_law_share" = some (some (.ref (fA22 K)))) ∧
    (PySem.W.nsIn K mainGlobals "law" = some (some (.ref (fA23 K)))) ∧
    (PySem.W.nsIn K mainGlobals "NOUGHT_holds" = some (some (.ref (He.ga K "NOUGHT_holds")))) ∧
    (He.tupB K "NOUGHT_holds" [.int 0, .int 1] = true) ∧
    (PySem.W.nsIn K mainGlobals "NOUGHT_parts" = some (some (.ref (He.ga K "NOUGHT_parts")))) ∧
    (He.tupB K "NOUGHT_parts" [.int 0, .int 1] = true) ∧
    (PySem.W.nsIn K mainGlobals "ONE" = some (some (.ref (He.ga K "ONE")))) ∧
    (He.tupB K "ONE" [.int 1, .int 1] = true) ∧
    (PySem.W.nsIn K mainGlobals "abs" = some none) ∧
    (PySem.W.nsIn K mainGlobals "bool" = some none) ∧
    (PySem.W.nsIn K mainGlobals "int" = some none)
abbrev cg2 (K : PySem.W.Frag) : Prop :=
    (PySem.W.nsIn K mainGlobals "isinstance" = some none) ∧
    (PySem.W.nsIn K mainGlobals "len" = some none) ∧
    (PySem.W.nsIn K mainGlobals "list" = some none) ∧
    (PySem.W.nsIn K mainGlobals "range" = some none) ∧
    (PySem.W.nsIn K mainGlobals "sorted" = some none) ∧
    (PySem.W.plainGet K (cA_Hold K) Str.empty = true) ∧
    (PySem.W.hasDictIn K (cA_Hold K) = true) ∧
    (PySem.W.plainOver K (cA_Hold K) = true) ∧
    (PySem.W.findIn K (.ref (cA_Hold K)) "__setattr__" = some (some (.builtin "object.__setattr__"))) ∧
    (PySem.W.makesIn K (cA_Hold K) = true) ∧
    (PySem.W.keepIn K (.ref (cA_Hold K)) = true) ∧
    (PySem.W.findIn K (.ref (cA_Hold K)) "cap" = some none) ∧
    (PySem.W.findIn K (.ref (cA_Hold K)) "load" = some none) ∧
    (PySem.W.findIn K (.ref (cA_Hold K)) "most" = some none) ∧
    (PySem.W.findIn K (.ref (cA_Hold K)) "my_flows" = some none) ∧
    (PySem.W.findIn K (.ref (cA_Hold K)) "my_marks" = some none) ∧
    (PySem.W.findIn K (.ref (cA_Hold K)) "my_skies" = some none) ∧
    (PySem.W.findIn K (.ref (cA_Hold K)) "my_stoves" = some none)
def hd1 : He.DefD := ⟨("is_bound", none), "is_bound", "is_bound", defArgs s_is_bound, defBody s_is_bound, defScope s_is_bound, [], []⟩
def hd2 : He.DefD := ⟨("Hold", some "__init__"), "__init__", "Hold.__init__", defArgs s_Hold____init__, defBody s_Hold____init__, defScope s_Hold____init__, [.int 4, .int 0, .int 0], []⟩
def hd3 : He.DefD := ⟨("Hold", some "many"), "many", "Hold.many", defArgs s_Hold__many, defBody s_Hold__many, defScope s_Hold__many, [], []⟩
def hd4 : He.DefD := ⟨("under", none), "under", "under", defArgs s_under, defBody s_under, defScope s_under, [], []⟩
def hd5 : He.DefD := ⟨("Hold", some "ask_room"), "ask_room", "Hold.ask_room", defArgs s_Hold__ask_room, defBody s_Hold__ask_room, defScope s_Hold__ask_room, [], []⟩
def hd6 : He.DefD := ⟨("divisor", none), "divisor", "divisor", defArgs s_divisor, defBody s_divisor, defScope s_divisor, [], []⟩
def hd7 : He.DefD := ⟨("fraction", none), "fraction", "fraction", defArgs s_fraction, defBody s_fraction, defScope s_fraction, [], []⟩
def hd8 : He.DefD := ⟨("minus", none), "minus", "minus", defArgs s_minus, defBody s_minus, defScope s_minus, [], []⟩
def hd9 : He.DefD := ⟨("plus", none), "plus", "plus", defArgs s_plus, defBody s_plus, defScope s_plus, [], []⟩
def hd10 : He.DefD := ⟨("Hold", some "taken_share"), "taken_share", "Hold.taken_share", defArgs s_Hold__taken_share, defBody s_Hold__taken_share, defScope s_Hold__taken_share, [], []⟩
def hd11 : He.DefD := ⟨("Hold", some "share"), "share", "Hold.share", defArgs s_Hold__share, defBody s_Hold__share, defScope s_Hold__share, [], []⟩
def hd12 : He.DefD := ⟨("is_touching", none), "is_touching", "is_touching", defArgs s_is_touching, defBody s_is_touching, defScope s_is_touching, [], []⟩
def hd13 : He.DefD := ⟨("part_by", none), "part_by", "part_by", defArgs s_part_by, defBody s_part_by, defScope s_part_by, [], []⟩
def hd14 : He.DefD := ⟨("parts_of", none), "parts_of", "parts_of", defArgs s_parts_of, defBody s_parts_of, defScope s_parts_of, [], []⟩
def hd15 : He.DefD := ⟨("_law_parts", none), "_law_parts", "_law_parts", defArgs s__law_parts, defBody s__law_parts, defScope s__law_parts, [], []⟩
def hd16 : He.DefD := ⟨("_law_right", none), "_law_right", "_law_right", defArgs s__law_right, defBody s__law_right, defScope s__law_right, [], []⟩
def hd17 : He.DefD := ⟨("do_rise", none), "do_rise", "do_rise", defArgs s_do_rise, defBody s_do_rise, defScope s_do_rise, [], []⟩
def hd18 : He.DefD := ⟨("Hold", some "put_room"), "put_room", "Hold.put_room", defArgs s_Hold__put_room, defBody s_Hold__put_room, defScope s_Hold__put_room, [], []⟩
def hd19 : He.DefD := ⟨("_law_cell_at", none), "_law_cell_at", "_law_cell_at", defArgs s__law_cell_at, defBody s__law_cell_at, defScope s__law_cell_at, [], []⟩
def hd20 : He.DefD := ⟨("Hold", some "put_flow"), "put_flow", "Hold.put_flow", defArgs s_Hold__put_flow, defBody s_Hold__put_flow, defScope s_Hold__put_flow, [], []⟩
def hd21 : He.DefD := ⟨("_law_part", none), "_law_part", "_law_part", defArgs s__law_part, defBody s__law_part, defScope s__law_part, [], []⟩
def hd22 : He.DefD := ⟨("_law_share", none), "_law_share", "_law_share", defArgs s__law_share, defBody s__law_share, defScope s__law_share, [], []⟩
def hd23 : He.DefD := ⟨("law", none), "law", "law", defArgs s_law, defBody s_law, defScope s_law, [], []⟩
def hfn0 : List He.DefD := [hd1, hd2, hd3, hd4, hd5, hd6, hd7, hd8, hd9, hd10, hd11, hd12, hd13, hd14, hd15, hd16, hd17, hd18, hd19, hd20, hd21, hd22, hd23]
def hfn : List He.DefD := hfn0
def hck (K : PySem.W.Frag) : Bool := decide (cg0 K) && (decide (cg1 K) && (decide (cg2 K)))
def hnm0 : List PySem.Str := ["_wall", "__name__", "StokeError", "NoNumber", "NoHold", "Full", "NoMarks", "TooMany", "NoRoom", "NoShare", "divisor", "fraction", "plus", "minus", "under", "NOUGHT_holds", "ONE", "is_bound", "do_rise", "Hold"]
def hnm1 : List PySem.Str := ["NOUGHT_parts", "is_touching", "part_by", "parts_of", "_law_cell_at", "_law_part", "_law_share", "_law_parts", "_law_right"]
def hnm : List PySem.Str := hnm0 ++ hnm1
abbrev R : PySem.W.OpenRow := PySem.W.OpenLaw.row PySem.Challenge.rw_stoke_k69_parts_of_a_hold
abbrev hk : PySem.W.Hook := Q.hookH 0 hck hfn
def hob (s : PySem.W.SharedT) : Q.AlH := Q.obsS 0 hck hfn s
theorem hob_eq (s : PySem.W.SharedT) : hob s = hk.obs s.abs := Q.obsS_eq 0 hck hfn s
abbrev hq : Program := PySem.W.view R.prog [33]
noncomputable def hE (w : World) (os : OsState) : Option PySem.W.SharedT := HandSHeadRun.endF (HandSHeadRun.stepQ (HandSHeadRun.denQ HandSHeadRun.tabQ) R.prog w) 12000 R.prog w os
theorem run3 {α β γ δ : Type} {o : Option α} {f : α → β} {g : α → γ} {h : α → δ} {x : β} {y : γ} {z : δ} (a : o.map f = some x) (b : o.map g = some y) (c : o.map h = some z) : o.map (fun s => (f s, g s, h s)) = some (x, y, z) := by
  cases o with
  | none => cases a
  | some s =>
    cases a
    cases b
    cases c
    rfl
theorem runPair {α β γ : Type} {o : Option α} {h : α → β × γ} {v : β × γ} (a : o.map (fun s => (h s).1) = some v.1) (b : o.map (fun s => (h s).2) = some v.2) : o.map h = some v := by
  cases o with
  | none => cases a
  | some s =>
    have a1 : (h s).1 = v.1 := Option.some.inj a
    have b1 : (h s).2 = v.2 := Option.some.inj b
    exact congrArg some (Prod.ext a1 b1)
section
open PySem.W PySem.Calls
set_option maxHeartbeats 0 in
theorem hrunA (w : World) (os : OsState) : (hE w os).map (fun s => HandSHeadRun.looksF R.prog (boot_heap w.params) s.abs) = some true := by
  kernel_rfl
set_option maxHeartbeats 0 in
theorem hrunB (w : World) (os : OsState) : (hE w os).map (fun s => HandSHeadRun.seenQ hq hnm (importedModules R.prog.main.body) (fun s => xlAt hq [] s && recOk R.toRowW.records s) s.abs) = some (PySem.W.openGood hq hnm) := by
  kernel_rfl
end
theorem runC {o : Option PySem.W.SharedT} {ck : PySem.W.Frag → Bool} {fn : List He.DefD} (a : o.map (fun s => ck (He.frG (HandSHeadRun.getT s) (Q.asH 0 s.n))) = some true) (b : o.map (fun s => fn.all fun d => d.ok (He.frG (HandSHeadRun.getT s) (Q.asH 0 s.n))) = some true) : o.map (fun s => (Q.obsS 0 ck fn s).1) = some (Q.valH fn).1 := by
  cases o with
  | none => cases a
  | some s =>
    have a1 : ck (He.frG (HandSHeadRun.getT s) (Q.asH 0 s.n)) = true := Option.some.inj a
    have b1 : (fn.all fun d => d.ok (He.frG (HandSHeadRun.getT s) (Q.asH 0 s.n))) = true := Option.some.inj b
    exact congrArg some (show (ck (He.frG (HandSHeadRun.getT s) (Q.asH 0 s.n)) && fn.all fun d => d.ok (He.frG (HandSHeadRun.getT s) (Q.asH 0 s.n))) = true by rw [a1, b1]; rfl)
set_option maxHeartbeats 0 in
theorem hrunC1 (w : World) (os : OsState) : (hE w os).map (fun s => hck (He.frG (HandSHeadRun.getT s) (Q.asH 0 s.n))) = some true := by
  kernel_rfl
set_option maxHeartbeats 0 in
theorem hrunC2 (w : World) (os : OsState) : (hE w os).map (fun s => hfn.all fun d => d.ok (He.frG (HandSHeadRun.getT s) (Q.asH 0 s.n))) = some true := by
  kernel_rfl
theorem hrunC (w : World) (os : OsState) : (hE w os).map (fun s => (Q.obsS 0 hck hfn s).1) = some (Q.valH hfn).1 := runC (hrunC1 w os) (hrunC2 w os)
set_option maxHeartbeats 0 in
theorem hrunD (w : World) (os : OsState) : (hE w os).map (fun s => (hob s).2) = some (hk.val w).2 := by
  kernel_rfl
theorem hrun (w : World) : HandSHeadRun.RunEq R hq hk hob 12000 hnm w := by
  intro os
  exact run3 (hrunA w os) (hrunB w os) (runPair (h := hob) (v := hk.val w) (hrunC w os) (hrunD w os))
end K69

namespace Q
open PySem PySem.Spec PyProof.Rows L2
inductive D where
  | non | bl (b : Bool) | int (i : Int) | str (x : Str)
  | tup (l : List D) | lst (l : List D) | scr (l : List D) | dct (l : List (D × D))
  | obj (n : Nat) | fn (k : Nat) (l : List D) | gone (k : Nat)
structure Ob where
  cls : Nat
  fs : List (Str × D)
abbrev Store := List Ob
abbrev Env := List (Option D)
structure Exc where
  cls : Nat
  args : List (Str × D)
inductive RE where
  | ok (d : D) (S : Store)
  | exc (x : Exc) (S : Store)
  | no
inductive RL where
  | ok (ds : List D) (S : Store)
  | exc (x : Exc) (S : Store)
  | no
inductive RS where
  | nx (ρ : Env) (S : Store)
  | bk (ρ : Env) (S : Store)
  | ct (ρ : Env) (S : Store)
  | rt (d : D) (ρ : Env) (S : Store)
  | exc (x : Exc) (ρ : Env) (S : Store)
  | no
abbrev FE := Env → Store → RE
abbrev FL := Env → Store → RL
abbrev FS := Env → Store → RS
structure Lam where
  qual : Str
  params : Arguments
  body : Expr
  scope : Scope
  fr : List Str
instance : Inhabited Lam := ⟨⟨"", ⟨[], [], none, [], [], none, []⟩, .Constant .none 0 ⟨0, 0, 0, 0⟩, { kind := .function, names := [], isGenerator := false, isCoroutine := false, more := [] }, []⟩⟩
structure Th where
  K : PySem.W.Frag
  pr : Program
  w : World
  cA : Nat → Addr
  nc : Nat
  fm : Nat → Str → Nat
  tb : List (Addr × Str)
  lm : Nat → Lam
structure G where
  N : Nat
  μ : Nat → Addr
  O : Addr → Prop
  F : Nat → Addr → Prop
  B : Addr → Prop
  BF : Nat → Str → Addr → Prop
  P : Nat → V
def G.Z (g : G) (k : Nat) : V := g.P (1000000 + k)
def G.U (g : G) (a : Addr) : Prop := g.O a ∨ (∃ i, g.F i a) ∨ g.B a
def WrL (K : PySem.W.Frag) (a : Addr) (xs : List V) : Prop := ∃ (o : Obj) (its : Array Value) (n : Nat), K.lookup a = some o ∧ o.cls = .type "list" ∧ o.dict = none ∧ o.data = .seq its n ∧ its.size ≤ sizeLine ∧ Vals xs its.toList
def WrT (K : PySem.W.Frag) (a : Addr) (xs : List V) : Prop := ∃ (o : Obj) (its : Array Value) (n : Nat), K.lookup a = some o ∧ o.cls = .type "tuple" ∧ o.data = .seq its n ∧ its.size ≤ sizeLine ∧ Vals xs its.toList
def LkL (K : PySem.W.Frag) (U : Addr → Prop) (H : Hp) (a : Addr) (xs : List V) : Prop := (Rd H a (.lst xs) ∧ ¬ U a) ∨ WrL K a xs
def LkT (K : PySem.W.Frag) (U : Addr → Prop) (H : Hp) (a : Addr) (xs : List V) : Prop := (Rd H a (.tup xs) ∧ ¬ U a) ∨ WrT K a xs
theorem LkL.sq {K : PySem.W.Frag} {U : Addr → Prop} {H : Hp} {a : Addr} {xs : List V} (h : LkL K U H a xs) : SqL K H a xs := h.imp (·.1) id
theorem LkT.sq {K : PySem.W.Frag} {U : Addr → Prop} {H : Hp} {a : Addr} {xs : List V} (h : LkT K U H a xs) : SqT K H a xs := h.imp (·.1) id

mutual
def nk : D → Option PySem.NestedKey
  | .non => some .none
  | .bl b => some (.num (if b = true then 1 else 0))
  | .int i => some (.num i)
  | .str x => some (.text x)
  | .tup l => (nkL l).map .tup
  | _ => none
def nkL : List D → Option (List PySem.NestedKey)
  | [] => some []
  | d :: r => match nk d, nkL r with
    | some k, some ks => some (k :: ks)
    | _, _ => none
end
def dN (P : Program) (w : World) (a : Addr) (ps : List (PySem.NestedKey × Addr × V)) : HO := .ext fun h => ps.length ≤ sizeLine ∧ (a == sysModules) = false ∧ ∃ (o : Obj) (es : Array DictEntry) (ep : Nat) (xs : List (PySem.NestedKey × Addr × Value)), h.get? a = some o ∧ o.ExactDict ∧ o.data = .dict es ep ∧ es.toList = xs.map (PySem.entryOfKey (PySem.nestedKind P w)) ∧ (xs.map (·.1)).Nodup ∧
  Paired (fun (p : PySem.NestedKey × Addr × V) (x : PySem.NestedKey × Addr × Value) => p.1 = x.1 ∧ p.2.1 = x.2.1 ∧ RelV p.2.2 x.2.2) ps xs
def DRep (T : Th) (H : Hp) (a : Addr) (l : List (D × D)) (kvs : List (V × V)) : Prop :=
  (∃ ks : List (Key × V), H a = some (.dK ks) ∧ kvs = ks.map fun p => (kV p.1, p.2)) ∨
  (∃ ps : List (PySem.NestedKey × Addr × V), H a = some (dN T.pr T.w a ps) ∧ kvs = (ps.map fun p => (V.ref p.2.1, p.2.2)) ∧ ps.map (fun p => some p.1) = (l.map fun p => nk p.1) ∧ ps ≠ [] ∧ ∀ p ∈ ps, p.1.depth ≤ 8)
theorem DRep.at {T : Th} {H H' : Hp} {a : Addr} {l : List (D × D)} {kvs : List (V × V)} (h : DRep T H a l kvs) (k : ∀ o, H a = some o → H' a = some o) : DRep T H' a l kvs := by
  rcases h with ⟨ks, h1, h2⟩ | ⟨ps, h1, h2, h3⟩
  · exact .inl ⟨ks, k _ h1, h2⟩
  · exact .inr ⟨ps, k _ h1, h2, h3⟩
def DShr (T : Th) (H : Hp) (a : Addr) (l : List (D × D)) (kvs : List (V × V)) : Prop :=
  (∃ ks : List (Key × V), Rd H a (.dK ks) ∧ kvs = ks.map fun p => (kV p.1, p.2)) ∨
  (∃ ps : List (PySem.NestedKey × Addr × V), Rd H a (dN T.pr T.w a ps) ∧ kvs = (ps.map fun p => (V.ref p.2.1, p.2.2)) ∧ ps.map (fun p => some p.1) = (l.map fun p => nk p.1) ∧ ps ≠ [] ∧ ∀ p ∈ ps, p.1.depth ≤ 8)
theorem DShr.at {T : Th} {H H' : Hp} {a : Addr} {l : List (D × D)} {kvs : List (V × V)} (h : DShr T H a l kvs) (k : ∀ o, Rd H a o → Rd H' a o) : DShr T H' a l kvs := by
  rcases h with ⟨ks, h1, h2⟩ | ⟨ps, h1, h2, h3⟩
  · exact .inl ⟨ks, k _ h1, h2⟩
  · exact .inr ⟨ps, k _ h1, h2, h3⟩
theorem DShr.there {T : Th} {H : Hp} {a : Addr} {l : List (D × D)} {kvs : List (V × V)} (h : DShr T H a l kvs) : ∃ o, Rd H a o := by
  rcases h with ⟨ks, h1, h2⟩ | ⟨ps, h1, h2, h3⟩
  · exact ⟨_, h1⟩
  · exact ⟨_, h1⟩
theorem DRep.shr {T : Th} {H : Hp} {a : Addr} {l : List (D × D)} {kvs : List (V × V)} (h : DRep T H a l kvs) : DShr T H a l kvs := by
  rcases h with ⟨ks, h1, h2⟩ | ⟨ps, h1, h2, h3⟩
  · exact .inl ⟨ks, .of h1, h2⟩
  · exact .inr ⟨ps, .of h1, h2, h3⟩
def flatKs (l : List (D × D)) : Bool := l.all fun p => match p.1 with
  | .int _ => true
  | .str _ => true
  | _ => false
theorem DRep.there {T : Th} {H : Hp} {a : Addr} {l : List (D × D)} {kvs : List (V × V)} (h : DRep T H a l kvs) : ∃ o, H a = some o := by
  rcases h with ⟨ks, h1, h2⟩ | ⟨ps, h1, h2, h3⟩
  · exact ⟨_, h1⟩
  · exact ⟨_, h1⟩

abbrev fzo (o : Obj) : HO := .frz o (.own 0)
mutual
def Clo (T : Th) (g : G) (H : Hp) : Nat → D → V → Prop
  | _, .int i, v => v = .int i
  | m, .fn k l, v => ∃ (f c : Addr) (cl : List (Str × Addr)) (vs : List V) (pm ctv : Value), v = .ref f ∧ f < m ∧ ¬ g.U f ∧ ¬ g.U c ∧
      H f = some (fzo (PySem.W.kla_obj "<lambda>" (T.lm k).qual (T.lm k).params (T.lm k).body (T.lm k).scope cl pm c ctv)) ∧ H c = some (LamX.CodeO c (T.lm k).qual) ∧
      (∀ x y a, cl.lookup x = some a → cl.lookup y = some a → x = y) ∧ (∀ y a, cl.lookup y = some a → y ∈ (T.lm k).fr) ∧ vs.length = (T.lm k).fr.length ∧
      (∀ (i : Nat) (y : Str) (w : V), (T.lm k).fr[i]? = some y → vs[i]? = some w → ∃ (a : Addr) (oc : Obj) (u : Value), cl.lookup y = some a ∧ a < m ∧ ¬ g.U a ∧ H a = some (fzo oc) ∧ oc.data = .cell (some u) ∧ RelV w u) ∧
      ∃ m', m' ≤ m ∧ (∀ y a, cl.lookup y = some a → m' ≤ a) ∧ CloL T g H m' l vs
  | _, _, _ => False
def CloL (T : Th) (g : G) (H : Hp) : Nat → List D → List V → Prop
  | _, [], vs => vs = []
  | m, d :: ds, vs => ∃ v ws, vs = v :: ws ∧ Clo T g H m d v ∧ CloL T g H m ds ws
end
mutual
def Shr (T : Th) (g : G) (H : Hp) : D → V → Prop
  | .non, v => v = .non
  | .bl b, v => v = .bl b
  | .int i, v => v = .int i
  | .str x, v => v = .str x
  | .tup l, v => ∃ a vs, v = .ref a ∧ LkT T.K g.U H a vs ∧ ShrL T g H l vs
  | .lst l, v => ∃ a vs, v = .ref a ∧ (H a = some (.lst vs) ∧ ¬ g.U a) ∧ ShrL T g H l vs
  | .scr l, v => ∃ a vs, v = .ref a ∧ LkL T.K g.U H a vs ∧ ShrL T g H l vs
  | .dct l, v => ∃ a kvs, v = .ref a ∧ (DShr T H a l kvs ∧ ¬ g.U a) ∧ ShrK T g H l kvs
  | .obj n, v => n < g.N ∧ v = .ref (g.μ n)
  | .fn k l, v => ∃ m, Clo T g H m (.fn k l) v
  | .gone _, _ => False
def ShrL (T : Th) (g : G) (H : Hp) : List D → List V → Prop
  | [], vs => vs = []
  | d :: ds, vs => ∃ v ws, vs = v :: ws ∧ Shr T g H d v ∧ ShrL T g H ds ws
def ShrK (T : Th) (g : G) (H : Hp) : List (D × D) → List (V × V) → Prop
  | [], vs => vs = []
  | (k, d) :: ds, vs => ∃ u v ws, vs = (u, v) :: ws ∧ Shr T g H k u ∧ Shr T g H d v ∧ ShrK T g H ds ws
end

structure Stay (g : G) (H : Hp) (g' : G) (H' : Hp) : Prop where
  keep : ∀ a o, H a = some o → ¬ g.U a → H' a = some o
  own : ∀ a, g'.U a → g.U a ∨ H a = none
  N : g.N ≤ g'.N
  μ : ∀ n, n < g.N → g'.μ n = g.μ n
  Z : g'.Z = g.Z
theorem Stay.refl (g : G) (H : Hp) : Stay g H g H := ⟨fun _ _ h _ => h, fun _ h => .inl h, Nat.le_refl _, fun _ _ => rfl, rfl⟩
theorem Stay.off {g : G} {H : Hp} {g' : G} {H' : Hp} (s : Stay g H g' H') {a : Addr} {o : HO} (h : H a = some o) (hu : ¬ g.U a) : ¬ g'.U a := fun z => by
  rcases s.own a z with z | z
  · exact hu z
  · rw [h] at z; cases z
theorem Stay.rd {g : G} {H : Hp} {g' : G} {H' : Hp} (s : Stay g H g' H') {a : Addr} {u : HO} (h : Rd H a u) (hu : ¬ g.U a) : Rd H' a u ∧ ¬ g'.U a := by
  rcases h with h | ⟨o, h⟩
  · exact ⟨.inl (s.keep a _ h hu), s.off h hu⟩
  · exact ⟨.inr ⟨o, s.keep a _ h hu⟩, s.off h hu⟩
theorem Stay.trans {g g1 g2 : G} {H H1 H2 : Hp} (a : Stay g H g1 H1) (b : Stay g1 H1 g2 H2) : Stay g H g2 H2 where
  keep := fun x o h hu => b.keep x o (a.keep x o h hu) (a.off h hu)
  own := fun x h => by
    rcases b.own x h with h | h
    · exact a.own x h
    · cases e : H x with
      | none => exact .inr rfl
      | some o =>
        by_cases hu : g.U x
        · exact .inl hu
        · have := a.keep x o e hu
          rw [h] at this; cases this
  N := Nat.le_trans a.N b.N
  μ := fun n h => (b.μ n (Nat.lt_of_lt_of_le h a.N)).trans (a.μ n h)
  Z := b.Z.trans a.Z
section
variable {T : Th} {g g' : G} {H H' : Hp}
theorem Clo.of {T' : Th} (el : T'.lm = T.lm) (hf : ∀ a o, H a = some (fzo o) → ¬ g.U a → H' a = some (fzo o) ∧ ¬ g'.U a) (hc : ∀ a q, H a = some (LamX.CodeO a q) → ¬ g.U a → H' a = some (LamX.CodeO a q) ∧ ¬ g'.U a) : ∀ (d : D) (m : Nat) (v : V), Clo T g H m d v → Clo T' g' H' m d v := by
  have key : ∀ (n : Nat) (d : D) (m : Nat) (v : V), sizeOf d < n → Clo T g H m d v → Clo T' g' H' m d v := by
    intro n
    induction n with
    | zero => intro d m v h; omega
    | succ n ih =>
      have ihL : ∀ (l : List D) (m : Nat) (vs : List V), (∀ d ∈ l, sizeOf d < n) → CloL T g H m l vs → CloL T' g' H' m l vs := by
        intro l
        induction l with
        | nil => intro m vs _ h; simpa only [CloL] using h
        | cons d l ihl =>
          intro m vs hs h
          simp only [CloL] at h ⊢
          obtain ⟨v, ws, e, h1, h2⟩ := h
          exact ⟨v, ws, e, ih d m v (hs d List.mem_cons_self) h1, ihl m ws (fun x hx => hs x (List.mem_cons_of_mem _ hx)) h2⟩
      intro d m v hn h
      cases d with
      | int i => simpa only [Clo] using h
      | fn k l =>
        simp only [Clo, el] at h ⊢
        obtain ⟨f, c, cl, vs, pm, ctv, e, h1, h2, h3, h4, h5, h6, h7, h8, h9, m', h10, h11, h12⟩ := h
        obtain ⟨f1, f2⟩ := hf _ _ h4 h2
        obtain ⟨c1, c2⟩ := hc _ _ h5 h3
        refine ⟨f, c, cl, vs, pm, ctv, e, h1, f2, c2, f1, c1, h6, h7, h8, fun i y w a b => ?_, m', h10, h11, ihL l m' vs (fun d hd => ?_) h12⟩
        · obtain ⟨x, oc, u, k1, k2, k3, k4, k5⟩ := h9 i y w a b
          obtain ⟨x1, x2⟩ := hf _ _ k4 k3
          exact ⟨x, oc, u, k1, k2, x2, x1, k5⟩
        · have := List.sizeOf_lt_of_mem hd
          have e := D.fn.sizeOf_spec k l
          omega
      | _ => simp only [Clo] at h
  exact fun d m v h => key (sizeOf d + 1) d m v (Nat.lt_succ_self _) h
theorem Clo.stay (s : Stay g H g' H') {d : D} {m : Nat} {v : V} (h : Clo T g H m d v) : Clo T g' H' m d v :=
  Clo.of rfl (fun a o e hu => ⟨s.keep _ _ e hu, s.off e hu⟩) (fun a q e hu => ⟨s.keep _ _ e hu, s.off e hu⟩) d m v h
mutual
theorem Shr.stay (s : Stay g H g' H') : ∀ (d : D) (v : V), Shr T g H d v → Shr T g' H' d v
  | .non, _, h => by simpa only [Shr] using h
  | .bl _, _, h => by simpa only [Shr] using h
  | .int _, _, h => by simpa only [Shr] using h
  | .str _, _, h => by simpa only [Shr] using h
  | .tup l, v, h => by
    simp only [Shr] at h ⊢
    obtain ⟨a, vs, e, q, r⟩ := h
    exact ⟨a, vs, e, q.imp (fun z => s.rd z.1 z.2) id, ShrL.stay s l vs r⟩
  | .lst l, v, h => by
    simp only [Shr] at h ⊢
    obtain ⟨a, vs, e, q, r⟩ := h
    exact ⟨a, vs, e, ⟨s.keep _ _ q.1 q.2, s.off q.1 q.2⟩, ShrL.stay s l vs r⟩
  | .scr l, v, h => by
    simp only [Shr] at h ⊢
    obtain ⟨a, vs, e, q, r⟩ := h
    exact ⟨a, vs, e, q.imp (fun z => s.rd z.1 z.2) id, ShrL.stay s l vs r⟩
  | .dct l, v, h => by
    simp only [Shr] at h ⊢
    obtain ⟨a, vs, e, q, r⟩ := h
    obtain ⟨o, h0⟩ := q.1.there
    exact ⟨a, vs, e, ⟨q.1.at fun o h => (s.rd h q.2).1, (s.rd h0 q.2).2⟩, ShrK.stay s l vs r⟩
  | .obj n, v, h => by
    simp only [Shr] at h ⊢
    exact ⟨Nat.lt_of_lt_of_le h.1 s.N, by rw [s.μ n h.1]; exact h.2⟩
  | .fn _ _, v, h => by
    simp only [Shr] at h ⊢
    exact h.imp fun m z => z.stay s
  | .gone _, v, h => by simp only [Shr] at h
theorem ShrL.stay (s : Stay g H g' H') : ∀ (ds : List D) (vs : List V), ShrL T g H ds vs → ShrL T g' H' ds vs
  | [], _, h => by simpa only [ShrL] using h
  | d :: ds, vs, h => by
    simp only [ShrL] at h ⊢
    obtain ⟨v, ws, e, q, r⟩ := h
    exact ⟨v, ws, e, Shr.stay s d v q, ShrL.stay s ds ws r⟩
theorem ShrK.stay (s : Stay g H g' H') : ∀ (ds : List (D × D)) (vs : List (V × V)), ShrK T g H ds vs → ShrK T g' H' ds vs
  | [], _, h => by simpa only [ShrK] using h
  | (k, d) :: ds, vs, h => by
    simp only [ShrK] at h ⊢
    obtain ⟨u, v, ws, e, p, q, r⟩ := h
    exact ⟨u, v, ws, e, Shr.stay s k u p, Shr.stay s d v q, ShrK.stay s ds ws r⟩
end
end
section
variable {T : Th} {g : G} {H : Hp}
theorem ShrL.length : ∀ {ds : List D} {vs : List V}, ShrL T g H ds vs → ds.length = vs.length
  | [], _, h => by simp only [ShrL] at h; subst h; rfl
  | d :: ds, vs, h => by
    simp only [ShrL] at h
    obtain ⟨v, ws, rfl, _, r⟩ := h
    simp only [List.length_cons, ShrL.length r]
theorem ShrL.get : ∀ {ds : List D} {vs : List V} {i : Nat} {d : D}, ShrL T g H ds vs → ds[i]? = some d → ∃ v, vs[i]? = some v ∧ Shr T g H d v
  | [], _, _, _, _, e => by simp at e
  | d :: ds, vs, i, d', h, e => by
    simp only [ShrL] at h
    obtain ⟨v, ws, rfl, q, r⟩ := h
    cases i with
    | zero => simp at e; subst e; exact ⟨v, rfl, q⟩
    | succ i =>
      obtain ⟨w, h1, h2⟩ := ShrL.get (i := i) r (by simpa using e)
      exact ⟨w, by simpa using h1, h2⟩
theorem ShrL.of {ds : List D} {vs : List V} (hl : ds.length = vs.length) (h : ∀ (i : Nat) d v, ds[i]? = some d → vs[i]? = some v → Shr T g H d v) : ShrL T g H ds vs := by
  induction ds generalizing vs with
  | nil =>
    simp only [ShrL]
    cases vs with
    | nil => rfl
    | cons _ _ => simp at hl
  | cons d ds ih =>
    cases vs with
    | nil => simp at hl
    | cons v vs =>
      simp only [ShrL]
      exact ⟨v, vs, rfl, h 0 d v rfl rfl, ih (by simpa using hl) fun i a b p q => h (i + 1) a b (by simpa using p) (by simpa using q)⟩
theorem ShrL.append {ds es : List D} {vs ws : List V} (h : ShrL T g H ds vs) (h' : ShrL T g H es ws) : ShrL T g H (ds ++ es) (vs ++ ws) := by
  induction ds generalizing vs with
  | nil => simp only [ShrL] at h; subst h; exact h'
  | cons d ds ih =>
    simp only [ShrL] at h
    obtain ⟨v, us, rfl, q, r⟩ := h
    show ShrL T g H (d :: (ds ++ es)) (v :: (us ++ ws))
    simp only [ShrL]
    exact ⟨v, _, rfl, q, ih r⟩
theorem ShrL.nil : ShrL T g H [] [] := by simp only [ShrL]
theorem ShrL.cons {d : D} {v : V} {ds : List D} {vs : List V} (h : Shr T g H d v) (r : ShrL T g H ds vs) : ShrL T g H (d :: ds) (v :: vs) := by
  simp only [ShrL]; exact ⟨v, vs, rfl, h, r⟩
theorem ShrL.take {ds : List D} {vs : List V} (n : Nat) (h : ShrL T g H ds vs) : ShrL T g H (ds.take n) (vs.take n) := by
  refine .of (by rw [List.length_take, List.length_take, h.length]) fun i d v e1 e2 => ?_
  rw [List.getElem?_take] at e1 e2
  split at e1
  · rename_i hi
    rw [if_pos hi] at e2
    obtain ⟨w, h1, h2⟩ := h.get e1
    rw [e2] at h1; cases h1
    exact h2
  · cases e1
theorem ShrL.drop {ds : List D} {vs : List V} (n : Nat) (h : ShrL T g H ds vs) : ShrL T g H (ds.drop n) (vs.drop n) := by
  refine .of (by rw [List.length_drop, List.length_drop, h.length]) fun i d v e1 e2 => ?_
  rw [List.getElem?_drop] at e1 e2
  obtain ⟨w, h1, h2⟩ := h.get e1
  rw [e2] at h1; cases h1
  exact h2
end
section
variable {T : Th} {g : G} {H : Hp}
theorem ShrK.length : ∀ {ds : List (D × D)} {vs : List (V × V)}, ShrK T g H ds vs → ds.length = vs.length
  | [], _, h => by simp only [ShrK] at h; subst h; rfl
  | (k, d) :: ds, vs, h => by
    simp only [ShrK] at h
    obtain ⟨u, v, ws, rfl, _, _, r⟩ := h
    simp only [List.length_cons, ShrK.length r]
theorem ShrK.get : ∀ {ds : List (D × D)} {vs : List (V × V)} {i : Nat} {d : D × D}, ShrK T g H ds vs → ds[i]? = some d → ∃ w : V × V, vs[i]? = some w ∧ Shr T g H d.1 w.1 ∧ Shr T g H d.2 w.2
  | [], _, _, _, _, e => by simp at e
  | (k, d) :: ds, vs, i, d', h, e => by
    simp only [ShrK] at h
    obtain ⟨u, v, ws, rfl, p, q, r⟩ := h
    cases i with
    | zero => simp at e; subst e; exact ⟨(u, v), rfl, p, q⟩
    | succ i =>
      obtain ⟨w, h1, h2⟩ := ShrK.get (i := i) r (by simpa using e)
      exact ⟨w, by simpa using h1, h2⟩
theorem ShrK.of {ds : List (D × D)} {vs : List (V × V)} (hl : ds.length = vs.length) (h : ∀ (i : Nat) (d : D × D) (v : V × V), ds[i]? = some d → vs[i]? = some v → Shr T g H d.1 v.1 ∧ Shr T g H d.2 v.2) : ShrK T g H ds vs := by
  induction ds generalizing vs with
  | nil =>
    simp only [ShrK]
    cases vs with
    | nil => rfl
    | cons _ _ => simp at hl
  | cons d ds ih =>
    cases vs with
    | nil => simp at hl
    | cons v vs =>
      obtain ⟨k, d⟩ := d
      obtain ⟨u, v⟩ := v
      simp only [ShrK]
      obtain ⟨h1, h2⟩ := h 0 (k, d) (u, v) rfl rfl
      exact ⟨u, v, vs, rfl, h1, h2, ih (by simpa using hl) fun i a b p q => h (i + 1) a b (by simpa using p) (by simpa using q)⟩
end
def Own (T : Th) (g : G) (H : Hp) : Nat → (Addr → Prop) → D → V → Prop
  | k + 1, F, .lst l, v => ∃ p vs, v = .ref p ∧ F p ∧ H p = some (.lst vs) ∧ l.length = vs.length ∧ ∃ Gs : Nat → Addr → Prop, (∀ j q, Gs j q → F q ∧ q ≠ p) ∧ (∀ i j q, Gs i q → Gs j q → i = j) ∧ ∀ (j : Nat) d w, l[j]? = some d → vs[j]? = some w → Own T g H k (Gs j) d w
  | k + 1, F, .dct l, v => ∃ p vs, v = .ref p ∧ F p ∧ DRep T H p l vs ∧ l.length = vs.length ∧ ∃ Gs : Nat → Addr → Prop, (∀ j q, Gs j q → F q ∧ q ≠ p) ∧ (∀ i j q, Gs i q → Gs j q → i = j) ∧ ∀ (j : Nat) (d : D × D) (w : V × V), l[j]? = some d → vs[j]? = some w → Shr T g H d.1 w.1 ∧ Own T g H k (Gs j) d.2 w.2
  | _, _, d, v => Shr T g H d v
inductive Md where

  | s | o (k : Nat) | r (k : Nat) | p (k : Nat) | e (v : V) | l | x (v : V) (dd : Addr) (fs : List (Str × V))
def G.bare (g : G) : G := { g with O := fun _ => False }
def RepM (T : Th) (g : G) (H : Hp) (i : Nat) : Md → D → V → Prop
  | .s, d, v => Shr T g H d v
  | .o k, d, v => Own T g H k (g.F i) d v
  | .r k, d, v => Own T g H k g.O d v
  | .p k, d, v => v = g.P i ∧ Own T g H k (g.F i) d v
  | .e w, _, v => v = w
  | .l, d, v => Shr T g.bare H d v
  | .x w dd fs, _, v => v = w ∧ H dd = some (.xd fs) ∧ ¬ g.U dd
def TabG (g : G) (H : Hp) (p : Addr × Str) : Prop := g.B p.1 ∧ (∀ n f, ¬ g.BF n f p.1) ∧ ∃ ps : Array Value, H p.1 = some (.tbl ps) ∧ TriplesOk ps.toList ∧ ∀ (pos : Pos) (cv : Value), codeAmong pos ps.toList = some cv → ∃ c, cv = .ref c ∧ H c = some (LamX.CodeO c p.2) ∧ ¬ g.U c
structure SR (T : Th) (g : G) (S : Store) (H : Hp) : Prop where
  N : g.N = S.length
  inj : ∀ m n, m < g.N → n < g.N → g.μ m = g.μ n → m = n
  mB : ∀ n, n < g.N → g.B (g.μ n)
  bB : ∀ n f a, g.BF n f a → g.B a ∧ ∀ m, m < g.N → a ≠ g.μ m
  bd : ∀ n f m e a, g.BF n f a → g.BF m e a → n = m ∧ f = e
  nd : ∀ (n : Nat) (o : Ob), S[n]? = some o → (o.fs.map (·.1)).Nodup
  ob : ∀ n o, S[n]? = some o → ∃ dx fs, H (g.μ n) = some (.ins (T.cA o.cls) dx fs) ∧ fs.map (·.1) = o.fs.map (·.1) ∧ ∀ (j : Nat) (d : Str × D) (w : Str × V), o.fs[j]? = some d → fs[j]? = some w → Own T g H (T.fm o.cls d.1) (g.BF n d.1) d.2 w.2
  tb : ∀ p ∈ T.tb, TabG g H p
structure Rel (T : Th) (g : G) (Γ : List Md) (ρ : Env) (S : Store) (σ : L2.St) (H : Hp) : Prop where
  len : ρ.length = σ.length
  slot : ∀ (i : Nat) d, ρ[i]? = some (some d) → ∃ v, σ[i]? = some (some v) ∧ RepM T g H i (Γ.getD i .s) d v
  dF : ∀ i j a, g.F i a → g.F j a → i = j
  dFO : ∀ i a, g.F i a → ¬ g.O a
  dFB : ∀ i a, g.F i a → ¬ g.B a
  dOB : ∀ a, g.O a → ¬ g.B a
  dom : ∀ a, g.U a → ∃ o, H a = some o
  st : SR T g S H
  nt : ∀ a, g.U a → ∀ u, ¬ Rd H a (.tup u)
end Q

namespace Q
open PySem PySem.Spec PyProof.Rows L2
abbrev Exx (H H' : Hp) : Prop := ∀ a o, H a = some o → H' a = some o
theorem Exx.nt {H H' : Hp} {U : Addr → Prop} (dm : ∀ a, U a → ∃ o, H a = some o) (nt : ∀ a, U a → ∀ u, ¬ Rd H a (.tup u)) (e : Exx H H') : ∀ a, U a → ∀ u, ¬ Rd H' a (.tup u) := fun a h u r => by
  obtain ⟨o, q⟩ := dm a h
  have q' := e a o q
  refine nt a h u (r.imp (fun z => ?_) fun ⟨b, z⟩ => ⟨b, ?_⟩)
  · rw [q'] at z; cases z; exact q
  · rw [q'] at z; cases z; exact q
theorem Exx.refl (H : Hp) : Exx H H := fun _ _ h => h
theorem Exx.new {H : Hp} {p : Addr} {o : HO} (h : H p = none) : Exx H (upd H p o) := fun a u e => by
  rw [upd_ne (ne_of_none e h)]; exact e
theorem Exx.trans {H H1 H2 : Hp} (a : Exx H H1) (b : Exx H1 H2) : Exx H H2 := fun x o h => b x o (a x o h)
section
variable {T : Th} {g g' : G} {H H' : Hp}
theorem Stay.ex (e : Exx H H') : Stay g H g H' := ⟨fun a o h _ => e a o h, fun _ h => .inl h, Nat.le_refl _, fun _ _ => rfl, rfl⟩
theorem Own.keep (st : Stay g H g' H') (ke : ∀ (F : Addr → Prop) a o, F a → H a = some o → H' a = some o) : ∀ (k : Nat) (F : Addr → Prop) (d : D) (v : V), Own T g H k F d v → Own T g' H' k F d v := by
  intro k
  induction k with
  | zero =>
    intro F d v h
    simp only [Own] at h ⊢
    exact h.stay st
  | succ k ih =>
    intro F d v h
    cases d with
    | lst l =>
      simp only [Own] at h ⊢
      obtain ⟨p, vs, e, hF, hH, hl, Gs, h1, h2, h3⟩ := h
      exact ⟨p, vs, e, hF, ke F p _ hF hH, hl, Gs, h1, h2, fun j d w a b => ih (Gs j) d w (h3 j d w a b)⟩
    | dct l =>
      simp only [Own] at h ⊢
      obtain ⟨p, vs, e, hF, hH, hl, Gs, h1, h2, h3⟩ := h
      exact ⟨p, vs, e, hF, hH.at fun o z => ke F p o hF z, hl, Gs, h1, h2, fun j d w a b => ⟨(h3 j d w a b).1.stay st, ih (Gs j) d.2 w.2 (h3 j d w a b).2⟩⟩
    | _ => simp only [Own] at h ⊢; exact h.stay st
theorem Own.keepF (st : Stay g H g' H') : ∀ (k : Nat) (F : Addr → Prop) (d : D) (v : V), (∀ a o, F a → H a = some o → H' a = some o) → Own T g H k F d v → Own T g' H' k F d v := by
  intro k
  induction k with
  | zero =>
    intro F d v ke h
    simp only [Own] at h ⊢
    exact h.stay st
  | succ k ih =>
    intro F d v ke h
    cases d with
    | lst l =>
      simp only [Own] at h ⊢
      obtain ⟨p, vs, e, hF, hH, hl, Gs, h1, h2, h3⟩ := h
      exact ⟨p, vs, e, hF, ke p _ hF hH, hl, Gs, h1, h2, fun j d w a b => ih (Gs j) d w (fun a o z q => ke a o (h1 j a z).1 q) (h3 j d w a b)⟩
    | dct l =>
      simp only [Own] at h ⊢
      obtain ⟨p, vs, e, hF, hH, hl, Gs, h1, h2, h3⟩ := h
      exact ⟨p, vs, e, hF, hH.at fun o z => ke p o hF z, hl, Gs, h1, h2, fun j d w a b => ⟨(h3 j d w a b).1.stay st, ih (Gs j) d.2 w.2 (fun a o z q => ke a o (h1 j a z).1 q) (h3 j d w a b).2⟩⟩
    | _ => simp only [Own] at h ⊢; exact h.stay st
theorem Own.wide : ∀ (k : Nat) (F F' : Addr → Prop) (d : D) (v : V), (∀ a, F a → F' a) → Own T g H k F d v → Own T g H k F' d v := by
  intro k F F' d v hf h
  cases k with
  | zero => simpa only [Own] using h
  | succ k =>
    cases d with
    | lst l =>
      simp only [Own] at h ⊢
      obtain ⟨p, vs, e, hF, hH, hl, Gs, h1, h2, h3⟩ := h
      exact ⟨p, vs, e, hf _ hF, hH, hl, Gs, fun j q z => ⟨hf _ (h1 j q z).1, (h1 j q z).2⟩, h2, h3⟩
    | dct l =>
      simp only [Own] at h ⊢
      obtain ⟨p, vs, e, hF, hH, hl, Gs, h1, h2, h3⟩ := h
      exact ⟨p, vs, e, hf _ hF, hH, hl, Gs, fun j q z => ⟨hf _ (h1 j q z).1, (h1 j q z).2⟩, h2, h3⟩
    | _ => simpa only [Own] using h
theorem TabG.stay {p : Addr × Str} (t : TabG g H p) (st : Stay g H g' H') (k : ∀ o, H p.1 = some o → H' p.1 = some o) (hB : g.B p.1 → g'.B p.1) (hBF : ∀ n f, g'.BF n f p.1 → g.BF n f p.1) : TabG g' H' p := by
  obtain ⟨h1, h2, ps, h3, h4, h5⟩ := t
  refine ⟨hB h1, fun n f z => h2 n f (hBF n f z), ps, k _ h3, h4, fun pos cv e => ?_⟩
  obtain ⟨c, e1, e2, e3⟩ := h5 pos cv e
  exact ⟨c, e1, st.keep _ _ e2 e3, st.off e2 e3⟩
theorem SR.keep {S : Store} (r : SR T g S H) (st : Stay g H g' H') (ke : ∀ a o, g.B a → H a = some o → H' a = some o) (hN : g'.N = g.N) (hB : g'.B = g.B) (hBF : g'.BF = g.BF) (hμ : ∀ n, n < g.N → g'.μ n = g.μ n) : SR T g' S H' where
  N := hN.trans r.N
  inj := fun m n hm hn e => by
    rw [hN] at hm hn
    rw [hμ m hm, hμ n hn] at e
    exact r.inj m n hm hn e
  mB := fun n hn => by rw [hN] at hn; rw [hμ n hn, hB]; exact r.mB n hn
  bB := fun n f a h => by
    rw [hBF] at h
    rw [hB]
    exact ⟨(r.bB n f a h).1, fun m hm => by rw [hN] at hm; rw [hμ m hm]; exact (r.bB n f a h).2 m hm⟩
  bd := fun n f m e a h h' => by rw [hBF] at h h'; exact r.bd n f m e a h h'
  nd := r.nd
  ob := fun n o e => by
    have hn : n < g.N := by rw [r.N]; exact (List.getElem?_eq_some_iff.mp e).1
    obtain ⟨dx, fs, h1, h2, h3⟩ := r.ob n o e
    refine ⟨dx, fs, ?_, h2, fun j d w a b => ?_⟩
    · rw [hμ n hn]; exact ke _ _ (r.mB n hn) h1
    · rw [hBF]
      exact Own.keepF st _ _ _ _ (fun a o z q => ke a o (r.bB n _ a z).1 q) (h3 j d w a b)
  tb := fun p hp => (r.tb p hp).stay st (fun o e => ke _ _ (r.tb p hp).1 e) (fun z => by rw [hB]; exact z) fun n f z => by rw [hBF] at z; exact z
theorem Rel.ex {Γ : List Md} {ρ : Env} {S : Store} {σ : L2.St} (r : Rel T g Γ ρ S σ H) (e : Exx H H') : Rel T g Γ ρ S σ H' where
  len := r.len
  slot := fun i d h => by
    obtain ⟨v, h1, h2⟩ := r.slot i d h
    refine ⟨v, h1, ?_⟩
    cases hm : Γ.getD i .s <;> rw [hm] at h2 <;> simp only [RepM] at h2 ⊢
    · exact h2.stay (.ex e)
    · exact Own.keepF (.ex e) _ _ _ _ (fun a o _ q => e a o q) h2
    · exact Own.keepF (.ex e) _ _ _ _ (fun a o _ q => e a o q) h2
    · exact ⟨h2.1, Own.keepF (.ex e) _ _ _ _ (fun a o _ q => e a o q) h2.2⟩
    · exact h2
    · exact h2.stay (.ex e)
    · exact ⟨h2.1, e _ _ h2.2.1, h2.2.2⟩
  dF := r.dF
  dFO := r.dFO
  dFB := r.dFB
  dOB := r.dOB
  dom := fun a h => by obtain ⟨o, q⟩ := r.dom a h; exact ⟨o, e a o q⟩
  st := r.st.keep (.ex e) (fun a o _ q => e a o q) rfl rfl rfl fun _ _ => rfl
  nt := e.nt r.dom r.nt
end
theorem G.bare_U {g : G} {a : Addr} (h : g.bare.U a) : g.U a := by
  rcases h with h | h | h
  · exact h.elim
  · exact .inr (.inl h)
  · exact .inr (.inr h)
theorem bare_sub {g g2 : G} {H : Hp} (hN : g.N = g2.N) (hμ : g2.μ = g.μ) (hF : ∀ i a, g2.F i a → ∃ j, g.F j a) (hB : ∀ a, g2.B a → g.B a) (hZ : g2.Z = g.Z := by rfl) : Stay g.bare H g2.bare H := ⟨fun _ _ h _ => h, fun a h => .inl (by
  rcases h with h | ⟨i, h⟩ | h
  · exact h.elim
  · exact .inr (.inl (hF i a h))
  · exact .inr (.inr (hB a h))), by show g.N ≤ g2.N; rw [hN]; exact Nat.le_refl _, fun n _ => by show g2.μ n = g.μ n; rw [hμ], hZ⟩
structure FrE (g : G) (H : Hp) (g' : G) (H' : Hp) : Prop where
  keep : ∀ a o, H a = some o → ¬ g.B a → H' a = some o
  B : ∀ a, g'.B a → g.B a ∨ H a = none
  F : g'.F = g.F
  O : g'.O = g.O
  P : g'.P = g.P
  N : g.N ≤ g'.N
  μ : ∀ n, n < g.N → g'.μ n = g.μ n
  dom : ∀ a o, H a = some o → ∃ o', H' a = some o'
section
variable {T : Th} {g g1 g2 : G} {H H1 H2 : Hp}
theorem FrE.refl (g : G) (H : Hp) : FrE g H g H := ⟨fun _ _ h _ => h, fun _ h => .inl h, rfl, rfl, rfl, Nat.le_refl _, fun _ _ => rfl, fun _ o h => ⟨o, h⟩⟩
theorem FrE.ex (e : Exx H H1) : FrE g H g H1 := ⟨fun a o h _ => e a o h, fun _ h => .inl h, rfl, rfl, rfl, Nat.le_refl _, fun _ _ => rfl, fun a o h => ⟨o, e a o h⟩⟩
theorem FrE.Z (f : FrE g H g1 H1) : g1.Z = g.Z := by funext k; show g1.P _ = g.P _; rw [f.P]
theorem FrE.stay (f : FrE g H g1 H1) : Stay g H g1 H1 where
  Z := f.Z
  keep := fun a o h hu => f.keep a o h fun z => hu (.inr (.inr z))
  own := fun a h => by
    rcases h with h | h | h
    · rw [f.O] at h; exact .inl (.inl h)
    · rw [f.F] at h; exact .inl (.inr (.inl h))
    · exact (f.B a h).imp (fun z => .inr (.inr z)) id
  N := f.N
  μ := f.μ
theorem FrE.bare (f : FrE g H g1 H1) : Stay g.bare H g1.bare H1 where
  Z := f.Z
  keep := fun a o h hu => f.keep a o h fun z => hu (.inr (.inr z))
  own := fun a h => by
    rcases h with h | h | h
    · exact h.elim
    · have h : ∃ i, g1.F i a := h
      rw [f.F] at h; exact .inl (.inr (.inl h))
    · exact (f.B a h).imp (fun z => .inr (.inr z)) id
  N := f.N
  μ := f.μ
theorem FrE.trans (a : FrE g H g1 H1) (b : FrE g1 H1 g2 H2) : FrE g H g2 H2 where
  keep := fun x o h hb => b.keep x o (a.keep x o h hb) fun z => by
    rcases a.B x z with z | z
    · exact hb z
    · rw [h] at z; cases z
  B := fun x h => by
    rcases b.B x h with h | h
    · exact a.B x h
    · cases e : H x with
      | none => exact .inr rfl
      | some o =>
        by_cases hb : g.B x
        · exact .inl hb
        · have := a.keep x o e hb
          rw [h] at this; cases this
  F := b.F.trans a.F
  O := b.O.trans a.O
  P := b.P.trans a.P
  N := Nat.le_trans a.N b.N
  μ := fun n h => (b.μ n (Nat.lt_of_lt_of_le h a.N)).trans (a.μ n h)
  dom := fun x o h => by
    obtain ⟨o', h'⟩ := a.dom x o h
    exact b.dom x o' h'
end
def ExcR (T : Th) (g : G) (H : Hp) (x : Exc) (c : Value) (dd : Option Addr) : Prop :=
  x.cls < T.nc ∧ c = .ref (T.cA x.cls) ∧ ((x.args = [] ∧ dd = none) ∨ ∃ d fs, x.args ≠ [] ∧ dd = some d ∧ H d = some (.xd fs) ∧ fs.map (·.1) = x.args.map (·.1) ∧ ShrL T g H (x.args.map (·.2)) (fs.map (·.2)) ∧ ¬ g.U d)
def GoodE (T : Th) (W : WX) (Γ : List Md) (ρ : Env) (σ : L2.St) (g : G) (H : Hp) : RE → VK → Prop
  | .ok d S', Q => ∀ v g' H', Rel T g' Γ ρ S' σ H' → FrE g H g' H' → Shr T g' H' d v → Q v H'
  | .exc x S', _ => ∀ c dd g' H', Rel T g' Γ ρ S' σ H' → FrE g H g' H' → ExcR T g' H' x c dd → W c dd σ H'
  | .no, _ => False
def GoodL (T : Th) (W : WX) (Γ : List Md) (ρ : Env) (σ : L2.St) (g : G) (H : Hp) : RL → (List V → Hp → Prop) → Prop
  | .ok d S', Q => ∀ v g' H', Rel T g' Γ ρ S' σ H' → FrE g H g' H' → ShrL T g' H' d v → Q v H'
  | .exc x S', _ => ∀ c dd g' H', Rel T g' Γ ρ S' σ H' → FrE g H g' H' → ExcR T g' H' x c dd → W c dd σ H'
  | .no, _ => False
def GoodT (T : Th) (W : WX) (Γ : List Md) (ρ : Env) (σ : L2.St) (g : G) (H : Hp) : RE → (Bool → Hp → Prop) → Prop
  | .ok d S', Q => ∃ b, d = .bl b ∧ ∀ g' H', Rel T g' Γ ρ S' σ H' → FrE g H g' H' → Q b H'
  | .exc x S', _ => ∀ c dd g' H', Rel T g' Γ ρ S' σ H' → FrE g H g' H' → ExcR T g' H' x c dd → W c dd σ H'
  | .no, _ => False
def tX (T : Th) (W : WX) (Γ : List Md) (F : FE) : TE := fun σ H Q => ∃ g ρ S, Rel T g Γ ρ S σ H ∧ GoodE T W Γ ρ σ g H (F ρ S) Q
def tXL (T : Th) (W : WX) (Γ : List Md) (F : FL) : TA := fun σ H Q => ∃ g ρ S, Rel T g Γ ρ S σ H ∧ GoodL T W Γ ρ σ g H (F ρ S) Q
def tXT (T : Th) (W : WX) (Γ : List Md) (F : FE) : TT := fun σ H Q => ∃ g ρ S, Rel T g Γ ρ S σ H ∧ GoodT T W Γ ρ σ g H (F ρ S) Q
abbrev XE (X : Cx) (T : Th) (W : WX) (Γ : List Md) (e : Expr) (F : FE) : Prop := PE X e (tX T W Γ F)
abbrev XL (X : Cx) (T : Th) (W : WX) (Γ : List Md) (es : List Expr) (F : FL) : Prop := PA X es (tXL T W Γ F)
abbrev XT (X : Cx) (T : Th) (W : WX) (Γ : List Md) (e : Expr) (F : FE) : Prop := PT X e (tXT T W Γ F)
theorem pe_imp {X : Cx} {e : Expr} {t t' : TE} (h : PE X e t) (i : ∀ σ H Q, t' σ H Q → t σ H Q) : PE X e t' := ⟨fun pins s σ H Q I q => h.run pins s σ H Q I (i σ H Q q)⟩
theorem pt_imp {X : Cx} {e : Expr} {t t' : TT} (h : PT X e t) (i : ∀ σ H Q, t' σ H Q → t σ H Q) : PT X e t' := ⟨fun pins s σ H Q I q => h.run pins s σ H Q I (i σ H Q q)⟩
theorem pw_imp {X : Cx} {e : Expr} {t t' : TT} (h : PW X e t) (i : ∀ σ H Q, t' σ H Q → t σ H Q) : PW X e t' := ⟨fun w pins s σ H Q I q => h.run w pins s σ H Q I (i σ H Q q)⟩
theorem pa_imp {X : Cx} {e : List Expr} {t t' : TA} (h : PA X e t) (i : ∀ σ H Q, t' σ H Q → t σ H Q) : PA X e t' := ⟨fun pos pins s σ H Q I q => h.run pos pins s σ H Q I (i σ H Q q)⟩
def RE.bind : RE → (D → Store → RE) → RE
  | .ok d S, k => k d S
  | .exc x S, _ => .exc x S
  | .no, _ => .no
def RE.of (S : Store) : Option D → RE
  | some d => .ok d S
  | none => .no
def eC (d : D) : FE := fun _ S => .ok d S
def eVar (i : Nat) : FE := fun ρ S => match ρ[i]? with
  | some (some d) => .ok d S
  | _ => .no
def eOp (h : D → D → Option D) (a b : FE) : FE := fun ρ S => (a ρ S).bind fun x S1 => (b ρ S1).bind fun y S2 => .of S2 (h x y)
def eUn (h : D → Option D) (a : FE) : FE := fun ρ S => (a ρ S).bind fun x S1 => .of S1 (h x)
def lNil : FL := fun _ S => .ok [] S
def lCons (a : FE) (r : FL) : FL := fun ρ S => match a ρ S with
  | .ok x S1 => (match r ρ S1 with
    | .ok xs S2 => .ok (x :: xs) S2
    | .exc x S2 => .exc x S2
    | .no => .no)
  | .exc x S1 => .exc x S1
  | .no => .no
def eL (h : List D → Option D) (a : FL) : FE := fun ρ S => match a ρ S with
  | .ok xs S1 => .of S1 (h xs)
  | .exc x S1 => .exc x S1
  | .no => .no
def eTup (a : FL) : FE := eL (fun ds => if ds.length ≤ 1000000 then some (.tup ds) else none) a
def eLst (a : FL) : FE := eL (fun ds => if ds.length ≤ 1000000 then some (.lst ds) else none) a
def eAnd (a b : FE) : FE := fun ρ S => (a ρ S).bind fun x S1 => match x with
  | .bl true => b ρ S1
  | .bl false => .ok (.bl false) S1
  | _ => .no
def eOr (a b : FE) : FE := fun ρ S => (a ρ S).bind fun x S1 => match x with
  | .bl true => .ok (.bl true) S1
  | .bl false => b ρ S1
  | _ => .no
def eNot (a : FE) : FE := fun ρ S => (a ρ S).bind fun x S1 => match x with
  | .bl b => .ok (.bl (!b)) S1
  | _ => .no
def eIf (c a b : FE) : FE := fun ρ S => (c ρ S).bind fun x S1 => match x with
  | .bl true => a ρ S1
  | .bl false => b ρ S1
  | _ => .no
section
variable {X : Cx} {T : Th} {W : WX} {Γ : List Md}
theorem good_bind {ρ : Env} {σ : L2.St} {g : G} {H : Hp} {r : RE} {k : D → Store → RE} {Q Q' : VK} (h : GoodE T W Γ ρ σ g H (r.bind k) Q)
    (hk : ∀ d S v g' H', r = .ok d S → Rel T g' Γ ρ S σ H' → FrE g H g' H' → Shr T g' H' d v → GoodE T W Γ ρ σ g' H' (k d S) Q → Q' v H') : GoodE T W Γ ρ σ g H r Q' := by
  cases r with
  | ok d S =>
    intro v g' H' R f s
    refine hk d S v g' H' rfl R f s ?_
    have h' : GoodE T W Γ ρ σ g H (k d S) Q := h
    cases e : k d S with
    | ok d2 S2 =>
      rw [e] at h'
      exact fun v2 g2 H2 R2 f2 s2 => h' v2 g2 H2 R2 (f.trans f2) s2
    | exc x S2 =>
      rw [e] at h'
      exact fun c dd g2 H2 R2 f2 s2 => h' c dd g2 H2 R2 (f.trans f2) s2
    | no => rw [e] at h'; exact h'
  | exc x S => exact h
  | no => exact h
theorem good_of {ρ : Env} {σ : L2.St} {g : G} {H : Hp} {S : Store} {o : Option D} {Q : VK} (h : GoodE T W Γ ρ σ g H (.of S o) Q) : ∃ d, o = some d ∧ GoodE T W Γ ρ σ g H (.ok d S) Q := by
  cases o with
  | none => exact h.elim
  | some d => exact ⟨d, rfl, h⟩
theorem xe_c {d : D} {v : V} {e : Expr} (he : PE X e (tC v)) (hs : ∀ g H, Shr T g H d v) : XE X T W Γ e (eC d) := pe_imp he fun σ H Q ⟨g, ρ, S, R, h⟩ => h v g H R (.refl g H) (hs g H)
theorem xe_int {i : Int} {j : Nat} {pos : Pos} : XE X T W Γ (.Constant (.int i) j pos) (eC (.int i)) := xe_c pe_int fun _ _ => by simp only [Shr]
theorem xe_bl {b : Bool} {j : Nat} {pos : Pos} : XE X T W Γ (.Constant (.bool b) j pos) (eC (.bl b)) := xe_c pe_bl fun _ _ => by simp only [Shr]
theorem xe_var {i : Nat} {e : Expr} (he : PE X e (tVar i)) (hm : Γ.getD i .s = .s) : XE X T W Γ e (eVar i) := pe_imp he fun σ H Q ⟨g, ρ, S, R, h⟩ => by
  have h : GoodE T W Γ ρ σ g H (match ρ[i]? with | some (some d) => RE.ok d S | _ => .no) Q := h
  split at h
  · rename_i d e
    obtain ⟨v, h1, h2⟩ := R.slot i d e
    rw [hm] at h2
    exact ⟨v, h1, h v g H R (.refl g H) h2⟩
  · exact h.elim
def OpOk (T : Th) (r : R2) (h : D → D → Option D) : Prop := ∀ (g : G) (H : Hp) (x y z : D) (v w : V), Shr T g H x v → Shr T g H y w → h x y = some z → (∀ a, g.U a → ∃ o, H a = some o) → ∀ Q : VK, (∀ u H', Exx H H' → Shr T g H' z u → Q u H') → r v w H Q
def UnOk (T : Th) (r : V → Hp → VK → Prop) (h : D → Option D) : Prop := ∀ (g : G) (H : Hp) (x z : D) (v : V), Shr T g H x v → h x = some z → (∀ a, g.U a → ∃ o, H a = some o) → ∀ Q : VK, (∀ u H', Exx H H' → Shr T g H' z u → Q u H') → r v H Q
def LsOk (T : Th) (r : List V → Hp → VK → Prop) (h : List D → Option D) : Prop := ∀ (g : G) (H : Hp) (xs : List D) (z : D) (vs : List V), ShrL T g H xs vs → h xs = some z → (∀ a, g.U a → ∃ o, H a = some o) → ∀ Q : VK, (∀ u H', Exx H H' → Shr T g H' z u → Q u H') → r vs H Q
theorem xe_op {e : Expr} {r : R2} {h : D → D → Option D} {a b : Expr} {A B : FE} (ok : OpOk T r h) (ha : XE X T W Γ a A) (hb : XE X T W Γ b B)
    (he : PE X a (tX T W Γ A) → PE X b (tX T W Γ B) → PE X e (tOp r (tX T W Γ A) (tX T W Γ B))) : XE X T W Γ e (eOp h A B) := pe_imp (he ha hb) fun σ H Q ⟨g, ρ, S, R, hg⟩ =>
  ⟨g, ρ, S, R, good_bind hg fun x S1 v g1 H1 _ R1 f1 s1 hg1 => ⟨g1, ρ, S1, R1, good_bind hg1 fun y S2 w g2 H2 _ R2 f2 s2 hg2 => by
    obtain ⟨z, ez, hg3⟩ := good_of hg2
    exact ok g2 H2 x y z v w (s1.stay f2.stay) s2 ez R2.dom Q fun u H' ex su => hg3 u g2 H' (R2.ex ex) (.ex ex) su⟩⟩
theorem xe_un {e : Expr} {r : V → Hp → VK → Prop} {h : D → Option D} {a : Expr} {A : FE} (ok : UnOk T r h) (ha : XE X T W Γ a A) (he : PE X a (tX T W Γ A) → PE X e (tUn r (tX T W Γ A))) : XE X T W Γ e (eUn h A) := pe_imp (he ha) fun σ H Q ⟨g, ρ, S, R, hg⟩ =>
  ⟨g, ρ, S, R, good_bind hg fun x S1 v g1 H1 _ R1 f1 s1 hg1 => by
    obtain ⟨z, ez, hg3⟩ := good_of hg1
    exact ok g1 H1 x z v s1 ez R1.dom Q fun u H' ex su => hg3 u g1 H' (R1.ex ex) (.ex ex) su⟩
theorem goodL_then {ρ : Env} {σ : L2.St} {g : G} {H : Hp} {A : FL} {h : List D → Option D} {S : Store} {Q : VK} {Q' : List V → Hp → Prop} (hg : GoodE T W Γ ρ σ g H (eL h A ρ S) Q)
    (hk : ∀ ds S' z vs g' H', h ds = some z → Rel T g' Γ ρ S' σ H' → FrE g H g' H' → ShrL T g' H' ds vs → GoodE T W Γ ρ σ g' H' (.ok z S') Q → Q' vs H') : GoodL T W Γ ρ σ g H (A ρ S) Q' := by
  unfold eL at hg
  cases e : A ρ S with
  | ok ds S' =>
    rw [e] at hg
    intro vs g' H' R f s
    obtain ⟨z, ez, hg⟩ := good_of hg
    exact hk ds S' z vs g' H' ez R f s fun v2 g2 H2 R2 f2 s2 => hg v2 g2 H2 R2 (f.trans f2) s2
  | exc x S' => rw [e] at hg; exact hg
  | no => rw [e] at hg; exact hg
theorem xe_L {e : Expr} {r : List V → Hp → VK → Prop} {h : List D → Option D} {as : List Expr} {A : FL} (ok : LsOk T r h) (ha : XL X T W Γ as A) (he : PA X as (tXL T W Γ A) → PE X e (tCB r (tXL T W Γ A))) : XE X T W Γ e (eL h A) := pe_imp (he ha) fun σ H Q ⟨g, ρ, S, R, hg⟩ =>
  ⟨g, ρ, S, R, goodL_then hg fun ds S1 z vs g1 H1 ez R1 f1 s1 hg1 => ok g1 H1 ds z vs s1 ez R1.dom Q fun u H' ex su => hg1 u g1 H' (R1.ex ex) (.ex ex) su⟩
theorem xl_nil : XL X T W Γ [] lNil := pa_imp pa_nil fun σ H Q ⟨g, ρ, S, R, hg⟩ => hg [] g H R (.refl g H) .nil
theorem xl_cons {e : Expr} {es : List Expr} {A : FE} {B : FL} (ha : XE X T W Γ e A) (hb : XL X T W Γ es B) (hx : PE X e (tX T W Γ A) → PA X es (tXL T W Γ B) → PA X (e :: es) (tCons (tX T W Γ A) (tXL T W Γ B))) : XL X T W Γ (e :: es) (lCons A B) := pa_imp (hx ha hb) fun σ H Q ⟨g, ρ, S, R, hg⟩ => by
  refine ⟨g, ρ, S, R, ?_⟩
  unfold lCons at hg
  cases e : A ρ S with
  | ok x S1 =>
    rw [e] at hg
    intro v g1 H1 R1 f1 s1
    refine ⟨g1, ρ, S1, R1, ?_⟩
    cases e2 : B ρ S1 with
    | ok xs S2 =>
      have hg : GoodL T W Γ ρ σ g H (match B ρ S1 with | .ok xs S2 => .ok (x :: xs) S2 | .exc x S2 => .exc x S2 | .no => .no) Q := hg
      rw [e2] at hg
      exact fun vs g2 H2 R2 f2 s2 => hg (v :: vs) g2 H2 R2 (f1.trans f2) (.cons (s1.stay f2.stay) s2)
    | exc y S2 =>
      have hg : GoodL T W Γ ρ σ g H (match B ρ S1 with | .ok xs S2 => .ok (x :: xs) S2 | .exc x S2 => .exc x S2 | .no => .no) Q := hg
      rw [e2] at hg
      exact fun c dd g2 H2 R2 f2 s2 => hg c dd g2 H2 R2 (f1.trans f2) s2
    | no =>
      have hg : GoodL T W Γ ρ σ g H (match B ρ S1 with | .ok xs S2 => .ok (x :: xs) S2 | .exc x S2 => .exc x S2 | .no => .no) Q := hg
      rw [e2] at hg
      exact hg
  | exc y S1 => rw [e] at hg; exact hg
  | no => rw [e] at hg; exact hg
end
end Q

namespace Q
open PySem PySem.Spec PyProof.Rows L2
theorem opr_or {X : Cx} {f : Value → Value → Sem Value} {r1 r2 : R2} (a : OpR X f r1) (b : OpR X f r2) : OpR X f (fun x y H Q => r1 x y H Q ∨ r2 x y H Q) := fun pins s σ H x y v u Q I rx ry h =>
  h.elim (a pins s σ H x y v u Q I rx ry) (b pins s σ H x y v u Q I rx ry)
theorem callr_or {X : Cx} {f : Value} {r1 r2 : List V → Hp → VK → Prop} (a : CallR X f r1) (b : CallR X f r2) : CallR X f (fun x H Q => r1 x H Q ∨ r2 x H Q) := fun pins s σ H xs us Q I r h =>
  h.elim (a pins s σ H xs us Q I r) (b pins s σ H xs us Q I r)
theorem ixr_or {X : Cx} {r1 r2 : R2} (a : IxR X r1) (b : IxR X r2) : IxR X (fun x y H Q => r1 x y H Q ∨ r2 x y H Q) := fun value slice pins s σ H x y v u Q I rx ry h =>
  h.elim (a value slice pins s σ H x y v u Q I rx ry) (b value slice pins s σ H x y v u Q I rx ry)
section
variable {T : Th} {g : G} {H : Hp}
theorem shr_int {i : Int} {v : V} : Shr T g H (.int i) v ↔ v = .int i := by simp only [Shr]
theorem shr_bl {i : Bool} {v : V} : Shr T g H (.bl i) v ↔ v = .bl i := by simp only [Shr]
theorem shr_str {i : Str} {v : V} : Shr T g H (.str i) v ↔ v = .str i := by simp only [Shr]
theorem shr_non {v : V} : Shr T g H .non v ↔ v = .non := by simp only [Shr]
theorem shr_tup {l : List D} {v : V} : Shr T g H (.tup l) v ↔ ∃ a vs, v = .ref a ∧ LkT T.K g.U H a vs ∧ ShrL T g H l vs := by simp only [Shr]
theorem shr_lst {l : List D} {v : V} : Shr T g H (.lst l) v ↔ ∃ a vs, v = .ref a ∧ (H a = some (.lst vs) ∧ ¬ g.U a) ∧ ShrL T g H l vs := by simp only [Shr]
theorem shr_scr {l : List D} {v : V} : Shr T g H (.scr l) v ↔ ∃ a vs, v = .ref a ∧ LkL T.K g.U H a vs ∧ ShrL T g H l vs := by simp only [Shr]
theorem shr_newT {l : List D} {vs : List V} {p : Addr} (h : ShrL T g H l vs) (hp : H p = none) (hd : ∀ a, g.U a → ∃ o, H a = some o) : Shr T g (upd H p (.tup vs)) (.tup l) (.ref p) := shr_tup.mpr
  ⟨p, vs, rfl, .inl ⟨.inl upd_same, fun u => by obtain ⟨o, e⟩ := hd p u; rw [hp] at e; cases e⟩, h.stay (.ex (Exx.new hp)) _ _⟩
theorem shr_newL {l : List D} {vs : List V} {p : Addr} (h : ShrL T g H l vs) (hp : H p = none) (hd : ∀ a, g.U a → ∃ o, H a = some o) : Shr T g (upd H p (.lst vs)) (.lst l) (.ref p) := shr_lst.mpr
  ⟨p, vs, rfl, ⟨upd_same, fun u => by obtain ⟨o, e⟩ := hd p u; rw [hp] at e; cases e⟩, h.stay (.ex (Exx.new hp)) _ _⟩
end
def oI (f : Int → Int → Option D) : D → D → Option D
  | .int a, .int b => f a b
  | _, _ => none
theorem oI_ok {T : Th} {C : Int → Int → Prop} {g : Int → Int → V} {f : Int → Int → Option D} (h : ∀ a b z, f a b = some z → C a b ∧ ∀ (g' : G) (H : Hp), Shr T g' H z (g a b)) : OpOk T (rI C g) (oI f) := by
  intro g' H x y z v w sx sy e hd Q q
  cases x <;> cases y <;> simp only [oI] at e <;> first | cases e | skip
  obtain ⟨c, s⟩ := h _ _ _ e
  exact ⟨_, _, shr_int.mp sx, shr_int.mp sy, c, q _ H (.refl H) (s g' H)⟩
theorem oI0_ok {T : Th} {g : Int → Int → V} {f : Int → Int → Option D} (h : ∀ a b z, f a b = some z → ∀ (g' : G) (H : Hp), Shr T g' H z (g a b)) : OpOk T (rI0 g) (oI f) := by
  intro g' H x y z v w sx sy e hd Q q
  cases x <;> cases y <;> simp only [oI] at e <;> first | cases e | skip
  exact ⟨_, _, shr_int.mp sx, shr_int.mp sy, q _ H (.refl H) (h _ _ _ e g' H)⟩
theorem op_fdivA {X : Cx} : OpR X (binaryOp .FloorDiv) (rI (fun _ j => j ≠ 0 ∧ j.natAbs.log2 < 9000) fun i j => .int (i.fdiv j)) := opI fun i j _ _ _ _ _ hc q => floordiv_int hc.1 q (.inl (PyProof.noPylong_of_log2 hc.2))
def hSub := oI fun a b => some (.int (a - b))
def hMod := oI fun a b => if 0 < b then some (.int (a % b)) else none
def hDiv := oI fun a b => if b = 0 ∨ 9000 ≤ b.natAbs.log2 then none else some (.int (a.fdiv b))
def hPow := oI fun a b => if 0 ≤ b ∧ b ≤ 1000000 ∧ a.natAbs < 2 ^ 64 then some (.int (a ^ b.toNat)) else none
def hLt := oI fun a b => some (.bl (decide (a < b)))
def hLe := oI fun a b => some (.bl (decide (a ≤ b)))
def hGt := oI fun a b => some (.bl (decide (b < a)))
def hGe := oI fun a b => some (.bl (decide (b ≤ a)))
section
variable {T : Th}
theorem ok_sub : OpOk T (rI0 fun i j => .int (i - j)) hSub := oI0_ok fun _ _ _ e _ _ => by cases e; exact shr_int.mpr rfl
theorem ok_mod : OpOk T (rI (fun _ j => 0 < j) fun i j => .int (i % j)) hMod := oI_ok fun _ _ _ e => by
  split at e
  · cases e; exact ⟨by assumption, fun _ _ => shr_int.mpr rfl⟩
  · cases e
theorem ok_div : OpOk T (rI (fun _ j => j ≠ 0 ∧ j.natAbs.log2 < 9000) fun i j => .int (i.fdiv j)) hDiv := oI_ok fun _ _ _ e => by
  split at e
  · cases e
  · rename_i h
    cases e
    exact ⟨⟨fun z => h (.inl z), Nat.lt_of_not_le fun z => h (.inr z)⟩, fun _ _ => shr_int.mpr rfl⟩
theorem ok_pow : OpOk T (rI CPow fun i j => .int (i ^ j.toNat)) hPow := oI_ok fun _ _ _ e => by
  split at e
  · cases e; exact ⟨by assumption, fun _ _ => shr_int.mpr rfl⟩
  · cases e
theorem ok_lt : OpOk T (rI0 fun i j => .bl (decide (i < j))) hLt := oI0_ok fun _ _ _ e _ _ => by cases e; exact shr_bl.mpr rfl
theorem ok_le : OpOk T (rI0 fun i j => .bl (decide (i ≤ j))) hLe := oI0_ok fun _ _ _ e _ _ => by cases e; exact shr_bl.mpr rfl
theorem ok_gt : OpOk T (rI0 fun i j => .bl (decide (j < i))) hGt := oI0_ok fun _ _ _ e _ _ => by cases e; exact shr_bl.mpr rfl
theorem ok_ge : OpOk T (rI0 fun i j => .bl (decide (j ≤ i))) hGe := oI0_ok fun _ _ _ e _ _ => by cases e; exact shr_bl.mpr rfl
end
def hAdd : D → D → Option D
  | .int a, .int b => some (.int (a + b))
  | .str a, .str b => if a.length + b.length ≤ 1000000 then some (.str (a ++ b)) else none
  | .tup a, .tup b => if a.length + b.length ≤ 1000000 then some (.tup (a ++ b)) else none
  | .lst a, .lst b => if a.length + b.length ≤ 1000000 then some (.lst (a ++ b)) else none
  | _, _ => none
theorem sz6 {n : Nat} (h : n ≤ 1000000) : n ≤ sizeLine := by rw [sizeLine_eq]; omega
theorem hAdd_int (a b : Int) : hAdd (.int a) (.int b) = some (.int (a + b)) := rfl
abbrev rAddA (K : PySem.W.Frag) : R2 := fun x y H Q => rI0 (fun i j => .int (i + j)) x y H Q ∨ (∃ a b, x = .str a ∧ y = .str b ∧ a.length + b.length ≤ sizeLine ∧ Q (.str (a ++ b)) H) ∨ rCatA K x y H Q ∨ rCat x y H Q
theorem op_addA {X : Cx} : OpR X (binaryOp .Add) (rAddA X.K) := opr_or op_add (opr_or op_add_str (opr_or op_catA op_cat))
theorem ok_add {T : Th} : OpOk T (rAddA T.K) hAdd := by
  intro g H x y z v w sx sy e hd Q q
  cases x <;> cases y <;> simp only [hAdd] at e <;> first | cases e | skip
  · exact .inl ⟨_, _, shr_int.mp sx, shr_int.mp sy, q _ H (.refl H) (shr_int.mpr rfl)⟩
  · split at e
    · rename_i hl
      cases e
      exact .inr (.inl ⟨_, _, shr_str.mp sx, shr_str.mp sy, sz6 hl, q _ H (.refl H) (shr_str.mpr rfl)⟩)
    · cases e
  · split at e
    · rename_i hl
      obtain ⟨a, vs, rfl, la, ra⟩ := shr_tup.mp sx
      obtain ⟨b, ws, rfl, lb, rb⟩ := shr_tup.mp sy
      have l1 := ra.length
      have l2 := rb.length
      cases e
      refine .inr (.inr (.inl ⟨a, b, vs, ws, rfl, rfl, la.sq, lb.sq, by rw [← l1, ← l2]; exact sz6 hl, fun hx => ?_, fun _ hw => ?_, fun _ _ p hp => q _ _ (Exx.new hp) (shr_newT (ra.append rb) hp hd)⟩))
      · subst hx
        exact q _ H (.refl H) (by rw [List.length_eq_zero_iff.mp l1]; exact sy)
      · subst hw
        exact q _ H (.refl H) (by rw [List.length_eq_zero_iff.mp l2, List.append_nil]; exact sx)
    · cases e
  · split at e
    · rename_i hl
      cases e
      obtain ⟨a, vs, rfl, la, ra⟩ := shr_lst.mp sx
      obtain ⟨b, ws, rfl, lb, rb⟩ := shr_lst.mp sy
      have l1 := ra.length
      have l2 := rb.length
      exact .inr (.inr (.inr ⟨a, b, vs, ws, rfl, rfl, la.1, lb.1, by rw [← l1, ← l2]; exact sz6 hl, fun p hp => q _ _ (Exx.new hp) (shr_newL (ra.append rb) hp hd)⟩))
    · cases e
end Q

namespace Q
open PySem PySem.Spec PyProof.Rows L2
section
variable {T : Th} {g : G} {H : Hp}
abbrev rIxA (K : PySem.W.Frag) : R2 := fun x y H Q => rIxL K x y H Q ∨ rIxT K x y H Q ∨ rIxS x y H Q
theorem ix_A {X : Cx} : IxR X (rIxA X.K) := ixr_or ix_list (ixr_or ix_tup ix_str)
def hIx : D → D → Option D
  | .lst l, .int i => atI l i
  | .scr l, .int i => atI l i
  | .tup l, .int i => atI l i
  | .str z, .int i => if z.length ≤ 1000000 then (atI z.cps.toList i).map fun c => .str ⟨#[c]⟩ else none
  | _, _ => none
theorem atI_shr {l : List D} {vs : List V} {i : Int} {d : D} (h : ShrL T g H l vs) (e : atI l i = some d) : ∃ v, atI vs i = some v ∧ Shr T g H d v := by
  unfold atI at e ⊢
  rw [← h.length]
  cases q : ixN l.length i with
  | none => rw [q] at e; cases e
  | some j =>
    rw [q] at e
    exact h.get e
theorem ok_ix : OpOk T (rIxA T.K) hIx := by
  intro g H x y z v w sx sy e hd Q q
  cases x <;> cases y <;> simp only [hIx] at e <;> first | cases e | skip
  · split at e
    · rename_i hl
      obtain ⟨c, e1, e2⟩ := Option.map_eq_some_iff.mp e
      subst e2
      exact .inr (.inr ⟨_, _, c, shr_str.mp sx, shr_int.mp sy, sz6 hl, e1, q _ H (.refl H) (shr_str.mpr rfl)⟩)
    · cases e
  · obtain ⟨a, vs, rfl, la, ra⟩ := shr_tup.mp sx
    obtain ⟨u, h1, h2⟩ := atI_shr ra e
    exact .inr (.inl ⟨a, vs, _, u, rfl, shr_int.mp sy, la.sq, h1, q u H (.refl H) h2⟩)
  · obtain ⟨a, vs, rfl, la, ra⟩ := shr_lst.mp sx
    obtain ⟨u, h1, h2⟩ := atI_shr ra e
    exact .inl ⟨a, vs, _, u, rfl, shr_int.mp sy, .of la.1, h1, q u H (.refl H) h2⟩
  · obtain ⟨a, vs, rfl, la, ra⟩ := shr_scr.mp sx
    obtain ⟨u, h1, h2⟩ := atI_shr ra e
    exact .inl ⟨a, vs, _, u, rfl, shr_int.mp sy, la.sq, h1, q u H (.refl H) h2⟩
theorem tuple_mulW1 (l : Addr) (items : Array Value) (n : Nat) (dd : Option Addr) (sl : Array (Option Value)) (u : Tok) :
    Meets (Builtin.«tuple.__mul__» ⟨[.ref l, .int 1 u], []⟩) (fun _ R s => s.heap.get? l = some { cls := .type "tuple", dict := dd, data := .seq items n, slots := sl } ∧ R (.ok (.ret (Value.ref l))) s) :=
  .of_wp fun prog w A R s h => by
    obtain ⟨hp, g, d, tk, os⟩ := s
    obtain ⟨hl, h⟩ := h
    have f1 := AutoSeq1.idx_int
    have c1 : (items.isEmpty || (1 : Int) == 1) = true := by simp
    have c0 : (decide ((1 : Int) < -(2 ^ 63)) || decide ((1 : Int) ≥ 2 ^ 63)) = false := by decide
    wp_walk using wpAny_loadPart' hl
    repeat (first
      | (refine wpAny_ite_false (decide_eq_false (by rw [c0]; exact Bool.false_ne_true)) ?_; wp_walk using wpAny_loadPart' hl)
      | (refine wpAny_ite_true (decide_eq_true c1) ?_; wp_walk using wpAny_loadPart' hl))
    exact ⟨_, rfl, h⟩
def rRepT1 (K : PySem.W.Frag) : R2 := fun x y H Q => ∃ l xs, x = .ref l ∧ y = .int 1 ∧ SqT K H l xs ∧ Q (.ref l) H
theorem op_repT1 {X : Cx} : OpR X (binaryOp .Mult) (rRepT1 X.K) := by
  intro pins s σ H x y v u Q I rx ry h
  obtain ⟨l, xs, rfl, rfl, hT, q⟩ := h
  cases rx
  obtain ⟨t, rfl⟩ := ry
  obtain ⟨its, r, ⟨⟨cls, dd, data, sl⟩, ho, hc, n, hd⟩, hs⟩ := I.tuple hT
  simp only at hc hd
  subst hc hd
  refine wpAny_binaryOp_repeat_ref (T := "tuple") (U := "int") (by decide) ⟨_, ho, rfl⟩ (fun s' => typeIs_int s' 1 t) noFill_tuple_mul F.fills_int_mul F.slot_int_rmul repeat_tuple F.slot_int_index.lookup
    (call_meets F.slot_int_rmul (typeIs_int s 1 t) F.entry_int_rmul (F.args_int_rmul_2 _ _) (int_rmul_tuple 1 t l its.toArray n dd sl)
      ⟨ho, rfl, ⟨_, ho, rfl⟩, call_meets F.slot_tuple_mul ⟨_, ho, rfl⟩ F.entry_tuple_mul (F.args_tuple_mul_2 _ _) (tuple_mulW1 l its.toArray n dd sl t) ⟨ho, ?_⟩⟩)
  exact ⟨.ref l, H, I, rfl, q⟩
def CMulB (i j : Int) : Prop := i.natAbs.log2 + j.natAbs.log2 < 134000000
theorem CMulB.ok {i j : Int} (h : CMulB i j) : IntMulOk i j := by
  have b : ∀ x : Int, Builtin.Int.intBits x ≤ x.natAbs.log2 + 1 := fun x => by
    unfold Builtin.Int.intBits
    split <;> omega
  have h3 : i.natAbs.log2 + j.natAbs.log2 < 134000000 := h
  exact PySem.IntMulOk.of_le (b i) (b j) (by omega)
theorem op_mulB {X : Cx} : OpR X (binaryOp .Mult) (rI CMulB fun i j => .int (i * j)) := opI fun _ _ _ _ _ _ _ hc q => mul_int q hc.ok
abbrev rMulA (K : PySem.W.Frag) : R2 := fun x y H Q => rI CMulB (fun i j => .int (i * j)) x y H Q ∨ rRep x y H Q ∨ rRepT K x y H Q ∨ rRepT1 K x y H Q
theorem op_mulA {X : Cx} : OpR X (binaryOp .Mult) (rMulA X.K) := opr_or op_mulB (opr_or op_rep (opr_or op_repT op_repT1))
def rep (l : List D) (k : Nat) : List D := (List.replicate k l).flatten
def hMul : D → D → Option D
  | .int a, .int b => if a.natAbs.log2 + b.natAbs.log2 < 134000000 then some (.int (a * b)) else none
  | .lst l, .int k => if 0 ≤ k ∧ k ≤ 1000000 ∧ l.length * k.toNat ≤ 1000000 then some (.lst (rep l k.toNat)) else none
  | .tup l, .int k => if (1 ≤ k ∧ k ≤ 1000) ∧ 0 < l.length ∧ l.length ≤ 1000 then some (.tup (rep l k.toNat)) else none
  | _, _ => none
theorem shrL_rep {l : List D} {vs : List V} (h : ShrL T g H l vs) : ∀ k : Nat, ShrL T g H (rep l k) (List.replicate k vs).flatten
  | 0 => .nil
  | k + 1 => by
    unfold rep
    rw [List.replicate_succ, List.replicate_succ, List.flatten_cons, List.flatten_cons]
    exact h.append (shrL_rep h k)
theorem ok_rept {l : List D} {k : Int} {v w : V} (sx : Shr T g H (.tup l) v) (sy : Shr T g H (.int k) w) (hl : (1 ≤ k ∧ k ≤ 1000) ∧ 0 < l.length ∧ l.length ≤ 1000) (hd : ∀ a, g.U a → ∃ o, H a = some o) {Q : VK} (q : ∀ u H', Exx H H' → Shr T g H' (.tup (rep l k.toNat)) u → Q u H') : rRepT T.K v w H Q ∨ rRepT1 T.K v w H Q := by
  obtain ⟨a, vs, rfl, la, ra⟩ := shr_tup.mp sx
  have hr := ra.length
  have hn : vs ≠ [] := fun z => by
    rw [z, List.length_nil] at hr
    have := hl.2.1
    omega
  have hk := shr_int.mp sy
  by_cases c : k = 1
  · subst c
    refine .inr ⟨a, vs, rfl, hk, la.sq, q _ H (.refl H) ?_⟩
    have e : ∀ l : List D, rep l (1 : Int).toNat = l := fun l => by show (List.replicate 1 l).flatten = l; simp
    rw [e]
    exact sx
  · exact .inl ⟨a, k, vs, rfl, hk, la.sq, hn, by omega, by omega, by rw [← hr]; exact hl.2.2, fun p hp => q _ _ (Exx.new hp) (shr_newT (shrL_rep ra _) hp hd)⟩
theorem ok_mul : OpOk T (rMulA T.K) hMul := by
  intro g H x y z v w sx sy e hd Q q
  cases x <;> cases y <;> simp only [hMul] at e <;> first | cases e | skip
  · split at e
    · rename_i hl
      cases e
      exact .inl ⟨_, _, shr_int.mp sx, shr_int.mp sy, hl, q _ H (.refl H) (shr_int.mpr rfl)⟩
    · cases e
  · split at e
    · rename_i hl
      cases e
      exact .inr (.inr (ok_rept sx sy hl hd q))
    · cases e
  · split at e
    · rename_i hl
      cases e
      obtain ⟨a, vs, rfl, la, ra⟩ := shr_lst.mp sx
      refine .inr (.inl ⟨a, _, vs, rfl, shr_int.mp sy, la.1, by omega, by omega, by rw [← ra.length]; exact sz6 hl.2.2, fun p hp => ?_⟩)
      exact q _ _ (Exx.new hp) (shr_newL (shrL_rep ra _) hp hd)
    · cases e
def hNeg : D → Option D
  | .int a => some (.int (-a))
  | _ => none
theorem ok_neg : UnOk T (rU fun i => .int (-i)) hNeg := by
  intro g H x z v sx e hd Q q
  cases x <;> simp only [hNeg] at e <;> first | cases e | skip
  exact ⟨_, shr_int.mp sx, q _ H (.refl H) (shr_int.mpr rfl)⟩
abbrev rLenA (K : PySem.W.Frag) : List V → Hp → VK → Prop := fun xs H Q => (∃ p ys, xs = [.ref p] ∧ (SqL K H p ys ∨ SqT K H p ys) ∧ Q (.int ys.length) H) ∨ (∃ z, xs = [.str z] ∧ z.length ≤ sizeLine ∧ Q (.int z.length) H)
theorem call_lenA {X : Cx} : CallR X (.builtin "len") (rLenA X.K) := callr_or call_len_seq call_len_str
def hLen : List D → Option D
  | [.lst l] => some (.int l.length)
  | [.scr l] => some (.int l.length)
  | [.tup l] => some (.int l.length)
  | [.str z] => if z.length ≤ 1000000 then some (.int z.length) else none
  | _ => none
theorem shrL1 {x : D} {vs : List V} (h : ShrL T g H [x] vs) : ∃ v, vs = [v] ∧ Shr T g H x v := by
  simp only [ShrL] at h
  obtain ⟨v, ws, rfl, s, rfl⟩ := h
  exact ⟨v, rfl, s⟩
theorem ok_len : LsOk T (rLenA T.K) hLen := by
  intro g H xs z vs sx e hd Q q
  unfold hLen at e
  split at e <;> first | cases e | skip
  · obtain ⟨v, rfl, s⟩ := shrL1 sx
    obtain ⟨a, us, rfl, la, ra⟩ := shr_lst.mp s
    exact .inl ⟨a, us, rfl, .inl (.of la.1), by rw [← ra.length]; exact q _ H (.refl H) (shr_int.mpr rfl)⟩
  · obtain ⟨v, rfl, s⟩ := shrL1 sx
    obtain ⟨a, us, rfl, la, ra⟩ := shr_scr.mp s
    exact .inl ⟨a, us, rfl, .inl la.sq, by rw [← ra.length]; exact q _ H (.refl H) (shr_int.mpr rfl)⟩
  · obtain ⟨v, rfl, s⟩ := shrL1 sx
    obtain ⟨a, us, rfl, la, ra⟩ := shr_tup.mp s
    exact .inl ⟨a, us, rfl, .inr la.sq, by rw [← ra.length]; exact q _ H (.refl H) (shr_int.mpr rfl)⟩
  · split at e
    · rename_i hl
      cases e
      obtain ⟨v, rfl, s⟩ := shrL1 sx
      rw [shr_str.mp s]
      exact .inr ⟨_, rfl, sz6 hl, q _ H (.refl H) (shr_int.mpr rfl)⟩
    · cases e
def hAbs : List D → Option D
  | [.int a] => some (.int (if a < 0 then -a else a))
  | _ => none
theorem ok_abs : LsOk T (fun xs H Q => ∃ i, xs = [.int i] ∧ Q (.int (if i < 0 then -i else i)) H) hAbs := by
  intro g H xs z vs sx e hd Q q
  unfold hAbs at e
  split at e <;> first | cases e | skip
  obtain ⟨v, rfl, s⟩ := shrL1 sx
  rw [shr_int.mp s]
  exact ⟨_, rfl, q _ H (.refl H) (shr_int.mpr rfl)⟩
def hTru : D → Option D
  | .non => some (.bl false)
  | .bl b => some (.bl b)
  | .int i => some (.bl (i != 0))
  | .str z => if z.length ≤ 1000000 then some (.bl ((z.length : Int) != 0)) else none
  | .lst l => some (.bl !l.isEmpty)
  | .scr l => some (.bl !l.isEmpty)
  | .tup l => some (.bl !l.isEmpty)
  | _ => none
theorem isEmpty_len {α β : Type} {l : List α} {vs : List β} (h : l.length = vs.length) : l.isEmpty = vs.isEmpty := by
  cases l <;> cases vs <;> simp_all
theorem tru_shr {d z : D} {v : V} (s : Shr T g H d v) (e : hTru d = some z) : ∃ b, z = .bl b ∧ TruV T.K v H b := by
  cases d <;> simp only [hTru] at e <;> first | cases e | skip
  · rw [shr_non.mp s]; exact ⟨_, rfl, rfl⟩
  · rw [shr_bl.mp s]; exact ⟨_, rfl, rfl⟩
  · rw [shr_int.mp s]; exact ⟨_, rfl, rfl⟩
  · split at e
    · rename_i hl
      cases e
      rw [shr_str.mp s]; exact ⟨_, rfl, sz6 hl, rfl⟩
    · cases e
  · obtain ⟨a, us, rfl, la, ra⟩ := shr_tup.mp s
    exact ⟨_, rfl, .inr (.inl ⟨us, la.sq, by rw [isEmpty_len ra.length]⟩)⟩
  · obtain ⟨a, us, rfl, la, ra⟩ := shr_lst.mp s
    exact ⟨_, rfl, .inl ⟨us, .of la.1, by rw [isEmpty_len ra.length]⟩⟩
  · obtain ⟨a, us, rfl, la, ra⟩ := shr_scr.mp s
    exact ⟨_, rfl, .inl ⟨us, la.sq, by rw [isEmpty_len ra.length]⟩⟩
mutual
def toPy : D → Option PyData
  | .non => some .none
  | .bl b => some (.bool b)
  | .int i => some (.int i)
  | .str x => some (.str x)
  | .tup l => (toPyL l).map .tuple
  | .lst l => (toPyL l).map .list
  | _ => none
def toPyL : List D → Option (List PyData)
  | [] => some []
  | d :: ds => match toPy d, toPyL ds with
    | some p, some ps => some (p :: ps)
    | _, _ => none
end
mutual
theorem Shr.dp : ∀ (d : D) (v : V) (p : PyData), Shr T g H d v → toPy d = some p → Dp T.K H v p
  | .non, v, p, s, e => by simp only [toPy] at e; cases e; rw [shr_non.mp s]; exact .non
  | .bl b, v, p, s, e => by simp only [toPy] at e; cases e; rw [shr_bl.mp s]; exact .bl b
  | .int i, v, p, s, e => by simp only [toPy] at e; cases e; rw [shr_int.mp s]; exact .int i
  | .str i, v, p, s, e => by simp only [toPy] at e; cases e; rw [shr_str.mp s]; exact .str i
  | .tup l, v, p, s, e => by
    simp only [toPy] at e
    obtain ⟨ps, e1, e2⟩ := Option.map_eq_some_iff.mp e
    subst e2
    obtain ⟨a, us, rfl, la, ra⟩ := shr_tup.mp s
    exact .tup la.sq (ShrL.dp l us ps ra e1)
  | .lst l, v, p, s, e => by
    simp only [toPy] at e
    obtain ⟨ps, e1, e2⟩ := Option.map_eq_some_iff.mp e
    subst e2
    obtain ⟨a, us, rfl, la, ra⟩ := shr_lst.mp s
    exact .lst (.of la.1) (ShrL.dp l us ps ra e1)
  | .scr l, v, p, s, e => by simp [toPy] at e
  | .dct l, v, p, s, e => by simp [toPy] at e
  | .obj l, v, p, s, e => by simp [toPy] at e
  | .fn k l, v, p, s, e => by simp [toPy] at e
  | .gone k, v, p, s, e => by simp [toPy] at e
theorem ShrL.dp : ∀ (ds : List D) (vs : List V) (ps : List PyData), ShrL T g H ds vs → toPyL ds = some ps → DpAll T.K H vs ps
  | [], vs, ps, s, e => by
    simp only [toPyL] at e; cases e
    simp only [ShrL] at s; subst s
    exact .nil
  | d :: ds, vs, ps, s, e => by
    simp only [toPyL] at e
    simp only [ShrL] at s
    obtain ⟨v, ws, rfl, s1, s2⟩ := s
    split at e
    · rename_i p ps' e1 e2
      cases e
      exact .cons (Shr.dp d v p s1 e1) (ShrL.dp ds ws ps' s2 e2)
    · cases e
end
def hEq (x y : D) : Option D := match toPy x, toPy y with
  | some p, some q => if SeqAt.shaped p = true ∧ SeqAt.shaped q = true then some (.bl (PyData.eqv p q)) else none
  | _, _ => none
def hNe (x y : D) : Option D := match toPy x, toPy y with
  | some p, some q => if SeqAt.shaped p = true ∧ SeqAt.shaped q = true then some (.bl (!PyData.eqv p q)) else none
  | _, _ => none
theorem ok_eq : OpOk T (rEqD T.K) hEq := by
  intro g H x y z v w sx sy e hd Q q
  unfold hEq at e
  split at e
  · rename_i p p' e1 e2
    split at e
    · rename_i h
      cases e
      exact ⟨p, p', sx.dp _ _ _ e1, sy.dp _ _ _ e2, h.1, h.2, q _ H (.refl H) (shr_bl.mpr rfl)⟩
    · cases e
  · cases e
theorem ok_ne : OpOk T (rNeD T.K) hNe := by
  intro g H x y z v w sx sy e hd Q q
  unfold hNe at e
  split at e
  · rename_i p p' e1 e2
    split at e
    · rename_i h
      cases e
      exact ⟨p, p', sx.dp _ _ _ e1, sy.dp _ _ _ e2, h.1, h.2, q _ H (.refl H) (shr_bl.mpr rfl)⟩
    · cases e
  · cases e
def flatD : D → Bool
  | .non => true
  | .bl _ => true
  | .int _ => true
  | .str _ => true
  | _ => false
def eqD : D → D → Bool
  | .non, .non => true
  | .bl a, .bl b => a == b
  | .bl a, .int b => (if a then 1 else 0) == b
  | .int a, .bl b => a == (if b then 1 else 0)
  | .int a, .int b => a == b
  | .str a, .str b => a == b
  | _, _ => false
theorem flat_shr {d : D} {v : V} (s : Shr T g H d v) (h : flatD d = true) : flatV v = true := by
  cases d <;> simp only [flatD] at h <;> first | cases h | skip
  · rw [shr_non.mp s]; rfl
  · rw [shr_bl.mp s]; rfl
  · rw [shr_int.mp s]; rfl
  · rw [shr_str.mp s]; rfl
theorem eqD_shr {d e : D} {v w : V} (s : Shr T g H d v) (t : Shr T g H e w) (h : flatD d = true) (h' : flatD e = true) : eqV v w = eqD d e := by
  cases d <;> simp only [flatD] at h <;> first | cases h | skip
  all_goals (cases e <;> simp only [flatD] at h' <;> first | cases h' | skip)
  all_goals (simp only [Shr] at s t; subst s; subst t; rfl)
theorem allFlat {ds : List D} {vs : List V} (s : ShrL T g H ds vs) (h : ds.all flatD = true) : vs.all flatV = true := by
  induction ds generalizing vs with
  | nil => simp only [ShrL] at s; subst s; rfl
  | cons d ds ih =>
    simp only [ShrL] at s
    obtain ⟨v, ws, rfl, s1, s2⟩ := s
    rw [List.all_cons, Bool.and_eq_true] at h ⊢
    exact ⟨flat_shr s1 h.1, ih s2 h.2⟩
theorem anyEq {x : D} {v : V} (sx : Shr T g H x v) (hx : flatD x = true) {ds : List D} {vs : List V} (s : ShrL T g H ds vs) (h : ds.all flatD = true) : inV v vs = ds.any fun y => eqD y x := by
  unfold inV
  induction ds generalizing vs with
  | nil => simp only [ShrL] at s; subst s; rfl
  | cons d ds ih =>
    simp only [ShrL] at s
    obtain ⟨v', ws, rfl, s1, s2⟩ := s
    rw [List.all_cons, Bool.and_eq_true] at h
    rw [List.any_cons, List.any_cons, ih s2 h.2, eqD_shr s1 sx h.1 hx]
def inL (neg : Bool) (x : D) (l : List D) : Option D := if flatD x = true ∧ l.all flatD = true then some (.bl (if neg then !(l.any fun y => eqD y x) else l.any fun y => eqD y x)) else none
def hIn (neg : Bool) : D → D → Option D
  | x, .lst l => inL neg x l
  | x, .scr l => inL neg x l
  | x, .tup l => inL neg x l
  | .str a, .str b => if neg then some (.bl !!(Builtin.Str.occurrences b a 0 b.length 1).isEmpty) else some (.bl !(Builtin.Str.occurrences b a 0 b.length 1).isEmpty)
  | _, _ => none
theorem ok_inL {neg : Bool} {x z : D} {l : List D} {a : Addr} {vs : List V} {v : V} (sx : Shr T g H x v) (h : SqL T.K H a vs ∨ SqT T.K H a vs) (s : ShrL T g H l vs) (e : inL neg x l = some z) {Q : VK} (q : ∀ u H', Exx H H' → Shr T g H' z u → Q u H') : rIn T.K neg v (.ref a) H Q := by
  unfold inL at e
  split at e
  · rename_i c
    cases e
    refine ⟨a, vs, rfl, h, flat_shr sx c.1, allFlat s c.2, ?_⟩
    rw [anyEq sx c.1 s c.2]
    exact q _ H (.refl H) (by cases neg <;> exact shr_bl.mpr rfl)
  · cases e
end
end Q

namespace Q
open PySem PySem.Spec PyProof.Rows L2
section
variable {X : Cx} {T : Th} {W : WX} {Γ : List Md}
theorem goodT_bind {ρ : Env} {σ : L2.St} {g : G} {H : Hp} {r : RE} {k : D → Store → RE} {Q : Bool → Hp → Prop} {Q' : VK} (h : GoodT T W Γ ρ σ g H (r.bind k) Q)
    (hk : ∀ d S v g' H', r = .ok d S → Rel T g' Γ ρ S σ H' → FrE g H g' H' → Shr T g' H' d v → GoodT T W Γ ρ σ g' H' (k d S) Q → Q' v H') : GoodE T W Γ ρ σ g H r Q' := by
  cases r with
  | ok d S =>
    intro v g' H' R f s
    refine hk d S v g' H' rfl R f s ?_
    have h' : GoodT T W Γ ρ σ g H (k d S) Q := h
    cases e : k d S with
    | ok d2 S2 =>
      rw [e] at h'
      obtain ⟨b, e2, h'⟩ := h'
      exact ⟨b, e2, fun g2 H2 R2 f2 => h' g2 H2 R2 (f.trans f2)⟩
    | exc x S2 =>
      rw [e] at h'
      exact fun c dd g2 H2 R2 f2 s2 => h' c dd g2 H2 R2 (f.trans f2) s2
    | no => rw [e] at h'; exact h'
  | exc x S => exact h
  | no => exact h
theorem goodTT_bind {ρ : Env} {σ : L2.St} {g : G} {H : Hp} {r : RE} {k : D → Store → RE} {Q : Bool → Hp → Prop} {Q' : Bool → Hp → Prop} (h : GoodT T W Γ ρ σ g H (r.bind k) Q) (hb : ∀ d S, r = .ok d S → k d S ≠ .no → ∃ b, d = .bl b)
    (hk : ∀ b S g' H', r = .ok (.bl b) S → Rel T g' Γ ρ S σ H' → FrE g H g' H' → GoodT T W Γ ρ σ g' H' (k (.bl b) S) Q → Q' b H') : GoodT T W Γ ρ σ g H r Q' := by
  cases r with
  | ok d S =>
    have h' : GoodT T W Γ ρ σ g H (k d S) Q := h
    obtain ⟨b, rfl⟩ := hb d S rfl (fun z => by rw [z] at h'; exact h')
    refine ⟨b, rfl, fun g' H' R f => hk b S g' H' rfl R f ?_⟩
    cases e : k (.bl b) S with
    | ok d2 S2 =>
      rw [e] at h'
      obtain ⟨b, e2, h'⟩ := h'
      exact ⟨b, e2, fun g2 H2 R2 f2 => h' g2 H2 R2 (f.trans f2)⟩
    | exc x S2 =>
      rw [e] at h'
      exact fun c dd g2 H2 R2 f2 s2 => h' c dd g2 H2 R2 (f.trans f2) s2
    | no => rw [e] at h'; exact h'
  | exc x S => exact h
  | no => exact h
theorem xt_val {e : Expr} {A : FE} (ha : XE X T W Γ e A) (he : PE X e (tX T W Γ A) → PT X e (tB (tX T W Γ A)) ∨ PT X e (tTest (tX T W Γ A))) : XT X T W Γ e A := by
  have key : ∀ σ H Q, tXT T W Γ A σ H Q → tX T W Γ A σ H fun x H1 => ∃ c, x = .bl c ∧ Q c H1 := fun σ H Q ⟨g, ρ, S, R, h⟩ => by
    refine ⟨g, ρ, S, R, ?_⟩
    cases r : A ρ S with
    | ok d S1 =>
      rw [r] at h
      obtain ⟨b, rfl, h⟩ := h
      exact fun v g' H' R' f' s => ⟨b, shr_bl.mp s, h g' H' R' f'⟩
    | exc x S1 => rw [r] at h; exact h
    | no => rw [r] at h; exact h
  rcases he ha with h | h
  · exact pt_imp h key
  · exact pt_imp h key
def eTru (a : FE) : FE := eUn hTru a
theorem xt_tru {e : Expr} {A : FE} (ha : XE X T W Γ e A) (hK : X.K = T.K) (he : ∀ whole, isTrue e X.env whole = (do let v ← whole; standAt e.pos; holding [v] (truthy v)) := by intro _; rfl) : XT X T W Γ e (eTru A) := pt_imp (pt_truth ha he) fun σ H Q ⟨g, ρ, S, R, h⟩ =>
  ⟨g, ρ, S, R, goodT_bind h fun d S1 v g1 H1 _ R1 f1 s1 h1 => by
    cases e : hTru d with
    | none => rw [e] at h1; exact h1.elim
    | some z =>
      rw [e] at h1
      obtain ⟨b, rfl, tv⟩ := tru_shr s1 e
      obtain ⟨b', e2, h1⟩ := h1
      cases e2
      exact ⟨b, by rw [hK]; exact tv, h1 g1 H1 R1 (.refl _ _)⟩⟩
theorem bl_and {d : D} {S : Store} {b : FE} {ρ : Env} (h : (match d with | .bl true => b ρ S | .bl false => RE.ok (.bl false) S | _ => .no) ≠ .no) : ∃ b, d = .bl b := by
  split at h
  · exact ⟨_, rfl⟩
  · exact ⟨_, rfl⟩
  · exact absurd rfl h
theorem bl_or {d : D} {S : Store} {b : FE} {ρ : Env} (h : (match d with | .bl true => RE.ok (.bl true) S | .bl false => b ρ S | _ => .no) ≠ .no) : ∃ b, d = .bl b := by
  split at h
  · exact ⟨_, rfl⟩
  · exact ⟨_, rfl⟩
  · exact absurd rfl h
theorem bl_not {d : D} {S : Store} (h : (match d with | .bl b => RE.ok (.bl (!b)) S | _ => .no) ≠ .no) : ∃ b, d = .bl b := by
  split at h
  · exact ⟨_, rfl⟩
  · exact absurd rfl h
variable {a b c : Expr} {A B C : FE} {pos : Pos} {rest : List Expr}
abbrev XW (X : Cx) (T : Th) (W : WX) (Γ : List Md) (e : Expr) (F : FE) : Prop := PW X e (tXT T W Γ F)
theorem xw_and (ha : XT X T W Γ a A) (hb : XW X T W Γ (.BoolOp .And (b :: rest) pos) B) : XW X T W Γ (.BoolOp .And (a :: b :: rest) pos) (eAnd A B) := pw_imp (pw_and ha hb) fun σ H Q ⟨g, ρ, S, R, h⟩ =>
  ⟨g, ρ, S, R, goodTT_bind h (fun d S1 _ hn => bl_and hn) fun t S1 g1 H1 _ R1 f1 h1 => by
    cases t with
    | true => exact ⟨g1, ρ, S1, R1, h1⟩
    | false =>
      obtain ⟨b', e2, h1⟩ := h1
      cases e2
      exact h1 g1 H1 R1 (.refl _ _)⟩
theorem xw_or (ha : XT X T W Γ a A) (hb : XW X T W Γ (.BoolOp .Or (b :: rest) pos) B) : XW X T W Γ (.BoolOp .Or (a :: b :: rest) pos) (eOr A B) := pw_imp (pw_or ha hb) fun σ H Q ⟨g, ρ, S, R, h⟩ =>
  ⟨g, ρ, S, R, goodTT_bind h (fun d S1 _ hn => bl_or hn) fun t S1 g1 H1 _ R1 f1 h1 => by
    cases t with
    | false => exact ⟨g1, ρ, S1, R1, h1⟩
    | true =>
      obtain ⟨b', e2, h1⟩ := h1
      cases e2
      exact h1 g1 H1 R1 (.refl _ _)⟩
theorem xw_and1 (ha : XT X T W Γ a A) : XW X T W Γ (.BoolOp .And [a] pos) A := pw_and1 ha
theorem xw_or1 (ha : XT X T W Γ a A) : XW X T W Γ (.BoolOp .Or [a] pos) A := pw_or1 ha
theorem xt_not (ha : XT X T W Γ a A) : XT X T W Γ (.UnaryOp .Not a pos) (eNot A) := pt_imp (pt_not ha) fun σ H Q ⟨g, ρ, S, R, h⟩ =>
  ⟨g, ρ, S, R, goodTT_bind h (fun d S1 _ hn => bl_not hn) fun t S1 g1 H1 _ R1 f1 h1 => by
    obtain ⟨b', e2, h1⟩ := h1
    cases e2
    exact h1 g1 H1 R1 (.refl _ _)⟩
theorem xe_and1 {op} (ha : XE X T W Γ a A) : XE X T W Γ (.BoolOp op [a] pos) A := pe_one ha
theorem xe_and (ha : XE X T W Γ a A) (hb : XE X T W Γ (.BoolOp .And (b :: rest) pos) B) : XE X T W Γ (.BoolOp .And (a :: b :: rest) pos) (eAnd A B) := pe_imp (pe_and ha hb) fun σ H Q ⟨g, ρ, S, R, h⟩ =>
  ⟨g, ρ, S, R, good_bind h fun d S1 v g1 H1 _ R1 f1 s1 h1 => by
    obtain ⟨t, rfl⟩ : ∃ t, d = .bl t := by
      have h0 := h1
      split at h0 <;> first | exact ⟨_, rfl⟩ | exact h0.elim
    refine ⟨t, shr_bl.mp s1, ?_⟩
    cases t with
    | true => exact ⟨g1, ρ, S1, R1, h1⟩
    | false => exact h1 (.bl false) g1 H1 R1 (.refl _ _) (shr_bl.mpr rfl)⟩
theorem xe_or (ha : XE X T W Γ a A) (hb : XE X T W Γ (.BoolOp .Or (b :: rest) pos) B) : XE X T W Γ (.BoolOp .Or (a :: b :: rest) pos) (eOr A B) := pe_imp (pe_or ha hb) fun σ H Q ⟨g, ρ, S, R, h⟩ =>
  ⟨g, ρ, S, R, good_bind h fun d S1 v g1 H1 _ R1 f1 s1 h1 => by
    obtain ⟨t, rfl⟩ : ∃ t, d = .bl t := by
      have h0 := h1
      split at h0 <;> first | exact ⟨_, rfl⟩ | exact h0.elim
    refine ⟨t, shr_bl.mp s1, ?_⟩
    cases t with
    | false => exact ⟨g1, ρ, S1, R1, h1⟩
    | true => exact h1 (.bl true) g1 H1 R1 (.refl _ _) (shr_bl.mpr rfl)⟩
theorem xe_not (ha : XE X T W Γ a A) : XE X T W Γ (.UnaryOp .Not a pos) (eNot A) := pe_imp (pe_not ha) fun σ H Q ⟨g, ρ, S, R, h⟩ =>
  ⟨g, ρ, S, R, good_bind h fun d S1 v g1 H1 _ R1 f1 s1 h1 => by
    obtain ⟨t, rfl⟩ : ∃ t, d = .bl t := by
      have h0 := h1
      split at h0 <;> first | exact ⟨_, rfl⟩ | exact h0.elim
    exact ⟨t, shr_bl.mp s1, h1 (.bl (!t)) g1 H1 R1 (.refl _ _) (shr_bl.mpr rfl)⟩⟩
def eChain (h h' : D → D → Option D) (a b c : FE) : FE := fun ρ S => (a ρ S).bind fun x S1 => (b ρ S1).bind fun y S2 => (RE.of S2 (h x y)).bind fun z S3 => match z with
  | .bl true => (c ρ S3).bind fun w S4 => .of S4 (h' y w)
  | .bl false => .ok (.bl false) S3
  | _ => .no
theorem xe_chain {e : Expr} {r r' : R2} {h h' : D → D → Option D} (ok : OpOk T r h) (ok' : OpOk T r' h') (ha : XE X T W Γ a A) (hb : XE X T W Γ b B) (hc : XE X T W Γ c C)
    (he : PE X a (tX T W Γ A) → PE X b (tX T W Γ B) → PE X c (tX T W Γ C) → PE X e (tChain r r' (tX T W Γ A) (tX T W Γ B) (tX T W Γ C))) : XE X T W Γ e (eChain h h' A B C) := pe_imp (he ha hb hc) fun σ H Q ⟨g, ρ, S, R, hg⟩ =>
  ⟨g, ρ, S, R, good_bind hg fun x S1 v g1 H1 _ R1 f1 s1 hg1 => ⟨g1, ρ, S1, R1, good_bind hg1 fun y S2 w g2 H2 _ R2 f2 s2 hg2 => by
    cases ez : h x y with
    | none => rw [ez] at hg2; exact hg2.elim
    | some z =>
      rw [ez] at hg2
      refine ok g2 H2 x y z v w (s1.stay f2.stay) s2 ez R2.dom _ fun u H3 ex su => ?_
      obtain ⟨t, rfl⟩ : ∃ t, z = .bl t := by
        have h0 := hg2
        unfold RE.of RE.bind at h0
        dsimp only at h0
        split at h0 <;> first | exact ⟨_, rfl⟩ | exact h0.elim
      refine ⟨t, shr_bl.mp su, ?_⟩
      have R3 := R2.ex ex
      cases t with
      | true =>
        rw [if_pos rfl]
        refine ⟨g2, ρ, S2, R3, ?_⟩
        have h0 : GoodE T W Γ ρ σ g2 H3 ((C ρ S2).bind fun w S4 => .of S4 (h' y w)) Q := by
          have h1 : GoodE T W Γ ρ σ g2 H2 ((C ρ S2).bind fun w S4 => .of S4 (h' y w)) Q := hg2
          cases q : (C ρ S2).bind fun w S4 => .of S4 (h' y w) with
          | ok d S4 => rw [q] at h1; exact fun v g' H' R' f' s' => h1 v g' H' R' ((FrE.ex ex).trans f') s'
          | exc d S4 => rw [q] at h1; exact fun v dd g' H' R' f' s' => h1 v dd g' H' R' ((FrE.ex ex).trans f') s'
          | no => rw [q] at h1; exact h1
        refine good_bind h0 fun w4 S4 v4 g4 H4 _ R4 f4 s4 hg4 => ?_
        obtain ⟨z4, e4, hg5⟩ := good_of hg4
        exact ok' g4 H4 y w4 z4 w v4 ((s2.stay (Stay.ex ex)).stay f4.stay) s4 e4 R4.dom Q fun u5 H5 ex5 su5 => hg5 u5 g4 H5 (R4.ex ex5) (.ex ex5) su5
      | false =>
        rw [if_neg Bool.false_ne_true]
        exact hg2 (.bl false) g2 H3 R3 (.ex ex) (shr_bl.mpr rfl)⟩⟩
end
section
variable {X : Cx} {T : Th} {W : WX} {Γ : List Md} {es : List Expr} {A : FL} {e : Expr}
theorem xe_tup (ha : XL X T W Γ es A) {x1} {pos : Pos} : XE X T W Γ (.Tuple es x1 pos) (eTup A) := pe_imp (pe_tup ha) fun σ H Q ⟨g, ρ, S, R, hg⟩ =>
  ⟨g, ρ, S, R, goodL_then hg fun ds S1 z vs g1 H1 ez R1 f1 s1 hg1 => by
    split at ez
    · rename_i hl
      cases ez
      exact ⟨by rw [← s1.length]; exact sz6 hl, fun p hp => hg1 _ g1 _ (R1.ex (Exx.new hp)) (.ex (Exx.new hp)) (shr_newT s1 hp R1.dom)⟩
    · cases ez⟩
theorem xe_lst (ha : XL X T W Γ es A) {pos : Pos} : XE X T W Γ (.List es pos) (eLst A) := pe_imp (pe_lst ha) fun σ H Q ⟨g, ρ, S, R, hg⟩ =>
  ⟨g, ρ, S, R, goodL_then hg fun ds S1 z vs g1 H1 ez R1 f1 s1 hg1 => by
    split at ez
    · rename_i hl
      cases ez
      exact ⟨by rw [← s1.length]; exact sz6 hl, fun p hp => hg1 _ g1 _ (R1.ex (Exx.new hp)) (.ex (Exx.new hp)) (shr_newL s1 hp R1.dom)⟩
    · cases ez⟩
end
end Q

namespace Q
open PySem PySem.Spec PyProof.Rows L2
structure FrS (g : G) (H : Hp) (g' : G) (H' : Hp) : Prop where
  keep : ∀ a o, H a = some o → (¬ g.U a ∨ g.O a) → H' a = some o
  own : ∀ a, g'.U a → g.U a ∨ H a = none
  O : g'.O = g.O
  P : g'.P = g.P
  N : g.N ≤ g'.N
  μ : ∀ n, n < g.N → g'.μ n = g.μ n
  dom : ∀ a o, H a = some o → ∃ o', H' a = some o'
section
variable {T : Th} {g g1 g2 : G} {H H1 H2 : Hp} {Γ : List Md} {ρ : Env} {S : Store} {σ : L2.St}
theorem FrS.refl (g : G) (H : Hp) : FrS g H g H := ⟨fun _ _ h _ => h, fun _ h => .inl h, rfl, rfl, Nat.le_refl _, fun _ _ => rfl, fun _ o h => ⟨o, h⟩⟩
theorem FrS.Z (f : FrS g H g1 H1) : g1.Z = g.Z := by funext k; show g1.P _ = g.P _; rw [f.P]
theorem FrS.stay (f : FrS g H g1 H1) : Stay g H g1 H1 := ⟨fun a o h hu => f.keep a o h (.inl hu), f.own, f.N, f.μ, f.Z⟩
theorem FrE.frs (f : FrE g H g1 H1) (hd : ∀ a, g.O a → ¬ g.B a) : FrS g H g1 H1 where
  keep := fun a o h hu => f.keep a o h fun z => hu.elim (fun w => w (.inr (.inr z))) (fun w => hd a w z)
  own := f.stay.own
  O := f.O
  P := f.P
  N := f.N
  μ := f.μ
  dom := f.dom
theorem FrS.trans (a : FrS g H g1 H1) (b : FrS g1 H1 g2 H2) : FrS g H g2 H2 where
  keep := fun x o h hu => b.keep x o (a.keep x o h hu) (hu.elim (fun w => .inl (a.stay.off h w)) fun w => .inr (by rw [a.O]; exact w))
  own := (a.stay.trans b.stay).own
  O := b.O.trans a.O
  P := b.P.trans a.P
  N := Nat.le_trans a.N b.N
  μ := (a.stay.trans b.stay).μ
  dom := fun x o h => by
    obtain ⟨o', h'⟩ := a.dom x o h
    exact b.dom x o' h'
end
def G.plus (g : G) (Fo : Addr → Prop) : G := { g with O := fun a => g.O a ∨ Fo a }
structure Jd where
  W : WX
  ΓX : List Md → Prop
  ΓR : List Md → Prop
  kr : Nat
  Γl : List Md
def GoodS (T : Th) (J : Jd) (Γ' : List Md) (g : G) (H : Hp) : RS → Ends → Prop
  | .nx ρ' S', D => ∀ σ' g' H', Rel T g' Γ' ρ' S' σ' H' → FrS g H g' H' → D.nx σ' H'
  | .bk ρ' S', D => ∀ σ' g' H', Rel T g' J.Γl ρ' S' σ' H' → FrS g H g' H' → D.bk σ' H'
  | .ct ρ' S', D => ∀ σ' g' H', Rel T g' J.Γl ρ' S' σ' H' → FrS g H g' H' → D.ct σ' H'
  | .rt d ρ' S', D => ∀ Γ'' v σ' g' H' Fo, J.ΓR Γ'' → Rel T (g'.plus Fo) Γ'' ρ' S' σ' H' → FrS g H g' H' → (∀ a, Fo a → ¬ g.O a ∧ (g.U a ∨ H a = none)) → Own T (g'.plus Fo) H' J.kr Fo d v → D.rt v H'
  | .exc x ρ' S', _ => ∀ Γ'' c dd σ' g' H', J.ΓX Γ'' → Rel T g' Γ'' ρ' S' σ' H' → FrS g H g' H' → ExcR T g' H' x c dd → J.W c dd σ' H'
  | .no, _ => False
def tS (T : Th) (J : Jd) (Γ Γ' : List Md) (F : FS) : TS := fun D σ H => ∃ g ρ S, Rel T g Γ ρ S σ H ∧ GoodS T J Γ' g H (F ρ S) D
abbrev XS (X : Cx) (T : Th) (J : Jd) (Γ Γ' : List Md) (st : Stmt) (F : FS) : Prop := PS X st (tS T J Γ Γ' F)
abbrev XB (X : Cx) (T : Th) (J : Jd) (Γ Γ' : List Md) (st : List Stmt) (F : FS) : Prop := PSs X st (tS T J Γ Γ' F)
theorem ps_imp {X : Cx} {e : Stmt} {t t' : TS} (h : PS X e t) (i : ∀ D σ H, t' D σ H → t D σ H) : PS X e t' := ⟨fun pins s σ H D I q => h.run pins s σ H D I (i D σ H q)⟩
theorem pss_imp {X : Cx} {e : List Stmt} {t t' : TS} (h : PSs X e t) (i : ∀ D σ H, t' D σ H → t D σ H) : PSs X e t' := ⟨fun pins s σ H D I q => h.run pins s σ H D I (i D σ H q)⟩
def RE.bindS (ρ : Env) : RE → (D → Store → RS) → RS
  | .ok d S, k => k d S
  | .exc x S, _ => .exc x ρ S
  | .no, _ => .no
def fPass : FS := fun ρ S => .nx ρ S
def fBrk : FS := fun ρ S => .bk ρ S
def fCt : FS := fun ρ S => .ct ρ S
def fSet (i : Nat) (a : FE) : FS := fun ρ S => (a ρ S).bindS ρ fun d S1 => .nx (ρ.set i (some d)) S1
def fDrop (a : FE) : FS := fun ρ S => (a ρ S).bindS ρ fun _ S1 => .nx ρ S1
def fRet (a : FE) : FS := fun ρ S => (a ρ S).bindS ρ fun d S1 => .rt d ρ S1
def fSeq (f h : FS) : FS := fun ρ S => match f ρ S with
  | .nx ρ1 S1 => h ρ1 S1
  | r => r
def fIf (c : FE) (f h : FS) : FS := fun ρ S => (c ρ S).bindS ρ fun d S1 => match d with
  | .bl true => f ρ S1
  | .bl false => h ρ S1
  | _ => .no
def loopN (c : FE) (b : FS) : Nat → Env → Store → Option RS
  | 0, _, _ => none
  | n + 1, ρ, S => match c ρ S with
    | .ok (.bl true) S1 => (match b ρ S1 with
      | .nx ρ2 S2 => loopN c b n ρ2 S2
      | .ct ρ2 S2 => loopN c b n ρ2 S2
      | .bk ρ2 S2 => some (.nx ρ2 S2)
      | r => some r)
    | .ok (.bl false) S1 => some (.nx ρ S1)
    | .exc x S1 => some (.exc x ρ S1)
    | _ => some .no
open Classical in
noncomputable def fWhile (c : FE) (b : FS) : FS := fun ρ S => if h : ∃ n r, loopN c b n ρ S = some r then Classical.choose (Classical.choose_spec h) else .no
theorem loopN_more {c : FE} {b : FS} : ∀ (n : Nat) (ρ : Env) (S : Store) (r : RS), loopN c b n ρ S = some r → loopN c b (n + 1) ρ S = some r
  | 0, _, _, _, h => by cases h
  | n + 1, ρ, S, r, h => by
    rw [loopN] at h ⊢
    split at h
    · split at h
      · exact loopN_more n _ _ _ h
      · exact loopN_more n _ _ _ h
      · exact h
      · exact h
    · exact h
    · exact h
    · exact h
theorem loopN_le {c : FE} {b : FS} {n m : Nat} {ρ : Env} {S : Store} {r : RS} (h : loopN c b n ρ S = some r) (l : n ≤ m) : loopN c b m ρ S = some r := by
  induction l with
  | refl => exact h
  | step _ ih => exact loopN_more _ _ _ _ ih
theorem loopN_uniq {c : FE} {b : FS} {n m : Nat} {ρ : Env} {S : Store} {r r' : RS} (h : loopN c b n ρ S = some r) (h' : loopN c b m ρ S = some r') : r = r' := by
  have a := loopN_le h (Nat.le_max_left n m)
  have a' := loopN_le h' (Nat.le_max_right n m)
  rw [a] at a'
  exact Option.some.inj a'
theorem fWhile_eq {c : FE} {b : FS} {n : Nat} {ρ : Env} {S : Store} {r : RS} (h : loopN c b n ρ S = some r) : fWhile c b ρ S = r := by
  have hx : ∃ n r, loopN c b n ρ S = some r := ⟨n, r, h⟩
  unfold fWhile
  rw [dif_pos hx]
  exact loopN_uniq (Classical.choose_spec (Classical.choose_spec hx)) h
theorem fWhile_get {c : FE} {b : FS} {ρ : Env} {S : Store} (h : fWhile c b ρ S ≠ .no) : ∃ n, loopN c b n ρ S = some (fWhile c b ρ S) := by
  by_cases hx : ∃ n r, loopN c b n ρ S = some r
  · obtain ⟨n, r, e⟩ := hx
    exact ⟨n, by rw [fWhile_eq e]; exact e⟩
  · unfold fWhile at h
    rw [dif_neg hx] at h
    exact absurd rfl h
theorem fWhile_turn {c : FE} {b : FS} {ρ : Env} {S : Store} : fWhile c b ρ S = (c ρ S).bindS ρ fun d S1 => match d with
    | .bl true => (match b ρ S1 with
      | .nx ρ2 S2 => fWhile c b ρ2 S2
      | .ct ρ2 S2 => fWhile c b ρ2 S2
      | .bk ρ2 S2 => .nx ρ2 S2
      | r => r)
    | .bl false => .nx ρ S1
    | _ => .no := by
  have fin : ∀ r, loopN c b 1 ρ S = some r → fWhile c b ρ S = r := fun r h => fWhile_eq h
  have rec' : ∀ ρ2 S2, (∀ n, loopN c b (n + 1) ρ S = loopN c b n ρ2 S2) → fWhile c b ρ S = fWhile c b ρ2 S2 := fun ρ2 S2 h => by
    by_cases hx : ∃ n r, loopN c b n ρ2 S2 = some r
    · obtain ⟨n, r, e⟩ := hx
      rw [fWhile_eq e, fWhile_eq ((h n).trans e)]
    · have hy : ¬ ∃ n r, loopN c b n ρ S = some r := fun ⟨n, r, e⟩ => by
        cases n with
        | zero => cases e
        | succ n => exact hx ⟨n, r, (h n).symm.trans e⟩
      unfold fWhile
      rw [dif_neg hx, dif_neg hy]
  cases e : c ρ S with
  | ok d S1 =>
    show _ = (match d with
      | .bl true => (match b ρ S1 with
        | .nx ρ2 S2 => fWhile c b ρ2 S2
        | .ct ρ2 S2 => fWhile c b ρ2 S2
        | .bk ρ2 S2 => .nx ρ2 S2
        | r => r)
      | .bl false => RS.nx ρ S1
      | _ => .no)
    split
    · split
      · rename_i eb; exact rec' _ _ fun n => by rw [loopN, e]; simp only [eb]
      · rename_i eb; exact rec' _ _ fun n => by rw [loopN, e]; simp only [eb]
      · rename_i eb; exact fin _ (by rw [loopN, e]; simp only [eb])
      · rename_i h1 h2 h3
        refine fin _ ?_
        rw [loopN, e]
        dsimp only
        split
        · rename_i q; exact absurd q (h1 _ _)
        · rename_i q; exact absurd q (h2 _ _)
        · rename_i q; exact absurd q (h3 _ _)
        · rfl
    · exact fin _ (by rw [loopN, e])
    · rename_i h1 h2
      refine fin _ ?_
      rw [loopN, e]
      split
      · rename_i q; cases q; exact absurd rfl h1
      · rename_i q; cases q; exact absurd rfl h2
      · rename_i q; cases q
      · rfl
  | exc x S1 => exact fin _ (by rw [loopN, e]; rfl)
  | no => exact fin _ (by rw [loopN, e]; rfl)
def forL (tf : D → Env → Option Env) (b : FS) : List D → Env → Store → RS
  | [], ρ, S => .nx ρ S
  | d :: ds, ρ, S => match tf d ρ with
    | none => .no
    | some ρ1 => match b ρ1 S with
      | .nx ρ2 S2 => forL tf b ds ρ2 S2
      | .ct ρ2 S2 => forL tf b ds ρ2 S2
      | .bk ρ2 S2 => .nx ρ2 S2
      | r => r
def fFor (it : FL) (tf : D → Env → Option Env) (b : FS) : FS := fun ρ S => match it ρ S with
  | .ok ds S1 => forL tf b ds ρ S1
  | .exc x S1 => .exc x ρ S1
  | .no => .no
section
variable {X : Cx} {T : Th} {J : Jd} {Γ Γ' Γ1 : List Md}
theorem GoodS.after {g g1 : G} {H H1 : Hp} {r : RS} {D : Ends} (h : GoodS T J Γ' g H r D) (f : FrS g H g1 H1) (fo : ∀ a, g1.O a ↔ g.O a) (hu : ∀ a, g1.U a ∨ H1 a = none → g.U a ∨ H a = none) : GoodS T J Γ' g1 H1 r D := by
  cases r with
  | nx ρ' S' => exact fun σ' g' H' R f' => h σ' g' H' R (f.trans f')
  | bk ρ' S' => exact fun σ' g' H' R f' => h σ' g' H' R (f.trans f')
  | ct ρ' S' => exact fun σ' g' H' R f' => h σ' g' H' R (f.trans f')
  | rt d ρ' S' => exact fun Γ'' v σ' g' H' Fo a R f' b c => h Γ'' v σ' g' H' Fo a R (f.trans f') (fun x q => ⟨fun z => (b x q).1 ((fo x).mpr z), hu x (b x q).2⟩) c
  | exc x ρ' S' => exact fun Γ'' c dd σ' g' H' a R f' e => h Γ'' c dd σ' g' H' a R (f.trans f') e
  | no => exact h
theorem FrS.back {g g1 : G} {H H1 : Hp} (f : FrS g H g1 H1) : ∀ a, g1.U a ∨ H1 a = none → g.U a ∨ H a = none := fun a h => by
  rcases h with h | h
  · exact f.own a h
  · cases e : H a with
    | none => exact .inr rfl
    | some o =>
      by_cases hu : g.U a
      · exact .inl hu
      · have := f.keep a o e (.inl hu)
        rw [h] at this; cases this
theorem GoodS.then {g g1 : G} {H H1 : Hp} {r : RS} {D : Ends} (h : GoodS T J Γ' g H r D) (f : FrS g H g1 H1) : GoodS T J Γ' g1 H1 r D := h.after f (fun a => by rw [f.O]) f.back
theorem good_bindS {ρ : Env} {σ : L2.St} {S : Store} {g : G} {H : Hp} {r : RE} {k : D → Store → RS} {D : Ends} {Q' : VK} (R : Rel T g Γ ρ S σ H) (hx : J.ΓX Γ) (h : GoodS T J Γ' g H (r.bindS ρ k) D)
    (hk : ∀ d S v g' H', r = .ok d S → Rel T g' Γ ρ S σ H' → FrS g H g' H' → Shr T g' H' d v → GoodS T J Γ' g' H' (k d S) D → Q' v H') : GoodE T J.W Γ ρ σ g H r Q' := by
  cases r with
  | ok d S1 =>
    intro v g' H' R' f s
    have f' := f.frs R.dOB
    exact hk d S1 v g' H' rfl R' f' s (GoodS.then h f')
  | exc x S1 =>
    intro c dd g' H' R' f e
    exact h Γ c dd σ g' H' hx R' (f.frs R.dOB) e
  | no => exact h
theorem good_bindT {ρ : Env} {σ : L2.St} {S : Store} {g : G} {H : Hp} {r : RE} {k : D → Store → RS} {D : Ends} {Q' : Bool → Hp → Prop} (R : Rel T g Γ ρ S σ H) (hx : J.ΓX Γ) (h : GoodS T J Γ' g H (r.bindS ρ k) D) (hb : ∀ d S, k d S ≠ .no → ∃ b, d = .bl b)
    (hk : ∀ b S g' H', r = .ok (.bl b) S → Rel T g' Γ ρ S σ H' → FrS g H g' H' → GoodS T J Γ' g' H' (k (.bl b) S) D → Q' b H') : GoodT T J.W Γ ρ σ g H r Q' := by
  cases r with
  | ok d S1 =>
    have h' : GoodS T J Γ' g H (k d S1) D := h
    obtain ⟨b, rfl⟩ := hb d S1 (fun z => by rw [z] at h'; exact h')
    exact ⟨b, rfl, fun g' H' R' f => hk b S1 g' H' rfl R' (f.frs R.dOB) (GoodS.then h' (f.frs R.dOB))⟩
  | exc x S1 =>
    intro c dd g' H' R' f e
    exact h Γ c dd σ g' H' hx R' (f.frs R.dOB) e
  | no => exact h
theorem xs_drop {e : Expr} {A : FE} {st : Stmt} (hx : J.ΓX Γ) (ha : XE X T J.W Γ e A) (he : PE X e (tX T J.W Γ A) → PS X st (tDrop (tX T J.W Γ A))) : XS X T J Γ Γ st (fDrop A) := ps_imp (he ha) fun D σ H ⟨g, ρ, S, R, h⟩ =>
  ⟨g, ρ, S, R, good_bindS R hx h fun d S1 v g1 H1 _ R1 f1 s1 h1 => h1 σ g1 H1 R1 (.refl _ _)⟩
theorem xb_nil : XB X T J Γ Γ [] fPass := pss_imp pss_nil fun D σ H ⟨g, ρ, S, R, h⟩ => h σ g H R (.refl _ _)
theorem xb_one {st : Stmt} {A : FS} (ha : XS X T J Γ Γ' st A) : XB X T J Γ Γ' [st] A := pss_one ha
theorem xb_cons {st : Stmt} {rest : List Stmt} {A B : FS} (ha : XS X T J Γ Γ1 st A) (hb : XB X T J Γ1 Γ' rest B) : XB X T J Γ Γ' (st :: rest) (fSeq A B) := pss_imp (pss_cons ha hb) fun D σ H ⟨g, ρ, S, R, h⟩ => by
  refine ⟨g, ρ, S, R, ?_⟩
  unfold fSeq at h
  cases e : A ρ S with
  | nx ρ' S' =>
    rw [e] at h
    exact fun σ' g' H' R' f' => ⟨g', ρ', S', R', GoodS.then h f'⟩
  | bk ρ' S' => rw [e] at h; exact h
  | ct ρ' S' => rw [e] at h; exact h
  | rt d ρ' S' => rw [e] at h; exact h
  | exc x ρ' S' => rw [e] at h; exact h
  | no => rw [e] at h; exact h
theorem xs_if {c : Expr} {a b : List Stmt} {C : FE} {A B : FS} {pos : Pos} (hx : J.ΓX Γ) (hc : XT X T J.W Γ c C) (ha : XB X T J Γ Γ' a A) (hb : XB X T J Γ Γ' b B) : XS X T J Γ Γ' (.If c a b pos) (fIf C A B) := ps_imp (ps_if hc ha hb) fun D σ H ⟨g, ρ, S, R, h⟩ =>
  ⟨g, ρ, S, R, good_bindT R hx h (fun d S1 hn => by
    split at hn
    · exact ⟨_, rfl⟩
    · exact ⟨_, rfl⟩
    · exact absurd rfl hn) fun t S1 g1 H1 _ R1 f1 h1 => by
    cases t with
    | true => exact ⟨g1, ρ, S1, R1, h1⟩
    | false => exact ⟨g1, ρ, S1, R1, h1⟩⟩
theorem Rel.shift {g g2 : G} {Γ Γ2 : List Md} {ρ ρ2 : Env} {S : Store} {σ σ2 : L2.St} {H : Hp} (R : Rel T g Γ ρ S σ H) (hN : g2.N = g.N) (hμ : g2.μ = g.μ) (hB : g2.B = g.B) (hBF : g2.BF = g.BF) (hU : ∀ a, g2.U a → g.U a)
    (dF : ∀ i j a, g2.F i a → g2.F j a → i = j) (dFO : ∀ i a, g2.F i a → ¬ g2.O a) (hO : ∀ a, g2.O a → g.O a ∨ ∃ i, g.F i a) (hF : ∀ i a, g2.F i a → (∃ j, g.F j a) ∨ g.O a) (hl : ρ2.length = σ2.length)
    (slot : Stay g H g2 H → ∀ (i : Nat) d, ρ2[i]? = some (some d) → ∃ v, σ2[i]? = some (some v) ∧ RepM T g2 H i (Γ2.getD i .s) d v) (hZ : g2.Z = g.Z := by rfl) : Rel T g2 Γ2 ρ2 S σ2 H := by
  have st : Stay g H g2 H := ⟨fun _ _ h _ => h, fun a h => .inl (hU a h), by rw [hN]; exact Nat.le_refl _, fun n _ => by rw [hμ], hZ⟩
  refine ⟨hl, slot st, dF, dFO, fun i a h => ?_, fun a h => ?_, fun a h => R.dom a (hU a h), R.st.keep st (fun _ _ _ h => h) hN hB hBF fun n _ => by rw [hμ], fun a h => R.nt a (hU a h)⟩
  · rw [hB]
    rcases hF i a h with ⟨j, z⟩ | z
    · exact R.dFB j a z
    · exact R.dOB a z
  · rw [hB]
    rcases hO a h with z | ⟨i, z⟩
    · exact R.dOB a z
    · exact R.dFB i a z
def G.drop (g : G) (i : Nat) : G := { g with F := fun j a => j ≠ i ∧ g.F j a }
theorem G.drop_U {g : G} {i : Nat} {a : Addr} (h : (g.drop i).U a) : g.U a := by
  rcases h with h | ⟨j, _, h⟩ | h
  · exact .inl h
  · exact .inr (.inl ⟨j, h⟩)
  · exact .inr (.inr h)
theorem RepM.stay {g g2 : G} {H : Hp} {i : Nat} {m : Md} {d : D} {v : V} (h : RepM T g H i m d v) (st : Stay g H g2 H) (hF : ∀ a, g.F i a → g2.F i a) (hO : ∀ a, g.O a → g2.O a) (hP : g2.P i = g.P i) (hb : Stay g.bare H g2.bare H) : RepM T g2 H i m d v := by
  cases m with
  | s => exact Shr.stay st _ _ h
  | o k => exact (Own.wide k _ _ d v hF (Own.keepF st k _ d v (fun _ _ _ q => q) h) : Own T g2 H k (g2.F i) d v)
  | r k => exact (Own.wide k _ _ d v hO (Own.keepF st k _ d v (fun _ _ _ q => q) h) : Own T g2 H k g2.O d v)
  | p k => exact ⟨by rw [hP]; exact h.1, (Own.wide k _ _ d v hF (Own.keepF st k _ d v (fun _ _ _ q => q) h.2) : Own T g2 H k (g2.F i) d v)⟩
  | e w => exact h
  | l => exact Shr.stay hb _ _ h
  | x w dd fs => exact ⟨h.1, st.keep _ _ h.2.1 h.2.2, st.off h.2.1 h.2.2⟩
theorem getD_set_self {Γ : List Md} {i : Nat} {m : Md} (h : i < Γ.length) : (Γ.set i m).getD i .s = m := by
  simp [List.getD, h]
theorem getD_set_ne {Γ : List Md} {i j : Nat} {m : Md} (h : i ≠ j) : (Γ.set i m).getD j .s = Γ.getD j .s := by
  simp [List.getD, List.getElem?_set_ne h]
theorem getD_set_s {Γ : List Md} {i : Nat} : (Γ.set i .s).getD i .s = .s := by
  by_cases h : i < Γ.length
  · exact getD_set_self h
  · rw [List.set_eq_of_length_le (Nat.le_of_not_lt h)]
    simp [List.getD, List.getElem?_eq_none (Nat.le_of_not_lt h)]
theorem Rel.set {g : G} {ρ : Env} {S : Store} {σ : L2.St} {H : Hp} {d : D} {v : V} {i : Nat} (R : Rel T g Γ ρ S σ H) (s : Shr T g H d v) : Rel T (g.drop i) (Γ.set i .s) (ρ.set i (some d)) S (σ.set i (some v)) H := by
  refine R.shift rfl rfl rfl rfl (fun a h => G.drop_U h) (fun j k a h h' => R.dF j k a h.2 h'.2) (fun j a h => R.dFO j a h.2) (fun a h => .inl h) (fun j a h => .inl ⟨j, h.2⟩) (by simp [R.len]) fun st j d' e => ?_
  by_cases hj : i = j
  · subst hj
    by_cases hlt : i < ρ.length
    · rw [List.getElem?_set_self hlt] at e
      cases e
      refine ⟨v, by rw [List.getElem?_set_self (by rw [← R.len]; exact hlt)], ?_⟩
      rw [getD_set_s]
      exact s.stay st
    · rw [List.getElem?_eq_none (by simpa using hlt)] at e
      cases e
  · rw [List.getElem?_set_ne hj] at e
    obtain ⟨w, h1, h2⟩ := R.slot j d' e
    refine ⟨w, by rw [List.getElem?_set_ne hj]; exact h1, ?_⟩
    rw [getD_set_ne hj]
    exact h2.stay st (fun a z => ⟨fun q => hj q.symm, z⟩) (fun a z => z) rfl (bare_sub rfl rfl (fun i a z => ⟨i, z.2⟩) fun _ z => z)
theorem FrS.drop {g : G} {H : Hp} {i : Nat} : FrS g H (g.drop i) H := ⟨fun _ _ h _ => h, fun a h => .inl (G.drop_U h), rfl, rfl, Nat.le_refl _, fun _ _ => rfl, fun _ o h => ⟨o, h⟩⟩
theorem xs_set {i : Nat} {e : Expr} {A : FE} {st : Stmt} (hx : J.ΓX Γ) (ha : XE X T J.W Γ e A) (he : PE X e (tX T J.W Γ A) → PS X st (tAsg (tX T J.W Γ A) (gName i))) (hΓ : Γ.set i .s = Γ') : XS X T J Γ Γ' st (fSet i A) := ps_imp (he ha) fun D σ H ⟨g, ρ, S, R, h⟩ =>
  ⟨g, ρ, S, R, good_bindS R hx h fun d S1 v g1 H1 _ R1 f1 s1 h1 => h1 _ (g1.drop i) H1 (by rw [← hΓ]; exact R1.set s1) .drop⟩
theorem plus_none {g : G} {ρ : Env} {S : Store} {σ : L2.St} {H : Hp} (R : Rel T g Γ ρ S σ H) : Rel T (g.plus fun _ => False) Γ ρ S σ H := by
  have hU : ∀ a, (g.plus fun _ => False).U a → g.U a := fun a h => by
    rcases h with (h | h) | h | h
    · exact .inl h
    · exact h.elim
    · exact .inr (.inl h)
    · exact .inr (.inr h)
  exact R.shift rfl rfl rfl rfl hU R.dF (fun i a h z => z.elim (R.dFO i a h) id) (fun a h => h.elim .inl False.elim) (fun i a h => .inl ⟨i, h⟩) R.len fun st i d e => by
    obtain ⟨v, h1, h2⟩ := R.slot i d e
    exact ⟨v, h1, h2.stay st (fun _ z => z) (fun _ z => .inl z) rfl (bare_sub rfl rfl (fun i a z => ⟨i, z⟩) fun _ z => z)⟩
theorem stay_plus {g : G} {H : Hp} : Stay g H (g.plus fun _ => False) H := ⟨fun _ _ h _ => h, fun a h => by
    rcases h with (h | h) | h | h
    · exact .inl (.inl h)
    · exact h.elim
    · exact .inl (.inr (.inl h))
    · exact .inl (.inr (.inr h)), Nat.le_refl _, fun _ _ => rfl, rfl⟩
theorem shr_plus {g : G} {H : Hp} {d : D} {v : V} (s : Shr T g H d v) : Shr T (g.plus fun _ => False) H d v := s.stay stay_plus
theorem own_shr {g : G} {H : Hp} {d : D} {v : V} {F : Addr → Prop} (s : Shr T g H d v) : Own T g H 0 F d v := by simpa only [Own] using s
theorem xs_ret {e : Expr} {A : FE} {st : Stmt} (hx : J.ΓX Γ) (hr : J.ΓR Γ) (hk : J.kr = 0) (ha : XE X T J.W Γ e A) (he : PE X e (tX T J.W Γ A) → PS X st (tRet (tX T J.W Γ A))) : XS X T J Γ Γ' st (fRet A) := ps_imp (he ha) fun D σ H ⟨g, ρ, S, R, h⟩ =>
  ⟨g, ρ, S, R, good_bindS R hx h fun d S1 v g1 H1 _ R1 f1 s1 h1 => h1 Γ v σ g1 H1 (fun _ => False) hr (plus_none R1) (.refl _ _) (fun _ z => z.elim) (by rw [hk]; exact own_shr (shr_plus s1))⟩
end
end Q

namespace Q
open PySem PySem.Spec PyProof.Rows L2
section
variable {X : Cx} {T : Th} {J : Jd} {Γ Γ' Γ1 : List Md}
theorem xs_while {c : Expr} {body : List Stmt} {C : FE} {B : FS} {pos : Pos} (hx : J.ΓX Γ) (hp : PassesOwn (model X.prog X.w) X.A X.env X.xe) (hc : XT X T J.W Γ c C) (hb : XB X T { J with Γl := Γ } Γ Γ body B) : XS X T J Γ Γ (.While c body [] pos) (fWhile C B) := ps_imp (ps_while hp hc hb) fun D σ H ⟨g, ρ, S, R, h⟩ => by
  have hne : fWhile C B ρ S ≠ .no := fun z => by rw [z] at h; exact h
  obtain ⟨n, hn⟩ := fWhile_get hne
  generalize fWhile C B ρ S = r at h hn
  refine ⟨fun m σ' H' => ∃ g' ρ' S', Rel T g' Γ ρ' S' σ' H' ∧ FrS g H g' H' ∧ loopN C B m ρ' S' = some r, ⟨n, g, ρ, S, R, .refl _ _, hn⟩, fun m σ' H' ⟨g', ρ', S', R', f', hm⟩ => ?_⟩
  have h' := GoodS.then h f'
  refine ⟨g', ρ', S', R', ?_⟩
  cases m with
  | zero => cases hm
  | succ m =>
    rw [loopN] at hm
    split at hm
    · rename_i S1 e
      rw [e]
      refine ⟨true, rfl, fun g1 H1 R1 f1 => ?_⟩
      have f1' := f1.frs R'.dOB
      have h1 := GoodS.then h' f1'
      refine iteT ⟨fun σ2 H2 => ∃ m', m' < m + 1 ∧ ∃ g' ρ' S', Rel T g' Γ ρ' S' σ2 H2 ∧ FrS g H g' H2 ∧ loopN C B m' ρ' S' = some r, fun σ2 H2 ⟨m', l, w⟩ => ⟨m', l, w⟩, g1, ρ', S1, R1, ?_⟩
      split at hm
      · rename_i eb
        rw [eb]
        exact fun σ2 g2 H2 R2 f2 => ⟨m, Nat.lt_succ_self _, g2, _, _, R2, (f'.trans f1').trans f2, hm⟩
      · rename_i eb
        rw [eb]
        exact fun σ2 g2 H2 R2 f2 => ⟨m, Nat.lt_succ_self _, g2, _, _, R2, (f'.trans f1').trans f2, hm⟩
      · rename_i eb
        rw [eb]
        cases hm
        exact fun σ2 g2 H2 R2 f2 => h1 σ2 g2 H2 R2 f2
      · rename_i h3 h4 h5
        cases hm
        cases eb : B ρ' S1 with
        | nx a b => exact absurd eb (h3 a b)
        | ct a b => exact absurd eb (h4 a b)
        | bk a b => exact absurd eb (h5 a b)
        | rt d a b => rw [eb] at h1; exact h1
        | exc x a b => rw [eb] at h1; exact h1
        | no => rw [eb] at h1; exact h1
    · rename_i S1 e
      rw [e]
      cases hm
      refine ⟨false, rfl, fun g1 H1 R1 f1 => ?_⟩
      exact iteF (h' σ' g1 H1 R1 (f1.frs R'.dOB))
    · rename_i x S1 e
      rw [e]
      cases hm
      exact fun c dd g1 H1 R1 f1 ex => h' Γ c dd σ' g1 H1 hx R1 (f1.frs R'.dOB) ex
    · cases hm
      exact h'.elim
def ItOk (T : Th) (g : G) (H : Hp) (It1 : It) (ds : List D) : Prop := ∀ g' H' (i : Nat), Stay g H g' H' → (ds.length ≤ i → It1.stop i H') ∧ ∀ d, ds[i]? = some d → It1.go i H' ∧ ∀ x H'', It1.yld i H' x H'' → Exx H' H'' ∧ Shr T g' H'' d x
def GoodI (T : Th) (W : WX) (Γ : List Md) (ρ : Env) (σ : L2.St) (g : G) (H : Hp) : RL → (It → Hp → Prop) → Prop
  | .ok ds S', R => ∀ It1 g' H', Rel T g' Γ ρ S' σ H' → FrE g H g' H' → ItOk T g' H' It1 ds → R It1 H'
  | .exc x S', _ => ∀ c dd g' H', Rel T g' Γ ρ S' σ H' → FrE g H g' H' → ExcR T g' H' x c dd → W c dd σ H'
  | .no, _ => False
def tI (T : Th) (W : WX) (Γ : List Md) (F : FL) : TI := fun σ H Q => ∃ g ρ S, Rel T g Γ ρ S σ H ∧ GoodI T W Γ ρ σ g H (F ρ S) Q
abbrev XI (X : Cx) (T : Th) (W : WX) (Γ : List Md) (tg it : Expr) (F : FL) : Prop := PI X tg it (tI T W Γ F)
theorem pi_imp {X : Cx} {tg e : Expr} {t t' : TI} (h : PI X tg e t) (i : ∀ σ H Q, t' σ H Q → t σ H Q) : PI X tg e t' := ⟨fun pins s σ H Q I q => h.run pins s σ H Q I (i σ H Q q)⟩
def ItR (X : Cx) (tg : Expr) (r : V → Hp → (It → Hp → Prop) → Prop) : Prop := ∀ (pins : List (Addr × Obj)) (s : Shared) (σ : L2.St) (H : Hp) (x : V) (v : Value) (R : It → Hp → Prop), Inv X pins σ H s → RelV x v → r x H R →
  wpAny (model X.prog X.w) X.A (pyIter v) (PIE X pins σ tg R) X.xe s
theorem itr_or {tg : Expr} {r1 r2 : V → Hp → (It → Hp → Prop) → Prop} (a : ItR X tg r1) (b : ItR X tg r2) : ItR X tg (fun x H R => r1 x H R ∨ r2 x H R) := fun pins s σ H x v R I rx h =>
  h.elim (a pins s σ H x v R I rx) (b pins s σ H x v R I rx)
theorem pi_of {tg l : Expr} {tl : TE} {r : V → Hp → (It → Hp → Prop) → Prop} (hl : PE X l tl) (hr : ItR X tg r) : PI X tg l (fun σ H R => tl σ H fun x H1 => r x H1 R) := by
  refine ⟨fun pins s σ H R I h => ?_⟩
  refine thn (hl.run pins s σ H _ I h) fun v s1 ⟨x, H1, I1, r1, q1⟩ => ?_
  exact hr pins s1 σ H1 x v R I1 r1 q1
theorem itr_list {tg : Expr} : ItR X tg (fun x H R => ∃ a, x = .ref a ∧ (∃ xs, SqL X.K H a xs) ∧ R (Itl X.K a) H) := by
  intro pins s1 σ H1 x v R I1 r1 h
  obtain ⟨a, e, ⟨xs, hq⟩, q⟩ := h
  subst e
  cases r1
  obtain ⟨its, rv, p, hz⟩ := I1.list hq
  refine wpAny_pyIter_list p.isList ?_
  refine ⟨s1.heap.objs.size, [s1.heap.objs.size], _, _, H1, rfl, I1.kept (t' := s1.toks) fun b o e => Heap.get?_push_of_some _ e, turn_list a _, ⟨_, Heap.get?_push_size _ rfl, rfl, rfl⟩, fun b hb => ?_, q⟩
  have e : b = s1.heap.objs.size := by simpa using hb
  subst e
  exact I1.fpOk (Nat.le_refl _) (I1.hok.fresh (Nat.le_refl _))
theorem itr_tup {tg : Expr} : ItR X tg (fun x H R => ∃ a, x = .ref a ∧ (∃ xs, SqT X.K H a xs) ∧ R (Itt X.K a) H) := by
  intro pins s1 σ H1 x v R I1 r1 h
  obtain ⟨a, e, ⟨xs, hq⟩, q⟩ := h
  subst e
  cases r1
  obtain ⟨its, rv, p, hz⟩ := I1.tuple hq
  refine wpAny_pyIter_tuple (show s1.heap.IsTuple a its.toArray from p) ?_
  refine ⟨s1.heap.objs.size, [s1.heap.objs.size], _, _, H1, rfl, I1.kept (t' := s1.toks) fun b o e => Heap.get?_push_of_some _ e, turn_tuple a _, ⟨_, Heap.get?_push_size _ rfl, rfl, rfl⟩, fun b hb => ?_, q⟩
  have e : b = s1.heap.objs.size := by simpa using hb
  subst e
  exact I1.fpOk (Nat.le_refl _) (I1.hok.fresh (Nat.le_refl _))
def hSeq : D → Option (List D)
  | .lst l => some l
  | .scr l => some l
  | .tup l => some l
  | _ => none
def iSeq (a : FE) : FL := fun ρ S => match a ρ S with
  | .ok d S1 => (match hSeq d with
    | some l => .ok l S1
    | none => .no)
  | .exc x S1 => .exc x S1
  | .no => .no
theorem itOk_list {g : G} {H : Hp} {a : Addr} {l : List D} {vs : List V} (st : ∀ g' H', Stay g H g' H' → SqL T.K H' a vs) (s : ShrL T g H l vs) : ItOk T g H (Itl T.K a) l := fun g' H' i y => by
  refine ⟨fun h => ⟨vs, st g' H' y, by rw [← s.length]; exact h⟩, fun d e => ?_⟩
  obtain ⟨v, h1, h2⟩ := (s.stay y l vs).get e
  exact ⟨⟨vs, v, st g' H' y, h1⟩, fun x H'' ⟨e1, e2⟩ => by subst e1; have := e2 vs (st g' _ y); rw [h1] at this; cases this; exact ⟨.refl _, h2⟩⟩
theorem itOk_tup {g : G} {H : Hp} {a : Addr} {l : List D} {vs : List V} (st : ∀ g' H', Stay g H g' H' → SqT T.K H' a vs) (s : ShrL T g H l vs) : ItOk T g H (Itt T.K a) l := fun g' H' i y => by
  refine ⟨fun h => ⟨vs, st g' H' y, by rw [← s.length]; exact h⟩, fun d e => ?_⟩
  obtain ⟨v, h1, h2⟩ := (s.stay y l vs).get e
  exact ⟨⟨vs, v, st g' H' y, h1⟩, fun x H'' ⟨e1, e2⟩ => by subst e1; have := e2 vs (st g' _ y); rw [h1] at this; cases this; exact ⟨.refl _, h2⟩⟩
theorem xi_seq {W : WX} {tg e : Expr} {A : FE} (hK : X.K = T.K) (ha : XE X T W Γ e A) : XI X T W Γ tg e (iSeq A) := pi_imp (pi_of ha (itr_or itr_list itr_tup)) fun σ H Q ⟨g, ρ, S, R, h⟩ => by
  refine ⟨g, ρ, S, R, ?_⟩
  unfold iSeq at h
  cases e : A ρ S with
  | ok d S1 =>
    rw [e] at h
    intro v g' H' R' f' s
    rw [hK]
    have h : GoodI T W Γ ρ σ g H (match hSeq d with | some l => RL.ok l S1 | none => .no) Q := h
    cases d <;> simp only [hSeq] at h <;> first | exact h.elim | skip
    · obtain ⟨a, vs, rfl, la, ra⟩ := shr_tup.mp s
      exact .inr ⟨a, rfl, ⟨vs, la.sq⟩, h _ g' H' R' f' (itOk_tup (fun g2 H2 y => by
        rcases la with z | z
        · exact .inl (y.rd z.1 z.2).1
        · exact .inr z) ra)⟩
    · obtain ⟨a, vs, rfl, la, ra⟩ := shr_lst.mp s
      exact .inl ⟨a, rfl, ⟨vs, .of la.1⟩, h _ g' H' R' f' (itOk_list (fun g2 H2 y => .of (y.keep _ _ la.1 la.2)) ra)⟩
    · obtain ⟨a, vs, rfl, la, ra⟩ := shr_scr.mp s
      exact .inl ⟨a, rfl, ⟨vs, la.sq⟩, h _ g' H' R' f' (itOk_list (fun g2 H2 y => by
        rcases la with z | z
        · exact .inl (y.rd z.1 z.2).1
        · exact .inr z) ra)⟩
  | exc x S1 => rw [e] at h; exact h
  | no => rw [e] at h; exact h
def ItOkF (T : Th) (g : G) (H : Hp) (It1 : It) (ds : List D) : Prop := ∀ g' H' (i : Nat), Stay g H g' H' → (∀ a o, H a = some o → ¬ g.B a → H' a = some o) → (ds.length ≤ i → It1.stop i H') ∧ ∀ d, ds[i]? = some d → It1.go i H' ∧ ∀ x H'', It1.yld i H' x H'' → Exx H' H'' ∧ Shr T g' H'' d x
def GoodIF (T : Th) (W : WX) (Γ : List Md) (ρ : Env) (σ : L2.St) (g : G) (H : Hp) : RL → (It → Hp → Prop) → Prop
  | .ok ds S', R => ∀ It1 g' H', Rel T g' Γ ρ S' σ H' → FrE g H g' H' → ItOkF T g' H' It1 ds → R It1 H'
  | .exc x S', _ => ∀ c dd g' H', Rel T g' Γ ρ S' σ H' → FrE g H g' H' → ExcR T g' H' x c dd → W c dd σ H'
  | .no, _ => False
def tIF (T : Th) (W : WX) (Γ : List Md) (F : FL) : TI := fun σ H Q => ∃ g ρ S, Rel T g Γ ρ S σ H ∧ GoodIF T W Γ ρ σ g H (F ρ S) Q
abbrev XIF (X : Cx) (T : Th) (W : WX) (Γ : List Md) (tg it : Expr) (F : FL) : Prop := PI X tg it (tIF T W Γ F)
theorem xif_of {W : WX} {tg e : Expr} {F : FL} (h : XI X T W Γ tg e F) : XIF X T W Γ tg e F := pi_imp h fun σ H Q ⟨g, ρ, S, R, hg⟩ => by
  refine ⟨g, ρ, S, R, ?_⟩
  cases r : F ρ S with
  | ok ds S1 => rw [r] at hg; exact fun It1 g' H' R' f' io => hg It1 g' H' R' f' fun g2 H2 i st _ => io g2 H2 i st
  | exc x S1 => rw [r] at hg; exact hg
  | no => rw [r] at hg; exact hg
def rangeL (lo hi : Int) : List D := (List.range (hi - lo).toNat).map fun (k : Nat) => D.int (lo + k)
def rgK1 (ds : List D) (S : Store) : RL := match ds with
  | [.int n] => if -1000000000000 ≤ n ∧ n ≤ 1000000000000 then .ok (rangeL 0 n) S else .no
  | _ => .no
def rgK2 (ds : List D) (S : Store) : RL := match ds with
  | [.int lo, .int hi] => if (-1000000000000 ≤ lo ∧ lo ≤ 1000000000000) ∧ -1000000000000 ≤ hi ∧ hi ≤ 1000000000000 then .ok (rangeL lo hi) S else .no
  | _ => .no
def iRange1 (a : FL) : FL := fun ρ S => match a ρ S with
  | .ok ds S1 => rgK1 ds S1
  | .exc x S1 => .exc x S1
  | .no => .no
def iRange2 (a : FL) : FL := fun ρ S => match a ρ S with
  | .ok ds S1 => rgK2 ds S1
  | .exc x S1 => .exc x S1
  | .no => .no
theorem itOk_range {g : G} {H : Hp} {lo hi : Int} : ItOk T g H (Itr lo (hi - lo).toNat) (rangeL lo hi) := fun g' H' i y => by
  refine ⟨fun h => ?_, fun d e => ?_⟩
  · show (hi - lo).toNat ≤ i
    simpa [rangeL] using h
  · unfold rangeL at e
    rw [List.getElem?_map] at e
    obtain ⟨k, e1, e2⟩ := Option.map_eq_some_iff.mp e
    obtain ⟨hk, e3⟩ := List.getElem?_eq_some_iff.mp e1
    rw [List.getElem_range] at e3
    subst e3
    subst e2
    rw [List.length_range] at hk
    exact ⟨hk, fun x H'' ⟨e1, e2⟩ => by subst e1; subst e2; exact ⟨.refl _, shr_int.mpr rfl⟩⟩
theorem xi_range1 {W : WX} {tg e a : Expr} {A : FL} (ha : XL X T W Γ [a] A) (he : PA X [a] (tXL T W Γ A) → PI X tg e (iRng1 (tXL T W Γ A))) : XI X T W Γ tg e (iRange1 A) := pi_imp (he ha) fun σ H Q ⟨g, ρ, S, R, h⟩ => by
  refine ⟨g, ρ, S, R, ?_⟩
  unfold iRange1 at h
  cases e : A ρ S with
  | exc x S1 => rw [e] at h; exact h
  | no => rw [e] at h; exact h
  | ok ds S1 =>
    rw [e] at h
    replace h : GoodI T W Γ ρ σ g H (rgK1 ds S1) Q := h
    unfold rgK1 at h
    split at h
    · rename_i n
      split at h
      · rename_i hl
        intro v g' H' R' f' s
        obtain ⟨v, rfl, s1⟩ := shrL1 s
        rw [shr_int.mp s1]
        refine ⟨n, rfl, by omega, by omega, h _ g' H' R' f' ?_⟩
        have := itOk_range (T := T) (g := g') (H := H') (lo := 0) (hi := n)
        rw [Int.sub_zero] at this
        exact this
      · exact h.elim
    · exact h.elim
def G.drops (g : G) (is : List Nat) : G := { g with F := fun j a => j ∉ is ∧ g.F j a }
theorem G.drops_U {g : G} {is : List Nat} {a : Addr} (h : (g.drops is).U a) : g.U a := by
  rcases h with h | ⟨j, _, h⟩ | h
  · exact .inl h
  · exact .inr (.inl ⟨j, h⟩)
  · exact .inr (.inr h)
theorem FrS.drops {g : G} {H : Hp} {is : List Nat} : FrS g H (g.drops is) H := ⟨fun _ _ h _ => h, fun a h => .inl (G.drops_U h), rfl, rfl, Nat.le_refl _, fun _ _ => rfl, fun _ o h => ⟨o, h⟩⟩
theorem G.drops_one {g : G} {i : Nat} : g.drop i = g.drops [i] := by
  unfold G.drop G.drops
  congr 1
  funext j a
  simp
def TgOk (T : Th) (Γ Γ' : List Md) (is : List Nat) (t : TG) (tf : D → Env → Option Env) : Prop := ∀ (g : G) (ρ ρ' : Env) (S : Store) (σ : L2.St) (H : Hp) (d : D) (v : V) (Q : L2.St → Hp → Prop), Rel T g Γ ρ S σ H → Shr T g H d v → tf d ρ = some ρ' →
  (∀ σ', Rel T (g.drops is) Γ' ρ' S σ' H → σ'.length = σ.length → (∀ j, j ∉ is → σ'[j]? = σ[j]?) → Q σ' H) → t v σ H Q
def tfName (i : Nat) : D → Env → Option Env := fun d ρ => some (ρ.set i (some d))
theorem tg_name {i : Nat} (h : Γ.set i .s = Γ') : TgOk T Γ Γ' [i] (gName i) (tfName i) := fun g ρ ρ' S σ H d v Q R s e k => by
  cases e
  subst h
  refine k _ ?_ (by simp) fun j hj => List.getElem?_set_ne (fun z => hj (by simp [z]))
  rw [← G.drops_one]
  exact R.set s
theorem xs_for {tg it : Expr} {body : List Stmt} {F : FL} {B : FS} {tf : D → Env → Option Env} {t : TG} {is : List Nat} {pos : Pos} (hx : J.ΓX Γ) (hp : PassesOwn (model X.prog X.w) X.A X.env X.xe) (hc : X.calm = true) (hi : XI X T J.W Γ tg it F) (hg : PG X tg t) (ht : TgOk T Γ Γ is t tf)
    (hb : XB X T { J with Γl := Γ } Γ Γ body B) (hs : ∀ x, foldedSetIterable it X.env x = pure x := by intro _; rfl) : XS X T J Γ Γ (.For tg it body [] pos) (fFor F tf B) := ps_imp (ps_for hp hc hi hg hb hs) fun D σ H ⟨g, ρ, S, R, h⟩ => by
  refine ⟨g, ρ, S, R, ?_⟩
  unfold fFor at h
  cases e : F ρ S with
  | exc x S1 => rw [e] at h; exact fun c dd g' H' R' f' s => h Γ c dd σ g' H' hx R' (f'.frs R.dOB) s
  | no => rw [e] at h; exact h
  | ok ds S1 =>
    rw [e] at h
    intro It1 g1 H1 R1 f1 io
    have h : GoodS T J Γ g H (forL tf B ds ρ S1) D := h
    have f1' := f1.frs R.dOB
    have h0 := GoodS.then h f1'
    generalize hr : forL tf B ds ρ S1 = r at h0
    clear h
    refine ⟨fun i m σ' H' => ∃ g' ρ' S', Rel T g' Γ ρ' S' σ' H' ∧ FrS g1 H1 g' H' ∧ m = ds.length - i ∧ i ≤ ds.length ∧ forL tf B (ds.drop i) ρ' S' = r, ⟨ds.length, g1, ρ, S1, R1, .refl _ _, by simp, Nat.zero_le _, by rw [List.drop_zero]; exact hr⟩, fun i m σ' H' ⟨g', ρ', S', R', f', em, hi', er⟩ => ?_⟩
    obtain ⟨i1, i2⟩ := io g' H' i f'.stay
    have h2 := GoodS.then h0 f'
    by_cases hlt : i < ds.length
    · obtain ⟨d, hd⟩ : ∃ d, ds[i]? = some d := ⟨ds[i], List.getElem?_eq_getElem hlt⟩
      obtain ⟨go, yl⟩ := i2 d hd
      refine .inr ⟨go, fun σ2 H2 => ∃ m', m' < m ∧ ∃ g' ρ' S', Rel T g' Γ ρ' S' σ2 H2 ∧ FrS g1 H1 g' H2 ∧ m' = ds.length - (i + 1) ∧ i + 1 ≤ ds.length ∧ forL tf B (ds.drop (i + 1)) ρ' S' = r, fun σ2 H2 ⟨m', l, w⟩ => ⟨m', l, w⟩, fun x H2 y => ?_⟩
      obtain ⟨ex, sx⟩ := yl x H2 y
      have R2 := R'.ex ex
      have f2 : FrS g1 H1 g' H2 := f'.trans ((FrE.ex ex).frs R'.dOB)
      have ed : ds.drop i = d :: ds.drop (i + 1) := by
        rw [List.drop_eq_getElem_cons hlt]
        rw [List.getElem?_eq_getElem hlt] at hd
        rw [Option.some.inj hd]
      rw [ed] at er
      rw [forL] at er
      split at er
      · rename_i e1
        rw [← er] at h2
        exact h2.elim
      · rename_i ρ1 e1
        refine ht g' ρ' ρ1 S' σ' H2 d x _ R2 sx e1 fun σ3 R3 _ _ => ⟨g'.drops is, ρ1, S', R3, ?_⟩
        have f3 : FrS g' H2 (g'.drops is) H2 := .drops
        have h3 := GoodS.then h2 (((FrE.ex ex).frs R'.dOB).trans f3)
        have nxt : ∀ {ρ2 : Env} {S2 : Store}, forL tf B (ds.drop (i + 1)) ρ2 S2 = r → ∀ σ4 g4 H4, Rel T g4 Γ ρ2 S2 σ4 H4 → FrS (g'.drops is) H2 g4 H4 → ∃ m', m' < m ∧ ∃ g' ρ' S', Rel T g' Γ ρ' S' σ4 H4 ∧ FrS g1 H1 g' H4 ∧ m' = ds.length - (i + 1) ∧ i + 1 ≤ ds.length ∧ forL tf B (ds.drop (i + 1)) ρ' S' = r :=
          fun {ρ2 S2} e2 σ4 g4 H4 R4 f4 => ⟨ds.length - (i + 1), by omega, g4, ρ2, S2, R4, (f2.trans f3).trans f4, rfl, hlt, e2⟩
        split at er
        · rename_i eb; rw [eb]; exact nxt er
        · rename_i eb; rw [eb]; exact nxt er
        · rename_i eb
          rw [eb]
          rw [← er] at h3
          exact h3
        · rename_i n1 n2 n3
          rw [← er] at h3
          cases eb : B ρ1 S' with
          | nx a b => exact absurd eb (n1 a b)
          | ct a b => exact absurd eb (n2 a b)
          | bk a b => exact absurd eb (n3 a b)
          | rt d a b => rw [eb] at h3; exact h3
          | exc x a b => rw [eb] at h3; exact h3
          | no => rw [eb] at h3; exact h3
    · have e1 : i = ds.length := by omega
      subst e1
      refine .inl ⟨i1 (Nat.le_refl _), ?_⟩
      rw [List.drop_length] at er
      rw [← er] at h2
      exact h2 σ' g' H' R' (.refl _ _)
end
end Q

namespace Q
open PySem PySem.Spec PyProof.Rows L2
inductive RF where
  | ok (d : D) (outs : Env) (S : Store)
  | exc (x : Exc) (outs : Env) (S : Store)
  | no
abbrev FF := List D → Store → RF
structure Sig where
  ms : List Md
  kr : Nat
def GoodF (T : Th) (sg : Sig) (g : G) (vs : List V) (H : Hp) : RF → VK → XK → Prop
  | .ok d outs S', Q, _ => ∀ v g' H' Fo, Rel T (g'.plus Fo) sg.ms outs S' (vs.map some) H' → FrS g H g' H' → (∀ i a, g'.F i a → ∃ k, sg.ms.getD i .s = .p k) → (∀ a, Fo a → ¬ g.O a ∧ (g.U a ∨ H a = none)) → Own T (g'.plus Fo) H' sg.kr Fo d v → Q v H'
  | .exc x outs S', _, E => ∀ c dd g' H', Rel T g' sg.ms outs S' (vs.map some) H' → FrS g H g' H' → (∀ i a, g'.F i a → ∃ k, sg.ms.getD i .s = .p k) → ExcR T g' H' x c dd → E c dd H'
  | .no, _, _ => False
def spD (T : Th) (n : Nat) (sg : Sig) (Φ : FF) : Sp := fun vs H Q E => vs.length = n ∧ ∃ g ds S, Rel T g sg.ms (ds.map some) S (vs.map some) H ∧ GoodF T sg g vs H (Φ ds S) Q E
def outsOf : List Md → Nat → Env → Env
  | _, 0, _ => []
  | ms, n + 1, ρ => (match ms.headD .s with
    | .p _ => ρ.headD none
    | _ => none) :: outsOf ms.tail n ρ.tail
def fBody (N n : Nat) (ms : List Md) (b : FS) : FF := fun ds S => match b (ds.map some ++ List.replicate (N - n) none) S with
  | .nx ρ S' => .ok .non (outsOf ms n ρ) S'
  | .rt d ρ S' => .ok d (outsOf ms n ρ) S'
  | .exc x ρ S' => .exc x (outsOf ms n ρ) S'
  | _ => .no
theorem outsOf_length : ∀ (ms : List Md) (n : Nat) (ρ : Env), (outsOf ms n ρ).length = n
  | _, 0, _ => rfl
  | ms, n + 1, ρ => by rw [outsOf, List.length_cons, outsOf_length]
theorem outsOf_get : ∀ (ms : List Md) (n : Nat) (ρ : Env) (i : Nat) (d : D), (outsOf ms n ρ)[i]? = some (some d) → i < n ∧ (∃ k, ms.getD i .s = .p k) ∧ ρ[i]? = some (some d)
  | _, 0, _, i, d, h => by simp [outsOf] at h
  | ms, n + 1, ρ, 0, d, h => by
    rw [outsOf, List.getElem?_cons_zero] at h
    have h := Option.some.inj h
    split at h
    · rename_i k e
      refine ⟨Nat.succ_pos _, ⟨k, ?_⟩, ?_⟩
      · cases ms with
        | nil => cases e
        | cons m r => exact e
      · cases ρ with
        | nil => cases h
        | cons x r => simp at h; simp [h]
    · cases h
  | ms, n + 1, ρ, i + 1, d, h => by
    rw [outsOf, List.getElem?_cons_succ] at h
    obtain ⟨h1, ⟨k, h2⟩, h3⟩ := outsOf_get ms.tail n ρ.tail i d h
    refine ⟨by omega, ⟨k, ?_⟩, ?_⟩
    · cases ms with
      | nil => simp at h2
      | cons m r => simpa using h2
    · cases ρ with
      | nil => simp at h3
      | cons x r => simpa using h3
def ΓP (ms : List Md) : List Md → Prop := fun Γ => ∀ i k, ms.getD i .s = .p k → Γ.getD i .s = .p k
section
variable {T : Th}
def G.only (g : G) (ms : List Md) : G := { g with F := fun i a => (∃ k, ms.getD i .s = .p k) ∧ g.F i a }
theorem G.only_U {g : G} {ms : List Md} {a : Addr} (h : (g.only ms).U a) : g.U a := by
  rcases h with h | ⟨j, _, h⟩ | h
  · exact .inl h
  · exact .inr (.inl ⟨j, h⟩)
  · exact .inr (.inr h)
theorem Rel.outs {g g0 : G} {Γ ms : List Md} {ρ : Env} {S : Store} {σ : L2.St} {H : Hp} {vs : List V} {n : Nat} (R : Rel T g Γ ρ S σ H) (hΓ : ΓP ms Γ) (hn : vs.length = n) (hP : g.P = g0.P) (h0 : ∀ i k, ms.getD i .s = .p k → i < n → vs[i]? = some (g0.P i)) :
    Rel T (g.only ms) ms (outsOf ms n ρ) S (vs.map some) H := by
  refine R.shift rfl rfl rfl rfl (fun a h => G.only_U h) (fun i j a h h' => R.dF i j a h.2 h'.2) (fun i a h => R.dFO i a h.2) (fun a h => .inl h) (fun i a h => .inl ⟨i, h.2⟩) (by rw [outsOf_length, List.length_map, hn]) fun st i d e => ?_
  obtain ⟨hi, ⟨k, hk⟩, e2⟩ := outsOf_get ms n ρ i d e
  obtain ⟨v, h1, h2⟩ := R.slot i d e2
  rw [hΓ i k hk] at h2
  have h3 := h2.stay (g2 := g.only ms) st (fun a z => ⟨⟨k, hk⟩, z⟩) (fun a z => z) rfl (bare_sub rfl rfl (fun i a z => ⟨i, z.2⟩) fun _ z => z)
  refine ⟨v, ?_, by rw [hk]; exact h3⟩
  have ev : v = g0.P i := by rw [← hP]; exact h2.1
  rw [List.getElem?_map, h0 i k hk hi, ev]
  rfl
theorem own_non {g : G} {H : Hp} {k : Nat} {F : Addr → Prop} : Own T g H k F .non .non := by
  cases k <;> simp [Own, Shr]
theorem FrS.only {g g1 : G} {H H1 : Hp} {ms : List Md} (f : FrS g H g1 H1) : FrS g H (g1.only ms) H1 := ⟨f.keep, fun a h => f.own a (G.only_U h), f.O, f.P, f.N, f.μ, f.dom⟩
end
section
variable {P : Program} {w : World} {K : PySem.W.Frag} {mg : Str → Option Value} {base : Heap} {T : Th}
def jdF (ms : List Md) (kr : Nat) (E : XK) : Jd := ⟨fun c dd _ H => E c dd H, ΓP ms, ΓP ms, kr, []⟩
theorem start_eq {N : List Str} {vs : List V} {n : Nat} (h : vs.length = n) : L2.start N vs = vs.map some ++ List.replicate (N.length - n) none := by
  unfold L2.start
  rw [h]
def OkRule (P : Program) (w : World) (K : PySem.W.Frag) (mg : Str → Option Value) (base : Heap) (qual : Str) (st : Stmt) (f : Addr) (fd : FuncData) : Prop := ∀ {N ps : List Str} {k : Nat} {sp : Sp}, FnScope N ps (defScope st) → (∀ vs H Q E, sp vs H Q E → vs.length = ps.length) →
  (∀ (cdv : Value) (A : Around) (outer : List PySem.Env) (s : Shared) (H : Hp) (vs : List V) (Q : VK) (E : XK), Room k (A.deeper (envOfC qual (defScope st) s.heap.objs.size f cdv)) → sp vs H Q E →
    ∃ t, PSs (cxOf (L2.CX P w) P w K mg base N qual (defScope st) f cdv A outer s H E) (defBody st) t ∧ t { nx := fun _ H' => Q .non H', rt := Q } (L2.start N vs) H) → FnOk P w K mg base (L2.CX P w) (k + 1) f fd ps sp
theorem okRule_fun {x qual : Str} {st : Stmt} {f : Addr} {fd : FuncData} (F : Fun K x qual st f fd) : OkRule P w K mg base qual st f fd := fun Sc len h => F.okX Sc len h
theorem fn_okR {qual : Str} {st : Stmt} {f : Addr} {fd : FuncData} {N ps : List Str} {k n : Nat} {sg : Sig} {B : FS} {Γ' : List Md} (F : OkRule P w K mg base qual st f fd) (Sc : FnScope N ps (defScope st)) (hn : ps.length = n) (hN : n ≤ N.length)
    (hbody : ∀ (cdv : Value) (A : Around) (outer : List PySem.Env) (s : Shared) (H : Hp) (E : XK), Room k (A.deeper (envOfC qual (defScope st) s.heap.objs.size f cdv)) →
      XB (cxOf (L2.CX P w) P w K mg base N qual (defScope st) f cdv A outer s H E) T (jdF sg.ms sg.kr E) (sg.ms ++ List.replicate (N.length - sg.ms.length) .s) Γ' (defBody st) B) (hl : ΓP sg.ms Γ') :
    FnOk P w K mg base (L2.CX P w) (k + 1) f fd ps (spD T n sg (fBody N.length n sg.ms B)) := by
  refine F Sc (fun vs H Q E h => by rw [hn]; exact h.1) (fun cdv A outer s H vs Q E hr h => ⟨_, hbody cdv A outer s H E hr, ?_⟩)
  obtain ⟨hvn, g, ds, S, R, hg⟩ := h
  have hdn : ds.length = n := by
    have := R.len
    rw [List.length_map, List.length_map] at this
    omega
  have gd : ∀ i, (sg.ms ++ List.replicate (N.length - sg.ms.length) Md.s).getD i .s = sg.ms.getD i .s := fun i => by
    by_cases hi : i < sg.ms.length
    · simp [List.getD, List.getElem?_append_left hi]
    · simp only [List.getD]
      rw [List.getElem?_append_right (by omega), List.getElem?_eq_none (l := sg.ms) (by omega), List.getElem?_replicate]
      split <;> rfl
  have R0 : Rel T g (sg.ms ++ List.replicate (N.length - sg.ms.length) .s) (ds.map some ++ List.replicate (N.length - n) none) S (L2.start N vs) H := by
    rw [start_eq hvn]
    refine ⟨by rw [List.length_append, List.length_append, R.len]; simp, fun i d e => ?_, R.dF, R.dFO, R.dFB, R.dOB, R.dom, R.st, R.nt⟩
    by_cases hi : i < ds.length
    · rw [List.getElem?_append_left (by simpa using hi)] at e
      obtain ⟨v, h1, h2⟩ := R.slot i d e
      refine ⟨v, ?_, by rw [gd]; exact h2⟩
      rw [List.getElem?_append_left (by simp; omega)]
      exact h1
    · rw [List.getElem?_append_right (by simpa using hi), List.getElem?_replicate] at e
      split at e <;> cases e
  have pin : ∀ i k, sg.ms.getD i .s = .p k → i < n → vs[i]? = some (g.P i) := fun i k hk hi => by
    obtain ⟨v, h1, h2⟩ := R.slot i ds[i] (by rw [List.getElem?_map, List.getElem?_eq_getElem (by omega)]; rfl)
    rw [hk] at h2
    rw [List.getElem?_map] at h1
    cases e : vs[i]? with
    | none => rw [e] at h1; cases h1
    | some u =>
      rw [e] at h1
      cases h1
      rw [h2.1]
  refine ⟨g, _, S, R0, ?_⟩
  unfold fBody at hg
  cases e : B (ds.map some ++ List.replicate (N.length - n) none) S with
  | nx ρ S' =>
    rw [e] at hg
    intro σ' g' H' R' f'
    refine hg .non (g'.only sg.ms) H' (fun _ => False) ?_ f'.only (fun i a z => z.1) (fun _ z => z.elim) own_non
    exact plus_none (R'.outs hl hvn f'.P pin)
  | rt d ρ S' =>
    rw [e] at hg
    intro Γ'' v σ' g' H' Fo hr' R' f' ho hw
    have R2 := R'.outs hr' hvn (show (g'.plus Fo).P = g.P from f'.P) pin
    have st2 : Stay (g'.plus Fo) H' ((g'.only sg.ms).plus Fo) H' := ⟨fun _ _ h _ => h, fun a h => .inl (by
      rcases h with h | ⟨j, _, h⟩ | h
      · exact .inl h
      · exact .inr (.inl ⟨j, h⟩)
      · exact .inr (.inr h)), Nat.le_refl _, fun _ _ => rfl, rfl⟩
    have hw' : Own T ((g'.only sg.ms).plus Fo) H' sg.kr Fo d v := Own.keepF st2 _ _ _ _ (fun _ _ _ q => q) hw
    exact hg v (g'.only sg.ms) H' Fo R2 f'.only (fun i a z => z.1) ho hw'
  | exc x ρ S' =>
    rw [e] at hg
    intro Γ'' c dd σ' g' H' hx' R' f' ex
    refine hg c dd (g'.only sg.ms) H' (R'.outs hx' hvn f'.P pin) f'.only (fun i a z => z.1) ?_
    obtain ⟨e0, e1, e2⟩ := ex
    refine ⟨e0, e1, e2.imp id fun ⟨d, fs, h1, h2, h3, h4, h5⟩ => ⟨d, fs, h1, h2, h3, h4, ?_⟩⟩
    have st : Stay g' H' (g'.only sg.ms) H' := ⟨fun _ _ h _ => h, fun a h => .inl (G.only_U h), Nat.le_refl _, fun _ _ => rfl, rfl⟩
    exact ⟨ShrL.stay st _ _ h5.1, st.off h3 h5.2⟩
  | bk ρ S' => rw [e] at hg; exact hg.elim
  | ct ρ S' => rw [e] at hg; exact hg.elim
  | no => rw [e] at hg; exact hg.elim
end
def eCall (Φ : FF) (as : FL) : FE := fun ρ S => match as ρ S with
  | .ok ds S1 => (match Φ ds S1 with
    | .ok d _ S2 => .ok d S2
    | .exc x _ S2 => .exc x S2
    | .no => .no)
  | .exc x S1 => .exc x S1
  | .no => .no
def G.callee (g : G) : G := { g with O := fun a => g.O a ∨ ∃ i, g.F i a, F := fun _ _ => False }
theorem G.callee_U {g : G} {a : Addr} : (g.callee).U a ↔ g.U a := by
  constructor
  · rintro ((h | h) | ⟨i, h⟩ | h)
    · exact .inl h
    · exact .inr (.inl h)
    · exact h.elim
    · exact .inr (.inr h)
  · rintro (h | h | h)
    · exact .inl (.inl h)
    · exact .inl (.inr h)
    · exact .inr (.inr h)
theorem stay_iff {g g2 : G} {H : Hp} (hU : ∀ a, g2.U a → g.U a) (hN : g.N = g2.N) (hμ : g2.μ = g.μ) (hZ : g2.Z = g.Z := by rfl) : Stay g H g2 H := ⟨fun _ _ h _ => h, fun a h => .inl (hU a h), by rw [hN]; exact Nat.le_refl _, fun n _ => by rw [hμ], hZ⟩
section
variable {X : Cx} {T : Th} {W : WX} {Γ : List Md}
def G.back (g1 g' : G) : G := { g' with O := g1.O, F := g1.F }
theorem call_back {g1 g' : G} {ρ : Env} {S1 S2 : Store} {σ : L2.St} {H1 H' : Hp} {Fo : Addr → Prop} {outs : Env} {ms : List Md} {vs : List V} (R1 : Rel T g1 Γ ρ S1 σ H1) (R' : Rel T (g'.plus Fo) ms outs S2 (vs.map some) H') (f' : FrS g1.callee H1 g' H') (nf : ∀ i a, ¬ g'.F i a) :
    Rel T (g1.back g') Γ ρ S2 σ H' ∧ FrE g1 H1 (g1.back g') H' ∧ (∀ a, (g1.back g').U a → (g'.plus Fo).U a) := by
  have eO : ∀ a, g'.O a ↔ (g1.O a ∨ ∃ i, g1.F i a) := fun a => by rw [f'.O]; exact Iff.rfl
  have bB : ∀ a, g'.B a → g1.B a ∨ H1 a = none := fun a h => by
    rcases f'.own a (.inr (.inr h)) with z | z
    · rcases G.callee_U.mp z with z | z | z
      · exact absurd h (R'.dOB a (.inl ((eO a).mpr (.inl z))))
      · exact absurd h (R'.dOB a (.inl ((eO a).mpr (.inr z))))
      · exact .inl z
    · exact .inr z
  have hU : ∀ a, (g1.back g').U a → (g'.plus Fo).U a := fun a h => by
    rcases h with h | h | h
    · exact .inl (.inl ((eO a).mpr (.inl h)))
    · exact .inl (.inl ((eO a).mpr (.inr h)))
    · exact .inr (.inr h)
  have kp : ∀ a o, H1 a = some o → ¬ g1.B a → H' a = some o := fun a o e hb => f'.keep a o e (by
    by_cases ho : g1.O a ∨ ∃ i, g1.F i a
    · exact .inr ho
    · exact .inl fun z => by
        rcases G.callee_U.mp z with z | z | z
        · exact ho (.inl z)
        · exact ho (.inr z)
        · exact hb z)
  have fe : FrE g1 H1 (g1.back g') H' := ⟨kp, bB, rfl, rfl, f'.P, f'.N, f'.μ, f'.dom⟩
  refine ⟨⟨R1.len, fun i d e => ?_, R1.dF, R1.dFO, fun i a h => ?_, fun a h => ?_, fun a h => ?_, ?_, fun a h => R'.nt a (hU a h)⟩, fe, hU⟩
  · obtain ⟨v, h1, h2⟩ := R1.slot i d e
    refine ⟨v, h1, ?_⟩
    have st := fe.stay
    cases hm : Γ.getD i .s <;> rw [hm] at h2 <;> simp only [RepM] at h2 ⊢
    · exact h2.stay st
    · exact Own.keepF st _ _ _ _ (fun a o z q => kp a o q (R1.dFB i a z)) h2
    · exact Own.keepF st _ _ _ _ (fun a o z q => kp a o q (R1.dOB a z)) h2
    · exact ⟨h2.1.trans (by show g1.P i = g'.P i; rw [f'.P]; rfl), Own.keepF st _ _ _ _ (fun a o z q => kp a o q (R1.dFB i a z)) h2.2⟩
    · exact h2
    · exact h2.stay fe.bare
    · exact ⟨h2.1, (st).keep _ _ h2.2.1 h2.2.2, (st).off h2.2.1 h2.2.2⟩
  · exact R'.dOB a (.inl ((eO a).mpr (.inr ⟨i, h⟩)))
  · exact R'.dOB a (.inl ((eO a).mpr (.inl h)))
  · exact R'.dom a (hU a h)
  · exact R'.st.keep (stay_iff hU rfl rfl) (fun _ _ _ h => h) rfl rfl rfl fun _ _ => rfl
theorem rel_args {g1 : G} {ρ : Env} {S1 : Store} {σ : L2.St} {H1 : Hp} {ds : List D} {vs : List V} {ms : List Md} (R1 : Rel T g1 Γ ρ S1 σ H1) (s : ShrL T g1 H1 ds vs) (hm : ∀ i, ms.getD i .s = .s) : Rel T g1.callee ms (ds.map some) S1 (vs.map some) H1 := by
  refine R1.shift rfl rfl rfl rfl (fun a h => G.callee_U.mp h) (fun i j a h => h.elim) (fun i a h => h.elim) (fun a h => h) (fun i a h => h.elim) (by simp [s.length]) fun st i d e => ?_
  rw [List.getElem?_map] at e
  cases q : ds[i]? with
  | none => rw [q] at e; cases e
  | some d' =>
    rw [q] at e
    cases e
    obtain ⟨v, h1, h2⟩ := s.get q
    refine ⟨v, by rw [List.getElem?_map, h1]; rfl, ?_⟩
    rw [hm]
    exact h2.stay st
theorem shr_of_own {g : G} {H : Hp} : ∀ (k : Nat) (Fo : Addr → Prop) (d : D) (v : V), (∀ a, Fo a → ¬ g.U a) → (∀ a, Fo a → ∃ o, H a = some o) → Own T (g.plus Fo) H k Fo d v → Shr T g H d v := by
  intro k
  have base : ∀ (Fo : Addr → Prop), Stay (g.plus Fo) H g H := fun Fo => ⟨fun _ _ h _ => h, fun a h => .inl (by
    rcases h with h | h | h
    · exact .inl (.inl h)
    · exact .inr (.inl h)
    · exact .inr (.inr h)), Nat.le_refl _, fun _ _ => rfl, rfl⟩
  suffices hs : ∀ (k : Nat) (Fo F : Addr → Prop) (d : D) (v : V), (∀ a, F a → Fo a) → (∀ a, Fo a → ¬ g.U a) → Own T (g.plus Fo) H k F d v → Shr T g H d v from fun Fo d v h1 _ h => hs k Fo Fo d v (fun _ z => z) h1 h
  intro k
  induction k with
  | zero => intro Fo F d v hf hu h; simp only [Own] at h; exact h.stay (base Fo)
  | succ k ih =>
    intro Fo F d v hf hu h
    cases d with
    | lst l =>
      simp only [Own] at h
      obtain ⟨p, vs, e, hF, hH, hl, Gs, h1, h2, h3⟩ := h
      exact shr_lst.mpr ⟨p, vs, e, ⟨hH, hu p (hf p hF)⟩, .of hl fun i d w a b => ih Fo (Gs i) d w (fun a z => hf a (h1 i a z).1) hu (h3 i d w a b)⟩
    | dct l =>
      simp only [Own] at h
      obtain ⟨p, vs, e, hF, hH, hl, Gs, h1, h2, h3⟩ := h
      simp only [Shr]
      exact ⟨p, vs, e, ⟨hH.shr, hu p (hf p hF)⟩, .of hl fun i d w a b => ⟨(h3 i d w a b).1.stay (base Fo), ih Fo (Gs i) d.2 w.2 (fun a z => hf a (h1 i a z).1) hu (h3 i d w a b).2⟩⟩
    | _ => simp only [Own] at h; exact h.stay (base Fo)
theorem xe_call {k n : Nat} {f : Addr} {fd : FuncData} {ps : List Str} {sg : Sig} {Φ : FF} {e : Expr} {es : List Expr} {A : FL} (F : FnOk X.prog X.w X.K X.mg X.base (L2.CX X.prog X.w) k f fd ps (spD T n sg Φ)) (hm : ∀ i, sg.ms.getD i .s = .s) (hn : es.length = n) (hA : ∀ ρ S ds S1, A ρ S = .ok ds S1 → ds.length = n)
    (ha : XL X T W Γ es A) (he : PA X es (tXL T W Γ A) → PE X e (tCallS (spD T n sg Φ) (WE W) (tXL T W Γ A))) : XE X T W Γ e (eCall Φ A) := pe_imp (he ha) fun σ H Q ⟨g, ρ, S, R, hg⟩ => by
  refine ⟨g, ρ, S, R, ?_⟩
  unfold eCall at hg
  cases ea : A ρ S with
  | exc x S1 => rw [ea] at hg; exact hg
  | no => rw [ea] at hg; exact hg
  | ok ds S1 =>
    rw [ea] at hg
    intro vs g1 H1 R1 f1 s1
    have hg : GoodE T W Γ ρ σ g H (match Φ ds S1 with | .ok d _ S2 => .ok d S2 | .exc x _ S2 => .exc x S2 | .no => .no) Q := hg
    refine ⟨by rw [← s1.length]; exact hA ρ S ds S1 ea, g1.callee, ds, S1, rel_args R1 s1 hm, ?_⟩
    cases ef : Φ ds S1 with
    | no => rw [ef] at hg; exact hg
    | ok d outs S2 =>
      rw [ef] at hg
      intro v g' H' Fo R' f' nf ho hw
      have nf' : ∀ i a, ¬ g'.F i a := fun i a z => by
        obtain ⟨k, e⟩ := nf i a z
        rw [hm] at e; cases e
      obtain ⟨R2, f2, hU⟩ := call_back R1 R' f' nf'
      refine hg v (g1.back g') H' R2 (f1.trans f2) ?_
      have st : Stay (g'.plus Fo) H' ((g1.back g').plus Fo) H' := ⟨fun _ _ h _ => h, fun a h => .inl (by
        rcases h with (h | h) | h | h
        · exact hU a (.inl h)
        · exact .inl (.inr h)
        · exact hU a (.inr (.inl h))
        · exact .inr (.inr h)), Nat.le_refl _, fun _ _ => rfl, rfl⟩
      refine shr_of_own sg.kr Fo d v (fun a z u => ?_) (fun a z => R'.dom a (.inl (.inr z))) (Own.keepF st _ _ _ _ (fun _ _ _ q => q) hw)
      have ho' := (ho a z).1
      rcases u with u | u | u
      · exact ho' (.inl u)
      · exact ho' (.inr u)
      · exact R'.dOB a (.inr z) u
    | exc x outs S2 =>
      rw [ef] at hg
      intro c dd g' H' R' f' nf ex
      have nf' : ∀ i a, ¬ g'.F i a := fun i a z => by
        obtain ⟨k, e⟩ := nf i a z
        rw [hm] at e; cases e
      obtain ⟨R2, f2, hU⟩ := call_back R1 (plus_none R') f' nf'
      refine hg c dd (g1.back g') H' R2 (f1.trans f2) ?_
      obtain ⟨e0, e1, e2⟩ := ex
      refine ⟨e0, e1, e2.imp id fun ⟨d, fs, h1, h2, h3, h4, h5⟩ => ⟨d, fs, h1, h2, h3, h4, ?_⟩⟩
      have st : Stay g' H' (g1.back g') H' := ⟨fun _ _ h _ => h, fun a h => .inl (by
        rcases hU a h with (h | h) | h | h
        · exact .inl h
        · exact h.elim
        · exact .inr (.inl h)
        · exact .inr (.inr h)), Nat.le_refl _, fun _ _ => rfl, rfl⟩
      exact ⟨ShrL.stay st _ _ h5.1, st.off h3 h5.2⟩
theorem lNil_len {ρ : Env} {S : Store} {ds : List D} {S1 : Store} (h : lNil ρ S = .ok ds S1) : ds.length = 0 := by cases h; rfl
theorem lCons_len {A : FE} {B : FL} {n : Nat} (hB : ∀ ρ S ds S1, B ρ S = .ok ds S1 → ds.length = n) (ρ : Env) (S : Store) (ds : List D) (S1 : Store) (h : lCons A B ρ S = .ok ds S1) : ds.length = n + 1 := by
  unfold lCons at h
  split at h
  · split at h
    · rename_i e2
      cases h
      rw [List.length_cons, hB _ _ _ _ e2]
    · cases h
    · cases h
  · cases h
  · cases h
def fRaise (k : Nat) : FS := fun ρ S => .exc ⟨k, []⟩ ρ S
end
end Q

namespace Q
open PySem PySem.Spec PyProof.Rows L2
def tyD : D → Option String
  | .non => some "NoneType"
  | .bl _ => some "bool"
  | .int _ => some "int"
  | .str _ => some "str"
  | .tup _ => some "tuple"
  | .lst _ => some "list"
  | _ => none
def hIsi (T : String) (d : D) : Option D := (tyD d).bind fun n => (kitB n T).map .bl
section
variable {T : Th} {g : G} {H : Hp}
theorem ty_shr {d : D} {v : V} {n : String} (s : Shr T g H d v) (e : tyD d = some n) : TyX T.K H v (.type n) := by
  cases d <;> simp only [tyD] at e <;> first | cases e | skip
  · rw [shr_non.mp s]; exact .base .non
  · rw [shr_bl.mp s]; exact .base (.bl _)
  · rw [shr_int.mp s]; exact .base (.int _)
  · rw [shr_str.mp s]; exact .base (.str _)
  · obtain ⟨a, vs, rfl, la, ra⟩ := shr_tup.mp s
    rcases la with ⟨z | ⟨o, z⟩, _⟩ | ⟨o, its, n, z, zc, _⟩
    · exact .base (.tup z)
    · exact .fTuple z
    · exact .kTuple z zc
  · obtain ⟨a, vs, rfl, la, ra⟩ := shr_lst.mp s
    exact .base (.lst la.1)
end
section
variable {X : Cx} {T : Th} {W : WX} {Γ : List Md}
theorem xe_isi {e a : Expr} {A : FE} {n : String} (hK : X.K = T.K) (ha : XE X T W Γ a A) (he : PE X a (tX T W Γ A) → PE X e (tCB (rIsi X.K) (tCons (tX T W Γ A) (tCons (tC (.ty n)) tNil)))) : XE X T W Γ e (eUn (hIsi n) A) := pe_imp (he ha) fun σ H Q ⟨g, ρ, S, R, hg⟩ =>
  ⟨g, ρ, S, R, good_bind hg fun x S1 v g1 H1 _ R1 f1 s1 hg1 => by
    obtain ⟨z, ez, hg3⟩ := good_of hg1
    obtain ⟨m, e1, e2⟩ := Option.bind_eq_some_iff.mp ez
    obtain ⟨b, e3, e4⟩ := Option.map_eq_some_iff.mp e2
    subst e4
    refine ⟨v, .ty n, .type m, .type n, b, rfl, .ty n, by rw [hK]; exact ty_shr s1 e1, kit_ty e3, hg3 _ g1 H1 R1 (.refl _ _) (shr_bl.mpr rfl)⟩⟩
def eHeld (i : Nat) (b : Bool) : FE := fun ρ S => match ρ[i]? with
  | some (some _) => .ok (.bl b) S
  | _ => .no
inductive PCs (X : Cx) : List Expr → List V → Prop where
  | nil : PCs X [] []
  | cons {e : Expr} {es : List Expr} {c : V} {cs : List V} (h : PE X e (tC c)) (r : PCs X es cs) (hs : starEach (e :: es) X.env = (false, eval e X.env) :: starEach es X.env := by rfl) : PCs X (e :: es) (c :: cs)
theorem Rel.clear {g : G} {ρ : Env} {S : Store} {σ : L2.St} {H : Hp} {i : Nat} {m : Md} (R : Rel T g (Γ.set i m) ρ S σ H) : Rel T (g.drop i) Γ (ρ.set i none) S (σ.set i none) H := by
  refine R.shift rfl rfl rfl rfl (fun a h => G.drop_U h) (fun j k a h h' => R.dF j k a h.2 h'.2) (fun j a h => R.dFO j a h.2) (fun a h => .inl h) (fun j a h => .inl ⟨j, h.2⟩) (by simp [R.len]) fun st j d' e => ?_
  by_cases hj : i = j
  · subst hj
    by_cases hlt : i < ρ.length
    · rw [List.getElem?_set_self hlt] at e; cases e
    · rw [List.getElem?_eq_none (by simpa using hlt)] at e
      cases e
  · rw [List.getElem?_set_ne hj] at e
    obtain ⟨w, h1, h2⟩ := R.slot j d' e
    refine ⟨w, by rw [List.getElem?_set_ne hj]; exact h1, ?_⟩
    rw [getD_set_ne hj] at h2
    exact h2.stay st (fun a z => ⟨fun q => hj q.symm, z⟩) (fun a z => z) rfl (bare_sub rfl rfl (fun i a z => ⟨i, z.2⟩) fun _ z => z)
end
end Q

namespace Q
open PySem PySem.Spec PyProof.Rows L2
section
variable {X : Cx} {T : Th} {W : WX} {Γ : List Md}
theorem xt_op {e : Expr} {r : R2} {h : D → D → Option D} {a b : Expr} {A B : FE} (ok : OpOk T r h) (ha : XE X T W Γ a A) (hb : XE X T W Γ b B)
    (he : PE X a (tX T W Γ A) → PE X b (tX T W Γ B) → PT X e (tTest (tOp r (tX T W Γ A) (tX T W Γ B)))) : XT X T W Γ e (eOp h A B) := pt_imp (he ha hb) fun σ H Q ⟨g, ρ, S, R, hg⟩ =>
  ⟨g, ρ, S, R, goodT_bind hg fun x S1 v g1 H1 _ R1 f1 s1 hg1 => ⟨g1, ρ, S1, R1, goodT_bind hg1 fun y S2 w g2 H2 _ R2 f2 s2 hg2 => by
    cases ez : h x y with
    | none => rw [ez] at hg2; exact hg2.elim
    | some z =>
      rw [ez] at hg2
      obtain ⟨b, rfl, hg3⟩ := hg2
      exact ok g2 H2 x y _ v w (s1.stay f2.stay) s2 ez R2.dom _ fun u H' ex su => ⟨b, shr_bl.mp su, hg3 g2 H' (R2.ex ex) (.ex ex)⟩⟩⟩
abbrev rInA0 (K : PySem.W.Frag) : R2 := fun x y H Q => rIn K false x y H Q ∨ (∃ i j, x = .str i ∧ y = .str j ∧ Q (.bl !(Builtin.Str.occurrences j i 0 j.length 1).isEmpty) H)
abbrev rInA1 (K : PySem.W.Frag) : R2 := fun x y H Q => rIn K true x y H Q ∨ (∃ i j, x = .str i ∧ y = .str j ∧ Q (.bl !!(Builtin.Str.occurrences j i 0 j.length 1).isEmpty) H)
theorem op_inA : OpR X (compareOp .In) (rInA0 X.K) := opr_or op_in_seq op_in_str
theorem op_notinA : OpR X (compareOp .NotIn) (rInA1 X.K) := opr_or op_notIn_seq op_notIn_str
theorem ok_in0 : OpOk T (rInA0 T.K) (hIn false) := by
  intro g H x y z v w sx sy e hd Q q
  cases y
  case lst l =>
    have e : inL false x l = some z := by cases x <;> exact e
    obtain ⟨a, vs, rfl, la, ra⟩ := shr_lst.mp sy
    exact .inl (ok_inL sx (.inl (.of la.1)) ra e q)
  case scr l =>
    have e : inL false x l = some z := by cases x <;> exact e
    obtain ⟨a, vs, rfl, la, ra⟩ := shr_scr.mp sy
    exact .inl (ok_inL sx (.inl la.sq) ra e q)
  case tup l =>
    have e : inL false x l = some z := by cases x <;> exact e
    obtain ⟨a, vs, rfl, la, ra⟩ := shr_tup.mp sy
    exact .inl (ok_inL sx (.inr la.sq) ra e q)
  case str b =>
    cases x <;> simp only [hIn] at e <;> first | cases e | skip
    exact .inr ⟨_, _, shr_str.mp sx, shr_str.mp sy, q _ H (.refl H) (shr_bl.mpr rfl)⟩
  all_goals (cases x <;> simp only [hIn] at e <;> cases e)
theorem ok_in1 : OpOk T (rInA1 T.K) (hIn true) := by
  intro g H x y z v w sx sy e hd Q q
  cases y
  case lst l =>
    have e : inL true x l = some z := by cases x <;> exact e
    obtain ⟨a, vs, rfl, la, ra⟩ := shr_lst.mp sy
    exact .inl (ok_inL sx (.inl (.of la.1)) ra e q)
  case scr l =>
    have e : inL true x l = some z := by cases x <;> exact e
    obtain ⟨a, vs, rfl, la, ra⟩ := shr_scr.mp sy
    exact .inl (ok_inL sx (.inl la.sq) ra e q)
  case tup l =>
    have e : inL true x l = some z := by cases x <;> exact e
    obtain ⟨a, vs, rfl, la, ra⟩ := shr_tup.mp sy
    exact .inl (ok_inL sx (.inr la.sq) ra e q)
  case str b =>
    cases x <;> simp only [hIn] at e <;> first | cases e | skip
    exact .inr ⟨_, _, shr_str.mp sx, shr_str.mp sy, q _ H (.refl H) (shr_bl.mpr rfl)⟩
  all_goals (cases x <;> simp only [hIn] at e <;> cases e)
def cutD (xs : List D) (lo hi : Option Int) : List D := (xs.drop (HT.sIx xs.length 0 lo)).take (HT.sIx xs.length xs.length hi - HT.sIx xs.length 0 lo)
def hSl (d : D) (lo hi : Option Int) : Option D := match d with
  | .lst l => some (.lst (cutD l lo hi))
  | .scr l => some (.lst (cutD l lo hi))
  | .str z => if z.length ≤ 1000000 then some (.str (cutS z lo hi)) else none
  | .tup l => some (.tup (cutD l lo hi))
  | _ => none
def eBnd (o : Option FE) : Env → Store → (Option Int → Store → RE) → RE := fun ρ S k => match o with
  | none => k none S
  | some a => (a ρ S).bind fun d S1 => match d with
    | .int i => k (some i) S1
    | _ => .no
def eSl (a : FE) (lo hi : Option FE) : FE := fun ρ S => (a ρ S).bind fun d S1 => eBnd lo ρ S1 fun l S2 => eBnd hi ρ S2 fun h S3 => .of S3 (hSl d l h)
inductive XBd (X : Cx) (T : Th) (W : WX) (Γ : List Md) : Option Expr → Option FE → TO → Prop where
  | none : XBd X T W Γ none none tNoPart
  | some {e : Expr} {A : FE} (h : XE X T W Γ e A) : XBd X T W Γ (some e) (some A) (tPart (tX T W Γ A))
structure Dj (T : Th) (g : G) (S : Store) (H : Hp) : Prop where
  dF : ∀ i j a, g.F i a → g.F j a → i = j
  dFO : ∀ i a, g.F i a → ¬ g.O a
  dFB : ∀ i a, g.F i a → ¬ g.B a
  dOB : ∀ a, g.O a → ¬ g.B a
  dom : ∀ a, g.U a → ∃ o, H a = some o
  st : SR T g S H
  nt : ∀ a, g.U a → ∀ u, ¬ Rd H a (.tup u)
theorem Rel.dj {g : G} {ρ : Env} {S : Store} {σ : L2.St} {H : Hp} (R : Rel T g Γ ρ S σ H) : Dj T g S H := ⟨R.dF, R.dFO, R.dFB, R.dOB, R.dom, R.st, R.nt⟩
theorem Rel.carry {g g' : G} {ρ : Env} {S S' : Store} {σ : L2.St} {H H' : Hp} {Fo : Addr → Prop} (R : Rel T g Γ ρ S σ H) (f : FrE g H g' H') (hf : ∀ a, Fo a → H a = none) (j : Dj T (g'.plus Fo) S' H') : Rel T (g'.plus Fo) Γ ρ S' σ H' := by
  refine ⟨R.len, fun i d e => ?_, j.dF, j.dFO, j.dFB, j.dOB, j.dom, j.st, j.nt⟩
  have st : Stay g H (g'.plus Fo) H' := ⟨fun a o h hu => f.stay.keep a o h hu, fun a h => by
    rcases h with (h | h) | h | h
    · exact f.stay.own a (.inl h)
    · exact .inr (hf a h)
    · exact f.stay.own a (.inr (.inl h))
    · exact f.stay.own a (.inr (.inr h)), f.N, f.μ, f.Z⟩
  obtain ⟨v, h1, h2⟩ := R.slot i d e
  refine ⟨v, h1, ?_⟩
  cases hm : Γ.getD i .s <;> rw [hm] at h2 <;> simp only [RepM] at h2 ⊢
  · exact h2.stay st
  · have := Own.keepF st _ _ _ _ (fun a o z q => f.keep a o q (R.dFB i a z)) h2
    show Own T (g'.plus Fo) H' _ (g'.F i) d v
    rw [f.F]; exact this
  · have := Own.keepF st _ _ _ _ (fun a o z q => f.keep a o q (R.dOB a z)) h2
    exact Own.wide _ _ _ _ _ (fun a z => .inl (by rw [f.O]; exact z)) this
  · refine ⟨h2.1.trans (by show g.P i = g'.P i; rw [f.P]), ?_⟩
    have := Own.keepF st _ _ _ _ (fun a o z q => f.keep a o q (R.dFB i a z)) h2.2
    show Own T (g'.plus Fo) H' _ (g'.F i) d v
    rw [f.F]; exact this
  · exact h2
  · exact h2.stay (show Stay g.bare H (g'.plus Fo).bare H' from f.bare)
  · exact ⟨h2.1, (st).keep _ _ h2.2.1 h2.2.2, (st).off h2.2.1 h2.2.2⟩
def wipeE (ρ : Env) : List Nat → Env
  | [] => ρ
  | v :: vs => (wipeE ρ vs).set v none
theorem wipeE_some {ρ : Env} {i : Nat} {d : D} : ∀ {vs : List Nat}, (wipeE ρ vs)[i]? = some (some d) → ρ[i]? = some (some d) ∧ i ∉ vs
  | [], h => ⟨h, by simp⟩
  | v :: vs, h => by
    unfold wipeE at h
    by_cases hv : v = i
    · subst hv
      by_cases hl : v < (wipeE ρ vs).length
      · rw [List.getElem?_set_self hl] at h; cases h
      · rw [List.getElem?_eq_none (by simpa using hl)] at h; cases h
    · rw [List.getElem?_set_ne hv] at h
      obtain ⟨h1, h2⟩ := wipeE_some h
      exact ⟨h1, by simp [h2, Ne.symm hv]⟩
theorem wipeE_length (ρ : Env) : ∀ vs : List Nat, (wipeE ρ vs).length = ρ.length
  | [] => rfl
  | v :: vs => by unfold wipeE; rw [List.length_set, wipeE_length ρ vs]
theorem wipe_get {σ σ' : L2.St} {is : List Nat} (hl : σ'.length = σ.length) (h : ∀ j, j ∉ is → σ'[j]? = σ[j]?) : ∀ {vs : List Nat}, (∀ j, j ∈ is → j ∈ vs) → wipe σ' vs = wipe σ vs := by
  intro vs hs
  apply List.ext_getElem?
  intro j
  by_cases hj : j ∈ vs
  · have nn : ∀ (τ : L2.St) (ws : List Nat), j ∈ ws → (wipe τ ws)[j]? = if j < τ.length then some none else none := by
      intro τ ws
      induction ws with
      | nil => intro h; cases h
      | cons w ws ih =>
        intro h
        unfold wipe
        by_cases hw : w = j
        · subst hw
          by_cases hlt : w < τ.length
          · rw [List.getElem?_set_self (by rw [wipe_length]; exact hlt), if_pos hlt]
          · rw [List.getElem?_eq_none (by simpa [wipe_length] using hlt), if_neg hlt]
        · rw [List.getElem?_set_ne hw]
          rcases List.mem_cons.mp h with h | h
          · exact absurd h.symm hw
          · exact ih h
    rw [nn _ _ hj, nn _ _ hj, hl]
  · rw [wipe_out hj, wipe_out hj]
    exact h j fun z => hj (hs j z)
def G.lend (g : G) (vs : List Nat) : G := { g with O := fun a => g.O a ∨ ∃ j, j ∈ vs ∧ g.F j a, F := fun j a => j ∉ vs ∧ g.F j a }
theorem G.lend_U {g : G} {vs : List Nat} {a : Addr} : (g.lend vs).U a ↔ g.U a := by
  constructor
  · rintro ((h | ⟨j, _, h⟩) | ⟨j, _, h⟩ | h)
    · exact .inl h
    · exact .inr (.inl ⟨j, h⟩)
    · exact .inr (.inl ⟨j, h⟩)
    · exact .inr (.inr h)
  · rintro (h | ⟨j, h⟩ | h)
    · exact .inl (.inl h)
    · by_cases hj : j ∈ vs
      · exact .inl (.inr ⟨j, hj, h⟩)
      · exact .inr (.inl ⟨j, hj, h⟩)
    · exact .inr (.inr h)
theorem Rel.lend {g : G} {ρ : Env} {S : Store} {σ : L2.St} {H : Hp} (R : Rel T g Γ ρ S σ H) (vs : List Nat) : Rel T (g.lend vs) Γ (wipeE ρ vs) S (wipe σ vs) H := by
  refine R.shift rfl rfl rfl rfl (fun a h => G.lend_U.mp h) (fun i j a h h' => R.dF i j a h.2 h'.2) (fun i a h z => ?_) (fun a h => ?_) (fun i a h => .inl ⟨i, h.2⟩) (by rw [wipeE_length, wipe_length, R.len]) fun st i d e => ?_
  · rcases z with z | ⟨j, hj, z⟩
    · exact R.dFO i a h.2 z
    · have := R.dF i j a h.2 z
      subst this
      exact h.1 hj
  · rcases h with h | ⟨j, _, h⟩
    · exact .inl h
    · exact .inr ⟨j, h⟩
  · obtain ⟨e1, hi⟩ := wipeE_some e
    obtain ⟨v, h1, h2⟩ := R.slot i d e1
    exact ⟨v, by rw [wipe_out hi]; exact h1, h2.stay st (fun a z => ⟨hi, z⟩) (fun a z => .inl z) rfl (bare_sub rfl rfl (fun i a z => ⟨i, z.2⟩) fun _ z => z)⟩
def lcL (tf : D → Env → Option Env) (c E : FE) : List D → Env → Store → RL
  | [], _, S => .ok [] S
  | d :: r, ρ, S => match tf d ρ with
    | none => .no
    | some ρ1 => match c ρ1 S with
      | .ok (.bl true) S1 => (match E ρ1 S1 with
        | .ok y S2 => (match lcL tf c E r ρ S2 with
          | .ok ys S3 => .ok (y :: ys) S3
          | _ => .no)
        | _ => .no)
      | .ok (.bl false) S1 => lcL tf c E r ρ S1
      | _ => .no
def eLc (it : FL) (vs : List Nat) (tf : D → Env → Option Env) (c E : FE) : FE := fun ρ S => match it ρ S with
  | .ok ds S1 => (match lcL tf c E ds (wipeE ρ vs) S1 with
    | .ok ys S2 => if ds.length ≤ 1000000 then .ok (.lst ys) S2 else .no
    | _ => .no)
  | .exc x S1 => .exc x S1
  | .no => .no

abbrev XTs (X : Cx) (T : Th) (W : WX) (Γ : List Md) (es : List Expr) (F : FE) : Prop := PTs X es (tXT T W Γ F)
theorem xts_one {c : Expr} {C : FE} (h : XT X T W Γ c C) : XTs X T W Γ [c] C := pts_one h
theorem Dj.ex {g : G} {S : Store} {H H' : Hp} (j : Dj T g S H) (e : Exx H H') : Dj T g S H' := ⟨j.dF, j.dFO, j.dFB, j.dOB, fun a h => by obtain ⟨o, q⟩ := j.dom a h; exact ⟨o, e a o q⟩, j.st.keep (.ex e) (fun a o _ q => e a o q) rfl rfl rfl fun _ _ => rfl, e.nt j.dom j.nt⟩
theorem nt_upd {H : Hp} {p : Addr} {o : HO} {U : Addr → Prop} (nt : ∀ a, U a → ∀ u, ¬ Rd H a (.tup u)) (ho : ∀ u, o ≠ .tup u ∧ ∀ b, o ≠ .frz b (.tup u)) : ∀ a, U a → ∀ u, ¬ Rd (upd H p o) a (.tup u) := fun a h u r => by
  by_cases ha : a = p
  · subst ha
    rcases r with r | ⟨b, r⟩
    · rw [upd_same] at r; cases r; exact (ho u).1 rfl
    · rw [upd_same] at r; cases r; exact (ho u).2 b rfl
  · refine nt a h u (r.imp (fun z => ?_) fun ⟨b, z⟩ => ⟨b, ?_⟩)
    · rwa [upd_ne ha] at z
    · rwa [upd_ne ha] at z
theorem Dj.write {g : G} {S : Store} {H : Hp} {p : Addr} {o : HO} (ho : ∀ u, o ≠ .tup u ∧ ∀ b, o ≠ .frz b (.tup u)) (j : Dj T g S H) (hp : g.O p) : Dj T g S (upd H p o) := by
  have st : Stay g H g (upd H p o) := ⟨fun a u h hu => by rw [upd_ne (fun z => hu (.inl (by rw [z]; exact hp)))]; exact h, fun _ h => .inl h, Nat.le_refl _, fun _ _ => rfl, rfl⟩
  refine ⟨j.dF, j.dFO, j.dFB, j.dOB, fun a h => ?_, j.st.keep st (fun a u hb h => by rw [upd_ne (fun z => j.dOB p hp (by rw [← z]; exact hb))]; exact h) rfl rfl rfl fun _ _ => rfl, nt_upd j.nt ho⟩
  by_cases ha : a = p
  · subst ha; exact ⟨o, upd_same⟩
  · rw [upd_ne ha]; exact j.dom a h
theorem Rel.carry0 {g g' : G} {ρ : Env} {S S' : Store} {σ : L2.St} {H H' : Hp} (R : Rel T g Γ ρ S σ H) (f : FrE g H g' H') (j : Dj T g' S' H') : Rel T g' Γ ρ S' σ H' := by
  refine ⟨R.len, fun i d e => ?_, j.dF, j.dFO, j.dFB, j.dOB, j.dom, j.st, j.nt⟩
  have st := f.stay
  obtain ⟨v, h1, h2⟩ := R.slot i d e
  refine ⟨v, h1, ?_⟩
  cases hm : Γ.getD i .s <;> rw [hm] at h2 <;> simp only [RepM] at h2 ⊢
  · exact h2.stay st
  · rw [f.F]; exact Own.keepF st _ _ _ _ (fun a o z q => f.keep a o q (R.dFB i a z)) h2
  · rw [f.O]; exact Own.keepF st _ _ _ _ (fun a o z q => f.keep a o q (R.dOB a z)) h2
  · rw [f.F, f.P]; exact ⟨h2.1, Own.keepF st _ _ _ _ (fun a o z q => f.keep a o q (R.dFB i a z)) h2.2⟩
  · exact h2
  · exact h2.stay f.bare
  · exact ⟨h2.1, (st).keep _ _ h2.2.1 h2.2.2, (st).off h2.2.1 h2.2.2⟩
theorem FrE.swap {g g' g2 : G} {H H' : Hp} (f : FrE g H g' H') (hB : g2.B = g.B) (hN : g2.N = g.N) (hμ : g2.μ = g.μ) (hP : g2.P = g.P) : FrE g2 H { g' with O := g2.O, F := g2.F } H' :=
  ⟨fun a o h hb => f.keep a o h (by rw [← hB]; exact hb), fun a h => by rw [hB]; exact f.B a h, rfl, rfl, f.P.trans hP.symm, by rw [hN]; exact f.N, fun n hn => by rw [hμ]; exact f.μ n (by rw [← hN]; exact hn), f.dom⟩
theorem FrE.upd {g g' : G} {H H' : Hp} {p : Addr} {o : HO} (f : FrE g H g' H') (hp : H p = none) : FrE g H g' (upd H' p o) :=
  ⟨fun a u h hb => by rw [upd_ne (ne_of_none h hp)]; exact f.keep a u h hb, f.B, f.F, f.O, f.P, f.N, f.μ, fun a u h => by rw [upd_ne (ne_of_none h hp)]; exact f.dom a u h⟩
theorem wipe_wipe {σ : L2.St} {vs : List Nat} : wipe (wipe σ vs) vs = wipe σ vs := wipe_get (is := vs) (wipe_length σ vs) (fun j hj => wipe_out hj) fun _ h => h
theorem sz_lt6 {n : Nat} (h : n < 1000000) : n < sizeLine := by rw [sizeLine_eq]; omega
structure LcW (T : Th) (Γ : List Md) (vs : List Nat) (tf : D → Env → Option Env) (c E : FE) (g1 : G) (H1 : Hp) (ρ : Env) (σ : L2.St) (ds ys : List D) (Sf : Store) (p : Addr) (i m : Nat) (H' : Hp) : Prop where
  all : ∃ (g0 : G) (Si : Store) (vacc : List V) (acc rest : List D), FrE (g1.lend vs) H1 g0 H' ∧ Dj T (g0.plus (· = p)) Si H' ∧ H' p = some (.lst vacc) ∧ ShrL T (g0.plus (· = p)) H' acc vacc ∧ m = ds.length - i ∧ i ≤ ds.length ∧ acc.length ≤ i ∧ lcL tf c E (ds.drop i) (wipeE ρ vs) Si = .ok rest Sf ∧ ys = acc ++ rest
theorem xe_lc {elt tg iter : Expr} {ifs : List Expr} {scope : Scope} {own : List (Str × Nat)} {pos : Pos} {Γb : List Md} {is : List Nat} {t : TG} {tf : D → Env → Option Env} {FI : FL} {C E : FE} (hc : X.calm = true) (hN : X.N.Nodup) (hi : XIF X T W Γ tg iter FI)
    (ok : BlkOk X.N X.env.scope scope own) (his : ∀ j, j ∈ is → j ∈ own.map (·.2))
    (hg : ∀ (s : Shared) (H : Hp) (C : Addr) (cl : List (Str × Addr)) (fp : List Addr), PG (X.blk s H scope (compEnvC scope cl C X.env) fp) tg t) (ht : TgOk T Γ Γb is t tf)
    (hts : ∀ (s : Shared) (H : Hp) (D : Addr) (cl : List (Str × Addr)) (fp : List Addr), XTs (X.blk s H scope (compEnvC scope cl D X.env) fp) T (fun _ _ _ _ => False) Γb ifs C)
    (he : ∀ (s : Shared) (H : Hp) (D : Addr) (cl : List (Str × Addr)) (fp : List Addr), XE (X.blk s H scope (compEnvC scope cl D X.env) fp) T (fun _ _ _ _ => False) Γb elt E) (hs : ∀ x, foldedSetIterable iter X.env x = pure x := by intro _; rfl) :
    XE X T W Γ (.ListComp elt [⟨tg, iter, ifs, 0⟩] scope pos) (eLc FI (own.map (·.2)) tf C E) := pe_imp (pe_lc hc hN hi ok hg hts he hs) fun σ H Q ⟨g, ρ, S, R, h⟩ => by
  generalize own.map (·.2) = vs at his h
  refine ⟨g, ρ, S, R, ?_⟩
  unfold eLc at h
  cases e : FI ρ S with
  | exc x S1 => rw [e] at h; exact h
  | no => rw [e] at h; exact h
  | ok ds S1 =>
    rw [e] at h
    intro It1 g1 H1 R1 f1 io p hp
    have h : GoodE T W Γ ρ σ g H (match lcL tf C E ds (wipeE ρ vs) S1 with | .ok ys S2 => if ds.length ≤ 1000000 then RE.ok (.lst ys) S2 else .no | _ => .no) Q := h
    split at h
    · rename_i ys Sf el
      split at h
      · rename_i hlen
        have Rl := R1.lend vs
        have hpO : ∀ a, a = p → (g1.lend vs).U a → False := fun a ha u => by
          obtain ⟨o, q⟩ := Rl.dom a u
          rw [ha, hp] at q; cases q
        have Dp : Dj T ((g1.lend vs).plus (· = p)) S1 (upd H1 p (.lst [])) := by
          have st : Stay (g1.lend vs) (upd H1 p (.lst [])) ((g1.lend vs).plus (· = p)) (upd H1 p (.lst [])) → True := fun _ => trivial
          have e1 := Rl.ex (Exx.new (o := HO.lst []) hp)
          refine ⟨e1.dF, fun i a z w => w.elim (e1.dFO i a z) fun w => hpO a w (.inr (.inl ⟨i, z⟩)), e1.dFB, fun a w z => w.elim (fun w => e1.dOB a w z) fun w => hpO a w (.inr (.inr z)), fun a u => ?_, ?_, fun a u w r => ?_⟩
          · rcases u with (u | u) | u | u
            · exact e1.dom a (.inl u)
            · exact ⟨_, by rw [u]; exact upd_same⟩
            · exact e1.dom a (.inr (.inl u))
            · exact e1.dom a (.inr (.inr u))
          · refine Rl.st.keep (g' := (g1.lend vs).plus (· = p)) ⟨fun a o q _ => Exx.new hp a o q, fun a u => ?_, Nat.le_refl _, fun _ _ => rfl, rfl⟩ (fun a o _ q => Exx.new hp a o q) rfl rfl rfl fun _ _ => rfl
            rcases u with (u | u) | u | u
            · exact .inl (.inl u)
            · exact .inr (by rw [u]; exact hp)
            · exact .inl (.inr (.inl u))
            · exact .inl (.inr (.inr u))
          · by_cases ha : a = p
            · subst ha
              rcases r with r | ⟨b, r⟩
              · rw [upd_same] at r; cases r
              · rw [upd_same] at r; cases r
            · refine e1.nt a ?_ w r
              rcases u with (u | u) | u | u
              · exact .inl u
              · exact absurd u ha
              · exact .inr (.inl u)
              · exact .inr (.inr u)
        refine ⟨LcW T Γ vs tf C E g1 H1 ρ σ ds ys Sf p, ⟨ds.length, ⟨g1.lend vs, S1, [], [], ys, .ex (Exx.new hp), Dp, upd_same, .nil, by simp, Nat.zero_le _, Nat.zero_le _, by rw [List.drop_zero]; exact el, rfl⟩⟩, ?_⟩
        rintro i m H' ⟨g0, Si, vacc, acc, rest, fr, dj, hacc, sacc, em, hi', ha, hl, hy⟩
        have fO : ∀ a, a = p → H1 a = none := fun a z => by rw [z]; exact hp
        have Rw : Rel T (g0.plus (· = p)) Γ (wipeE ρ vs) Si (wipe σ vs) H' := Rl.carry fr fO dj
        have st0 : Stay g1 H1 g0 H' := ⟨fun a o q hu => fr.stay.keep a o q fun z => hu (G.lend_U.mp z), fun a u => (fr.stay.own a u).imp G.lend_U.mp id, fr.N, fr.μ, fr.Z⟩
        obtain ⟨i1, i2⟩ := io g0 H' i st0 fr.keep
        by_cases hlt : i < ds.length
        · refine .inr ?_
          obtain ⟨d, hd⟩ : ∃ d, ds[i]? = some d := ⟨ds[i], List.getElem?_eq_getElem hlt⟩
          have stp : Stay g1 H1 (g0.plus (· = p)) H' := ⟨st0.keep, fun a u => by
            rcases u with (u | u) | u | u
            · exact st0.own a (.inl u)
            · exact .inr (fO a u)
            · exact st0.own a (.inr (.inl u))
            · exact st0.own a (.inr (.inr u)), st0.N, st0.μ, st0.Z⟩
          obtain ⟨_, i2⟩ := io (g0.plus (· = p)) H' i stp fr.keep
          obtain ⟨go, yl⟩ := i2 d hd
          refine ⟨go, fun H2 => ∃ m', m' < m ∧ LcW T Γ vs tf C E g1 H1 ρ σ ds ys Sf p (i + 1) m' H2, fun H2 ⟨m', l, w⟩ => ⟨m', l, w⟩, fun x H2 y => ?_⟩
          obtain ⟨ex, sx⟩ := yl x H2 y
          have R2 := Rw.ex ex
          have ed : ds.drop i = d :: ds.drop (i + 1) := by
            rw [List.drop_eq_getElem_cons hlt]
            rw [List.getElem?_eq_getElem hlt] at hd
            rw [Option.some.inj hd]
          rw [ed, lcL] at hl
          split at hl
          · cases hl
          · rename_i ρ1 e1
            refine ht _ _ ρ1 Si _ H2 d x _ R2 sx e1 fun σ3 R3 l3 k3 => ⟨(wipe_get (is := is) l3 k3 his).trans wipe_wipe, _, ρ1, Si, R3, ?_⟩
            have fO2 : ∀ (g4 : G) (H4 : Hp), FrE ((g0.plus (· = p)).drops is) H2 g4 H4 → FrE (g1.lend vs) H1 { g4 with O := g0.O, F := g0.F } H4 ∧ ({ g4 with O := g0.O, F := g0.F } : G).plus (· = p) = g4 := fun g4 H4 f4 => by
              refine ⟨(fr.trans (.ex ex)).trans (f4.swap (g2 := g0) rfl rfl rfl rfl), ?_⟩
              have eO := f4.O
              have eF := f4.F
              obtain ⟨N4, μ4, O4, F4, B4, BF4, P4⟩ := g4
              simp only at eO eF
              subst eO eF
              show G.mk N4 μ4 (fun a => g0.O a ∨ a = p) g0.F B4 BF4 P4 = G.mk N4 μ4 (fun a => g0.O a ∨ a = p) (fun j a => j ∉ is ∧ g0.F j a) B4 BF4 P4
              congr 1
              funext j a
              rw [fr.F]
              exact propext ⟨fun z => ⟨fun w => z.1 (his j w), z⟩, fun z => z.2⟩
            have kp : ∀ (g4 : G) (H4 : Hp), FrE ((g0.plus (· = p)).drops is) H2 g4 H4 → g4.O p ∧ H4 p = some (.lst vacc) := fun g4 H4 f4 =>
              ⟨by rw [f4.O]; exact .inr rfl, f4.keep p _ (ex p _ hacc) (dj.dOB p (.inr rfl))⟩
            have sk : ∀ (g4 : G) (H4 : Hp), FrE ((g0.plus (· = p)).drops is) H2 g4 H4 → ShrL T g4 H4 acc vacc := fun g4 H4 f4 =>
              ShrL.stay (((Stay.ex ex).trans FrS.drops.stay).trans f4.stay) _ _ sacc
            split at hl
            · rename_i S2 ec
              rw [ec]
              refine ⟨true, rfl, fun g2 H3 R4 f3 => ?_⟩
              refine iteT ⟨g2, ρ1, S2, R4, ?_⟩
              split at hl
              · rename_i y2 S3 ey
                rw [ey]
                intro v g4 H4 R5 f4 s4
                have f34 := f3.trans f4
                obtain ⟨pO, pH⟩ := kp g4 H4 f34
                obtain ⟨fa, fe⟩ := fO2 g4 H4 f34
                have sa := sk g4 H4 f34
                split at hl
                · rename_i ys' S4 ely
                  cases hl
                  refine ⟨vacc, pH, by rw [← sa.length]; exact sz_lt6 (by omega), ds.length - (i + 1), by omega, ⟨{ g4 with O := g0.O, F := g0.F }, S3, vacc ++ [v], acc ++ [y2], ys', fa.upd hp, ?_, upd_same, ?_, rfl, hlt, by rw [List.length_append]; simp; omega, ely, by rw [hy, List.append_assoc]; rfl⟩⟩
                  · rw [fe]; exact R5.dj.write (fun _ => ⟨nofun, fun _ => nofun⟩) pO
                  · rw [fe]
                    have stw : Stay g4 H4 g4 (upd H4 p (.lst (vacc ++ [v]))) := ⟨fun a u h hu => by rw [upd_ne (fun z => hu (.inl (by rw [z]; exact pO)))]; exact h, fun _ h => .inl h, Nat.le_refl _, fun _ _ => rfl, rfl⟩
                    exact ShrL.append (sa.stay stw) ((ShrL.cons s4 .nil).stay stw)
                · cases hl
              · cases hl
            · rename_i S2 ec
              rw [ec]
              refine ⟨false, rfl, fun g2 H3 R4 f3 => iteF ?_⟩
              obtain ⟨pO, pH⟩ := kp g2 H3 f3
              obtain ⟨fa, fe⟩ := fO2 g2 H3 f3
              exact ⟨ds.length - (i + 1), by omega, ⟨{ g2 with O := g0.O, F := g0.F }, S2, vacc, acc, rest, fa, by rw [fe]; exact R4.dj, pH, by rw [fe]; exact sk g2 H3 f3, rfl, hlt, by omega, hl, hy⟩⟩
            · cases hl
        · have e1 : i = ds.length := by omega
          subst e1
          refine .inl ⟨i1 (Nat.le_refl _), ?_⟩
          rw [List.drop_length, lcL] at hl
          cases hl
          rw [List.append_nil] at hy
          subst hy
          have ff : FrE g1 H1 { g0 with O := g1.O, F := g1.F } H' := fr.swap (g2 := g1) rfl rfl rfl rfl
          have uu : ∀ a, ({ g0 with O := g1.O, F := g1.F } : G).U a → (g0.plus (· = p)).U a := fun a u => by
            rcases u with u | ⟨j, u⟩ | u
            · exact .inl (.inl (by rw [fr.O]; exact .inl u))
            · by_cases hj : j ∈ vs
              · exact .inl (.inl (by rw [fr.O]; exact .inr ⟨j, hj, u⟩))
              · exact .inr (.inl ⟨j, by rw [show (g0.plus (· = p)).F = g0.F from rfl, fr.F]; exact ⟨hj, u⟩⟩)
            · exact .inr (.inr u)
          have dOB' : ∀ a, (g1.O a ∨ ∃ j, g1.F j a) → ¬ g0.B a := fun a u z => by
            have := uu a (u.elim .inl fun w => .inr (.inl w))
            rcases fr.B a z with w | w
            · exact u.elim (fun q => R1.dOB a q w) fun ⟨j, q⟩ => R1.dFB j a q w
            · obtain ⟨o, q⟩ := R1.dom a (u.elim .inl fun q => .inr (.inl q))
              rw [w] at q; cases q
          have stf : Stay (g0.plus (· = p)) H' { g0 with O := g1.O, F := g1.F } H' := ⟨fun _ _ h _ => h, fun a u => .inl (uu a u), Nat.le_refl _, fun _ _ => rfl, rfl⟩
          have djf : Dj T { g0 with O := g1.O, F := g1.F } Sf H' := ⟨R1.dF, R1.dFO, fun j a u z => dOB' a (.inr ⟨j, u⟩) z, fun a u z => dOB' a (.inl u) z, fun a u => dj.dom a (uu a u), dj.st.keep stf (fun _ _ _ q => q) rfl rfl rfl fun _ _ => rfl, fun a u => dj.nt a (uu a u)⟩
          refine h (.ref p) _ H' (R1.carry0 ff djf) (f1.trans ff) (shr_lst.mpr ⟨p, vacc, rfl, ⟨hacc, fun u => ?_⟩, ShrL.stay stf _ _ sacc⟩)
          rcases u with u | u | u
          · obtain ⟨o, q⟩ := R1.dom p (.inl u)
            rw [hp] at q; cases q
          · obtain ⟨o, q⟩ := R1.dom p (.inr (.inl u))
            rw [hp] at q; cases q
          · exact dj.dOB p (.inr rfl) u
      · exact h.elim
    · exact h.elim
end
end Q

namespace Q
open PySem PySem.Spec PyProof.Rows L2
abbrev ΓS (n : Nat) : List Md := List.replicate n .s
theorem rep_s {n i : Nat} : (ΓS n).getD i .s = .s := by
  simp only [List.getD, List.getElem?_replicate]
  split <;> rfl
theorem set_rep {n i : Nat} : (ΓS n).set i .s = ΓS n := by
  apply List.ext_getElem?
  intro j
  by_cases h : i = j
  · subst h
    by_cases hl : i < n
    · rw [List.getElem?_set_self (by simpa using hl), List.getElem?_replicate, if_pos hl]
    · rw [List.getElem?_eq_none (by simpa using hl), List.getElem?_eq_none (by simpa using hl)]
  · rw [List.getElem?_set_ne h]
abbrev sgS (n : Nat) : Sig := ⟨ΓS n, 0⟩
theorem gp_s {n : Nat} {Γ : List Md} : ΓP (ΓS n) Γ := fun i k h => by rw [rep_s] at h; cases h
section
variable {P : Program} {w : World} {K : PySem.W.Frag} {mg : Str → Option Value} {base : Heap} {T : Th}
abbrev jdS (n : Nat) (E : XK) : Jd := jdF (ΓS n) 0 E
end
section
variable {X : Cx} {T : Th} {W : WX} {n : Nat}
theorem xv {i : Nat} {e : Expr} (he : PE X e (tVar i)) : XE X T W (ΓS n) e (eVar i) := xe_var he rep_s
theorem xe_callS {k m : Nat} {f : Addr} {fd : FuncData} {ps : List Str} {Φ : FF} {e : Expr} {es : List Expr} {A : FL} {Γ : List Md} (F : FnOk X.prog X.w X.K X.mg X.base (L2.CX X.prog X.w) k f fd ps (spD T m (sgS m) Φ)) (hn : es.length = m) (hA : ∀ ρ S ds S1, A ρ S = .ok ds S1 → ds.length = m)
    (ha : XL X T W Γ es A) (he : PA X es (tXL T W Γ A) → PE X e (tCallS (spD T m (sgS m) Φ) (WE W) (tXL T W Γ A))) : XE X T W Γ e (eCall Φ A) := xe_call F (fun _ => rep_s) hn hA ha he
end
theorem la0 : ∀ ρ S ds S1, lNil ρ S = .ok ds S1 → ds.length = 0 := fun _ _ _ _ h => lNil_len h
theorem la1 {A : FE} {B : FL} {n : Nat} (h : ∀ ρ S ds S1, B ρ S = .ok ds S1 → ds.length = n) : ∀ ρ S ds S1, lCons A B ρ S = .ok ds S1 → ds.length = n + 1 := lCons_len h
end Q

namespace Q
open PySem PySem.Spec PyProof.Rows L2
def RS.seq (r : RS) (h : FS) : RS := match r with
  | .nx ρ1 S1 => h ρ1 S1
  | r => r
def condS (d : D) (x y : RS) : RS := match d with
  | .bl true => x
  | .bl false => y
  | _ => .no
def condE (d : D) (x y : RE) : RE := match d with
  | .bl true => x
  | .bl false => y
  | _ => .no
def notD (d : D) (S : Store) : RE := match d with
  | .bl b => .ok (.bl (!b)) S
  | _ => .no
def RL.bindE (r : RL) (k : List D → Store → RE) : RE := match r with
  | .ok ds S => k ds S
  | .exc x S => .exc x S
  | .no => .no
def RE.bindL (r : RE) (k : D → Store → RL) : RL := match r with
  | .ok d S => k d S
  | .exc x S => .exc x S
  | .no => .no
def RL.bindL (r : RL) (k : List D → Store → RL) : RL := match r with
  | .ok d S => k d S
  | .exc x S => .exc x S
  | .no => .no
def RL.bindS (ρ : Env) (r : RL) (k : List D → Store → RS) : RS := match r with
  | .ok d S => k d S
  | .exc x S => .exc x ρ S
  | .no => .no
def RF.toE (r : RF) : RE := match r with
  | .ok d _ S => .ok d S
  | .exc x _ S => .exc x S
  | .no => .no
def RS.toF (r : RS) (ms : List Md) (n : Nat) : RF := match r with
  | .nx ρ S' => .ok .non (outsOf ms n ρ) S'
  | .rt d ρ S' => .ok d (outsOf ms n ρ) S'
  | .exc x ρ S' => .exc x (outsOf ms n ρ) S'
  | _ => .no
def slotE (o : Option (Option D)) (S : Store) : RE := match o with
  | some (some d) => .ok d S
  | _ => .no
section
variable {d : D} {S : Store} {ρ : Env} {x : Exc}
theorem bind_ok {k : D → Store → RE} : (RE.ok d S).bind k = k d S := rfl
theorem bind_exc {k : D → Store → RE} : (RE.exc x S).bind k = .exc x S := rfl
theorem bindS_ok {k : D → Store → RS} : (RE.ok d S).bindS ρ k = k d S := rfl
theorem bindS_exc {k : D → Store → RS} : (RE.exc x S).bindS ρ k = .exc x ρ S := rfl
theorem of_some : RE.of S (some d) = .ok d S := rfl
theorem seq_nx {h : FS} : (RS.nx ρ S).seq h = h ρ S := rfl
theorem seq_rt {h : FS} : (RS.rt d ρ S).seq h = .rt d ρ S := rfl
theorem seq_exc {h : FS} : (RS.exc x ρ S).seq h = .exc x ρ S := rfl
theorem seq_bk {h : FS} : (RS.bk ρ S).seq h = .bk ρ S := rfl
theorem seq_ct {h : FS} : (RS.ct ρ S).seq h = .ct ρ S := rfl
theorem condS_t {y z : RS} : condS (.bl true) y z = y := rfl
theorem condS_f {y z : RS} : condS (.bl false) y z = z := rfl
theorem condE_t {y z : RE} : condE (.bl true) y z = y := rfl
theorem condE_f {y z : RE} : condE (.bl false) y z = z := rfl
theorem notD_bl {b : Bool} : notD (.bl b) S = .ok (.bl (!b)) S := rfl
theorem bindE_ok {ds : List D} {k : List D → Store → RE} : (RL.ok ds S).bindE k = k ds S := rfl
theorem bindL_ok {k : D → Store → RL} : (RE.ok d S).bindL k = k d S := rfl
theorem bindL_exc {k : D → Store → RL} : (RE.exc x S).bindL k = .exc x S := rfl
theorem bindLL_ok {ds : List D} {k : List D → Store → RL} : (RL.ok ds S).bindL k = k ds S := rfl
theorem bindLL_exc {k : List D → Store → RL} : (RL.exc x S).bindL k = .exc x S := rfl
theorem bindE_exc {k : List D → Store → RE} : (RL.exc x S).bindE k = .exc x S := rfl
theorem bindLS_ok {ds : List D} {k : List D → Store → RS} : (RL.ok ds S).bindS ρ k = k ds S := rfl
theorem bindLS_exc {k : List D → Store → RS} : (RL.exc x S).bindS ρ k = .exc x ρ S := rfl
theorem toE_ok {o : Env} : (RF.ok d o S).toE = .ok d S := rfl
theorem toE_exc {o : Env} : (RF.exc x o S).toE = .exc x S := rfl
theorem toF_nx {ms : List Md} {n : Nat} : (RS.nx ρ S).toF ms n = .ok .non (outsOf ms n ρ) S := rfl
theorem toF_rt {ms : List Md} {n : Nat} : (RS.rt d ρ S).toF ms n = .ok d (outsOf ms n ρ) S := rfl
theorem toF_exc {ms : List Md} {n : Nat} : (RS.exc x ρ S).toF ms n = .exc x (outsOf ms n ρ) S := rfl
theorem slotE_some : slotE (some (some d)) S = .ok d S := rfl
end
section
variable {ρ : Env} {S : Store}
theorem ev_var {i : Nat} : eVar i ρ S = slotE ρ[i]? S := rfl
theorem ev_c {d : D} : eC d ρ S = .ok d S := rfl
theorem ev_op {h : D → D → Option D} {a b : FE} : eOp h a b ρ S = (a ρ S).bind fun x S1 => (b ρ S1).bind fun y S2 => .of S2 (h x y) := rfl
theorem ev_un {h : D → Option D} {a : FE} : eUn h a ρ S = (a ρ S).bind fun x S1 => .of S1 (h x) := rfl
theorem ev_nil : lNil ρ S = .ok [] S := rfl
theorem ev_cons {a : FE} {r : FL} : lCons a r ρ S = (a ρ S).bindL fun x S1 => (r ρ S1).bindL fun xs S2 => .ok (x :: xs) S2 := rfl
theorem ev_L {h : List D → Option D} {a : FL} : eL h a ρ S = (a ρ S).bindE fun xs S1 => .of S1 (h xs) := rfl
theorem ev_tup {a : FL} : eTup a ρ S = (a ρ S).bindE fun xs S1 => .of S1 (if xs.length ≤ 1000000 then some (.tup xs) else none) := rfl
theorem ev_lst {a : FL} : eLst a ρ S = (a ρ S).bindE fun xs S1 => .of S1 (if xs.length ≤ 1000000 then some (.lst xs) else none) := rfl
theorem ev_call {Φ : FF} {a : FL} : eCall Φ a ρ S = (a ρ S).bindE fun xs S1 => (Φ xs S1).toE := rfl
theorem ev_and {a b : FE} : eAnd a b ρ S = (a ρ S).bind fun x S1 => condE x (b ρ S1) (.ok (.bl false) S1) := rfl
theorem ev_or {a b : FE} : eOr a b ρ S = (a ρ S).bind fun x S1 => condE x (.ok (.bl true) S1) (b ρ S1) := rfl
theorem ev_not {a : FE} : eNot a ρ S = (a ρ S).bind fun x S1 => notD x S1 := rfl
theorem ev_if {c a b : FE} : eIf c a b ρ S = (c ρ S).bind fun x S1 => condE x (a ρ S1) (b ρ S1) := rfl
theorem ev_seq {f h : FS} : fSeq f h ρ S = (f ρ S).seq h := rfl
theorem ev_set {i : Nat} {a : FE} : fSet i a ρ S = (a ρ S).bindS ρ fun d S1 => .nx (ρ.set i (some d)) S1 := rfl
theorem ev_ret {a : FE} : fRet a ρ S = (a ρ S).bindS ρ fun d S1 => .rt d ρ S1 := rfl
theorem ev_drop {a : FE} : fDrop a ρ S = (a ρ S).bindS ρ fun _ S1 => .nx ρ S1 := rfl
theorem ev_pass : fPass ρ S = .nx ρ S := rfl
theorem ev_brk : fBrk ρ S = .bk ρ S := rfl
theorem ev_ct : fCt ρ S = .ct ρ S := rfl
theorem ev_raise {k : Nat} : fRaise k ρ S = .exc ⟨k, []⟩ ρ S := rfl
theorem ev_ifS {c : FE} {f h : FS} : fIf c f h ρ S = (c ρ S).bindS ρ fun d S1 => condS d (f ρ S1) (h ρ S1) := rfl
theorem ev_for {it : FL} {tf : D → Env → Option Env} {b : FS} : fFor it tf b ρ S = (it ρ S).bindS ρ fun ds S1 => forL tf b ds ρ S1 := rfl
theorem ev_body {N n : Nat} {ms : List Md} {b : FS} {ds : List D} : fBody N n ms b ds S = (b (ds.map some ++ List.replicate (N - n) none) S).toF ms n := rfl
theorem ev_held {i : Nat} {b : Bool} : eHeld i b ρ S = (match ρ[i]? with | some (some _) => .ok (.bl b) S | _ => .no) := rfl
theorem ev_tru {a : FE} : eTru a ρ S = (a ρ S).bind fun x S1 => .of S1 (hTru x) := rfl
end
section
variable {a b : Int}
theorem hNe_int : hNe (.int a) (.int b) = some (.bl (!(a == b))) := rfl
theorem hEq_int : hEq (.int a) (.int b) = some (.bl (a == b)) := rfl
theorem hEq_bl {a b : Bool} : hEq (.bl a) (.bl b) = some (.bl (a == b)) := rfl
theorem hNe_bl {a b : Bool} : hNe (.bl a) (.bl b) = some (.bl (!(a == b))) := rfl
theorem hSub_int : hSub (.int a) (.int b) = some (.int (a - b)) := rfl
theorem hLt_int : hLt (.int a) (.int b) = some (.bl (decide (a < b))) := rfl
theorem hLe_int : hLe (.int a) (.int b) = some (.bl (decide (a ≤ b))) := rfl
theorem hGt_int : hGt (.int a) (.int b) = some (.bl (decide (b < a))) := rfl
theorem hGe_int : hGe (.int a) (.int b) = some (.bl (decide (b ≤ a))) := rfl
theorem hNeg_int : hNeg (.int a) = some (.int (-a)) := rfl
theorem hMod_pos (h : 0 < b) : hMod (.int a) (.int b) = some (.int (a % b)) := if_pos h
theorem hMul_bd {m n : Nat} (ha : a.natAbs < 2 ^ m) (hb : b.natAbs < 2 ^ n) (h : m + n ≤ 130000000) : hMul (.int a) (.int b) = some (.int (a * b)) := by
  have x := PySem.Flt.log2_lt_of (Nat.succ_pos m) (Nat.lt_of_lt_of_le ha (Nat.pow_le_pow_right (by decide) (Nat.le_succ m)))
  have y := PySem.Flt.log2_lt_of (Nat.succ_pos n) (Nat.lt_of_lt_of_le hb (Nat.pow_le_pow_right (by decide) (Nat.le_succ n)))
  show (if a.natAbs.log2 + b.natAbs.log2 < 134000000 then some (D.int (a * b)) else none) = _
  rw [if_pos (by omega)]
theorem hDiv_bd (h : b ≠ 0) (hb : b.natAbs < 2 ^ 8999) : hDiv (.int a) (.int b) = some (.int (a.fdiv b)) := by
  have y := PySem.Flt.log2_lt_of (show 0 < 8999 by decide) hb
  show (if b = 0 ∨ 9000 ≤ b.natAbs.log2 then none else some (D.int (a.fdiv b))) = _
  rw [if_neg (by omega)]
theorem hDiv_pos (h : 0 < b) (hb : b.natAbs < 2 ^ 8999) : hDiv (.int a) (.int b) = some (.int (a / b)) := by
  rw [hDiv_bd (by omega) hb, Int.fdiv_eq_ediv_of_nonneg a (by omega)]
theorem hAbs_int : hAbs [.int a] = some (.int a.natAbs) := by
  show some (D.int (if a < 0 then -a else a)) = _
  congr 2
  split <;> omega
theorem hIsi_int_int : hIsi "int" (.int a) = some (.bl true) := by
  show (kitB "int" "int").map D.bl = _
  rw [show kitB "int" "int" = some true by decide +kernel]; rfl
theorem hIsi_bool_int : hIsi "bool" (.int a) = some (.bl false) := by
  show (kitB "int" "bool").map D.bl = _
  rw [show kitB "int" "bool" = some false by decide +kernel]; rfl
theorem hIsi_bool_bl {x : Bool} : hIsi "bool" (.bl x) = some (.bl true) := by
  show (kitB "bool" "bool").map D.bl = _
  rw [show kitB "bool" "bool" = some true by decide +kernel]; rfl
theorem hIsi_int_bl {x : Bool} : hIsi "int" (.bl x) = some (.bl true) := by
  show (kitB "bool" "int").map D.bl = _
  rw [show kitB "bool" "int" = some true by decide +kernel]; rfl
theorem hIsi_tuple_tup {l : List D} : hIsi "tuple" (.tup l) = some (.bl true) := by
  show (kitB "tuple" "tuple").map D.bl = _
  rw [show kitB "tuple" "tuple" = some true by decide +kernel]; rfl
theorem hIsi_list_lst {l : List D} : hIsi "list" (.lst l) = some (.bl true) := by
  show (kitB "list" "list").map D.bl = _
  rw [show kitB "list" "list" = some true by decide +kernel]; rfl
end
section
variable {a b c d e : D} {l : List D}
theorem hIxT0 : hIx (.tup (a :: l)) (.int 0) = some a := by
  show atI (a :: l) ((0 : Nat) : Int) = _
  exact atI_nat rfl
theorem hIxT1 : hIx (.tup (a :: b :: l)) (.int 1) = some b := by
  show atI (a :: b :: l) ((1 : Nat) : Int) = _
  exact atI_nat rfl
theorem hIxT2 : hIx (.tup (a :: b :: c :: l)) (.int 2) = some c := by
  show atI (a :: b :: c :: l) ((2 : Nat) : Int) = _
  exact atI_nat rfl
theorem hIxT3 : hIx (.tup (a :: b :: c :: d :: l)) (.int 3) = some d := by
  show atI (a :: b :: c :: d :: l) ((3 : Nat) : Int) = _
  exact atI_nat rfl
theorem hIxT4 : hIx (.tup (a :: b :: c :: d :: e :: l)) (.int 4) = some e := by
  show atI (a :: b :: c :: d :: e :: l) ((4 : Nat) : Int) = _
  exact atI_nat rfl
theorem hIxL0 : hIx (.lst (a :: l)) (.int 0) = some a := by
  show atI (a :: l) ((0 : Nat) : Int) = _
  exact atI_nat rfl
theorem hIxL1 : hIx (.lst (a :: b :: l)) (.int 1) = some b := by
  show atI (a :: b :: l) ((1 : Nat) : Int) = _
  exact atI_nat rfl
theorem hIxL2 : hIx (.lst (a :: b :: c :: l)) (.int 2) = some c := by
  show atI (a :: b :: c :: l) ((2 : Nat) : Int) = _
  exact atI_nat rfl
theorem hIxL3 : hIx (.lst (a :: b :: c :: d :: l)) (.int 3) = some d := by
  show atI (a :: b :: c :: d :: l) ((3 : Nat) : Int) = _
  exact atI_nat rfl
theorem hIx_lst {k : Nat} {x : D} (h : l[k]? = some x) : hIx (.lst l) (.int k) = some x := atI_nat h
theorem hIx_scr {k : Nat} {x : D} (h : l[k]? = some x) : hIx (.scr l) (.int k) = some x := atI_nat h
theorem hLen_lst : hLen [.lst l] = some (.int l.length) := rfl
theorem hLen_scr : hLen [.scr l] = some (.int l.length) := rfl
theorem hLen_tup : hLen [.tup l] = some (.int l.length) := rfl
end
theorem forL_inv {tf : D → Env → Option Env} {b : FS} {I : Nat → Env → Store → Prop} {ds : List D} (turn : ∀ i d ρ S, ds[i]? = some d → I i ρ S → ∃ ρ1, tf d ρ = some ρ1 ∧ ((∃ ρ2 S2, b ρ1 S = .nx ρ2 S2 ∧ I (i + 1) ρ2 S2) ∨ ∃ ρ2 S2, b ρ1 S = .ct ρ2 S2 ∧ I (i + 1) ρ2 S2)) :
    ∀ (i : Nat) (ρ : Env) (S : Store), i ≤ ds.length → I i ρ S → ∃ ρ' S', forL tf b (ds.drop i) ρ S = .nx ρ' S' ∧ I ds.length ρ' S' := by
  intro i
  induction hk : ds.length - i generalizing i with
  | zero =>
    intro ρ S hi h
    have e : i = ds.length := by omega
    subst e
    refine ⟨ρ, S, ?_, h⟩
    rw [List.drop_length]
    rfl
  | succ n ih =>
    intro ρ S hi h
    have hlt : i < ds.length := by omega
    obtain ⟨ρ1, e1, e2⟩ := turn i ds[i] ρ S (List.getElem?_eq_getElem hlt) h
    rw [List.drop_eq_getElem_cons hlt, forL, e1]
    rcases e2 with ⟨ρ2, S2, e2, h2⟩ | ⟨ρ2, S2, e2, h2⟩
    · simp only [e2]
      exact ih (i + 1) (by omega) ρ2 S2 hlt h2
    · simp only [e2]
      exact ih (i + 1) (by omega) ρ2 S2 hlt h2
theorem forL_all {tf : D → Env → Option Env} {b : FS} (I : Nat → Env → Store → Prop) {ds : List D} {ρ : Env} {S : Store} (h0 : I 0 ρ S) (turn : ∀ i d ρ S, ds[i]? = some d → I i ρ S → ∃ ρ1, tf d ρ = some ρ1 ∧ ((∃ ρ2 S2, b ρ1 S = .nx ρ2 S2 ∧ I (i + 1) ρ2 S2) ∨ ∃ ρ2 S2, b ρ1 S = .ct ρ2 S2 ∧ I (i + 1) ρ2 S2)) :
    ∃ ρ' S', forL tf b ds ρ S = .nx ρ' S' ∧ I ds.length ρ' S' := by
  have := forL_inv turn 0 ρ S (Nat.zero_le _) h0
  rw [List.drop_zero] at this
  exact this
theorem rangeL_get {lo hi : Int} {i : Nat} {d : D} (h : (rangeL lo hi)[i]? = some d) : d = .int (lo + i) ∧ lo + i < hi := by
  unfold rangeL at h
  rw [List.getElem?_map] at h
  obtain ⟨k, e1, e2⟩ := Option.map_eq_some_iff.mp h
  obtain ⟨hk, e3⟩ := List.getElem?_eq_some_iff.mp e1
  rw [List.getElem_range] at e3
  rw [List.length_range] at hk
  subst e3
  exact ⟨e2.symm, by omega⟩
theorem ev_sl {a : FE} {lo hi : Option FE} {ρ : Env} {S : Store} : eSl a lo hi ρ S = (a ρ S).bind fun d S1 => eBnd lo ρ S1 fun l S2 => eBnd hi ρ S2 fun h S3 => .of S3 (hSl d l h) := rfl
theorem bnd_none {ρ : Env} {S : Store} {k : Option Int → Store → RE} : eBnd none ρ S k = k none S := rfl
def bndK (d : D) (S : Store) (k : Option Int → Store → RE) : RE := match d with
  | .int i => k (some i) S
  | _ => .no
theorem bnd_some {a : FE} {ρ : Env} {S : Store} {k : Option Int → Store → RE} : eBnd (some a) ρ S k = (a ρ S).bind fun d S1 => bndK d S1 k := rfl
theorem bndK_int {i : Int} {S : Store} {k : Option Int → Store → RE} : bndK (.int i) S k = k (some i) S := rfl
theorem hSl_scr {l : List D} {lo hi : Option Int} : hSl (.scr l) lo hi = some (.lst (cutD l lo hi)) := rfl
theorem hSl_lst {l : List D} {lo hi : Option Int} : hSl (.lst l) lo hi = some (.lst (cutD l lo hi)) := rfl
theorem hAdd_lst {a b : List D} (h : a.length + b.length ≤ 1000000) : hAdd (.lst a) (.lst b) = some (.lst (a ++ b)) := if_pos h
theorem ev_range1 {a : FL} {ρ : Env} {S : Store} : iRange1 a ρ S = (a ρ S).bindL rgK1 := rfl
theorem ev_range2 {a : FL} {ρ : Env} {S : Store} : iRange2 a ρ S = (a ρ S).bindL rgK2 := rfl
theorem rgK2_int {m n : Int} {S : Store} (h : (-1000000000000 ≤ m ∧ m ≤ 1000000000000) ∧ -1000000000000 ≤ n ∧ n ≤ 1000000000000) : rgK2 [.int m, .int n] S = .ok (rangeL m n) S := if_pos h
theorem rgK1_int {n : Int} {S : Store} (h : -1000000000000 ≤ n ∧ n ≤ 1000000000000) : rgK1 [.int n] S = .ok (rangeL 0 n) S := if_pos h
def seqK (d : D) (S : Store) : RL := match hSeq d with
  | some l => .ok l S
  | none => .no
theorem ev_iseq {a : FE} {ρ : Env} {S : Store} : iSeq a ρ S = (a ρ S).bindL seqK := rfl
theorem seqK_lst {l : List D} {S : Store} : seqK (.lst l) S = .ok l S := rfl
theorem seqK_tup {l : List D} {S : Store} : seqK (.tup l) S = .ok l S := rfl
theorem seqK_scr {l : List D} {S : Store} : seqK (.scr l) S = .ok l S := rfl
def spLaw (K : PySem.W.Frag) : Sp := fun vs H Q _ => ∃ (a : Addr) (ns : List Int), vs = [.ref a] ∧ SqL K H a (ns.map V.int) ∧ ns.length ≤ 63 ∧ (∀ z ∈ ns, Builtin.Int.intBits z ≤ 1048576) ∧ ∀ H', Q (.bl true) H'
theorem law_sp (K : PySem.W.Frag) (H : Hp) (a : Addr) (ns : List Int) (h1 : ns.length ≤ 63) (h2 : ∀ z ∈ ns, Builtin.Int.intBits z ≤ 1048576) (h : SqL K H a (ns.map V.int)) : spLaw K [.ref a] H (fun v _ => v = .bl true) fun _ _ _ => False := ⟨a, ns, rfl, h, h1, h2, fun _ => rfl⟩
theorem law_cx (P : Program) (w : World) (H : Hp) (s : Shared) (e : Value) (s' : Shared) (h : L2.CX P w [] H s (fun _ _ _ => False) e s') : False := by
  obtain ⟨_, _, _, _, _, _, _, _, _, _, _, _, z⟩ := h
  exact z.elim
def G0 : G := ⟨0, fun _ => 0, fun _ => False, fun _ _ => False, fun _ => False, fun _ _ _ => False, fun _ => .non⟩
theorem G0_U {a : Addr} : ¬ G0.U a := by
  rintro (h | ⟨i, h⟩ | h)
  · exact h
  · exact h
  · exact h
theorem shrL_ints {T : Th} {g : G} {H : Hp} : ∀ ns : List Int, ShrL T g H (ns.map D.int) (ns.map V.int)
  | [] => .nil
  | n :: r => .cons (shr_int.mpr rfl) (shrL_ints r)
theorem law_ok {P : Program} {w : World} {mg : Str → Option Value} {base : Heap} {T : Th} {k : Nat} {f : Addr} {fd : FuncData} {ps : List Str} {Φ : FF} (F : FnOk P w T.K mg base (L2.CX P w) k f fd ps (spD T 1 (sgS 1) Φ))
    (h : ∀ ns : List Int, ns.length ≤ 63 → (∀ z ∈ ns, Builtin.Int.intBits z ≤ 1048576) → ∃ outs S', Φ [.scr (ns.map .int)] [] = .ok (.bl true) outs S') (ht : T.tb = [] := by rfl) : FnOk P w T.K mg base (L2.CX P w) k f fd ps (spLaw T.K) := by
  refine F.imp fun vs H Q E hq => ?_
  obtain ⟨a, ns, rfl, hS, hl, hb, q⟩ := hq
  obtain ⟨outs, S', e⟩ := h ns hl hb
  refine ⟨rfl, G0, [.scr (ns.map .int)], [], ⟨rfl, fun i d e => ?_, fun _ _ _ h => h.elim, fun _ _ h => h.elim, fun _ _ h => h.elim, fun _ h => h.elim, fun a h => (G0_U h).elim, ⟨rfl, fun _ _ h => absurd h (Nat.not_lt_zero _), fun _ h => absurd h (Nat.not_lt_zero _), fun _ _ _ h => h.elim, fun _ _ _ _ _ h => h.elim, fun n o h => by simp at h, fun n o h => by simp at h, fun p hp => by rw [ht] at hp; cases hp⟩, fun a h => (G0_U h).elim⟩, ?_⟩
  · rw [rep_s]
    cases i with
    | succ i => simp at e
    | zero =>
      simp at e
      subst e
      exact ⟨_, rfl, shr_scr.mpr ⟨a, _, rfl, hS.imp (fun z => ⟨z, G0_U⟩) id, shrL_ints ns⟩⟩
  · rw [e]
    intro v g' H' Fo R f nf ho hw
    have hw : Own T (g'.plus Fo) H' 0 Fo (.bl true) v := hw
    simp only [Own] at hw
    rw [shr_bl.mp hw]
    exact q H'
end Q

namespace Q
open PySem PySem.Spec PyProof.Rows L2
def G.bb (g : G) : G := { g with O := fun _ => False, F := fun _ _ => False }
theorem G.bb_U {g : G} {a : Addr} : g.bb.U a ↔ g.B a := ⟨fun h => h.elim False.elim fun h => h.elim (fun ⟨_, h⟩ => h.elim) id, fun h => .inr (.inr h)⟩
def G.plusF (g : G) (n : Nat) (Fo : Addr → Prop) : G := { g with F := fun j a => g.F j a ∨ (j = n ∧ Fo a) }
theorem G.plusF_U {g : G} {n : Nat} {Fo : Addr → Prop} {a : Addr} : (g.plusF n Fo).U a ↔ g.U a ∨ Fo a := by
  constructor
  · rintro (h | ⟨j, h | ⟨_, h⟩⟩ | h)
    · exact .inl (.inl h)
    · exact .inl (.inr (.inl ⟨j, h⟩))
    · exact .inr h
    · exact .inl (.inr (.inr h))
  · rintro ((h | ⟨j, h⟩ | h) | h)
    · exact .inl h
    · exact .inr (.inl ⟨j, .inl h⟩)
    · exact .inr (.inr h)
    · exact .inr (.inl ⟨n, .inr ⟨rfl, h⟩⟩)
theorem G.plus_U {g : G} {Fo : Addr → Prop} {a : Addr} : (g.plus Fo).U a ↔ g.U a ∨ Fo a := by
  constructor
  · rintro ((h | h) | h | h)
    · exact .inl (.inl h)
    · exact .inr h
    · exact .inl (.inr (.inl h))
    · exact .inl (.inr (.inr h))
  · rintro ((h | h | h) | h)
    · exact .inl (.inl h)
    · exact .inr (.inl h)
    · exact .inr (.inr h)
    · exact .inl (.inr h)
mutual
def immD : D → Bool
  | .non => true
  | .bl _ => true
  | .int _ => true
  | .str _ => true
  | .tup l => immL l
  | _ => false
def immL : List D → Bool
  | [] => true
  | d :: r => immD d && immL r
end
section
variable {T : Th} {g g' g1 g2 : G} {H H' H1 : Hp} {Γ : List Md} {ρ : Env} {S : Store} {σ : L2.St}
theorem stay_bb (hN : g.N = g2.N) (hμ : g2.μ = g.μ) (hB : ∀ a, g2.B a → g.U a) (hZ : g2.Z = g.Z := by rfl) : Stay g H g2.bb H := ⟨fun _ _ h _ => h, fun a h => .inl (hB a (G.bb_U.mp h)), by show g.N ≤ g2.N; rw [hN]; exact Nat.le_refl _, fun n _ => by show g2.μ n = g.μ n; rw [hμ], hZ⟩
theorem Shr.bb {d : D} {v : V} (s : Shr T g H d v) : Shr T g.bb H d v := s.stay (stay_bb rfl rfl fun _ h => .inr (.inr h))
theorem FrE.bb (f : FrE g H g' H') : Stay g.bb H g'.bb H' where
  keep := fun a o h hu => f.keep a o h fun z => hu (G.bb_U.mpr z)
  own := fun a h => (f.B a (G.bb_U.mp h)).imp G.bb_U.mpr id
  N := f.N
  μ := f.μ
  Z := f.Z
mutual
theorem imm_shr (nt : ∀ a, g.U a → ∀ u, ¬ Rd H a (.tup u)) : ∀ (d : D) (v : V), immD d = true → Shr T g2 H d v → Shr T g H d v
  | .non, _, _, h => by simpa only [Shr] using h
  | .bl _, _, _, h => by simpa only [Shr] using h
  | .int _, _, _, h => by simpa only [Shr] using h
  | .str _, _, _, h => by simpa only [Shr] using h
  | .tup l, v, e, h => by
    simp only [Shr] at h ⊢
    obtain ⟨a, vs, e2, q, r⟩ := h
    exact ⟨a, vs, e2, q.imp (fun z => ⟨z.1, fun u => nt a u _ z.1⟩) id, imm_shrL nt l vs (by simpa only [immD] using e) r⟩
  | .lst _, _, e, _ => by simp only [immD] at e; cases e
  | .scr _, _, e, _ => by simp only [immD] at e; cases e
  | .dct _, _, e, _ => by simp only [immD] at e; cases e
  | .obj _, _, e, _ => by simp only [immD] at e; cases e
  | .fn _ _, _, e, _ => by simp only [immD] at e; cases e
  | .gone _, _, e, _ => by simp only [immD] at e; cases e
theorem imm_shrL (nt : ∀ a, g.U a → ∀ u, ¬ Rd H a (.tup u)) : ∀ (ds : List D) (vs : List V), immL ds = true → ShrL T g2 H ds vs → ShrL T g H ds vs
  | [], _, _, h => by simpa only [ShrL] using h
  | d :: ds, vs, e, h => by
    simp only [ShrL] at h ⊢
    simp only [immL, Bool.and_eq_true] at e
    obtain ⟨v, ws, e2, q, r⟩ := h
    exact ⟨v, ws, e2, imm_shr nt d v e.1 q, imm_shrL nt ds ws e.2 r⟩
end
theorem shr_of_own2 (st : Stay g2 H g H) : ∀ (k : Nat) (Fo : Addr → Prop) (d : D) (v : V), (∀ a, Fo a → ¬ g.U a) → Own T g2 H k Fo d v → Shr T g H d v := by
  intro k
  suffices hs : ∀ (k : Nat) (Fo F : Addr → Prop) (d : D) (v : V), (∀ a, F a → Fo a) → (∀ a, Fo a → ¬ g.U a) → Own T g2 H k F d v → Shr T g H d v from fun Fo d v h1 h => hs k Fo Fo d v (fun _ z => z) h1 h
  intro k
  induction k with
  | zero => intro Fo F d v hf hu h; simp only [Own] at h; exact h.stay st
  | succ k ih =>
    intro Fo F d v hf hu h
    cases d with
    | lst l =>
      simp only [Own] at h
      obtain ⟨p, vs, e, hF, hH, hl, Gs, h1, h2, h3⟩ := h
      exact shr_lst.mpr ⟨p, vs, e, ⟨hH, hu p (hf p hF)⟩, .of hl fun i d w a b => ih Fo (Gs i) d w (fun a z => hf a (h1 i a z).1) hu (h3 i d w a b)⟩
    | dct l =>
      simp only [Own] at h
      obtain ⟨p, vs, e, hF, hH, hl, Gs, h1, h2, h3⟩ := h
      simp only [Shr]
      exact ⟨p, vs, e, ⟨hH.shr, hu p (hf p hF)⟩, .of hl fun i d w a b => ⟨(h3 i d w a b).1.stay st, ih Fo (Gs i) d.2 w.2 (fun a z => hf a (h1 i a z).1) hu (h3 i d w a b).2⟩⟩
    | _ => simp only [Own] at h; exact h.stay st
theorem own1_lst {F : Addr → Prop} {l : List D} {v : V} : Own T g H 1 F (.lst l) v ↔ ∃ p vs, v = .ref p ∧ F p ∧ H p = some (.lst vs) ∧ ShrL T g H l vs := by
  simp only [Own]
  constructor
  · rintro ⟨p, vs, e, hF, hH, hl, Gs, h1, h2, h3⟩
    exact ⟨p, vs, e, hF, hH, .of hl fun i d w a b => h3 i d w a b⟩
  · rintro ⟨p, vs, e, hF, hH, s⟩
    refine ⟨p, vs, e, hF, hH, s.length, fun _ _ => False, fun _ _ z => z.elim, fun _ _ _ z => z.elim, fun j d w a b => ?_⟩
    obtain ⟨w', h1, h2⟩ := s.get a
    rw [b] at h1; cases h1
    exact h2
theorem Rel.bb (R : Rel T g Γ ρ S σ H) {i : Nat} {d : D} (e : ρ[i]? = some (some d)) (hm : ∀ v, Γ.getD i .s ≠ .e v) (hm2 : ∀ w dd fs, Γ.getD i .s ≠ .x w dd fs) : ∃ v, σ[i]? = some (some v) ∧ Shr T g.bb H d v := by
  obtain ⟨v, h1, h2⟩ := R.slot i d e
  refine ⟨v, h1, ?_⟩
  have st : Stay g H g.bb H := stay_bb rfl rfl fun _ h => .inr (.inr h)
  cases hq : Γ.getD i .s <;> rw [hq] at h2 <;> simp only [RepM] at h2
  · exact h2.bb
  · exact shr_of_own2 st _ _ _ _ (fun a z u => R.dFB i a z (G.bb_U.mp u)) h2
  · exact shr_of_own2 st _ _ _ _ (fun a z u => R.dOB a z (G.bb_U.mp u)) h2
  · exact shr_of_own2 st _ _ _ _ (fun a z u => R.dFB i a z (G.bb_U.mp u)) h2.2
  · exact absurd hq (hm _)
  · exact h2.stay (show Stay g.bare H g.bb H from stay_bb rfl rfl fun _ h => .inr (.inr h))
  · exact absurd hq (hm2 _ _ _)
end
def GoodQ (T : Th) (W : WX) (Γ : List Md) (ρ : Env) (σ : L2.St) (g : G) (H : Hp) : RE → VK → Prop
  | .ok d S', Q => ∀ v g' H', Rel T g' Γ ρ S' σ H' → FrE g H g' H' → Shr T g'.bb H' d v → Q v H'
  | .exc x S', _ => ∀ c dd g' H', Rel T g' Γ ρ S' σ H' → FrE g H g' H' → ExcR T g' H' x c dd → W c dd σ H'
  | .no, _ => False
def tQ (T : Th) (W : WX) (Γ : List Md) (F : FE) : TE := fun σ H Q => ∃ g ρ S, Rel T g Γ ρ S σ H ∧ GoodQ T W Γ ρ σ g H (F ρ S) Q
abbrev XQ (X : Cx) (T : Th) (W : WX) (Γ : List Md) (e : Expr) (F : FE) : Prop := PE X e (tQ T W Γ F)
def eFlat (a : FE) : FE := fun ρ S => (a ρ S).bind fun d S1 => if immD d = true then .ok d S1 else .no
section
variable {X : Cx} {T : Th} {W : WX} {Γ : List Md}
theorem xq_of {e : Expr} {F : FE} (h : XE X T W Γ e F) : XQ X T W Γ e F := pe_imp h fun σ H Q ⟨g, ρ, S, R, hg⟩ => by
  refine ⟨g, ρ, S, R, ?_⟩
  cases r : F ρ S with
  | ok d S1 => rw [r] at hg; exact fun v g' H' R' f' s => hg v g' H' R' f' s.bb
  | exc x S1 => rw [r] at hg; exact hg
  | no => rw [r] at hg; exact hg
theorem xq_var {i : Nat} {e : Expr} (he : PE X e (tVar i)) (hm : ∀ v, Γ.getD i .s ≠ .e v) (hm2 : ∀ w dd fs, Γ.getD i .s ≠ .x w dd fs := by intro w dd fs h; first | cases h | (rw [rep_s] at h; cases h) | simp_all) : XQ X T W Γ e (eVar i) := pe_imp he fun σ H Q ⟨g, ρ, S, R, h⟩ => by
  have h : GoodQ T W Γ ρ σ g H (match ρ[i]? with | some (some d) => RE.ok d S | _ => .no) Q := h
  split at h
  · rename_i d e
    obtain ⟨v, h1, h2⟩ := R.bb e hm hm2
    exact ⟨v, h1, h v g H R (.refl g H) h2⟩
  · exact h.elim
theorem xe_flat {e : Expr} {F : FE} (h : XQ X T W Γ e F) : XE X T W Γ e (eFlat F) := pe_imp h fun σ H Q ⟨g, ρ, S, R, hg⟩ => by
  refine ⟨g, ρ, S, R, ?_⟩
  unfold eFlat at hg
  cases r : F ρ S with
  | ok d S1 =>
    rw [r] at hg
    have hg : GoodE T W Γ ρ σ g H (if immD d = true then RE.ok d S1 else .no) Q := hg
    split at hg
    · rename_i hd
      exact fun v g' H' R' f' s => hg v g' H' R' f' (imm_shr R'.nt d v hd s)
    · exact hg.elim
  | exc x S1 => rw [r] at hg; exact hg
  | no => rw [r] at hg; exact hg
theorem goodQ_bind {ρ : Env} {σ : L2.St} {g : G} {H : Hp} {r : RE} {k : D → Store → RE} {Q Q' : VK} (h : GoodQ T W Γ ρ σ g H (r.bind k) Q)
    (hk : ∀ d S v g' H', r = .ok d S → Rel T g' Γ ρ S σ H' → FrE g H g' H' → Shr T g'.bb H' d v → GoodQ T W Γ ρ σ g' H' (k d S) Q → Q' v H') : GoodQ T W Γ ρ σ g H r Q' := by
  cases r with
  | ok d S =>
    intro v g' H' R f s
    refine hk d S v g' H' rfl R f s ?_
    have h' : GoodQ T W Γ ρ σ g H (k d S) Q := h
    cases e : k d S with
    | ok d2 S2 =>
      rw [e] at h'
      exact fun v2 g2 H2 R2 f2 s2 => h' v2 g2 H2 R2 (f.trans f2) s2
    | exc x S2 =>
      rw [e] at h'
      exact fun c dd g2 H2 R2 f2 s2 => h' c dd g2 H2 R2 (f.trans f2) s2
    | no => rw [e] at h'; exact h'
  | exc x S => exact h
  | no => exact h
theorem goodQ_of {ρ : Env} {σ : L2.St} {g : G} {H : Hp} {S : Store} {o : Option D} {Q : VK} (h : GoodQ T W Γ ρ σ g H (.of S o) Q) : ∃ d, o = some d ∧ GoodQ T W Γ ρ σ g H (.ok d S) Q := by
  cases o with
  | none => exact h.elim
  | some d => exact ⟨d, rfl, h⟩
def GoodQL (T : Th) (W : WX) (Γ : List Md) (ρ : Env) (σ : L2.St) (g : G) (H : Hp) : RL → (List V → Hp → Prop) → Prop
  | .ok d S', Q => ∀ v g' H', Rel T g' Γ ρ S' σ H' → FrE g H g' H' → ShrL T g'.bb H' d v → Q v H'
  | .exc x S', _ => ∀ c dd g' H', Rel T g' Γ ρ S' σ H' → FrE g H g' H' → ExcR T g' H' x c dd → W c dd σ H'
  | .no, _ => False
def tQL (T : Th) (W : WX) (Γ : List Md) (F : FL) : TA := fun σ H Q => ∃ g ρ S, Rel T g Γ ρ S σ H ∧ GoodQL T W Γ ρ σ g H (F ρ S) Q
abbrev XQL (X : Cx) (T : Th) (W : WX) (Γ : List Md) (es : List Expr) (F : FL) : Prop := PA X es (tQL T W Γ F)
theorem xql_nil : XQL X T W Γ [] lNil := pa_imp pa_nil fun σ H Q ⟨g, ρ, S, R, hg⟩ => hg [] g H R (.refl g H) .nil
theorem xql_cons {e : Expr} {es : List Expr} {A : FE} {B : FL} (ha : XQ X T W Γ e A) (hb : XQL X T W Γ es B) (hx : PE X e (tQ T W Γ A) → PA X es (tQL T W Γ B) → PA X (e :: es) (tCons (tQ T W Γ A) (tQL T W Γ B))) : XQL X T W Γ (e :: es) (lCons A B) := pa_imp (hx ha hb) fun σ H Q ⟨g, ρ, S, R, hg⟩ => by
  refine ⟨g, ρ, S, R, ?_⟩
  unfold lCons at hg
  cases e : A ρ S with
  | ok x S1 =>
    rw [e] at hg
    intro v g1 H1 R1 f1 s1
    refine ⟨g1, ρ, S1, R1, ?_⟩
    have hg : GoodQL T W Γ ρ σ g H (match B ρ S1 with | .ok xs S2 => .ok (x :: xs) S2 | .exc x S2 => .exc x S2 | .no => .no) Q := hg
    cases e2 : B ρ S1 with
    | ok xs S2 =>
      rw [e2] at hg
      exact fun vs g2 H2 R2 f2 s2 => hg (v :: vs) g2 H2 R2 (f1.trans f2) (.cons (s1.stay f2.bb) s2)
    | exc y S2 =>
      rw [e2] at hg
      exact fun c dd g2 H2 R2 f2 s2 => hg c dd g2 H2 R2 (f1.trans f2) s2
    | no =>
      rw [e2] at hg
      exact hg
  | exc y S1 => rw [e] at hg; exact hg
  | no => rw [e] at hg; exact hg
theorem goodQL_then {ρ : Env} {σ : L2.St} {g : G} {H : Hp} {A : FL} {h : List D → Option D} {S : Store} {Q : VK} {Q' : List V → Hp → Prop} (hg : GoodQ T W Γ ρ σ g H (eL h A ρ S) Q)
    (hk : ∀ ds S' z vs g' H', h ds = some z → Rel T g' Γ ρ S' σ H' → FrE g H g' H' → ShrL T g'.bb H' ds vs → GoodQ T W Γ ρ σ g' H' (.ok z S') Q → Q' vs H') : GoodQL T W Γ ρ σ g H (A ρ S) Q' := by
  unfold eL at hg
  cases e : A ρ S with
  | ok ds S' =>
    rw [e] at hg
    intro vs g' H' R f s
    obtain ⟨z, ez, hg⟩ := goodQ_of hg
    exact hk ds S' z vs g' H' ez R f s fun v2 g2 H2 R2 f2 s2 => hg v2 g2 H2 R2 (f.trans f2) s2
  | exc x S' => rw [e] at hg; exact hg
  | no => rw [e] at hg; exact hg
theorem xq_L {e : Expr} {r : List V → Hp → VK → Prop} {h : List D → Option D} {as : List Expr} {A : FL} (ok : LsOk T r h) (ha : XQL X T W Γ as A) (he : PA X as (tQL T W Γ A) → PE X e (tCB r (tQL T W Γ A))) : XQ X T W Γ e (eL h A) := pe_imp (he ha) fun σ H Q ⟨g, ρ, S, R, hg⟩ =>
  ⟨g, ρ, S, R, goodQL_then hg fun ds S1 z vs g1 H1 ez R1 f1 s1 hg1 => ok g1.bb H1 ds z vs s1 ez (fun a u => R1.dom a (.inr (.inr (G.bb_U.mp u)))) Q fun u H' ex su => hg1 u g1 H' (R1.ex ex) (.ex ex) su⟩
end
def GoodN (T : Th) (W : WX) (Γ : List Md) (k : Nat) (ρ : Env) (σ : L2.St) (g : G) (H : Hp) : RE → VK → Prop
  | .ok d S', Q => ∀ v g' H' Fo, Rel T (g'.plusF ρ.length Fo) Γ ρ S' σ H' → FrE g H g' H' → (∀ a, Fo a → ¬ g'.U a ∧ (g.B a ∨ H a = none)) → Own T (g'.plusF ρ.length Fo) H' k Fo d v → Q v H'
  | .exc x S', _ => ∀ c dd g' H', Rel T g' Γ ρ S' σ H' → FrE g H g' H' → ExcR T g' H' x c dd → W c dd σ H'
  | .no, _ => False
def tN (T : Th) (W : WX) (Γ : List Md) (k : Nat) (F : FE) : TE := fun σ H Q => ∃ g ρ S, Rel T g Γ ρ S σ H ∧ GoodN T W Γ k ρ σ g H (F ρ S) Q
abbrev XF (X : Cx) (T : Th) (W : WX) (Γ : List Md) (k : Nat) (e : Expr) (F : FE) : Prop := PE X e (tN T W Γ k F)
section
variable {X : Cx} {T : Th} {W : WX} {Γ : List Md} {g g' : G} {H H' : Hp} {ρ : Env} {S S' : Store} {σ : L2.St} {Fo : Addr → Prop}
theorem Rel.unplus (R : Rel T (g.plusF ρ.length Fo) Γ ρ S σ H) : Rel T g Γ ρ S σ H := by
  refine R.shift rfl rfl rfl rfl (fun a h => G.plusF_U.mpr (.inl h)) (fun i j a h h' => R.dF i j a (.inl h) (.inl h')) (fun i a h => R.dFO i a (.inl h)) (fun a h => .inl h) (fun i a h => .inl ⟨i, .inl h⟩) R.len fun st i d e => ?_
  obtain ⟨v, h1, h2⟩ := R.slot i d e
  have hi : i < ρ.length := (List.getElem?_eq_some_iff.mp e).1
  exact ⟨v, h1, h2.stay st (fun a z => z.elim id fun z => absurd z.1 (by omega)) (fun a z => z) rfl (bare_sub rfl rfl (fun i a z => ⟨i, .inl z⟩) fun _ z => z)⟩
theorem stay_unplus {n : Nat} : Stay (g.plusF n Fo) H g H := ⟨fun _ _ h _ => h, fun a h => .inl (G.plusF_U.mpr (.inl h)), Nat.le_refl _, fun _ _ => rfl, rfl⟩
theorem xe_of {k : Nat} {e : Expr} {F : FE} (h : XF X T W Γ k e F) : XE X T W Γ e F := pe_imp h fun σ H Q ⟨g, ρ, S, R, hg⟩ => by
  refine ⟨g, ρ, S, R, ?_⟩
  cases r : F ρ S with
  | ok d S1 =>
    rw [r] at hg
    exact fun v g' H' Fo R' f' ho hw => hg v g' H' R'.unplus f' (shr_of_own2 stay_unplus k Fo d v (fun a z => (ho a z).1) hw)
  | exc x S1 => rw [r] at hg; exact hg
  | no => rw [r] at hg; exact hg
theorem Rel.fresh {p : Addr} {o : HO} (R : Rel T g Γ ρ S σ H) (hp : H p = none) (ho : ∀ u, o ≠ .tup u ∧ ∀ b, o ≠ .frz b (.tup u)) : Rel T (g.plusF ρ.length (· = p)) Γ ρ S σ (upd H p o) := by
  have ex : Exx H (upd H p o) := Exx.new hp
  have np : ∀ a, g.U a → a ≠ p := fun a u z => by
    obtain ⟨o, q⟩ := R.dom a u
    rw [z, hp] at q; cases q
  have st : Stay g H (g.plusF ρ.length (· = p)) (upd H p o) := ⟨fun a o h _ => ex a o h, fun a h => (G.plusF_U.mp h).imp id fun z => by rw [z]; exact hp, Nat.le_refl _, fun _ _ => rfl, rfl⟩
  have stb : Stay g.bare H (g.plusF ρ.length (· = p)).bare (upd H p o) := ⟨fun a o h _ => ex a o h, fun a h => by
    rcases h with h | ⟨j, h | h⟩ | h
    · exact h.elim
    · exact .inl (.inr (.inl ⟨j, h⟩))
    · exact .inr (by rw [h.2]; exact hp)
    · exact .inl (.inr (.inr h)), Nat.le_refl _, fun _ _ => rfl, rfl⟩
  refine ⟨R.len, fun i d e => ?_, fun i j a h h' => ?_, fun i a h u => ?_, fun i a h u => ?_, R.dOB, fun a h => ?_, R.st.keep st (fun a o _ q => ex a o q) rfl rfl rfl fun _ _ => rfl, fun a h => ?_⟩
  · obtain ⟨v, h1, h2⟩ := R.slot i d e
    refine ⟨v, h1, ?_⟩
    cases hm : Γ.getD i .s <;> rw [hm] at h2 <;> simp only [RepM] at h2 ⊢
    · exact h2.stay st
    · exact Own.wide _ _ _ _ _ (fun a z => .inl z) (Own.keepF st _ _ _ _ (fun a o _ q => ex a o q) h2)
    · exact Own.keepF st _ _ _ _ (fun a o _ q => ex a o q) h2
    · exact ⟨h2.1, Own.wide _ _ _ _ _ (fun a z => .inl z) (Own.keepF st _ _ _ _ (fun a o _ q => ex a o q) h2.2)⟩
    · exact h2
    · exact h2.stay stb
    · exact ⟨h2.1, (st).keep _ _ h2.2.1 h2.2.2, (st).off h2.2.1 h2.2.2⟩
  · rcases h with h | h <;> rcases h' with h' | h'
    · exact R.dF i j a h h'
    · exact absurd h'.2 (np a (.inr (.inl ⟨i, h⟩)))
    · exact absurd h.2 (np a (.inr (.inl ⟨j, h'⟩)))
    · rw [h.1, h'.1]
  · rcases h with h | h
    · exact R.dFO i a h u
    · exact np a (.inl u) h.2
  · rcases h with h | h
    · exact R.dFB i a h u
    · exact np a (.inr (.inr u)) h.2
  · rcases G.plusF_U.mp h with u | u
    · obtain ⟨o, q⟩ := R.dom a u
      exact ⟨o, ex a o q⟩
    · exact ⟨o, by rw [u]; exact upd_same⟩
  · rcases G.plusF_U.mp h with u | u
    · exact ex.nt R.dom R.nt a u
    · intro w r
      rw [u] at r
      rcases r with r | ⟨b, r⟩
      · rw [upd_same] at r; cases r; exact (ho w).1 rfl
      · rw [upd_same] at r; cases r; exact (ho w).2 b rfl
theorem stay_fresh {p : Addr} {o : HO} (hp : H p = none) : Stay g H (g.plusF ρ.length (· = p)) (upd H p o) := ⟨fun a o h _ => Exx.new hp a o h, fun a h => (G.plusF_U.mp h).imp id fun z => by rw [z]; exact hp, Nat.le_refl _, fun _ _ => rfl, rfl⟩
theorem Rel.fresh_lst {p : Addr} {l : List D} {vs : List V} (R : Rel T g Γ ρ S σ H) (hp : H p = none) (s : ShrL T g H l vs) : Own T (g.plusF ρ.length (· = p)) (upd H p (.lst vs)) 1 (· = p) (.lst l) (.ref p) := own1_lst.mpr ⟨p, vs, rfl, rfl, upd_same, s.stay (stay_fresh hp)⟩
theorem Rel.fresh_out {p : Addr} (R : Rel T g Γ ρ S σ H) (hp : H p = none) : ∀ a, a = p → ¬ g.U a ∧ (g.B a ∨ H a = none) := fun a z => by
  refine ⟨fun u => ?_, .inr (by rw [z]; exact hp)⟩
  obtain ⟨o, q⟩ := R.dom a u
  rw [z, hp] at q; cases q
theorem goodN_then {A : FL} {h : List D → Option D} {k : Nat} {Q : VK} {Q' : List V → Hp → Prop} (hg : GoodN T W Γ k ρ σ g H (eL h A ρ S) Q)
    (hk : ∀ ds S' z vs g' H', h ds = some z → Rel T g' Γ ρ S' σ H' → FrE g H g' H' → ShrL T g' H' ds vs → GoodN T W Γ k ρ σ g H (.ok z S') Q → Q' vs H') : GoodL T W Γ ρ σ g H (A ρ S) Q' := by
  unfold eL at hg
  cases e : A ρ S with
  | ok ds S' =>
    rw [e] at hg
    intro vs g' H' R f s
    have hg : GoodN T W Γ k ρ σ g H (RE.of S' (h ds)) Q := hg
    cases ez : h ds with
    | none => rw [ez] at hg; exact hg.elim
    | some z => rw [ez] at hg; exact hk ds S' z vs g' H' ez R f s hg
  | exc x S' => rw [e] at hg; exact hg
  | no => rw [e] at hg; exact hg
theorem FrE.none {p : Addr} (f : FrE g H g' H') (hp : H' p = none) : g.B p ∨ H p = none := by
  cases e : H p with
  | none => exact .inr rfl
  | some o =>
    obtain ⟨o', h'⟩ := f.dom p o e
    rw [hp] at h'; cases h'
theorem xf_lst {es : List Expr} {A : FL} (ha : XL X T W Γ es A) {pos : Pos} : XF X T W Γ 1 (.List es pos) (eLst A) := pe_imp (pe_lst ha) fun σ H Q ⟨g, ρ, S, R, hg⟩ =>
  ⟨g, ρ, S, R, goodN_then hg fun ds S1 z vs g1 H1 ez R1 f1 s1 hg1 => by
    split at ez
    · rename_i hl
      cases ez
      refine ⟨by rw [← s1.length]; exact sz6 hl, fun p hp => hg1 _ g1 _ (· = p) (R1.fresh hp fun _ => ⟨nofun, fun _ => nofun⟩) (f1.trans (.ex (Exx.new hp))) (fun a z => ⟨(R1.fresh_out hp a z).1, ?_⟩) (R1.fresh_lst hp s1)⟩
      rw [z]; exact f1.none hp
    · cases ez⟩
def G.take (g : G) (i : Nat) (Fo : Addr → Prop) : G := { g with F := fun j a => (j = i ∧ Fo a) ∨ (j ≠ i ∧ g.F j a) }
theorem xs_ownP {J : Jd} {Γ' : List Md} {i k : Nat} {A : FE} {st : Stmt} (hx : J.ΓX Γ) (hi : i < Γ.length) (he : PS X st (tAsg (tN T J.W Γ k A) (gName i))) (hΓ : Γ.set i (.o k) = Γ') : XS X T J Γ Γ' st (fSet i A) := ps_imp he fun D σ H ⟨g, ρ, S, R, h⟩ => by
  refine ⟨g, ρ, S, R, ?_⟩
  unfold fSet at h
  cases r : A ρ S with
  | no => rw [r] at h; exact h
  | exc x S1 => rw [r] at h; exact fun c dd g' H' R' f e => h Γ c dd σ g' H' hx R' (f.frs R.dOB) e
  | ok d S1 =>
    rw [r] at h
    intro v g' H' Fo R' f ho hw
    have h : GoodS T J Γ' g H (.nx (ρ.set i (some d)) S1) D := h
    refine h (σ.set i (some v)) (g'.take i Fo) H' ?_ ?_
    · rw [← hΓ]
      have hsub : ∀ j a, (g'.take i Fo).F j a → ∃ k, (g'.plusF ρ.length Fo).F k a := fun j a z => by
        rcases z with z | z
        · exact ⟨ρ.length, .inr ⟨rfl, z.2⟩⟩
        · exact ⟨j, .inl z.2⟩
      have hUU : ∀ a, (g'.take i Fo).U a → (g'.plusF ρ.length Fo).U a := fun a u => by
        rcases u with u | ⟨j, u⟩ | u
        · exact .inl u
        · exact .inr (.inl (hsub j a u))
        · exact .inr (.inr u)
      refine R'.shift rfl rfl rfl rfl hUU (fun j k a h h' => ?_) (fun j a h u => ?_) (fun a h => .inl h) (fun j a h => .inl (hsub j a h)) (by simp [R'.len]) fun st j d' e => ?_
      · rcases h with h | h <;> rcases h' with h' | h'
        · rw [h.1, h'.1]
        · exact absurd (.inr (.inl ⟨k, h'.2⟩)) (ho a h.2).1
        · exact absurd (.inr (.inl ⟨j, h.2⟩)) (ho a h'.2).1
        · exact R'.dF j k a (.inl h.2) (.inl h'.2)
      · rcases h with h | h
        · exact (ho a h.2).1 (.inl u)
        · exact R'.dFO j a (.inl h.2) u
      · by_cases hj : i = j
        · subst hj
          have hlt : i < ρ.length := by
            have := (List.getElem?_eq_some_iff.mp e).1
            simpa using this
          rw [List.getElem?_set_self hlt] at e
          cases e
          refine ⟨v, by rw [List.getElem?_set_self (by rw [← R'.len]; exact hlt)], ?_⟩
          rw [getD_set_self hi]
          have q : Own T (g'.take i Fo) H' k Fo d v := Own.keepF st _ _ _ _ (fun _ _ _ q => q) hw
          exact Own.wide k _ ((g'.take i Fo).F i) d v (fun a z => .inl ⟨rfl, z⟩) q
        · rw [List.getElem?_set_ne hj] at e
          obtain ⟨w, h1, h2⟩ := R'.slot j d' e
          have hjl : j < ρ.length := (List.getElem?_eq_some_iff.mp e).1
          refine ⟨w, by rw [List.getElem?_set_ne hj]; exact h1, ?_⟩
          rw [getD_set_ne hj]
          exact h2.stay st (fun a z => .inr ⟨fun z => hj z.symm, z.elim id fun z => absurd z.1 (by omega)⟩) (fun a z => z) rfl (bare_sub rfl rfl hsub fun _ z => z)
    · have f' := f.frs R.dOB
      refine ⟨f'.keep, fun a u => ?_, f'.O, f'.P, f'.N, f'.μ, f'.dom⟩
      rcases u with u | ⟨j, u | u⟩ | u
      · exact f'.own a (.inl u)
      · exact (ho a u.2).2.imp (fun z => .inr (.inr z)) id
      · exact f'.own a (.inr (.inl ⟨j, u.2⟩))
      · exact f'.own a (.inr (.inr u))
theorem xs_own {J : Jd} {Γ' : List Md} {i k : Nat} {e : Expr} {A : FE} {st : Stmt} (hx : J.ΓX Γ) (hi : i < Γ.length) (ha : XF X T J.W Γ k e A) (he : PE X e (tN T J.W Γ k A) → PS X st (tAsg (tN T J.W Γ k A) (gName i))) (hΓ : Γ.set i (.o k) = Γ') : XS X T J Γ Γ' st (fSet i A) := xs_ownP hx hi (he ha) hΓ
theorem Rel.frz {i : Nat} {k : Nat} (R : Rel T g Γ ρ S σ H) (hm : Γ.getD i .s = .o k) : Rel T (g.drop i) (Γ.set i .s) ρ S σ H := by
  refine R.shift rfl rfl rfl rfl (fun a h => G.drop_U h) (fun j k a h h' => R.dF j k a h.2 h'.2) (fun j a h => R.dFO j a h.2) (fun a h => .inl h) (fun j a h => .inl ⟨j, h.2⟩) R.len fun st j d' e => ?_
  obtain ⟨w, h1, h2⟩ := R.slot j d' e
  refine ⟨w, h1, ?_⟩
  by_cases hj : i = j
  · subst hj
    rw [getD_set_s]
    rw [hm] at h2
    refine shr_of_own2 st k (g.F i) d' w (fun a z u => ?_) h2
    rcases u with u | ⟨j, u⟩ | u
    · exact R.dFO i a z u
    · exact u.1 (R.dF j i a u.2 z)
    · exact R.dFB i a z u
  · rw [getD_set_ne hj]
    exact h2.stay st (fun a z => ⟨fun q => hj q.symm, z⟩) (fun a z => z) rfl (bare_sub rfl rfl (fun i a z => ⟨i, z.2⟩) fun _ z => z)
theorem xb_frz {J : Jd} {Γ' Γ1 : List Md} {i k : Nat} {rest : List Stmt} {B : FS} (hm : Γ.getD i .s = .o k) (hΓ : Γ.set i .s = Γ1) (hb : XB X T J Γ1 Γ' rest B) : XB X T J Γ Γ' rest B := pss_imp hb fun D σ H ⟨g, ρ, S, R, h⟩ =>
  ⟨g.drop i, ρ, S, by rw [← hΓ]; exact R.frz hm, GoodS.then h .drop⟩
theorem Rel.write {i : Nat} {p : Addr} {o : HO} {d : D} {v : V} (R : Rel T g Γ ρ S σ H) (hp : g.F i p) (ho : ∀ u, o ≠ .tup u ∧ ∀ b, o ≠ .frz b (.tup u)) (hv : σ[i]? = some (some v))
    (hr : Stay g H g (upd H p o) → RepM T g (upd H p o) i (Γ.getD i .s) d v) : Rel T g Γ (ρ.set i (some d)) S σ (upd H p o) := by
  have st : Stay g H g (upd H p o) := ⟨fun a u h hu => by rw [upd_ne (fun z => hu (.inr (.inl ⟨i, by rw [z]; exact hp⟩)))]; exact h, fun _ h => .inl h, Nat.le_refl _, fun _ _ => rfl, rfl⟩
  have stb : Stay g.bare H g.bare (upd H p o) := ⟨fun a u h hu => by rw [upd_ne (fun z => hu (.inr (.inl ⟨i, by rw [z]; exact hp⟩)))]; exact h, fun _ h => .inl h, Nat.le_refl _, fun _ _ => rfl, rfl⟩
  refine ⟨by simp [R.len], fun j d' e => ?_, R.dF, R.dFO, R.dFB, R.dOB, fun a h => ?_, R.st.keep st (fun a u hb h => by rw [upd_ne (fun z => R.dFB i p hp (by rw [← z]; exact hb))]; exact h) rfl rfl rfl fun _ _ => rfl, nt_upd R.nt ho⟩
  · by_cases hj : i = j
    · subst hj
      have hlt : i < ρ.length := by
        have := (List.getElem?_eq_some_iff.mp e).1
        simpa using this
      rw [List.getElem?_set_self hlt] at e
      cases e
      exact ⟨v, hv, hr st⟩
    · rw [List.getElem?_set_ne hj] at e
      obtain ⟨w, h1, h2⟩ := R.slot j d' e
      refine ⟨w, h1, ?_⟩
      have kF : ∀ a u, g.F j a → H a = some u → upd H p o a = some u := fun a u z q => by rw [upd_ne (fun w => hj (R.dF i j p hp (by rw [← w]; exact z)))]; exact q
      cases hm : Γ.getD j .s <;> rw [hm] at h2 <;> simp only [RepM] at h2 ⊢
      · exact h2.stay st
      · exact Own.keepF st _ _ _ _ kF h2
      · exact Own.keepF st _ _ _ _ (fun a u z q => by rw [upd_ne (fun w => R.dFO i p hp (by rw [← w]; exact z))]; exact q) h2
      · exact ⟨h2.1, Own.keepF st _ _ _ _ kF h2.2⟩
      · exact h2
      · exact h2.stay stb
      · exact ⟨h2.1, (st).keep _ _ h2.2.1 h2.2.2, (st).off h2.2.1 h2.2.2⟩
  · by_cases ha : a = p
    · subst ha; exact ⟨o, upd_same⟩
    · rw [upd_ne ha]; exact R.dom a h
theorem Rel.wrote {i : Nat} {p : Addr} {o : HO} (R : Rel T g Γ ρ S σ H) (hp : g.F i p) : FrS g H g (upd H p o) :=
  ⟨fun a u h hu => by rw [upd_ne (fun z => hu.elim (fun w => w (.inr (.inl ⟨i, by rw [z]; exact hp⟩))) fun w => R.dFO i p hp (by rw [← z]; exact w))]; exact h, fun _ h => .inl h, rfl, rfl, Nat.le_refl _, fun _ _ => rfl, fun a u h => by
    by_cases ha : a = p
    · subst ha; exact ⟨o, upd_same⟩
    · exact ⟨u, by rw [upd_ne ha]; exact h⟩⟩
def isOwn1 : Md → Prop
  | .o 1 => True
  | .p 1 => True
  | _ => False
theorem Rel.own1 {i : Nat} {l : List D} (R : Rel T g Γ ρ S σ H) (hm : isOwn1 (Γ.getD i .s)) (e : ρ[i]? = some (some (.lst l))) : ∃ p vs, σ[i]? = some (some (.ref p)) ∧ g.F i p ∧ H p = some (.lst vs) ∧ ShrL T g H l vs ∧
    ∀ (l' : List D) (vs' : List V) (H' : Hp), H' p = some (.lst vs') → ShrL T g H' l' vs' → RepM T g H' i (Γ.getD i .s) (.lst l') (.ref p) := by
  obtain ⟨v, h1, h2⟩ := R.slot i _ e
  cases hq : Γ.getD i .s <;> rw [hq] at h2 hm <;> simp only [isOwn1] at hm
  · rename_i k
    split at hm
    · rename_i hk
      cases hk
      obtain ⟨p, vs, rfl, hF, hH, s⟩ := own1_lst.mp (show Own T g H 1 (g.F i) (.lst l) v from h2)
      exact ⟨p, vs, h1, hF, hH, s, fun l' vs' H' a b => own1_lst.mpr ⟨p, vs', rfl, hF, a, b⟩⟩
    · rename_i hk; cases hk
    · exact hm.elim
  · rename_i k
    split at hm
    · rename_i hk; cases hk
    · rename_i hk
      cases hk
      have h2 : v = g.P i ∧ Own T g H 1 (g.F i) (.lst l) v := h2
      obtain ⟨p, vs, e2, hF, hH, s⟩ := own1_lst.mp h2.2
      subst e2
      exact ⟨p, vs, h1, hF, hH, s, fun l' vs' H' a b => ⟨h2.1, own1_lst.mpr ⟨p, vs', rfl, hF, a, b⟩⟩⟩
    · exact hm.elim
end
end Q

namespace Q
open PySem PySem.Spec PyProof.Rows L2
abbrev HM := List D → List D → Option (D × List D)
def MutOk (T : Th) (r : V → List V → Hp → VK → Prop) (h : HM) : Prop := ∀ (g : G) (H : Hp) (p : Addr) (l ds l' : List D) (z : D) (vs ws : List V), H p = some (.lst vs) → ShrL T g H l vs → ShrL T g H ds ws → g.U p → h l ds = some (z, l') →
  ∀ Q : VK, (∀ u vs', ShrL T g H l' vs' → Shr T g H z u → Q u (upd H p (.lst vs'))) → r (.ref p) ws H Q
def fMut (i : Nat) (h : HM) (a : FL) : FS := fun ρ S => match ρ[i]? with
  | some (some (.lst l)) => (match a ρ S with
    | .ok ds S1 => (match h l ds with
      | some (_, l') => .nx (ρ.set i (some (.lst l'))) S1
      | none => .no)
    | .exc x S1 => .exc x ρ S1
    | .no => .no)
  | _ => .no
def fMutSet (j i : Nat) (h : HM) (a : FL) : FS := fun ρ S => match ρ[i]? with
  | some (some (.lst l)) => (match a ρ S with
    | .ok ds S1 => (match h l ds with
      | some (z, l') => .nx ((ρ.set i (some (.lst l'))).set j (some z)) S1
      | none => .no)
    | .exc x S1 => .exc x ρ S1
    | .no => .no)
  | _ => .no
section
variable {X : Cx} {T : Th} {J : Jd} {Γ : List Md}
theorem mut_core {g1 : G} {ρ : Env} {S1 : Store} {σ : L2.St} {H1 : Hp} {i : Nat} {l ds l' : List D} {z : D} {ws : List V} {r : V → List V → Hp → VK → Prop} {h : HM} {Q : VK} {p : Addr}
    (R1 : Rel T g1 Γ ρ S1 σ H1) (hm : isOwn1 (Γ.getD i .s)) (el : ρ[i]? = some (some (.lst l))) (ev : σ[i]? = some (some (.ref p))) (ok : MutOk T r h) (sw : ShrL T g1 H1 ds ws) (eh : h l ds = some (z, l'))
    (q : ∀ u H2, Rel T g1 Γ (ρ.set i (some (.lst l'))) S1 σ H2 → FrS g1 H1 g1 H2 → Shr T g1 H2 z u → Q u H2) : r (.ref p) ws H1 Q := by
  obtain ⟨p', vs, h1, hF, hH, sl, mk⟩ := R1.own1 hm el
  rw [ev] at h1; cases h1
  refine ok g1 H1 p l ds l' z vs ws hH sl sw (.inr (.inl ⟨i, hF⟩)) eh Q fun u vs' s' su => ?_
  have st : Stay g1 H1 g1 (upd H1 p (.lst vs')) := ⟨fun a o h hu => by rw [upd_ne (fun z => hu (.inr (.inl ⟨i, by rw [z]; exact hF⟩)))]; exact h, fun _ h => .inl h, Nat.le_refl _, fun _ _ => rfl, rfl⟩
  refine q u _ ?_ (R1.wrote hF) (su.stay st)
  refine R1.write hF (fun _ => ⟨nofun, fun _ => nofun⟩) ev fun st => ?_
  exact mk l' vs' _ upd_same (ShrL.stay st _ _ s')
theorem xs_mut {i : Nat} {st : Stmt} {es : List Expr} {A : FL} {r : V → List V → Hp → VK → Prop} {h : HM} (hK : X.K = T.K) (hx : J.ΓX Γ) (hm : isOwn1 (Γ.getD i .s)) (ok : MutOk T r h) (ha : XL X T J.W Γ es A) (he : PA X es (tXL T J.W Γ A) → PS X st (tDrop (tBM X.K "list" r (tVar i) (tXL T J.W Γ A)))) : XS X T J Γ Γ st (fMut i h A) := ps_imp (he ha) fun D σ H ⟨g, ρ, S, R, hg⟩ => by
  unfold fMut at hg
  cases el : ρ[i]? with
  | none => rw [el] at hg; exact hg.elim
  | some o =>
    rw [el] at hg
    match o, hg, el with
    | some (.lst l), hg, el =>
      obtain ⟨p, vs, h1, hF, hH, sl, mk⟩ := R.own1 hm el
      refine ⟨.ref p, h1, .inl ⟨rfl, _, SqL.of hH⟩, g, ρ, S, R, ?_⟩
      cases ea : A ρ S with
      | no => rw [ea] at hg; exact hg
      | exc x S1 => rw [ea] at hg; exact fun c dd g' H' R' f' e => hg Γ c dd σ g' H' hx R' (f'.frs R.dOB) e
      | ok ds S1 =>
        rw [ea] at hg
        intro ws g1 H1 R1 f1 sw
        have hg : GoodS T J Γ g H (match h l ds with | some (_, l') => RS.nx (ρ.set i (some (.lst l'))) S1 | none => .no) D := hg
        cases eh : h l ds with
        | none => rw [eh] at hg; exact hg.elim
        | some zl =>
          rw [eh] at hg
          exact mut_core R1 hm el h1 ok sw eh fun u H2 R2 f2 _ => hg σ g1 H2 R2 ((f1.frs R.dOB).trans f2)
theorem xs_mutset {i j : Nat} {st : Stmt} {es : List Expr} {A : FL} {r : V → List V → Hp → VK → Prop} {h : HM} {Γ' : List Md} (hK : X.K = T.K) (hx : J.ΓX Γ) (hm : isOwn1 (Γ.getD i .s)) (ok : MutOk T r h) (ha : XL X T J.W Γ es A) (he : PA X es (tXL T J.W Γ A) → PS X st (tAsg (tBM X.K "list" r (tVar i) (tXL T J.W Γ A)) (gName j))) (hΓ : Γ.set j .s = Γ') : XS X T J Γ Γ' st (fMutSet j i h A) := ps_imp (he ha) fun D σ H ⟨g, ρ, S, R, hg⟩ => by
  unfold fMutSet at hg
  cases el : ρ[i]? with
  | none => rw [el] at hg; exact hg.elim
  | some o =>
    rw [el] at hg
    match o, hg, el with
    | some (.lst l), hg, el =>
      obtain ⟨p, vs, h1, hF, hH, sl, mk⟩ := R.own1 hm el
      refine ⟨.ref p, h1, .inl ⟨rfl, _, SqL.of hH⟩, g, ρ, S, R, ?_⟩
      cases ea : A ρ S with
      | no => rw [ea] at hg; exact hg
      | exc x S1 => rw [ea] at hg; exact fun c dd g' H' R' f' e => hg Γ c dd σ g' H' hx R' (f'.frs R.dOB) e
      | ok ds S1 =>
        rw [ea] at hg
        intro ws g1 H1 R1 f1 sw
        have hg : GoodS T J Γ' g H (match h l ds with | some (z, l') => RS.nx ((ρ.set i (some (.lst l'))).set j (some z)) S1 | none => .no) D := hg
        cases eh : h l ds with
        | none => rw [eh] at hg; exact hg.elim
        | some zl =>
          rw [eh] at hg
          refine mut_core R1 hm el h1 ok sw eh fun u H2 R2 f2 su => ?_
          exact hg _ (g1.drop j) H2 (by rw [← hΓ]; exact R2.set su) (((f1.frs R.dOB).trans f2).trans .drop)
end
def mAppend : HM
  | l, [d] => if l.length < 1000000 then some (.non, l ++ [d]) else none
  | _, _ => none
def mPop0 : HM
  | d :: l, [.int 0] => some (d, l)
  | _, _ => none
def intsOf : List D → Option (List Int)
  | [] => some []
  | .int i :: r => (intsOf r).map (i :: ·)
  | _ => none
def mRemove : HM
  | l, [.int k] => match intsOf l with
    | some ns => if ns.idxOf k < ns.length then some (.non, (ns.eraseIdx (ns.idxOf k)).map .int) else none
    | none => none
  | _, _ => none
section
variable {T : Th}
theorem len6 {l : List D} {vs : List V} {g : G} {H : Hp} (s : ShrL T g H l vs) (h : l.length < 1000000) : vs.length < sizeLine := by rw [← s.length, sizeLine_eq]; omega
theorem ok_append : MutOk T rAppend mAppend := by
  intro g H p l ds l' z vs ws hH sl sw hu eh Q q
  match ds, eh, sw with
  | [d], eh, sw =>
    simp only [mAppend] at eh
    split at eh
    · rename_i hl
      cases eh
      simp only [ShrL] at sw
      obtain ⟨y, _, rfl, sy, rfl⟩ := sw
      exact ⟨p, vs, y, rfl, rfl, hH, len6 sl hl, q _ _ (sl.append (.cons sy .nil)) (shr_non.mpr rfl)⟩
    · cases eh
theorem ShrL.dropLast {g : G} {H : Hp} {ds : List D} {vs : List V} (h : ShrL T g H ds vs) : ShrL T g H ds.dropLast vs.dropLast := by
  rw [List.dropLast_eq_take, List.dropLast_eq_take, h.length]
  exact h.take _
theorem ok_pop0 : MutOk T rPopAt mPop0 := by
  intro g H p l ds l' z vs ws hH sl sw hu eh Q q
  match l, ds, eh, sw, sl with
  | d :: l, [.int 0], eh, sw, sl =>
    simp only [mPop0] at eh
    cases eh
    simp only [ShrL] at sw
    obtain ⟨y, _, rfl, sy, rfl⟩ := sw
    rw [shr_int.mp sy]
    simp only [ShrL] at sl
    obtain ⟨w, us, rfl, sd, sl⟩ := sl
    refine ⟨p, _, 0, 0, w, rfl, rfl, hH, by decide, by decide, ?_, rfl, q _ _ sl sd⟩
    simp [seqIndex?]
theorem intsOf_map {g : G} {H : Hp} : ∀ {l : List D} {ns : List Int} {vs : List V}, intsOf l = some ns → ShrL T g H l vs → vs = ns.map V.int ∧ l = ns.map D.int
  | [], ns, vs, e, s => by
    cases e
    simp only [ShrL] at s
    subst s
    exact ⟨rfl, rfl⟩
  | d :: r, ns, vs, e, s => by
    cases d <;> simp only [intsOf] at e <;> first | cases e | skip
    rename_i i
    obtain ⟨ms, e1, e2⟩ := Option.map_eq_some_iff.mp e
    subst e2
    simp only [ShrL] at s
    obtain ⟨v, us, rfl, sv, s⟩ := s
    obtain ⟨h1, h2⟩ := intsOf_map e1 s
    rw [shr_int.mp sv, h1, h2]
    exact ⟨rfl, rfl⟩
theorem shrL_int {g : G} {H : Hp} : ∀ ns : List Int, ShrL T g H (ns.map D.int) (ns.map V.int)
  | [] => .nil
  | n :: r => .cons (shr_int.mpr rfl) (shrL_int r)
theorem idx_no {ns : List Int} {k : Int} {m : Nat} (hm : m < ns.idxOf k) (hl : m < ns.length) (e : ns[m] = k) : False := by
  induction ns generalizing m with
  | nil => simp at hl
  | cons a r ih =>
    rw [List.idxOf_cons] at hm
    by_cases ha : a = k
    · rw [ha] at hm; simp at hm
    · have : (a == k) = false := by simp [ha]
      rw [this] at hm
      cases m with
      | zero => exact ha e
      | succ m => exact ih (by simpa using hm) (by simpa using hl) (by simpa using e)
theorem ok_remove : MutOk T rRemI mRemove := by
  intro g H p l ds l' z vs ws hH sl sw hu eh Q q
  match ds, eh, sw with
  | [.int k], eh, sw =>
    simp only [mRemove] at eh
    split at eh
    · rename_i ns en
      split at eh
      · rename_i hlt
        cases eh
        simp only [ShrL] at sw
        obtain ⟨y, _, rfl, sy, rfl⟩ := sw
        rw [shr_int.mp sy]
        obtain ⟨h1, h2⟩ := intsOf_map en sl
        refine ⟨p, ns, k, ns.idxOf k, rfl, rfl, by rw [← h1]; exact hH, ?_, fun m hm e => ?_, q _ _ (shrL_int _) (shr_non.mpr rfl)⟩
        · rw [List.getElem?_eq_getElem hlt, List.getElem_idxOf]
        · obtain ⟨hm2, e⟩ := List.getElem?_eq_some_iff.mp e
          exact idx_no hm hm2 e
      · cases eh
    · cases eh
end
end Q

namespace Q
open PySem PySem.Spec PyProof.Rows L2
def ShrM (T : Th) (g : G) (H : Hp) : List Bool → List D → List V → Prop
  | _, [], vs => vs = []
  | bs, d :: ds, vs => ∃ v ws, vs = v :: ws ∧ (Shr T (if bs.headD false = true then g.bb else g) H d v) ∧ ShrM T g H bs.tail ds ws
def mdOf (b : Bool) : Md := if b = true then .l else .s
section
variable {T : Th} {g g' : G} {H H' : Hp}
theorem ShrM.length : ∀ {bs : List Bool} {ds : List D} {vs : List V}, ShrM T g H bs ds vs → ds.length = vs.length
  | _, [], _, h => by simp only [ShrM] at h; subst h; rfl
  | bs, d :: ds, vs, h => by
    simp only [ShrM] at h
    obtain ⟨v, ws, rfl, _, r⟩ := h
    simp only [List.length_cons, ShrM.length r]
theorem ShrM.get : ∀ {bs : List Bool} {ds : List D} {vs : List V} {i : Nat} {d : D}, ShrM T g H bs ds vs → ds[i]? = some d → ∃ v, vs[i]? = some v ∧ Shr T (if bs.getD i false = true then g.bb else g) H d v
  | _, [], _, _, _, _, e => by simp at e
  | bs, d :: ds, vs, i, d', h, e => by
    simp only [ShrM] at h
    obtain ⟨v, ws, rfl, q, r⟩ := h
    cases i with
    | zero =>
      simp at e; subst e
      refine ⟨v, rfl, ?_⟩
      cases bs <;> exact q
    | succ i =>
      obtain ⟨w, h1, h2⟩ := ShrM.get (i := i) r (by simpa using e)
      refine ⟨w, by simpa using h1, ?_⟩
      cases bs
      · simpa using h2
      · simpa using h2
theorem ShrM.stayE (f : FrE g H g' H') : ∀ {bs : List Bool} {ds : List D} {vs : List V}, ShrM T g H bs ds vs → ShrM T g' H' bs ds vs
  | _, [], _, h => by simpa only [ShrM] using h
  | bs, d :: ds, vs, h => by
    simp only [ShrM] at h ⊢
    obtain ⟨v, ws, e, q, r⟩ := h
    refine ⟨v, ws, e, ?_, ShrM.stayE f r⟩
    split
    · rename_i hb; rw [if_pos hb] at q; exact q.stay f.bb
    · rename_i hb; rw [if_neg hb] at q; exact q.stay f.stay
end
def GoodM (T : Th) (W : WX) (Γ : List Md) (bs : List Bool) (ρ : Env) (σ : L2.St) (g : G) (H : Hp) : RL → (List V → Hp → Prop) → Prop
  | .ok d S', Q => ∀ v g' H', Rel T g' Γ ρ S' σ H' → FrE g H g' H' → ShrM T g' H' bs d v → Q v H'
  | .exc x S', _ => ∀ c dd g' H', Rel T g' Γ ρ S' σ H' → FrE g H g' H' → ExcR T g' H' x c dd → W c dd σ H'
  | .no, _ => False
def tM (T : Th) (W : WX) (Γ : List Md) (bs : List Bool) (F : FL) : TA := fun σ H Q => ∃ g ρ S, Rel T g Γ ρ S σ H ∧ GoodM T W Γ bs ρ σ g H (F ρ S) Q
abbrev XM (X : Cx) (T : Th) (W : WX) (Γ : List Md) (bs : List Bool) (es : List Expr) (F : FL) : Prop := PA X es (tM T W Γ bs F)
section
variable {X : Cx} {T : Th} {W : WX} {Γ : List Md} {bs : List Bool}
theorem xm_nil : XM X T W Γ bs [] lNil := pa_imp pa_nil fun σ H Q ⟨g, ρ, S, R, hg⟩ => hg [] g H R (.refl g H) (by simp only [ShrM])
theorem xm_s {e : Expr} {es : List Expr} {A : FE} {B : FL} (ha : XE X T W Γ e A) (hb : XM X T W Γ bs es B) (hx : PE X e (tX T W Γ A) → PA X es (tM T W Γ bs B) → PA X (e :: es) (tCons (tX T W Γ A) (tM T W Γ bs B))) : XM X T W Γ (false :: bs) (e :: es) (lCons A B) := pa_imp (hx ha hb) fun σ H Q ⟨g, ρ, S, R, hg⟩ => by
  refine ⟨g, ρ, S, R, ?_⟩
  unfold lCons at hg
  cases e : A ρ S with
  | ok x S1 =>
    rw [e] at hg
    intro v g1 H1 R1 f1 s1
    refine ⟨g1, ρ, S1, R1, ?_⟩
    have hg : GoodM T W Γ (false :: bs) ρ σ g H (match B ρ S1 with | .ok xs S2 => .ok (x :: xs) S2 | .exc x S2 => .exc x S2 | .no => .no) Q := hg
    cases e2 : B ρ S1 with
    | ok xs S2 =>
      rw [e2] at hg
      exact fun vs g2 H2 R2 f2 s2 => hg (v :: vs) g2 H2 R2 (f1.trans f2) (by simp only [ShrM]; exact ⟨v, vs, rfl, s1.stay f2.stay, s2⟩)
    | exc y S2 => rw [e2] at hg; exact fun c dd g2 H2 R2 f2 s2 => hg c dd g2 H2 R2 (f1.trans f2) s2
    | no => rw [e2] at hg; exact hg
  | exc y S1 => rw [e] at hg; exact hg
  | no => rw [e] at hg; exact hg
theorem xm_l {e : Expr} {es : List Expr} {A : FE} {B : FL} (ha : XQ X T W Γ e A) (hb : XM X T W Γ bs es B) (hx : PE X e (tQ T W Γ A) → PA X es (tM T W Γ bs B) → PA X (e :: es) (tCons (tQ T W Γ A) (tM T W Γ bs B))) : XM X T W Γ (true :: bs) (e :: es) (lCons A B) := pa_imp (hx ha hb) fun σ H Q ⟨g, ρ, S, R, hg⟩ => by
  refine ⟨g, ρ, S, R, ?_⟩
  unfold lCons at hg
  cases e : A ρ S with
  | ok x S1 =>
    rw [e] at hg
    intro v g1 H1 R1 f1 s1
    refine ⟨g1, ρ, S1, R1, ?_⟩
    have hg : GoodM T W Γ (true :: bs) ρ σ g H (match B ρ S1 with | .ok xs S2 => .ok (x :: xs) S2 | .exc x S2 => .exc x S2 | .no => .no) Q := hg
    cases e2 : B ρ S1 with
    | ok xs S2 =>
      rw [e2] at hg
      exact fun vs g2 H2 R2 f2 s2 => hg (v :: vs) g2 H2 R2 (f1.trans f2) (by simp only [ShrM]; exact ⟨v, vs, rfl, s1.stay f2.bb, s2⟩)
    | exc y S2 => rw [e2] at hg; exact fun c dd g2 H2 R2 f2 s2 => hg c dd g2 H2 R2 (f1.trans f2) s2
    | no => rw [e2] at hg; exact hg
  | exc y S1 => rw [e] at hg; exact hg
  | no => rw [e] at hg; exact hg
theorem rel_argsM {g1 : G} {ρ : Env} {S1 : Store} {σ : L2.St} {H1 : Hp} {ds : List D} {vs : List V} {ms : List Md} (R1 : Rel T g1 Γ ρ S1 σ H1) (s : ShrM T g1 H1 bs ds vs) (hm : ∀ i, ms.getD i .s = mdOf (bs.getD i false)) : Rel T g1.callee ms (ds.map some) S1 (vs.map some) H1 := by
  refine R1.shift rfl rfl rfl rfl (fun a h => G.callee_U.mp h) (fun i j a h => h.elim) (fun i a h => h.elim) (fun a h => h) (fun i a h => h.elim) (by simp [s.length]) fun st i d e => ?_
  rw [List.getElem?_map] at e
  cases q : ds[i]? with
  | none => rw [q] at e; cases e
  | some d' =>
    rw [q] at e
    cases e
    obtain ⟨v, h1, h2⟩ := s.get q
    refine ⟨v, by rw [List.getElem?_map, h1]; rfl, ?_⟩
    rw [hm]
    unfold mdOf
    by_cases hb : bs.getD i false = true
    · rw [if_pos hb] at h2 ⊢
      have st2 : Stay g1.bb H1 g1.callee.bare H1 := ⟨fun _ _ h _ => h, fun a h => .inl (G.bb_U.mpr (by
        rcases h with h | ⟨j, h⟩ | h
        · exact h.elim
        · exact h.elim
        · exact h)), Nat.le_refl _, fun _ _ => rfl, rfl⟩
      exact h2.stay st2
    · rw [if_neg hb] at h2 ⊢
      exact h2.stay st
theorem call_fresh {g1 g' : G} {ρ : Env} {S1 S2 : Store} {σ : L2.St} {H1 H' : Hp} {Fo : Addr → Prop} {outs : Env} {ms : List Md} {vs : List V} (R1 : Rel T g1 Γ ρ S1 σ H1) (R' : Rel T (g'.plus Fo) ms outs S2 (vs.map some) H') (f' : FrS g1.callee H1 g' H') (nf : ∀ i a, ¬ g'.F i a)
    (ho : ∀ a, Fo a → ¬ g1.callee.O a ∧ (g1.callee.U a ∨ H1 a = none)) : Rel T ((g1.back g').plusF ρ.length Fo) Γ ρ S2 σ H' ∧ (∀ a, Fo a → ¬ (g1.back g').U a ∧ (g1.B a ∨ H1 a = none)) := by
  obtain ⟨R2, fe, hU⟩ := call_back R1 R' f' nf
  have eO : ∀ a, g'.O a ↔ (g1.O a ∨ ∃ i, g1.F i a) := fun a => by rw [f'.O]; exact Iff.rfl
  have out : ∀ a, Fo a → ¬ (g1.back g').U a ∧ (g1.B a ∨ H1 a = none) := fun a z => by
    obtain ⟨h1, h2⟩ := ho a z
    refine ⟨fun u => ?_, h2.imp (fun u => ?_) id⟩
    · rcases u with u | u | u
      · exact h1 (.inl u)
      · exact h1 (.inr u)
      · exact R'.dOB a (.inr z) u
    · rcases G.callee_U.mp u with u | u | u
      · exact absurd (.inl u) h1
      · exact absurd (.inr u) h1
      · exact u
  refine ⟨?_, out⟩
  have hU2 : ∀ a, ((g1.back g').plusF ρ.length Fo).U a → (g'.plus Fo).U a := fun a u => by
    rcases G.plusF_U.mp u with u | u
    · exact hU a u
    · exact G.plus_U.mpr (.inr u)
  have st : Stay g1 H1 ((g1.back g').plusF ρ.length Fo) H' := ⟨fun a o h hu => fe.stay.keep a o h hu, fun a u => by
    rcases G.plusF_U.mp u with u | u
    · exact fe.stay.own a u
    · exact (out a u).2.imp (fun z => .inr (.inr z)) id, fe.N, fe.μ, fe.Z⟩
  have stb : Stay g1.bare H1 ((g1.back g').plusF ρ.length Fo).bare H' := ⟨fun a o h hu => fe.bare.keep a o h hu, fun a u => by
    rcases u with u | ⟨j, u | u⟩ | u
    · exact u.elim
    · exact fe.bare.own a (.inr (.inl ⟨j, u⟩))
    · exact (out a u.2).2.imp (fun z => .inr (.inr z)) id
    · exact fe.bare.own a (.inr (.inr u)), fe.N, fe.μ, fe.Z⟩
  refine ⟨R1.len, fun i d e => ?_, fun i j a h h' => ?_, fun i a h u => ?_, fun i a h u => ?_, fun a h => R2.dOB a h, fun a h => R'.dom a (hU2 a h), R'.st.keep (stay_iff hU2 rfl rfl) (fun _ _ _ h => h) rfl rfl rfl fun _ _ => rfl, fun a h => R'.nt a (hU2 a h)⟩
  · obtain ⟨v, h1, h2⟩ := R1.slot i d e
    refine ⟨v, h1, ?_⟩
    cases hm : Γ.getD i .s <;> rw [hm] at h2 <;> simp only [RepM] at h2 ⊢
    · exact h2.stay st
    · exact Own.wide _ _ _ _ _ (fun a z => .inl z) (Own.keepF st _ _ _ _ (fun a o z q => fe.keep a o q (R1.dFB i a z)) h2)
    · exact Own.keepF st _ _ _ _ (fun a o z q => fe.keep a o q (R1.dOB a z)) h2
    · refine ⟨h2.1.trans (by show g1.P i = g'.P i; rw [f'.P]; rfl), ?_⟩
      exact Own.wide _ _ _ _ _ (fun a z => .inl z) (Own.keepF st _ _ _ _ (fun a o z q => fe.keep a o q (R1.dFB i a z)) h2.2)
    · exact h2
    · exact h2.stay stb
    · exact ⟨h2.1, (st).keep _ _ h2.2.1 h2.2.2, (st).off h2.2.1 h2.2.2⟩
  · rcases h with h | h <;> rcases h' with h' | h'
    · exact R1.dF i j a h h'
    · exact absurd (.inr (.inl ⟨i, h⟩)) (out a h'.2).1
    · exact absurd (.inr (.inl ⟨j, h'⟩)) (out a h.2).1
    · rw [h.1, h'.1]
  · rcases h with h | h
    · exact R1.dFO i a h u
    · exact (out a h.2).1 (.inl u)
  · rcases h with h | h
    · exact R2.dFB i a h u
    · exact (out a h.2).1 (.inr (.inr u))
theorem xf_callM {k n : Nat} {f : Addr} {fd : FuncData} {ps : List Str} {sg : Sig} {Φ : FF} {e : Expr} {es : List Expr} {A : FL} (F : FnOk X.prog X.w X.K X.mg X.base (L2.CX X.prog X.w) k f fd ps (spD T n sg Φ)) (hm : ∀ i, sg.ms.getD i .s = mdOf (bs.getD i false)) (hA : ∀ ρ S ds S1, A ρ S = .ok ds S1 → ds.length = n)
    (ha : XM X T W Γ bs es A) (he : PA X es (tM T W Γ bs A) → PE X e (tCallS (spD T n sg Φ) (WE W) (tM T W Γ bs A))) : XF X T W Γ sg.kr e (eCall Φ A) := pe_imp (he ha) fun σ H Q ⟨g, ρ, S, R, hg⟩ => by
  refine ⟨g, ρ, S, R, ?_⟩
  unfold eCall at hg
  cases ea : A ρ S with
  | exc x S1 => rw [ea] at hg; exact hg
  | no => rw [ea] at hg; exact hg
  | ok ds S1 =>
    rw [ea] at hg
    intro vs g1 H1 R1 f1 s1
    have hg : GoodN T W Γ sg.kr ρ σ g H (match Φ ds S1 with | .ok d _ S2 => .ok d S2 | .exc x _ S2 => .exc x S2 | .no => .no) Q := hg
    refine ⟨by rw [← s1.length]; exact hA ρ S ds S1 ea, g1.callee, ds, S1, rel_argsM R1 s1 hm, ?_⟩
    have npin : ∀ (i k : Nat), sg.ms.getD i .s ≠ .p k := fun i k h => by
      rw [hm] at h
      unfold mdOf at h
      split at h <;> cases h
    cases ef : Φ ds S1 with
    | no => rw [ef] at hg; exact hg
    | ok d outs S2 =>
      rw [ef] at hg
      intro v g' H' Fo R' f' nf ho hw
      have nf' : ∀ i a, ¬ g'.F i a := fun i a z => by
        obtain ⟨k, e⟩ := nf i a z
        exact npin i k e
      obtain ⟨R2, f2, hU⟩ := call_back R1 R' f' nf'
      obtain ⟨R3, out⟩ := call_fresh R1 R' f' nf' ho
      refine hg v (g1.back g') H' Fo R3 (f1.trans f2) (fun a z => ⟨(out a z).1, ?_⟩) ?_
      · rcases (out a z).2 with w | w
        · exact f1.B a w
        · exact f1.none w
      · have st : Stay (g'.plus Fo) H' ((g1.back g').plusF ρ.length Fo) H' := ⟨fun _ _ h _ => h, fun a h => .inl (by
          rcases G.plusF_U.mp h with h | h
          · exact hU a h
          · exact G.plus_U.mpr (.inr h)), Nat.le_refl _, fun _ _ => rfl, rfl⟩
        exact Own.keepF st _ _ _ _ (fun _ _ _ q => q) hw
    | exc x outs S2 =>
      rw [ef] at hg
      intro c dd g' H' R' f' nf ex
      have nf' : ∀ i a, ¬ g'.F i a := fun i a z => by
        obtain ⟨k, e⟩ := nf i a z
        exact npin i k e
      obtain ⟨R2, f2, hU⟩ := call_back R1 (plus_none R') f' nf'
      refine hg c dd (g1.back g') H' R2 (f1.trans f2) ?_
      obtain ⟨e0, e1, e2⟩ := ex
      refine ⟨e0, e1, e2.imp id fun ⟨d, fs, h1, h2, h3, h4, h5⟩ => ⟨d, fs, h1, h2, h3, h4, ?_⟩⟩
      have st : Stay g' H' (g1.back g') H' := ⟨fun _ _ h _ => h, fun a h => .inl (by
        rcases hU a h with (h | h) | h | h
        · exact .inl h
        · exact h.elim
        · exact .inr (.inl h)
        · exact .inr (.inr h)), Nat.le_refl _, fun _ _ => rfl, rfl⟩
      exact ⟨ShrL.stay st _ _ h5.1, st.off h3 h5.2⟩
theorem xs_retF {J : Jd} {Γ' : List Md} {e : Expr} {A : FE} {st : Stmt} (hx : J.ΓX Γ) (hr : J.ΓR Γ) (ha : XF X T J.W Γ J.kr e A) (he : PE X e (tN T J.W Γ J.kr A) → PS X st (tRet (tN T J.W Γ J.kr A))) : XS X T J Γ Γ' st (fRet A) := ps_imp (he ha) fun D σ H ⟨g, ρ, S, R, h⟩ => by
  refine ⟨g, ρ, S, R, ?_⟩
  unfold fRet at h
  cases r : A ρ S with
  | no => rw [r] at h; exact h
  | exc x S1 => rw [r] at h; exact fun c dd g' H' R' f e => h Γ c dd σ g' H' hx R' (f.frs R.dOB) e
  | ok d S1 =>
    rw [r] at h
    intro v g' H' Fo R' f ho hw
    have st2 : Stay (g'.plusF ρ.length Fo) H' (g'.plus Fo) H' := ⟨fun _ _ h _ => h, fun a h => .inl (G.plusF_U.mpr (G.plus_U.mp h)), Nat.le_refl _, fun _ _ => rfl, rfl⟩
    refine h Γ v σ g' H' Fo hr ?_ (f.frs R.dOB) (fun a z => ⟨fun u => (ho a z).1 (.inl (by rw [f.O]; exact u)), (ho a z).2.imp (fun z => .inr (.inr z)) id⟩) (Own.keepF st2 _ _ _ _ (fun _ _ _ q => q) hw)
    refine R'.shift rfl rfl rfl rfl (fun a h => G.plusF_U.mpr (G.plus_U.mp h)) (fun i j a h h' => R'.dF i j a (.inl h) (.inl h')) (fun i a h u => ?_) (fun a h => ?_) (fun i a h => .inl ⟨i, .inl h⟩) R'.len fun st i d' e => ?_
    · rcases u with u | u
      · exact R'.dFO i a (.inl h) u
      · exact (ho a u).1 (.inr (.inl ⟨i, h⟩))
    · rcases h with h | h
      · exact .inl h
      · exact .inr ⟨ρ.length, .inr ⟨rfl, h⟩⟩
    · obtain ⟨w, h1, h2⟩ := R'.slot i d' e
      have hi : i < ρ.length := (List.getElem?_eq_some_iff.mp e).1
      exact ⟨w, h1, h2.stay st (fun a z => z.elim id fun z => absurd z.1 (by omega)) (fun a z => .inl z) rfl (bare_sub rfl rfl (fun i a z => ⟨i, .inl z⟩) fun _ z => z)⟩
theorem xs_retV {J : Jd} {Γ' : List Md} {i k : Nat} {st : Stmt} (hr : ∀ v, J.ΓR (Γ.set i (.e v))) (hi : i < Γ.length) (hm : Γ.getD i .s = .o k) (hk : J.kr = k) (he : PS X st (tRet (tVar i))) : XS X T J Γ Γ' st (fRet (eVar i)) := ps_imp he fun D σ H ⟨g, ρ, S, R, h⟩ => by
  have h : GoodS T J Γ' g H ((match ρ[i]? with | some (some d) => RE.ok d S | _ => .no).bindS ρ fun d S1 => .rt d ρ S1) D := h
  split at h
  · rename_i d e
    obtain ⟨v, h1, h2⟩ := R.slot i d e
    refine ⟨v, h1, ?_⟩
    rw [hm] at h2
    have hU : ∀ a, ((g.drop i).plus (g.F i)).U a → g.U a := fun a u => by
      rcases G.plus_U.mp u with u | u
      · exact G.drop_U u
      · exact .inr (.inl ⟨i, u⟩)
    have st2 : Stay g H ((g.drop i).plus (g.F i)) H := ⟨fun _ _ h _ => h, fun a u => .inl (hU a u), Nat.le_refl _, fun _ _ => rfl, rfl⟩
    refine h (Γ.set i (.e v)) v σ (g.drop i) H (g.F i) (hr v) ?_ .drop (fun a z => ⟨R.dFO i a z, .inl (.inr (.inl ⟨i, z⟩))⟩) (by rw [hk]; exact Own.keepF st2 _ _ _ _ (fun _ _ _ q => q) h2)
    refine R.shift rfl rfl rfl rfl hU (fun j k a h h' => R.dF j k a h.2 h'.2) (fun j a h u => ?_) (fun a h => h.imp id fun z => ⟨i, z⟩) (fun j a h => .inl ⟨j, h.2⟩) R.len fun st j d' e => ?_
    · rcases u with u | u
      · exact R.dFO j a h.2 u
      · exact h.1 (R.dF j i a h.2 u)
    · obtain ⟨w, q1, q2⟩ := R.slot j d' e
      refine ⟨w, q1, ?_⟩
      by_cases hj : i = j
      · subst hj
        rw [getD_set_self hi]
        rw [h1] at q1
        cases q1
        rfl
      · rw [getD_set_ne hj]
        exact q2.stay st (fun a z => ⟨fun q => hj q.symm, z⟩) (fun a z => .inl z) rfl (bare_sub rfl rfl (fun i a z => ⟨i, z.2⟩) fun _ z => z)
  · exact h.elim
theorem xq_varO {i k : Nat} {e : Expr} (he : PE X e (tVar i)) (hm : Γ.getD i .s = .o k) : XQ X T W Γ e (eVar i) := xq_var he fun v h => by rw [hm] at h; cases h
theorem xq_varL {i : Nat} {e : Expr} (he : PE X e (tVar i)) (hm : Γ.getD i .s = .l) : XQ X T W Γ e (eVar i) := xq_var he fun v h => by rw [hm] at h; cases h
def noPin (m : Md) : Bool := match m with
  | .p _ => false
  | _ => true
theorem gp_n {ms : List Md} {Γ : List Md} (h : ms.all noPin = true) : ΓP ms Γ := fun i k e => by
  have : ms.getD i .s ∈ ms ∨ ms.getD i .s = .s := by
    by_cases hi : i < ms.length
    · left; simp [List.getD, hi]
    · right; simp [List.getD, List.getElem?_eq_none (Nat.le_of_not_lt hi)]
  rcases this with h2 | h2
  · have := List.all_eq_true.mp h _ h2
    rw [e] at this
    cases this
  · rw [e] at h2; cases h2
theorem mdOf_rows {ms : List Md} {bs : List Bool} (h : ms = bs.map mdOf) : ∀ i, ms.getD i .s = mdOf (bs.getD i false) := fun i => by
  subst h
  by_cases hi : i < bs.length
  · simp [List.getD, hi]
  · simp [List.getD, List.getElem?_eq_none (Nat.le_of_not_lt hi)]
    rfl
end
section
variable {P : Program} {w : World} {K : PySem.W.Frag} {mg : Str → Option Value} {base : Heap} {T : Th}
theorem fn_okGR {qual : Str} {st : Stmt} {f : Addr} {fd : FuncData} {N ps : List Str} {k n : Nat} {sg : Sig} {B : FS} {Γ0 Γ' : List Md} (F : OkRule P w K mg base qual st f fd) (Sc : FnScope N ps (defScope st)) (hn : ps.length = n) (hN : n ≤ N.length) (h0 : sg.ms ++ List.replicate (N.length - sg.ms.length) .s = Γ0)
    (hp : sg.ms.all noPin = true)
    (hbody : ∀ (cdv : Value) (A : Around) (outer : List PySem.Env) (s : Shared) (H : Hp) (E : XK), Room k (A.deeper (envOfC qual (defScope st) s.heap.objs.size f cdv)) →
      XB (cxOf (L2.CX P w) P w K mg base N qual (defScope st) f cdv A outer s H E) T (jdF sg.ms sg.kr E) Γ0 Γ' (defBody st) B) :
    FnOk P w K mg base (L2.CX P w) (k + 1) f fd ps (spD T n sg (fBody N.length n sg.ms B)) := fn_okR F Sc hn hN (fun cdv A outer s H E hr => by rw [h0]; exact hbody cdv A outer s H E hr) (gp_n hp)
end
end Q

namespace Q
open PySem PySem.Spec PyProof.Rows L2
section
variable {X : Cx} {T : Th} {W : WX} {Γ : List Md}
theorem Rel.carryF {g g' : G} {ρ : Env} {S S' : Store} {σ : L2.St} {H H' : Hp} {Fo : Addr → Prop} (R : Rel T g Γ ρ S σ H) (f : FrE g H g' H') (hf : ∀ a, Fo a → g.B a ∨ H a = none) (j : Dj T (g'.plusF ρ.length Fo) S' H') : Rel T (g'.plusF ρ.length Fo) Γ ρ S' σ H' := by
  refine ⟨R.len, fun i d e => ?_, j.dF, j.dFO, j.dFB, j.dOB, j.dom, j.st, j.nt⟩
  have st : Stay g H (g'.plusF ρ.length Fo) H' := ⟨fun a o h hu => f.stay.keep a o h hu, fun a u => by
    rcases G.plusF_U.mp u with u | u
    · exact f.stay.own a u
    · exact (hf a u).imp (fun z => .inr (.inr z)) id, f.N, f.μ, f.Z⟩
  have stb : Stay g.bare H (g'.plusF ρ.length Fo).bare H' := ⟨fun a o h hu => f.bare.keep a o h hu, fun a u => by
    rcases u with u | ⟨j, u | u⟩ | u
    · exact u.elim
    · exact f.bare.own a (.inr (.inl ⟨j, u⟩))
    · exact (hf a u.2).imp (fun z => .inr (.inr z)) id
    · exact f.bare.own a (.inr (.inr u)), f.N, f.μ, f.Z⟩
  obtain ⟨v, h1, h2⟩ := R.slot i d e
  refine ⟨v, h1, ?_⟩
  have wF : ∀ a, g.F i a → (g'.plusF ρ.length Fo).F i a := fun a z => .inl (by rw [f.F]; exact z)
  cases hm : Γ.getD i .s <;> rw [hm] at h2 <;> simp only [RepM] at h2 ⊢
  · exact h2.stay st
  · exact Own.wide _ _ _ _ _ wF (Own.keepF st _ _ _ _ (fun a o z q => f.keep a o q (R.dFB i a z)) h2)
  · have := Own.keepF st _ _ _ _ (fun a o z q => f.keep a o q (R.dOB a z)) h2
    exact Own.wide _ _ _ _ _ (fun a z => by show g'.O a; rw [f.O]; exact z) this
  · exact ⟨h2.1.trans (by show g.P i = g'.P i; rw [f.P]), Own.wide _ _ _ _ _ wF (Own.keepF st _ _ _ _ (fun a o z q => f.keep a o q (R.dFB i a z)) h2.2)⟩
  · exact h2
  · exact h2.stay stb
  · exact ⟨h2.1, (st).keep _ _ h2.2.1 h2.2.2, (st).off h2.2.1 h2.2.2⟩
theorem lc_rd {vs : List Nat} {Γb : List Md} {is : List Nat} {t : TG} {tf : D → Env → Option Env} {FI : FL} {C E : FE} (his : ∀ j, j ∈ is → j ∈ vs) (ht : TgOk T Γ Γb is t tf) (σ : L2.St) (H : Hp) (Q : VK) (hh : tN T W Γ 1 (eLc FI vs tf C E) σ H Q) :
    tLc (tIF T W Γ FI) t (tXT T (fun _ _ _ _ => False) Γb C) (tX T (fun _ _ _ _ => False) Γb E) vs σ H Q := by
  obtain ⟨g, ρ, S, R, h⟩ := hh
  refine ⟨g, ρ, S, R, ?_⟩
  unfold eLc at h
  cases e : FI ρ S with
  | exc x S1 => rw [e] at h; exact h
  | no => rw [e] at h; exact h
  | ok ds S1 =>
    rw [e] at h
    intro It1 g1 H1 R1 f1 io p hp
    have h : GoodN T W Γ 1 ρ σ g H (match lcL tf C E ds (wipeE ρ vs) S1 with | .ok ys S2 => if ds.length ≤ 1000000 then RE.ok (.lst ys) S2 else .no | _ => .no) Q := h
    split at h
    · rename_i ys Sf el
      split at h
      · rename_i hlen
        have Rl := R1.lend vs
        have hpO : ∀ a, a = p → (g1.lend vs).U a → False := fun a ha u => by
          obtain ⟨o, q⟩ := Rl.dom a u
          rw [ha, hp] at q; cases q
        have Dp : Dj T ((g1.lend vs).plus (· = p)) S1 (upd H1 p (.lst [])) := by
          have st : Stay (g1.lend vs) (upd H1 p (.lst [])) ((g1.lend vs).plus (· = p)) (upd H1 p (.lst [])) → True := fun _ => trivial
          have e1 := Rl.ex (Exx.new (o := HO.lst []) hp)
          refine ⟨e1.dF, fun i a z w => w.elim (e1.dFO i a z) fun w => hpO a w (.inr (.inl ⟨i, z⟩)), e1.dFB, fun a w z => w.elim (fun w => e1.dOB a w z) fun w => hpO a w (.inr (.inr z)), fun a u => ?_, ?_, fun a u w r => ?_⟩
          · rcases u with (u | u) | u | u
            · exact e1.dom a (.inl u)
            · exact ⟨_, by rw [u]; exact upd_same⟩
            · exact e1.dom a (.inr (.inl u))
            · exact e1.dom a (.inr (.inr u))
          · refine Rl.st.keep (g' := (g1.lend vs).plus (· = p)) ⟨fun a o q _ => Exx.new hp a o q, fun a u => ?_, Nat.le_refl _, fun _ _ => rfl, rfl⟩ (fun a o _ q => Exx.new hp a o q) rfl rfl rfl fun _ _ => rfl
            rcases u with (u | u) | u | u
            · exact .inl (.inl u)
            · exact .inr (by rw [u]; exact hp)
            · exact .inl (.inr (.inl u))
            · exact .inl (.inr (.inr u))
          · by_cases ha : a = p
            · subst ha
              rcases r with r | ⟨b, r⟩
              · rw [upd_same] at r; cases r
              · rw [upd_same] at r; cases r
            · refine e1.nt a ?_ w r
              rcases u with (u | u) | u | u
              · exact .inl u
              · exact absurd u ha
              · exact .inr (.inl u)
              · exact .inr (.inr u)
        refine ⟨LcW T Γ vs tf C E g1 H1 ρ σ ds ys Sf p, ⟨ds.length, ⟨g1.lend vs, S1, [], [], ys, .ex (Exx.new hp), Dp, upd_same, .nil, by simp, Nat.zero_le _, Nat.zero_le _, by rw [List.drop_zero]; exact el, rfl⟩⟩, ?_⟩
        rintro i m H' ⟨g0, Si, vacc, acc, rest, fr, dj, hacc, sacc, em, hi', ha, hl, hy⟩
        have fO : ∀ a, a = p → H1 a = none := fun a z => by rw [z]; exact hp
        have Rw : Rel T (g0.plus (· = p)) Γ (wipeE ρ vs) Si (wipe σ vs) H' := Rl.carry fr fO dj
        have st0 : Stay g1 H1 g0 H' := ⟨fun a o q hu => fr.stay.keep a o q fun z => hu (G.lend_U.mp z), fun a u => (fr.stay.own a u).imp G.lend_U.mp id, fr.N, fr.μ, fr.Z⟩
        obtain ⟨i1, i2⟩ := io g0 H' i st0 fr.keep
        by_cases hlt : i < ds.length
        · refine .inr ?_
          obtain ⟨d, hd⟩ : ∃ d, ds[i]? = some d := ⟨ds[i], List.getElem?_eq_getElem hlt⟩
          have stp : Stay g1 H1 (g0.plus (· = p)) H' := ⟨st0.keep, fun a u => by
            rcases u with (u | u) | u | u
            · exact st0.own a (.inl u)
            · exact .inr (fO a u)
            · exact st0.own a (.inr (.inl u))
            · exact st0.own a (.inr (.inr u)), st0.N, st0.μ, st0.Z⟩
          obtain ⟨_, i2⟩ := io (g0.plus (· = p)) H' i stp fr.keep
          obtain ⟨go, yl⟩ := i2 d hd
          refine ⟨go, fun H2 => ∃ m', m' < m ∧ LcW T Γ vs tf C E g1 H1 ρ σ ds ys Sf p (i + 1) m' H2, fun H2 ⟨m', l, w⟩ => ⟨m', l, w⟩, fun x H2 y => ?_⟩
          obtain ⟨ex, sx⟩ := yl x H2 y
          have R2 := Rw.ex ex
          have ed : ds.drop i = d :: ds.drop (i + 1) := by
            rw [List.drop_eq_getElem_cons hlt]
            rw [List.getElem?_eq_getElem hlt] at hd
            rw [Option.some.inj hd]
          rw [ed, lcL] at hl
          split at hl
          · cases hl
          · rename_i ρ1 e1
            refine ht _ _ ρ1 Si _ H2 d x _ R2 sx e1 fun σ3 R3 l3 k3 => ⟨(wipe_get (is := is) l3 k3 his).trans wipe_wipe, _, ρ1, Si, R3, ?_⟩
            have fO2 : ∀ (g4 : G) (H4 : Hp), FrE ((g0.plus (· = p)).drops is) H2 g4 H4 → FrE (g1.lend vs) H1 { g4 with O := g0.O, F := g0.F } H4 ∧ ({ g4 with O := g0.O, F := g0.F } : G).plus (· = p) = g4 := fun g4 H4 f4 => by
              refine ⟨(fr.trans (.ex ex)).trans (f4.swap (g2 := g0) rfl rfl rfl rfl), ?_⟩
              have eO := f4.O
              have eF := f4.F
              obtain ⟨N4, μ4, O4, F4, B4, BF4, P4⟩ := g4
              simp only at eO eF
              subst eO eF
              show G.mk N4 μ4 (fun a => g0.O a ∨ a = p) g0.F B4 BF4 P4 = G.mk N4 μ4 (fun a => g0.O a ∨ a = p) (fun j a => j ∉ is ∧ g0.F j a) B4 BF4 P4
              congr 1
              funext j a
              rw [fr.F]
              exact propext ⟨fun z => ⟨fun w => z.1 (his j w), z⟩, fun z => z.2⟩
            have kp : ∀ (g4 : G) (H4 : Hp), FrE ((g0.plus (· = p)).drops is) H2 g4 H4 → g4.O p ∧ H4 p = some (.lst vacc) := fun g4 H4 f4 =>
              ⟨by rw [f4.O]; exact .inr rfl, f4.keep p _ (ex p _ hacc) (dj.dOB p (.inr rfl))⟩
            have sk : ∀ (g4 : G) (H4 : Hp), FrE ((g0.plus (· = p)).drops is) H2 g4 H4 → ShrL T g4 H4 acc vacc := fun g4 H4 f4 =>
              ShrL.stay (((Stay.ex ex).trans FrS.drops.stay).trans f4.stay) _ _ sacc
            split at hl
            · rename_i S2 ec
              rw [ec]
              refine ⟨true, rfl, fun g2 H3 R4 f3 => ?_⟩
              refine iteT ⟨g2, ρ1, S2, R4, ?_⟩
              split at hl
              · rename_i y2 S3 ey
                rw [ey]
                intro v g4 H4 R5 f4 s4
                have f34 := f3.trans f4
                obtain ⟨pO, pH⟩ := kp g4 H4 f34
                obtain ⟨fa, fe⟩ := fO2 g4 H4 f34
                have sa := sk g4 H4 f34
                split at hl
                · rename_i ys' S4 ely
                  cases hl
                  refine ⟨vacc, pH, by rw [← sa.length]; exact sz_lt6 (by omega), ds.length - (i + 1), by omega, ⟨{ g4 with O := g0.O, F := g0.F }, S3, vacc ++ [v], acc ++ [y2], ys', fa.upd hp, ?_, upd_same, ?_, rfl, hlt, by rw [List.length_append]; simp; omega, ely, by rw [hy, List.append_assoc]; rfl⟩⟩
                  · rw [fe]; exact R5.dj.write (fun _ => ⟨nofun, fun _ => nofun⟩) pO
                  · rw [fe]
                    have stw : Stay g4 H4 g4 (upd H4 p (.lst (vacc ++ [v]))) := ⟨fun a u h hu => by rw [upd_ne (fun z => hu (.inl (by rw [z]; exact pO)))]; exact h, fun _ h => .inl h, Nat.le_refl _, fun _ _ => rfl, rfl⟩
                    exact ShrL.append (sa.stay stw) ((ShrL.cons s4 .nil).stay stw)
                · cases hl
              · cases hl
            · rename_i S2 ec
              rw [ec]
              refine ⟨false, rfl, fun g2 H3 R4 f3 => iteF ?_⟩
              obtain ⟨pO, pH⟩ := kp g2 H3 f3
              obtain ⟨fa, fe⟩ := fO2 g2 H3 f3
              exact ⟨ds.length - (i + 1), by omega, ⟨{ g2 with O := g0.O, F := g0.F }, S2, vacc, acc, rest, fa, by rw [fe]; exact R4.dj, pH, by rw [fe]; exact sk g2 H3 f3, rfl, hlt, by omega, hl, hy⟩⟩
            · cases hl
        · have e1 : i = ds.length := by omega
          subst e1
          refine .inl ⟨i1 (Nat.le_refl _), ?_⟩
          rw [List.drop_length, lcL] at hl
          cases hl
          rw [List.append_nil] at hy
          subst hy
          have ff : FrE g1 H1 { g0 with O := g1.O, F := g1.F } H' := fr.swap (g2 := g1) rfl rfl rfl rfl
          have uu : ∀ a, ({ g0 with O := g1.O, F := g1.F } : G).U a → (g0.plus (· = p)).U a := fun a u => by
            rcases u with u | ⟨j, u⟩ | u
            · exact .inl (.inl (by rw [fr.O]; exact .inl u))
            · by_cases hj : j ∈ vs
              · exact .inl (.inl (by rw [fr.O]; exact .inr ⟨j, hj, u⟩))
              · exact .inr (.inl ⟨j, by rw [show (g0.plus (· = p)).F = g0.F from rfl, fr.F]; exact ⟨hj, u⟩⟩)
            · exact .inr (.inr u)
          have dOB' : ∀ a, (g1.O a ∨ ∃ j, g1.F j a) → ¬ g0.B a := fun a u z => by
            have := uu a (u.elim .inl fun w => .inr (.inl w))
            rcases fr.B a z with w | w
            · exact u.elim (fun q => R1.dOB a q w) fun ⟨j, q⟩ => R1.dFB j a q w
            · obtain ⟨o, q⟩ := R1.dom a (u.elim .inl fun q => .inr (.inl q))
              rw [w] at q; cases q
          have stf : Stay (g0.plus (· = p)) H' { g0 with O := g1.O, F := g1.F } H' := ⟨fun _ _ h _ => h, fun a u => .inl (uu a u), Nat.le_refl _, fun _ _ => rfl, rfl⟩
          have np : ¬ ({ g0 with O := g1.O, F := g1.F } : G).U p := fun u => by
            rcases u with u | u | u
            · obtain ⟨o, q⟩ := R1.dom p (.inl u)
              rw [hp] at q; cases q
            · obtain ⟨o, q⟩ := R1.dom p (.inr (.inl u))
              rw [hp] at q; cases q
            · exact dj.dOB p (.inr rfl) u
          have uu2 : ∀ a, (({ g0 with O := g1.O, F := g1.F } : G).plusF ρ.length (· = p)).U a → (g0.plus (· = p)).U a := fun a u => (G.plusF_U.mp u).elim (uu a) fun w => .inl (.inr w)
          have stf2 : Stay (g0.plus (· = p)) H' (({ g0 with O := g1.O, F := g1.F } : G).plusF ρ.length (· = p)) H' := ⟨fun _ _ h _ => h, fun a u => .inl (uu2 a u), Nat.le_refl _, fun _ _ => rfl, rfl⟩
          have djf : Dj T (({ g0 with O := g1.O, F := g1.F } : G).plusF ρ.length (· = p)) Sf H' := by
            refine ⟨fun i j a h h' => ?_, fun i a h u => ?_, fun i a h u => ?_, fun a u z => dOB' a (.inl u) z, fun a u => dj.dom a (uu2 a u), dj.st.keep stf2 (fun _ _ _ q => q) rfl rfl rfl fun _ _ => rfl, fun a u => dj.nt a (uu2 a u)⟩
            · rcases h with h | h <;> rcases h' with h' | h'
              · exact R1.dF i j a h h'
              · exact absurd (.inr (.inl ⟨i, by rw [← h'.2]; exact h⟩)) np
              · exact absurd (.inr (.inl ⟨j, by rw [← h.2]; exact h'⟩)) np
              · rw [h.1, h'.1]
            · rcases h with h | h
              · exact R1.dFO i a h u
              · exact np (.inl (by rw [← h.2]; exact u))
            · rcases h with h | h
              · exact dOB' a (.inr ⟨i, h⟩) u
              · exact dj.dOB a (.inr h.2) u
          refine h (.ref p) _ H' (· = p) (R1.carryF ff (fun a z => .inr (by rw [z]; exact hp)) djf) (f1.trans ff) (fun a z => ⟨by rw [z]; exact np, ?_⟩) (own1_lst.mpr ⟨p, vacc, rfl, rfl, hacc, ShrL.stay stf2 _ _ sacc⟩)
          rw [z]; exact f1.none hp
      · exact h.elim
    · exact h.elim
theorem tn_of {k : Nat} {F : FE} {σ : L2.St} {H : Hp} {Q : VK} (h : tX T W Γ F σ H Q) : tN T W Γ k F σ H Q := by
  obtain ⟨g, ρ, S, R, hg⟩ := h
  refine ⟨g, ρ, S, R, ?_⟩
  cases r : F ρ S with
  | ok d S1 =>
    rw [r] at hg
    exact fun v g' H' Fo R' f' ho hw => hg v g' H' R'.unplus f' (shr_of_own2 stay_unplus k Fo d v (fun a z => (ho a z).1) hw)
  | exc x S1 => rw [r] at hg; exact hg
  | no => rw [r] at hg; exact hg
theorem ps_lcX {i : Nat} {st : Stmt} {vs : List Nat} {Γb : List Md} {is : List Nat} {t : TG} {tf : D → Env → Option Env} {FI : FL} {C E : FE} (his : ∀ j, j ∈ is → j ∈ vs) (ht : TgOk T Γ Γb is t tf)
    (h : PS X st (tAsg (tLc (tIF T W Γ FI) t (tXT T (fun _ _ _ _ => False) Γb C) (tX T (fun _ _ _ _ => False) Γb E) vs) (gName i))) : PS X st (tAsg (tN T W Γ 1 (eLc FI vs tf C E)) (gName i)) := ps_imp h fun D σ H q => lc_rd his ht σ H _ q
theorem ps_lcS {i : Nat} {st : Stmt} {F : FE} (h : PS X st (tAsg (tN T W Γ 1 F) (gName i))) : PS X st (tAsg (tX T W Γ F) (gName i)) := ps_imp h fun D σ H q => tn_of q
theorem xs_setP {J : Jd} {Γ' : List Md} {i : Nat} {A : FE} {st : Stmt} (hx : J.ΓX Γ) (he : PS X st (tAsg (tX T J.W Γ A) (gName i))) (hΓ : Γ.set i .s = Γ') : XS X T J Γ Γ' st (fSet i A) := ps_imp he fun D σ H ⟨g, ρ, S, R, h⟩ =>
  ⟨g, ρ, S, R, good_bindS R hx h fun d S1 v g1 H1 _ R1 f1 s1 h1 => h1 _ (g1.drop i) H1 (by rw [← hΓ]; exact R1.set s1) .drop⟩
end
end Q

namespace Q
open PySem PySem.Spec PyProof.Rows L2
def insS (x : Int) : List Int → List Int
  | [] => [x]
  | y :: r => if x ≤ y then x :: y :: r else y :: insS x r
def isort : List Int → List Int
  | [] => []
  | x :: r => insS x (isort r)
theorem insS_perm {x : Int} : ∀ {l : List Int}, (insS x l).Perm (x :: l)
  | [] => .refl _
  | y :: r => by
    unfold insS
    split
    · exact .refl _
    · exact (List.Perm.cons y insS_perm).trans (List.Perm.swap x y r)
theorem insS_sorted {x : Int} : ∀ {l : List Int}, l.Pairwise (· ≤ ·) → (insS x l).Pairwise (· ≤ ·)
  | [], _ => by simp [insS]
  | y :: r, h => by
    unfold insS
    rw [List.pairwise_cons] at h
    split
    · rename_i hx
      rw [List.pairwise_cons, List.pairwise_cons]
      refine ⟨fun z hz => ?_, h⟩
      rcases List.mem_cons.mp hz with e | e
      · rw [e]; exact hx
      · exact Int.le_trans hx (h.1 z e)
    · rename_i hx
      rw [List.pairwise_cons]
      refine ⟨fun z hz => ?_, insS_sorted h.2⟩
      rcases List.mem_cons.mp ((insS_perm.mem_iff).mp hz) with e | e
      · rw [e]; omega
      · exact h.1 z e
theorem isort_perm : ∀ l : List Int, (isort l).Perm l
  | [] => .refl _
  | x :: r => insS_perm.trans (.cons x (isort_perm r))
theorem isort_sorted : ∀ l : List Int, (isort l).Pairwise (· ≤ ·)
  | [] => .nil
  | x :: r => insS_sorted (isort_sorted r)
theorem sorted_perm : ∀ {a b : List Int}, a.Pairwise (· ≤ ·) → b.Pairwise (· ≤ ·) → a.Perm b → a = b
  | [], b, _, _, p => (List.nil_perm.mp p).symm
  | x :: a, [], _, _, p => by have := p.length_eq; simp at this
  | x :: a, y :: b, ha, hb, p => by
    rw [List.pairwise_cons] at ha hb
    have h1 : y ∈ x :: a := p.mem_iff.mpr List.mem_cons_self
    have h2 : x ∈ y :: b := p.mem_iff.mp List.mem_cons_self
    have e : x = y := by
      rcases List.mem_cons.mp h1 with e | e
      · exact e.symm
      · rcases List.mem_cons.mp h2 with e2 | e2
        · exact e2
        · have := ha.1 y e
          have := hb.1 x e2
          omega
    subst e
    rw [sorted_perm ha.2 hb.2 (List.perm_cons x |>.mp p)]
theorem isort_eq {a b : List Int} (ha : a.Pairwise (· ≤ ·)) (p : a.Perm b) : a = isort b := sorted_perm ha (isort_sorted b) (p.trans (isort_perm b).symm)
def hSort : D → Option D
  | .lst l => (intsOf l).map fun ns => .lst ((isort ns).map .int)
  | _ => none
def rSort1 (K : PySem.W.Frag) : V → Hp → VK → Prop := fun v H Q => rSortedI K [v] H Q
section
variable {T : Th}
theorem ok_sort : UnOk T (rSort1 T.K) hSort := by
  intro g H x z v sx e hd Q q
  cases x <;> simp only [hSort] at e <;> first | cases e | skip
  rename_i l
  obtain ⟨ns, en, e⟩ := Option.map_eq_some_iff.mp e
  subst e
  obtain ⟨a, vs, rfl, la, ra⟩ := shr_lst.mp sx
  obtain ⟨h1, h2⟩ := intsOf_map en ra
  subst h1
  refine ⟨a, ns, rfl, .of la.1, fun ms p hp hs hn => ?_⟩
  rw [isort_eq hs hp]
  refine q _ _ (Exx.new hn) ?_
  refine shr_lst.mpr ⟨p, _, rfl, ⟨upd_same, fun u => ?_⟩, shrL_int _⟩
  obtain ⟨o, ho⟩ := hd p u
  rw [hn] at ho; cases ho
end
end Q

namespace Q
open PySem PySem.Spec PyProof.Rows L2
abbrev r1 (r : List V → Hp → VK → Prop) : V → Hp → VK → Prop := fun v H Q => r [v] H Q
abbrev r2 (r : List V → Hp → VK → Prop) : R2 := fun v w H Q => r [v, w] H Q
section
variable {T : Th}
abbrev rListOf (K : PySem.W.Frag) : List V → Hp → VK → Prop := fun xs H Q => ∃ p ys, xs = [V.ref p] ∧ (SqL K H p ys ∨ SqT K H p ys) ∧ ∀ l, H l = none → Q (.ref l) (upd H l (.lst ys))
def hList : D → Option D
  | .lst l => some (.lst l)
  | .scr l => some (.lst l)
  | .tup l => some (.lst l)
  | _ => none
theorem ok_list : UnOk T (r1 (rListOf T.K)) hList := by
  intro g H x z v sx e hd Q q
  cases x <;> simp only [hList] at e <;> cases e
  · obtain ⟨a, vs, rfl, la, ra⟩ := shr_tup.mp sx
    exact ⟨a, vs, rfl, .inr la.sq, fun p hp => q _ _ (Exx.new hp) (shr_newL ra hp hd)⟩
  · obtain ⟨a, vs, rfl, la, ra⟩ := shr_lst.mp sx
    exact ⟨a, vs, rfl, .inl (.of la.1), fun p hp => q _ _ (Exx.new hp) (shr_newL ra hp hd)⟩
  · obtain ⟨a, vs, rfl, la, ra⟩ := shr_scr.mp sx
    exact ⟨a, vs, rfl, .inl la.sq, fun p hp => q _ _ (Exx.new hp) (shr_newL ra hp hd)⟩
end
def eM1 (h : D → D → Option D) (a b : FE) : FE := fun ρ S => (a ρ S).bind fun x S1 => match x with
  | .str z => (b ρ S1).bind fun y S2 => .of S2 (h (.str z) y)
  | _ => .no
section
variable {X : Cx} {T : Th} {W : WX} {Γ : List Md}
end
section
variable {X : Cx} {T : Th} {W : WX} {Γ : List Md}
end
end Q

namespace Q
open PySem PySem.Spec PyProof.Rows L2
mutual
def plD : Nat → D → Bool
  | _, .non => true
  | _, .int _ => true
  | _, .str x => PyData.canLay0 (.str x)
  | n + 1, .tup l => plL n l
  | n + 1, .lst l => plL n l
  | _, _ => false
def plL : Nat → List D → Bool
  | _, [] => true
  | n, d :: r => plD n d && plL n r
end
mutual
theorem plD_py : ∀ (n : Nat) (d : D), plD n d = true → ∃ p, toPy d = some p ∧ p.canLay0 = true ∧ p.depth ≤ n
  | _, .non, _ => ⟨.none, by simp only [toPy], rfl, Nat.zero_le _⟩
  | _, .int i, _ => ⟨.int i, by simp only [toPy], rfl, Nat.zero_le _⟩
  | n, .str x, h => ⟨.str x, by simp only [toPy], by cases n <;> simpa only [plD] using h, by cases n <;> exact Nat.zero_le _⟩
  | 0, .tup l, h => by simp only [plD] at h; cases h
  | n + 1, .tup l, h => by
    simp only [plD] at h
    obtain ⟨ps, h1, h2, h3⟩ := plL_py n l h
    exact ⟨.tuple ps, by simp only [toPy, h1, Option.map_some], by simpa only [PyData.canLay0] using h2, by simp only [PyData.depth]; omega⟩
  | 0, .lst l, h => by simp only [plD] at h; cases h
  | n + 1, .lst l, h => by
    simp only [plD] at h
    obtain ⟨ps, h1, h2, h3⟩ := plL_py n l h
    exact ⟨.list ps, by simp only [toPy, h1, Option.map_some], by simpa only [PyData.canLay0] using h2, by simp only [PyData.depth]; omega⟩
  | 0, .bl _, h => by simp only [plD] at h; cases h
  | n + 1, .bl _, h => by simp only [plD] at h; cases h
  | 0, .scr _, h => by simp only [plD] at h; cases h
  | n + 1, .scr _, h => by simp only [plD] at h; cases h
  | 0, .dct _, h => by simp only [plD] at h; cases h
  | n + 1, .dct _, h => by simp only [plD] at h; cases h
  | 0, .obj _, h => by simp only [plD] at h; cases h
  | n + 1, .obj _, h => by simp only [plD] at h; cases h
  | 0, .fn _ _, h => by simp only [plD] at h; cases h
  | n + 1, .fn _ _, h => by simp only [plD] at h; cases h
  | 0, .gone _, h => by simp only [plD] at h; cases h
  | n + 1, .gone _, h => by simp only [plD] at h; cases h
theorem plL_py : ∀ (n : Nat) (l : List D), plL n l = true → ∃ ps, toPyL l = some ps ∧ PyData.canLayAll0 ps = true ∧ PyData.depthAll ps ≤ n
  | _, [], _ => ⟨[], by simp only [toPyL], rfl, Nat.zero_le _⟩
  | n, d :: r, h => by
    simp only [plL, Bool.and_eq_true] at h
    obtain ⟨p, h1, h2, h3⟩ := plD_py n d h.1
    obtain ⟨ps, k1, k2, k3⟩ := plL_py n r h.2
    refine ⟨p :: ps, by simp only [toPyL, h1, k1], by simp only [PyData.canLayAll0, h2, k2, Bool.and_self], ?_⟩
    simp only [PyData.depthAll]
    omega
end
mutual
theorem eqv_pl : ∀ (n m : Nat) (d e : D) (p q : PyData), plD n d = true → plD m e = true → toPy d = some p → toPy e = some q → (PyData.eqv p q = true ↔ d = e) := by
  intro n m d e p q hd he hp hq
  cases d with
  | non => simp only [toPy] at hp; cases hp; cases e <;> simp only [toPy] at hq <;> first | (cases hq; done) | (cases n <;> cases m <;> simp only [plD] at he hd <;> first | (cases he; done) | (obtain ⟨_, _, rfl⟩ := Option.map_eq_some_iff.mp hq; simp [PyData.eqv]) | (cases hq; simp [PyData.eqv]))
  | int i => simp only [toPy] at hp; cases hp; cases e <;> simp only [toPy] at hq <;> first | (cases hq; done) | (cases n <;> cases m <;> simp only [plD] at he hd <;> first | (cases he; done) | (obtain ⟨_, _, rfl⟩ := Option.map_eq_some_iff.mp hq; simp [PyData.eqv]) | (cases hq; simp [PyData.eqv]))
  | str i => simp only [toPy] at hp; cases hp; cases e <;> simp only [toPy] at hq <;> first | (cases hq; done) | (cases n <;> cases m <;> simp only [plD] at he hd <;> first | (cases he; done) | (obtain ⟨_, _, rfl⟩ := Option.map_eq_some_iff.mp hq; simp [PyData.eqv]) | (cases hq; simp [PyData.eqv]))
  | tup l =>
    cases n with
    | zero => simp only [plD] at hd; cases hd
    | succ n =>
      simp only [plD] at hd
      simp only [toPy] at hp
      obtain ⟨ps, h1, rfl⟩ := Option.map_eq_some_iff.mp hp
      cases e with
      | tup k =>
        cases m with
        | zero => simp only [plD] at he; cases he
        | succ m =>
          simp only [plD] at he
          simp only [toPy] at hq
          obtain ⟨qs, k1, rfl⟩ := Option.map_eq_some_iff.mp hq
          simp only [PyData.eqv, D.tup.injEq]
          exact eqvL_pl n m l k ps qs hd he h1 k1
      | _ => cases m <;> simp only [plD] at he <;> first | (cases he; done) | (simp only [toPy] at hq; first | (cases hq; simp [PyData.eqv]) | (obtain ⟨_, _, rfl⟩ := Option.map_eq_some_iff.mp hq; simp [PyData.eqv]))
  | lst l =>
    cases n with
    | zero => simp only [plD] at hd; cases hd
    | succ n =>
      simp only [plD] at hd
      simp only [toPy] at hp
      obtain ⟨ps, h1, rfl⟩ := Option.map_eq_some_iff.mp hp
      cases e with
      | lst k =>
        cases m with
        | zero => simp only [plD] at he; cases he
        | succ m =>
          simp only [plD] at he
          simp only [toPy] at hq
          obtain ⟨qs, k1, rfl⟩ := Option.map_eq_some_iff.mp hq
          simp only [PyData.eqv, D.lst.injEq]
          exact eqvL_pl n m l k ps qs hd he h1 k1
      | _ => cases m <;> simp only [plD] at he <;> first | (cases he; done) | (simp only [toPy] at hq; first | (cases hq; simp [PyData.eqv]) | (obtain ⟨_, _, rfl⟩ := Option.map_eq_some_iff.mp hq; simp [PyData.eqv]))
  | _ => cases n <;> simp only [plD] at hd <;> cases hd
termination_by n m d e p q => sizeOf d
theorem eqvL_pl : ∀ (n m : Nat) (l k : List D) (ps qs : List PyData), plL n l = true → plL m k = true → toPyL l = some ps → toPyL k = some qs → (PyData.eqvAll ps qs = true ↔ l = k) := by
  intro n m l k ps qs hl hk hp hq
  cases l with
  | nil =>
    simp only [toPyL] at hp; cases hp
    cases k with
    | nil => simp only [toPyL] at hq; cases hq; simp [PyData.eqvAll]
    | cons e r =>
      simp only [toPyL] at hq
      split at hq
      · cases hq; simp [PyData.eqvAll]
      · cases hq
  | cons d l =>
    simp only [toPyL] at hp
    split at hp
    · rename_i p ps' e1 e2
      cases hp
      simp only [plL, Bool.and_eq_true] at hl
      cases k with
      | nil => simp only [toPyL] at hq; cases hq; simp [PyData.eqvAll]
      | cons e r =>
        simp only [toPyL] at hq
        split at hq
        · rename_i q qs' f1 f2
          cases hq
          simp only [plL, Bool.and_eq_true] at hk
          simp only [PyData.eqvAll, Bool.and_eq_true, List.cons.injEq]
          exact and_congr (eqv_pl n m d e p q hl.1 hk.1 e1 f1) (eqvL_pl n m l r ps' qs' hl.2 hk.2 e2 f2)
        · cases hq
    · cases hp
termination_by n m l k ps qs => sizeOf l
end
theorem hEq_pl {x y : D} (hx : plD 60 x = true) (hy : plD 60 y = true) : ∃ b, hEq x y = some (.bl b) ∧ hNe x y = some (.bl !b) ∧ (b = true ↔ x = y) := by
  obtain ⟨p, p1, p2, p3⟩ := plD_py 60 x hx
  obtain ⟨q, q1, q2, q3⟩ := plD_py 60 y hy
  have sp : SeqAt.shaped p = true := by unfold SeqAt.shaped; rw [p2, decide_eq_true (by omega)]; rfl
  have sq : SeqAt.shaped q = true := by unfold SeqAt.shaped; rw [q2, decide_eq_true (by omega)]; rfl
  refine ⟨PyData.eqv p q, ?_, ?_, eqv_pl 60 60 x y p q hx hy p1 q1⟩
  · unfold hEq; rw [p1, q1]; exact if_pos ⟨sp, sq⟩
  · unfold hNe; rw [p1, q1]; exact if_pos ⟨sp, sq⟩
theorem hEq_t {x : D} (hx : plD 60 x = true) : hEq x x = some (.bl true) := by
  obtain ⟨b, h1, _, h3⟩ := hEq_pl hx hx
  rw [h3.mpr rfl] at h1
  exact h1
theorem hNe_t {x : D} (hx : plD 60 x = true) : hNe x x = some (.bl false) := by
  obtain ⟨b, _, h1, h3⟩ := hEq_pl hx hx
  rw [h3.mpr rfl] at h1
  exact h1
theorem hNe_f {x y : D} (hx : plD 60 x = true) (hy : plD 60 y = true) (h : x ≠ y) : hNe x y = some (.bl true) := by
  obtain ⟨b, _, h1, h3⟩ := hEq_pl hx hy
  cases b
  · exact h1
  · exact absurd (h3.mp rfl) h
theorem plL_of {n : Nat} {l : List D} (h : ∀ d ∈ l, plD n d = true) : plL n l = true := by
  induction l with
  | nil => cases n <;> rfl
  | cons d r ih =>
    have e : plL n (d :: r) = (plD n d && plL n r) := by cases n <;> simp only [plL]
    rw [e, h d List.mem_cons_self, ih fun x hx => h x (List.mem_cons_of_mem _ hx)]
    rfl
theorem plD_int {n : Nat} {i : Int} : plD n (.int i) = true := by cases n <;> rfl
theorem plD_lst {n : Nat} {l : List D} (h : ∀ d ∈ l, plD n d = true) : plD (n + 1) (.lst l) = true := by simp only [plD]; exact plL_of h
theorem hIn_ints {k : Int} {ns : List Int} {neg : Bool} : hIn neg (.int k) (.lst (ns.map .int)) = some (.bl (if neg then !decide (k ∈ ns) else decide (k ∈ ns))) := by
  show inL neg (.int k) (ns.map .int) = _
  unfold inL
  have h1 : (ns.map D.int).all flatD = true := by
    rw [List.all_eq_true]
    intro d hd
    obtain ⟨i, _, rfl⟩ := List.mem_map.mp hd
    rfl
  rw [if_pos ⟨rfl, h1⟩]
  have h2 : ((ns.map D.int).any fun y => eqD y (.int k)) = decide (k ∈ ns) := by
    induction ns with
    | nil => simp
    | cons a r ih =>
      rw [List.map_cons, List.any_cons, ih (by
        rw [List.all_eq_true]
        intro d hd
        obtain ⟨i, _, rfl⟩ := List.mem_map.mp hd
        rfl)]
      show ((a == k) || decide (k ∈ r)) = _
      by_cases h : a = k
      · subst h; simp
      · have h' : ¬ k = a := fun z => h z.symm
        simp [h, h']
  rw [h2]
theorem intsOf_ints : ∀ ns : List Int, intsOf (ns.map .int) = some ns
  | [] => rfl
  | n :: r => by rw [List.map_cons, intsOf, intsOf_ints r]; rfl
section
variable {ρ : Env} {S : Store} {d z x y : D} {l l' : List D} {o : Option (Option D)}
def mutK (o : Option (Option D)) (ρ : Env) (k : List D → RS) : RS := match o with
  | some (some (.lst l)) => k l
  | _ => .no
def mutR (o : Option (D × List D)) (k : D → List D → RS) : RS := match o with
  | some (z, l') => k z l'
  | none => .no
theorem ev_mut {i : Nat} {h : HM} {a : FL} : fMut i h a ρ S = mutK ρ[i]? ρ fun l => (a ρ S).bindS ρ fun ds S1 => mutR (h l ds) fun _ l' => .nx (ρ.set i (some (.lst l'))) S1 := by
  unfold fMut mutK mutR RL.bindS
  rfl
theorem ev_mutset {j i : Nat} {h : HM} {a : FL} : fMutSet j i h a ρ S = mutK ρ[i]? ρ fun l => (a ρ S).bindS ρ fun ds S1 => mutR (h l ds) fun z l' => .nx ((ρ.set i (some (.lst l'))).set j (some z)) S1 := by
  unfold fMutSet mutK mutR RL.bindS
  rfl
theorem mutK_lst {k : List D → RS} : mutK (some (some (.lst l))) ρ k = k l := rfl
theorem mutR_some {k : D → List D → RS} : mutR (some (z, l')) k = k z l' := rfl
theorem mAppend_lt (h : l.length < 1000000) : mAppend l [d] = some (.non, l ++ [d]) := if_pos h
def flatK (d : D) (S : Store) : RE := if immD d = true then .ok d S else .no
theorem ev_flat {a : FE} : eFlat a ρ S = (a ρ S).bind flatK := rfl
theorem flatK_int {i : Int} : flatK (.int i) S = .ok (.int i) S := if_pos (by simp only [immD])
theorem flatK_bl {i : Bool} : flatK (.bl i) S = .ok (.bl i) S := if_pos (by simp only [immD])
theorem flatK_str {i : Str} : flatK (.str i) S = .ok (.str i) S := if_pos (by simp only [immD])
theorem flatK_non : flatK .non S = .ok .non S := if_pos (by simp only [immD])
def m1K (d : D) (k : Str → RE) : RE := match d with
  | .str z => k z
  | _ => .no
theorem ev_m1 {h : D → D → Option D} {a b : FE} : eM1 h a b ρ S = (a ρ S).bind fun x S1 => m1K x fun z => (b ρ S1).bind fun y S2 => .of S2 (h (.str z) y) := rfl
theorem m1K_str {z : Str} {k : Str → RE} : m1K (.str z) k = k z := rfl
end
end Q

namespace Q
open PySem PySem.Spec PyProof.Rows L2
theorem shr_wrt {T : Th} {g : G} {H : Hp} {a : Addr} {ns : List Int} (h : WrT T.K a (ns.map V.int)) : Shr T g H (.tup (ns.map .int)) (.ref a) := shr_tup.mpr ⟨a, _, rfl, .inr h, shrL_int ns⟩
end Q

namespace Q
open PySem PySem.Spec PyProof.Rows L2
end Q

namespace Q
open PySem PySem.Spec PyProof.Rows L2
end Q

namespace Q
open PySem PySem.Spec PyProof.Rows L2
def G.vv (g : G) : G := { g with O := fun _ => False, F := fun _ _ => False, B := fun _ => False }
theorem G.vv_U {g : G} {a : Addr} : ¬ g.vv.U a := fun h => by
  rcases h with h | ⟨_, h⟩ | h
  · exact h
  · exact h
  · exact h
section
variable {T : Th} {g g' g2 : G} {H H' : Hp}
theorem stay_vv : Stay g H g.vv H := ⟨fun _ _ h _ => h, fun a h => (G.vv_U h).elim, Nat.le_refl _, fun _ _ => rfl, rfl⟩
theorem Shr.vv {d : D} {v : V} (s : Shr T g H d v) : Shr T g.vv H d v := Shr.stay stay_vv _ _ s
end
def GoodC (T : Th) (W : WX) (Γ : List Md) (ρ : Env) (σ : L2.St) (g : G) (S : Store) (H : Hp) : RE → VK → Prop
  | .ok d S', Q => S' = S → ∀ v H', Exx H H' → Shr T g H' d v → Q v H'
  | .exc x S', _ => ∀ c dd g' H', Rel T g' Γ ρ S' σ H' → FrE g H g' H' → ExcR T g' H' x c dd → W c dd σ H'
  | .no, _ => False
def GoodV (T : Th) (W : WX) (Γ : List Md) (ρ : Env) (σ : L2.St) (g : G) (S : Store) (H : Hp) : RE → VK → Prop
  | .ok d S', Q => S' = S → ∀ v H', Exx H H' → Shr T g.vv H' d v → Q v H'
  | .exc x S', _ => ∀ c dd g' H', Rel T g' Γ ρ S' σ H' → FrE g H g' H' → ExcR T g' H' x c dd → W c dd σ H'
  | .no, _ => False
def GoodVL (T : Th) (W : WX) (Γ : List Md) (ρ : Env) (σ : L2.St) (g : G) (S : Store) (H : Hp) : RL → (List V → Hp → Prop) → Prop
  | .ok d S', Q => S' = S → ∀ v H', Exx H H' → ShrL T g.vv H' d v → Q v H'
  | .exc x S', _ => ∀ c dd g' H', Rel T g' Γ ρ S' σ H' → FrE g H g' H' → ExcR T g' H' x c dd → W c dd σ H'
  | .no, _ => False
def GoodCL (T : Th) (W : WX) (Γ : List Md) (ρ : Env) (σ : L2.St) (g : G) (S : Store) (H : Hp) : RL → (List V → Hp → Prop) → Prop
  | .ok d S', Q => S' = S → ∀ v H', Exx H H' → ShrL T g H' d v → Q v H'
  | .exc x S', _ => ∀ c dd g' H', Rel T g' Γ ρ S' σ H' → FrE g H g' H' → ExcR T g' H' x c dd → W c dd σ H'
  | .no, _ => False
def tC1 (T : Th) (W : WX) (Γ : List Md) (F : FE) : TE := fun σ H Q => ∃ g ρ S, Rel T g Γ ρ S σ H ∧ GoodC T W Γ ρ σ g S H (F ρ S) Q
def tV (T : Th) (W : WX) (Γ : List Md) (F : FE) : TE := fun σ H Q => ∃ g ρ S, Rel T g Γ ρ S σ H ∧ GoodV T W Γ ρ σ g S H (F ρ S) Q
def tVL (T : Th) (W : WX) (Γ : List Md) (F : FL) : TA := fun σ H Q => ∃ g ρ S, Rel T g Γ ρ S σ H ∧ GoodVL T W Γ ρ σ g S H (F ρ S) Q
def tCL (T : Th) (W : WX) (Γ : List Md) (F : FL) : TA := fun σ H Q => ∃ g ρ S, Rel T g Γ ρ S σ H ∧ GoodCL T W Γ ρ σ g S H (F ρ S) Q
abbrev XC (X : Cx) (T : Th) (W : WX) (Γ : List Md) (e : Expr) (F : FE) : Prop := PE X e (tC1 T W Γ F)
abbrev XV (X : Cx) (T : Th) (W : WX) (Γ : List Md) (e : Expr) (F : FE) : Prop := PE X e (tV T W Γ F)
abbrev XVL (X : Cx) (T : Th) (W : WX) (Γ : List Md) (e : List Expr) (F : FL) : Prop := PA X e (tVL T W Γ F)
abbrev XCL (X : Cx) (T : Th) (W : WX) (Γ : List Md) (e : List Expr) (F : FL) : Prop := PA X e (tCL T W Γ F)
section
variable {X : Cx} {T : Th} {W : WX} {Γ : List Md}
theorem exc_ex {x : Exc} {ρ : Env} {σ : L2.St} {g : G} {H H1 : Hp} {S' : Store} (e : Exx H H1) (h : ∀ c dd g' H', Rel T g' Γ ρ S' σ H' → FrE g H g' H' → ExcR T g' H' x c dd → W c dd σ H') : ∀ c dd g' H', Rel T g' Γ ρ S' σ H' → FrE g H1 g' H' → ExcR T g' H' x c dd → W c dd σ H' :=
  fun c dd g' H' R f q => h c dd g' H' R ((FrE.ex e).trans f) q
theorem goodC_bind {ρ : Env} {σ : L2.St} {g : G} {S : Store} {H : Hp} {r : RE} {k : D → Store → RE} {Q Q' : VK} (h : GoodC T W Γ ρ σ g S H (r.bind k) Q)
    (hk : ∀ d v H', r = .ok d S → Exx H H' → Shr T g H' d v → GoodC T W Γ ρ σ g S H' (k d S) Q → Q' v H') : GoodC T W Γ ρ σ g S H r Q' := by
  cases r with
  | ok d S1 =>
    intro es v H' e s
    subst es
    refine hk d v H' rfl e s ?_
    have h : GoodC T W Γ ρ σ g S1 H (k d S1) Q := h
    cases q : k d S1 with
    | ok d2 S2 => rw [q] at h; exact fun es v2 H2 e2 s2 => h es v2 H2 (e.trans e2) s2
    | exc x S2 => rw [q] at h; exact exc_ex e h
    | no => rw [q] at h; exact h
  | exc x S1 => exact h
  | no => exact h
theorem goodVC_bind {ρ : Env} {σ : L2.St} {g : G} {S : Store} {H : Hp} {r : RE} {k : D → Store → RE} {Q Q' : VK} (h : GoodV T W Γ ρ σ g S H (r.bind k) Q)
    (hk : ∀ d v H', r = .ok d S → Exx H H' → Shr T g H' d v → GoodV T W Γ ρ σ g S H' (k d S) Q → Q' v H') : GoodC T W Γ ρ σ g S H r Q' := by
  cases r with
  | ok d S1 =>
    intro es v H' e s
    subst es
    refine hk d v H' rfl e s ?_
    have h : GoodV T W Γ ρ σ g S1 H (k d S1) Q := h
    cases q : k d S1 with
    | ok d2 S2 => rw [q] at h; exact fun es v2 H2 e2 s2 => h es v2 H2 (e.trans e2) s2
    | exc x S2 => rw [q] at h; exact exc_ex e h
    | no => rw [q] at h; exact h
  | exc x S1 => exact h
  | no => exact h
theorem xe_ofC {e : Expr} {F : FE} (h : XC X T W Γ e F) : XE X T W Γ e F := pe_imp h fun σ H Q ⟨g, ρ, S, R, hg⟩ => by
  refine ⟨g, ρ, S, R, ?_⟩
  cases r : F ρ S with
  | ok d S1 => rw [r] at hg; exact fun es v H' e s => hg v g H' (by subst es; exact R.ex e) (.ex e) s
  | exc x S1 => rw [r] at hg; exact hg
  | no => rw [r] at hg; exact hg
theorem xc_flat {e : Expr} {F : FE} (h : XV X T W Γ e F) : XC X T W Γ e (eFlat F) := pe_imp h fun σ H Q ⟨g, ρ, S, R, hg⟩ => by
  refine ⟨g, ρ, S, R, ?_⟩
  unfold eFlat at hg
  cases r : F ρ S with
  | ok d S1 =>
    rw [r] at hg
    have hg : GoodC T W Γ ρ σ g S H (if immD d = true then RE.ok d S1 else .no) Q := hg
    split at hg
    · rename_i hd
      exact fun es v H' e s => hg es v H' e (imm_shr (e.nt R.dom R.nt) d v hd s)
    · exact hg.elim
  | exc x S1 => rw [r] at hg; exact hg
  | no => rw [r] at hg; exact hg
theorem xc_of {d : D} {v : V} {e : Expr} (he : PE X e (tC v)) (hs : ∀ g H, Shr T g H d v) : XC X T W Γ e (eC d) := pe_imp he fun σ H Q ⟨g, ρ, S, R, h⟩ => h rfl v H (.refl H) (hs g H)
theorem xc_int {i : Int} {j : Nat} {pos : Pos} : XC X T W Γ (.Constant (.int i) j pos) (eC (.int i)) := xc_of pe_int fun _ _ => by simp only [Shr]
theorem xc_non {j : Nat} {pos : Pos} : XC X T W Γ (.Constant .none j pos) (eC .non) := xc_of pe_non fun _ _ => by simp only [Shr]
theorem xc_var {i : Nat} {e : Expr} (he : PE X e (tVar i)) (hm : Γ.getD i .s = .s) : XC X T W Γ e (eVar i) := pe_imp he fun σ H Q ⟨g, ρ, S, R, h⟩ => by
  have h : GoodC T W Γ ρ σ g S H (match ρ[i]? with | some (some d) => RE.ok d S | _ => .no) Q := h
  split at h
  · rename_i d e
    obtain ⟨v, h1, h2⟩ := R.slot i d e
    rw [hm] at h2
    exact ⟨v, h1, h rfl v H (.refl H) h2⟩
  · exact h.elim
theorem Rel.vvs {g : G} {ρ : Env} {S : Store} {σ : L2.St} {H : Hp} (R : Rel T g Γ ρ S σ H) {i : Nat} {d : D} (e : ρ[i]? = some (some d)) (hm : ∀ v, Γ.getD i .s ≠ .e v) (hm2 : ∀ w dd fs, Γ.getD i .s ≠ .x w dd fs) : ∃ v, σ[i]? = some (some v) ∧ Shr T g.vv H d v := by
  obtain ⟨v, h1, h2⟩ := R.slot i d e
  refine ⟨v, h1, ?_⟩
  have no : ∀ F : Addr → Prop, ∀ a, F a → ¬ g.vv.U a := fun _ _ _ => G.vv_U
  cases hq : Γ.getD i .s <;> rw [hq] at h2 <;> simp only [RepM] at h2
  · exact h2.vv
  · exact shr_of_own2 stay_vv _ _ _ _ (no _) h2
  · exact shr_of_own2 stay_vv _ _ _ _ (no _) h2
  · exact shr_of_own2 stay_vv _ _ _ _ (no _) h2.2
  · exact absurd hq (hm _)
  · exact Shr.stay (g := g.bare) (g' := g.vv) ⟨fun _ _ h _ => h, fun a h => (G.vv_U h).elim, Nat.le_refl _, fun _ _ => rfl, rfl⟩ _ _ h2
  · exact absurd hq (hm2 _ _ _)
theorem xv_var {i : Nat} {e : Expr} (he : PE X e (tVar i)) (hm : ∀ v, Γ.getD i .s ≠ .e v) (hm2 : ∀ w dd fs, Γ.getD i .s ≠ .x w dd fs := by intro w dd fs h; first | cases h | (rw [rep_s] at h; cases h) | simp_all) : XV X T W Γ e (eVar i) := pe_imp he fun σ H Q ⟨g, ρ, S, R, h⟩ => by
  have h : GoodV T W Γ ρ σ g S H (match ρ[i]? with | some (some d) => RE.ok d S | _ => .no) Q := h
  split at h
  · rename_i d e
    obtain ⟨v, h1, h2⟩ := R.vvs e hm hm2
    exact ⟨v, h1, h rfl v H (.refl H) h2⟩
  · exact h.elim
theorem goodC_of {ρ : Env} {σ : L2.St} {g : G} {S S0 : Store} {H : Hp} {o : Option D} {Q : VK} (h : GoodC T W Γ ρ σ g S0 H (.of S o) Q) : ∃ d, o = some d ∧ GoodC T W Γ ρ σ g S0 H (.ok d S) Q := by
  cases o with
  | none => exact h.elim
  | some d => exact ⟨d, rfl, h⟩
theorem goodV_of {ρ : Env} {σ : L2.St} {g : G} {S S0 : Store} {H : Hp} {o : Option D} {Q : VK} (h : GoodV T W Γ ρ σ g S0 H (.of S o) Q) : ∃ d, o = some d ∧ GoodV T W Γ ρ σ g S0 H (.ok d S) Q := by
  cases o with
  | none => exact h.elim
  | some d => exact ⟨d, rfl, h⟩
theorem xc_op {e : Expr} {r : R2} {h : D → D → Option D} {a b : Expr} {A B : FE} (ok : OpOk T r h) (ha : XC X T W Γ a A) (hb : XC X T W Γ b B)
    (he : PE X a (tC1 T W Γ A) → PE X b (tC1 T W Γ B) → PE X e (tOp r (tC1 T W Γ A) (tC1 T W Γ B))) : XC X T W Γ e (eOp h A B) := pe_imp (he ha hb) fun σ H Q ⟨g, ρ, S, R, hg⟩ =>
  ⟨g, ρ, S, R, goodC_bind hg fun x v H1 _ e1 s1 hg1 => ⟨g, ρ, S, R.ex e1, goodC_bind hg1 fun y w H2 _ e2 s2 hg2 => by
    obtain ⟨z, ez, hg3⟩ := goodC_of hg2
    exact ok g H2 x y z v w (Shr.stay (.ex e2) _ _ s1) s2 ez ((R.ex e1).ex e2).dom Q fun u H' ex su => hg3 rfl u H' ex su⟩⟩
theorem xc_un {e : Expr} {r : V → Hp → VK → Prop} {h : D → Option D} {a : Expr} {A : FE} (ok : UnOk T r h) (ha : XC X T W Γ a A) (he : PE X a (tC1 T W Γ A) → PE X e (tUn r (tC1 T W Γ A))) : XC X T W Γ e (eUn h A) := pe_imp (he ha) fun σ H Q ⟨g, ρ, S, R, hg⟩ =>
  ⟨g, ρ, S, R, goodC_bind hg fun x v H1 _ e1 s1 hg1 => by
    obtain ⟨z, ez, hg3⟩ := goodC_of hg1
    exact ok g H1 x z v s1 ez (R.ex e1).dom Q fun u H' ex su => hg3 rfl u H' ex su⟩
theorem xvl_nil : XVL X T W Γ [] lNil := pa_imp pa_nil fun σ H Q ⟨g, ρ, S, R, hg⟩ => hg rfl [] H (.refl H) .nil
theorem xcl_nil : XCL X T W Γ [] lNil := pa_imp pa_nil fun σ H Q ⟨g, ρ, S, R, hg⟩ => hg rfl [] H (.refl H) .nil
theorem goodVL_ex {ρ : Env} {σ : L2.St} {g : G} {S : Store} {H H1 : Hp} {r : RL} {Q : List V → Hp → Prop} (e : Exx H H1) (h : GoodVL T W Γ ρ σ g S H r Q) : GoodVL T W Γ ρ σ g S H1 r Q := by
  cases r with
  | ok d S' => exact fun es v H' x s => h es v H' (e.trans x) s
  | exc x S' => exact exc_ex e h
  | no => exact h
theorem goodCL_ex {ρ : Env} {σ : L2.St} {g : G} {S : Store} {H H1 : Hp} {r : RL} {Q : List V → Hp → Prop} (e : Exx H H1) (h : GoodCL T W Γ ρ σ g S H r Q) : GoodCL T W Γ ρ σ g S H1 r Q := by
  cases r with
  | ok d S' => exact fun es v H' x s => h es v H' (e.trans x) s
  | exc x S' => exact exc_ex e h
  | no => exact h
theorem xvl_cons {e : Expr} {es : List Expr} {A : FE} {B : FL} (ha : XV X T W Γ e A) (hb : XVL X T W Γ es B) (hx : PE X e (tV T W Γ A) → PA X es (tVL T W Γ B) → PA X (e :: es) (tCons (tV T W Γ A) (tVL T W Γ B))) : XVL X T W Γ (e :: es) (lCons A B) := pa_imp (hx ha hb) fun σ H Q ⟨g, ρ, S, R, hg⟩ => by
  refine ⟨g, ρ, S, R, ?_⟩
  unfold lCons at hg
  cases e : A ρ S with
  | ok x S1 =>
    rw [e] at hg
    intro es v H1 e1 s1
    subst es
    refine ⟨g, ρ, S1, R.ex e1, ?_⟩
    have hg : GoodVL T W Γ ρ σ g S1 H1 (match B ρ S1 with | .ok xs S2 => .ok (x :: xs) S2 | .exc x S2 => .exc x S2 | .no => .no) Q := goodVL_ex e1 hg
    cases e2 : B ρ S1 with
    | ok xs S2 =>
      rw [e2] at hg
      exact fun es vs H2 e3 s2 => hg es (v :: vs) H2 e3 (.cons (Shr.stay (.ex e3) _ _ s1) s2)
    | exc y S2 => rw [e2] at hg; exact hg
    | no => rw [e2] at hg; exact hg
  | exc y S1 => rw [e] at hg; exact hg
  | no => rw [e] at hg; exact hg
theorem xcl_cons {e : Expr} {es : List Expr} {A : FE} {B : FL} (ha : XC X T W Γ e A) (hb : XCL X T W Γ es B) (hx : PE X e (tC1 T W Γ A) → PA X es (tCL T W Γ B) → PA X (e :: es) (tCons (tC1 T W Γ A) (tCL T W Γ B))) : XCL X T W Γ (e :: es) (lCons A B) := pa_imp (hx ha hb) fun σ H Q ⟨g, ρ, S, R, hg⟩ => by
  refine ⟨g, ρ, S, R, ?_⟩
  unfold lCons at hg
  cases e : A ρ S with
  | ok x S1 =>
    rw [e] at hg
    intro es v H1 e1 s1
    subst es
    refine ⟨g, ρ, S1, R.ex e1, ?_⟩
    have hg : GoodCL T W Γ ρ σ g S1 H1 (match B ρ S1 with | .ok xs S2 => .ok (x :: xs) S2 | .exc x S2 => .exc x S2 | .no => .no) Q := goodCL_ex e1 hg
    cases e2 : B ρ S1 with
    | ok xs S2 =>
      rw [e2] at hg
      exact fun es vs H2 e3 s2 => hg es (v :: vs) H2 e3 (.cons (Shr.stay (.ex e3) _ _ s1) s2)
    | exc y S2 => rw [e2] at hg; exact hg
    | no => rw [e2] at hg; exact hg
  | exc y S1 => rw [e] at hg; exact hg
  | no => rw [e] at hg; exact hg
theorem goodVL_then {ρ : Env} {σ : L2.St} {g : G} {H : Hp} {A : FL} {h : List D → Option D} {S : Store} {Q : VK} {Q' : List V → Hp → Prop} (hg : GoodV T W Γ ρ σ g S H (eL h A ρ S) Q)
    (hk : ∀ ds z vs H', h ds = some z → Exx H H' → ShrL T g.vv H' ds vs → GoodV T W Γ ρ σ g S H' (.ok z S) Q → Q' vs H') : GoodVL T W Γ ρ σ g S H (A ρ S) Q' := by
  unfold eL at hg
  cases e : A ρ S with
  | ok ds S' =>
    rw [e] at hg
    intro es vs H' ex s
    subst es
    obtain ⟨z, ez, hg⟩ := goodV_of hg
    exact hk ds z vs H' ez ex s fun es v2 H2 e2 s2 => hg es v2 H2 (ex.trans e2) s2
  | exc x S' => rw [e] at hg; exact hg
  | no => rw [e] at hg; exact hg
theorem goodCL_then {ρ : Env} {σ : L2.St} {g : G} {H : Hp} {A : FL} {h : List D → Option D} {S : Store} {Q : VK} {Q' : List V → Hp → Prop} (hg : GoodC T W Γ ρ σ g S H (eL h A ρ S) Q)
    (hk : ∀ ds z vs H', h ds = some z → Exx H H' → ShrL T g H' ds vs → GoodC T W Γ ρ σ g S H' (.ok z S) Q → Q' vs H') : GoodCL T W Γ ρ σ g S H (A ρ S) Q' := by
  unfold eL at hg
  cases e : A ρ S with
  | ok ds S' =>
    rw [e] at hg
    intro es vs H' ex s
    subst es
    obtain ⟨z, ez, hg⟩ := goodC_of hg
    exact hk ds z vs H' ez ex s fun es v2 H2 e2 s2 => hg es v2 H2 (ex.trans e2) s2
  | exc x S' => rw [e] at hg; exact hg
  | no => rw [e] at hg; exact hg
theorem xv_L {e : Expr} {r : List V → Hp → VK → Prop} {h : List D → Option D} {as : List Expr} {A : FL} (ok : LsOk T r h) (ha : XVL X T W Γ as A) (he : PA X as (tVL T W Γ A) → PE X e (tCB r (tVL T W Γ A))) : XV X T W Γ e (eL h A) := pe_imp (he ha) fun σ H Q ⟨g, ρ, S, R, hg⟩ =>
  ⟨g, ρ, S, R, goodVL_then hg fun ds z vs H1 ez e1 s1 hg1 => ok g.vv H1 ds z vs s1 ez (fun a u => (G.vv_U u).elim) Q fun u H' ex su => hg1 rfl u H' ex su⟩
theorem xc_tup {es : List Expr} {A : FL} (ha : XCL X T W Γ es A) {x1} {pos : Pos} : XC X T W Γ (.Tuple es x1 pos) (eTup A) := pe_imp (pe_tup ha) fun σ H Q ⟨g, ρ, S, R, hg⟩ =>
  ⟨g, ρ, S, R, goodCL_then hg fun ds z vs H1 ez e1 s1 hg1 => by
    split at ez
    · rename_i hl
      cases ez
      exact ⟨by rw [← s1.length]; exact sz6 hl, fun p hp => hg1 rfl _ _ (Exx.new hp) (shr_newT s1 hp (R.ex e1).dom)⟩
    · cases ez⟩
theorem xc_lst {es : List Expr} {A : FL} (ha : XCL X T W Γ es A) {pos : Pos} : XC X T W Γ (.List es pos) (eLst A) := pe_imp (pe_lst ha) fun σ H Q ⟨g, ρ, S, R, hg⟩ =>
  ⟨g, ρ, S, R, goodCL_then hg fun ds z vs H1 ez e1 s1 hg1 => by
    split at ez
    · rename_i hl
      cases ez
      exact ⟨by rw [← s1.length]; exact sz6 hl, fun p hp => hg1 rfl _ _ (Exx.new hp) (shr_newL s1 hp (R.ex e1).dom)⟩
    · cases ez⟩
end
end Q

namespace Q
open PySem PySem.Spec PyProof.Rows L2
mutual
def noObj : D → Bool
  | .tup l => noObjL l
  | .lst l => noObjL l
  | .scr l => noObjL l
  | .dct l => noObjK l
  | .obj _ => false
  | .fn _ _ => false
  | _ => true
def noObjL : List D → Bool
  | [] => true
  | d :: r => noObj d && noObjL r
def noObjK : List (D × D) → Bool
  | [] => true
  | (k, d) :: r => noObj k && noObj d && noObjK r
end
section
variable {T : Th} {g g2 : G} {H : Hp}
mutual
theorem noObj_shr (hU : ∀ a, g2.U a → g.U a) (hZ : g2.Z = g.Z) : ∀ (d : D) (v : V), noObj d = true → Shr T g H d v → Shr T g2 H d v
  | .non, _, _, h => by simpa only [Shr] using h
  | .bl _, _, _, h => by simpa only [Shr] using h
  | .int _, _, _, h => by simpa only [Shr] using h
  | .str _, _, _, h => by simpa only [Shr] using h
  | .tup l, v, e, h => by
    simp only [noObj] at e
    simp only [Shr] at h ⊢
    obtain ⟨a, vs, e2, q, r⟩ := h
    exact ⟨a, vs, e2, q.imp (fun z => ⟨z.1, fun u => z.2 (hU _ u)⟩) id, noObj_shrL hU hZ l vs e r⟩
  | .lst l, v, e, h => by
    simp only [noObj] at e
    simp only [Shr] at h ⊢
    obtain ⟨a, vs, e2, q, r⟩ := h
    exact ⟨a, vs, e2, ⟨q.1, fun u => q.2 (hU _ u)⟩, noObj_shrL hU hZ l vs e r⟩
  | .scr l, v, e, h => by
    simp only [noObj] at e
    simp only [Shr] at h ⊢
    obtain ⟨a, vs, e2, q, r⟩ := h
    exact ⟨a, vs, e2, q.imp (fun z => ⟨z.1, fun u => z.2 (hU _ u)⟩) id, noObj_shrL hU hZ l vs e r⟩
  | .dct l, v, e, h => by
    simp only [noObj] at e
    simp only [Shr] at h ⊢
    obtain ⟨a, vs, e2, q, r⟩ := h
    exact ⟨a, vs, e2, ⟨q.1, fun u => q.2 (hU _ u)⟩, noObj_shrK hU hZ l vs e r⟩
  | .obj _, _, e, _ => by simp only [noObj] at e; cases e
  | .fn _ _, _, e, _ => by simp only [noObj] at e; cases e
  | .gone _, _, _, h => by simp only [Shr] at h
theorem noObj_shrL (hU : ∀ a, g2.U a → g.U a) (hZ : g2.Z = g.Z) : ∀ (d : List D) (v : List V), noObjL d = true → ShrL T g H d v → ShrL T g2 H d v
  | [], _, _, h => by simpa only [ShrL] using h
  | d :: ds, vs, e, h => by
    simp only [noObjL, Bool.and_eq_true] at e
    simp only [ShrL] at h ⊢
    obtain ⟨v, ws, e2, q, r⟩ := h
    exact ⟨v, ws, e2, noObj_shr hU hZ d v e.1 q, noObj_shrL hU hZ ds ws e.2 r⟩
theorem noObj_shrK (hU : ∀ a, g2.U a → g.U a) (hZ : g2.Z = g.Z) : ∀ (d : List (D × D)) (v : List (V × V)), noObjK d = true → ShrK T g H d v → ShrK T g2 H d v
  | [], _, _, h => by simpa only [ShrK] using h
  | (k, d) :: ds, vs, e, h => by
    simp only [noObjK, Bool.and_eq_true] at e
    simp only [ShrK] at h ⊢
    obtain ⟨u, v, ws, e2, p, q, r⟩ := h
    exact ⟨u, v, ws, e2, noObj_shr hU hZ k u e.1.1 p, noObj_shr hU hZ d v e.1.2 q, noObj_shrK hU hZ ds ws e.2 r⟩
end
end
abbrev Th.bare (T : Th) : Th := { T with tb := [] }
section
variable {T T' : Th} {g : G} {H : Hp}
mutual
theorem Shr.th (eK : T'.K = T.K) (ep : T'.pr = T.pr) (ew : T'.w = T.w) (el : T'.lm = T.lm) : ∀ (d : D) (v : V), Shr T g H d v → Shr T' g H d v
  | .non, _, h => by simpa only [Shr] using h
  | .bl _, _, h => by simpa only [Shr] using h
  | .int _, _, h => by simpa only [Shr] using h
  | .str _, _, h => by simpa only [Shr] using h
  | .tup l, v, h => by
    simp only [Shr, eK] at h ⊢
    obtain ⟨a, vs, e, q, r⟩ := h
    exact ⟨a, vs, e, q, ShrL.th eK ep ew el l vs r⟩
  | .lst l, v, h => by
    simp only [Shr] at h ⊢
    obtain ⟨a, vs, e, q, r⟩ := h
    exact ⟨a, vs, e, q, ShrL.th eK ep ew el l vs r⟩
  | .scr l, v, h => by
    simp only [Shr, eK] at h ⊢
    obtain ⟨a, vs, e, q, r⟩ := h
    exact ⟨a, vs, e, q, ShrL.th eK ep ew el l vs r⟩
  | .dct l, v, h => by
    simp only [Shr, DShr, ep, ew] at h ⊢
    obtain ⟨a, vs, e, q, r⟩ := h
    exact ⟨a, vs, e, q, ShrK.th eK ep ew el l vs r⟩
  | .obj n, v, h => by simpa only [Shr] using h
  | .fn _ _, v, h => by
    simp only [Shr] at h ⊢
    exact h.imp fun m z => Clo.of el (fun a o e hu => ⟨e, hu⟩) (fun a q e hu => ⟨e, hu⟩) _ _ _ z
  | .gone _, v, h => by simp only [Shr] at h
theorem ShrL.th (eK : T'.K = T.K) (ep : T'.pr = T.pr) (ew : T'.w = T.w) (el : T'.lm = T.lm) : ∀ (ds : List D) (vs : List V), ShrL T g H ds vs → ShrL T' g H ds vs
  | [], _, h => by simpa only [ShrL] using h
  | d :: ds, vs, h => by
    simp only [ShrL] at h ⊢
    obtain ⟨v, ws, e, q, r⟩ := h
    exact ⟨v, ws, e, Shr.th eK ep ew el d v q, ShrL.th eK ep ew el ds ws r⟩
theorem ShrK.th (eK : T'.K = T.K) (ep : T'.pr = T.pr) (ew : T'.w = T.w) (el : T'.lm = T.lm) : ∀ (ds : List (D × D)) (vs : List (V × V)), ShrK T g H ds vs → ShrK T' g H ds vs
  | [], _, h => by simpa only [ShrK] using h
  | (k, d) :: ds, vs, h => by
    simp only [ShrK] at h ⊢
    obtain ⟨u, v, ws, e, p, q, r⟩ := h
    exact ⟨u, v, ws, e, Shr.th eK ep ew el k u p, Shr.th eK ep ew el d v q, ShrK.th eK ep ew el ds ws r⟩
end
end
def G.zero (g : G) : G := { g with N := 0, O := g.U, F := fun _ _ => False, B := fun _ => False, BF := fun _ _ _ => False }
theorem G.zero_U {g : G} {a : Addr} : g.zero.U a ↔ g.U a := ⟨fun h => h.elim id fun h => h.elim (fun ⟨_, h⟩ => h.elim) False.elim, fun h => .inl h⟩
def eCall0 (Φ : FF) (as : FL) : FE := fun ρ S => match as ρ S with
  | .ok ds S1 => if noObjL ds = true then (match Φ ds [] with
    | .ok d _ [] => .ok d S1
    | _ => .no) else .no
  | .exc x S1 => .exc x S1
  | .no => .no
section
variable {X : Cx} {T : Th} {W : WX} {Γ : List Md}
theorem xc_call0 {k n : Nat} {f : Addr} {fd : FuncData} {ps : List Str} {sg : Sig} {Φ : FF} {e : Expr} {es : List Expr} {A : FL} (F : FnOk X.prog X.w X.K X.mg X.base (L2.CX X.prog X.w) k f fd ps (spD T.bare n sg Φ)) (hm : ∀ i, sg.ms.getD i .s = .s ∨ sg.ms.getD i .s = .l) (hA : ∀ ρ S ds S1, A ρ S = .ok ds S1 → ds.length = n)
    (ha : XCL X T W Γ es A) (he : PA X es (tCL T W Γ A) → PE X e (tCallS (spD T.bare n sg Φ) (WE W) (tCL T W Γ A))) : XC X T W Γ e (eCall0 Φ A) := pe_imp (he ha) fun σ H Q ⟨g, ρ, S, R, hg⟩ => by
  refine ⟨g, ρ, S, R, ?_⟩
  unfold eCall0 at hg
  cases ea : A ρ S with
  | exc x S1 => rw [ea] at hg; exact hg
  | no => rw [ea] at hg; exact hg
  | ok ds S1 =>
    rw [ea] at hg
    intro es vs H1 e1 s1
    subst es
    have hg : GoodC T W Γ ρ σ g S1 H (if noObjL ds = true then (match Φ ds [] with | .ok d _ [] => RE.ok d S1 | _ => .no) else .no) Q := hg
    split at hg
    · rename_i hno
      have R1 := R.ex e1
      refine ⟨by rw [← s1.length]; exact hA ρ S1 ds S1 ea, g.zero, ds, [], ?_, ?_⟩
      · refine ⟨by simp [s1.length], fun i d e => ?_, fun _ _ _ h => h.elim, fun _ _ h => h.elim, fun _ _ h => h.elim, fun _ _ h => h, fun a h => R1.dom a (G.zero_U.mp h), ⟨rfl, fun _ _ h => absurd h (Nat.not_lt_zero _), fun _ h => absurd h (Nat.not_lt_zero _), fun _ _ _ h => h.elim, fun _ _ _ _ _ h => h.elim, fun n o h => by simp at h, fun n o h => by simp at h, fun p hp => absurd (show p ∈ ([] : List (Addr × Str)) from hp) (by simp)⟩, fun a h => R1.nt a (G.zero_U.mp h)⟩
        rw [List.getElem?_map] at e
        cases q : ds[i]? with
        | none => rw [q] at e; cases e
        | some d' =>
          rw [q] at e
          cases e
          have s2 := ShrL.th (T := T) (T' := T.bare) rfl rfl rfl rfl _ _ (noObj_shrL (g2 := g.zero) (fun a h => G.zero_U.mp h) rfl _ _ hno s1)
          obtain ⟨v, h1, h2⟩ := s2.get q
          refine ⟨v, by rw [List.getElem?_map, h1]; rfl, ?_⟩
          rcases hm i with z | z
          · rw [z]; exact h2
          · rw [z]
            exact Shr.stay (g := g.zero) (g' := g.zero.bare) ⟨fun _ _ h _ => h, fun a h => .inl (G.bare_U h), Nat.le_refl _, fun _ _ => rfl, rfl⟩ _ _ h2
      · cases ef : Φ ds [] with
        | no => rw [ef] at hg; exact hg.elim
        | exc x outs S2 => rw [ef] at hg; exact hg.elim
        | ok d outs S2 =>
          rw [ef] at hg
          cases S2 with
          | cons _ _ => exact hg.elim
          | nil =>
            intro v g' H' Fo R' f' nf ho hw
            have ex : Exx H1 H' := fun a o h => f'.keep a o h (by
              by_cases hz : g.zero.O a
              · exact .inr hz
              · exact .inl fun u => hz (by rcases u with u | ⟨_, u⟩ | u <;> first | exact u | exact u.elim))
            have hN : g'.N = 0 := R'.st.N
            have st : Stay (g'.plus Fo) H' g H' := ⟨fun _ _ h _ => h, fun a h => .inl (.inl (.inl (by rw [f'.O]; exact h))), by show g'.N ≤ g.N; rw [hN]; exact Nat.zero_le _, fun n h => absurd (show n < g'.N from h) (by rw [hN]; exact Nat.not_lt_zero _), by
              have : g'.Z = g.zero.Z := f'.Z
              exact this.symm⟩
            refine hg rfl v H' (e1.trans ex) (Shr.th (T := T.bare) (T' := T) rfl rfl rfl rfl _ _ (shr_of_own2 st sg.kr Fo d v (fun a z u => (ho a z).1 u) hw))
    · exact hg.elim
end
def getF (S : Store) (n : Nat) (f : Str) : Option (Nat × D) := (S[n]?).bind fun o => (o.fs.lookup f).map fun d => (o.cls, d)
theorem lookup_pair {β γ : Type} {f : Str} {d : β} : ∀ {l : List (Str × β)} {m : List (Str × γ)}, m.map (·.1) = l.map (·.1) → l.lookup f = some d → ∃ (j : Nat) (w : γ), l[j]? = some (f, d) ∧ m[j]? = some (f, w) ∧ m.lookup f = some w
  | [], _, _, h => by cases h
  | (k, x) :: l, [], e, _ => by simp at e
  | (k, x) :: l, (k', y) :: m, e, h => by
    simp only [List.map_cons, List.cons.injEq] at e
    obtain ⟨e1, e2⟩ := e
    subst e1
    by_cases hk : f = k'
    · subst hk
      rw [List.lookup_cons_self] at h
      cases h
      exact ⟨0, y, rfl, rfl, by rw [List.lookup_cons_self]⟩
    · have hb : (f == k') = false := beq_eq_false_iff_ne.mpr hk
      rw [List.lookup_cons, hb] at h
      obtain ⟨j, w, h1, h2, h3⟩ := lookup_pair e2 h
      exact ⟨j + 1, w, h1, h2, by rw [List.lookup_cons, hb]; exact h3⟩
section
variable {T : Th} {g : G} {S : Store} {H : Hp} {n : Nat} {f : Str} {c : Nat} {d : D}
theorem SR.fld (r : SR T g S H) (e : getF S n f = some (c, d)) : n < g.N ∧ ∃ dx fs v, H (g.μ n) = some (.ins (T.cA c) dx fs) ∧ fs.lookup f = some v ∧ Own T g H (T.fm c f) (g.BF n f) d v := by
  unfold getF at e
  obtain ⟨o, e1, e2⟩ := Option.bind_eq_some_iff.mp e
  obtain ⟨d', e3, e4⟩ := Option.map_eq_some_iff.mp e2
  cases e4
  refine ⟨by rw [r.N]; exact (List.getElem?_eq_some_iff.mp e1).1, ?_⟩
  obtain ⟨dx, fs, h1, h2, h3⟩ := r.ob n o e1
  obtain ⟨j, w, j1, j2, j3⟩ := lookup_pair h2 e3
  exact ⟨dx, fs, w, h1, j3, h3 j (f, d) (f, w) j1 j2⟩
end
def fldK (fm : Nat → Str → Nat) (cs : List Nat) (f : Str) (x : D) (S : Store) : RE := match x with
  | .obj n => (match getF S n f with
    | some (c, d) => if c ∈ cs ∧ fm c f = 0 then .ok d S else .no
    | none => .no)
  | _ => .no
def fldV (cs : List Nat) (f : Str) (x : D) (S : Store) : RE := match x with
  | .obj n => (match getF S n f with
    | some (c, d) => if c ∈ cs then .ok d S else .no
    | none => .no)
  | _ => .no
def eFld (fm : Nat → Str → Nat) (cs : List Nat) (f : Str) (a : FE) : FE := fun ρ S => (a ρ S).bind fun x S1 => fldK fm cs f x S1
def eFldV (cs : List Nat) (f : Str) (a : FE) : FE := fun ρ S => (a ρ S).bind fun x S1 => fldV cs f x S1
def FldOk (K : PySem.W.Frag) (T : Th) (cs : List Nat) (f : Str) : Prop := ∀ c ∈ cs, Cls K (T.cA c) ∧ NoAttr K (T.cA c) f
section
variable {X : Cx} {T : Th} {W : WX} {Γ : List Md} {fm : Nat → Str → Nat} {cs : List Nat} {f : Str}
theorem fldV_get {x z : D} {S S2 : Store} (h : fldV cs f x S = .ok z S2) : ∃ n c, x = .obj n ∧ getF S n f = some (c, z) ∧ c ∈ cs ∧ S2 = S := by
  unfold fldV at h
  split at h
  · rename_i n
    split at h
    · rename_i c d e
      split at h
      · rename_i hc
        cases h
        exact ⟨n, c, rfl, e, hc, rfl⟩
      · cases h
    · cases h
  · cases h
theorem fldV_exc {x : D} {S S2 : Store} {y : Exc} (h : fldV cs f x S = .exc y S2) : False := by
  unfold fldV at h
  repeat' split at h
  all_goals cases h
theorem xv_fld {e a : Expr} {A : FE} (hc : FldOk X.K T cs f) (ha : XC X T W Γ a A) (he : PE X a (tC1 T W Γ A) → PE X e (tFld X.K (tC1 T W Γ A) f)) : XV X T W Γ e (eFldV cs f A) := pe_imp (he ha) fun σ H Q ⟨g, ρ, S, R, hg⟩ =>
  ⟨g, ρ, S, R, goodVC_bind hg fun x v H1 _ e1 s1 hg1 => by
    cases ez : fldV cs f x S with
    | no => rw [ez] at hg1; exact hg1.elim
    | exc y S2 => exact (fldV_exc ez).elim
    | ok z S2 =>
      obtain ⟨n, c, rfl, eF, hcs, rfl⟩ := fldV_get ez
      rw [ez] at hg1
      obtain ⟨hn, dx, fs, w, h1, h2, h3⟩ := (R.ex e1).st.fld eF
      simp only [Shr] at s1
      exact ⟨g.μ n, _, dx, fs, w, s1.2, h1, (hc c hcs).1, (hc c hcs).2, h2, hg1 rfl w H1 (.refl _) (shr_of_own2 stay_vv _ _ _ _ (fun _ _ => G.vv_U) h3)⟩⟩
end
end Q

namespace Q
open PySem PySem.Spec PyProof.Rows L2
section
variable {X : Cx} {CX : CXT} {k : Nat} {f C : Addr} {fd : FuncData} {ps : List Str} {sp : Sp} {E : L2.St → XK} {x m : Str} {p pos apos : Pos} {e o : Expr} {es : List Expr} {ta : TE} {t : TA}
def Def1 (X : Cx) (f : Addr) (sp : Sp) : Prop := ∃ (k : Nat) (fd : FuncData) (ps : List Str) (ds : List Value) (dvs : List V) (sp0 : Sp), FnOk X.prog X.w X.K X.mg X.base (L2.CX X.prog X.w) k f fd ps sp0 ∧ Room (k + 1) X.A ∧ Binds X.K fd ps ds ∧ Vals dvs ds ∧ ∀ vs H Q E, sp vs H Q E → sp0 (vs ++ dvs) H Q E
theorem def1_run {pins : List (Addr × Obj)} {σ : L2.St} {H : Hp} {s : Shared} {Q : VK} {us : List Value} {vs : List V} (D : Def1 X f sp) (hx : PassesAt (L2.CX X.prog X.w) X σ (E σ)) (I : Inv X pins σ H s) (r : Vals vs us) (h : sp vs H Q (E σ)) :
    wpAny (model X.prog X.w) X.A (call (.ref f) us) (EP X pins σ Q) X.xe s := by
  obtain ⟨k, fd, ps, ds, dvs, sp0, F, hr, hb, hd, hs⟩ := D
  have h0 := hs _ _ _ _ h
  have r2 : Vals (vs ++ dvs) (us ++ ds) := r.append hd
  have hl : (us ++ ds).length = ps.length := by rw [← r2.length]; exact F.len _ _ _ _ h0
  refine wpAny_call (codeAny_mono (F.run X.A X.stack s H ⟨us, []⟩ (us ++ ds) (vs ++ dvs) Q (E σ) (hr.mono (Nat.le_succ _)) I.env0 (hb s us I.kIn hl) r2 h0) fun r s' hq => ?_)
  cases r with
  | ok fl => cases fl with
    | next => exact hq.elim
    | brk => exact hq.elim
    | cont => exact hq.elim
    | ret u => exact I.after hq
  | error e => exact hx pins H s e s' I hq
def tMethD (m : Str) (Ms : Addr → Sp → Prop) (E : L2.St → XK) (ta : TE) (t : TA) : TE := fun σ H Q => ta σ H fun x H1 => ∃ a C dx fs sp, x = .ref a ∧ H1 a = some (.ins C dx fs) ∧ Ms C sp ∧ fs.lookup m = none ∧ t σ H1 fun vs H2 => sp (x :: vs) H2 Q (E σ)
def MethsOk (X : Cx) (m : Str) (Ms : Addr → Sp → Prop) : Prop := ∀ C sp, Ms C sp → Cls X.K C ∧ ∃ f, Meth X.K C m f ∧ Def1 X f sp
theorem pe_methD {pl : Sem Bool} {Ms : Addr → Sp → Prop} (he : PE X o ta) (M : MethsOk X m Ms) (hx : ∀ σ, PassesAt (L2.CX X.prog X.w) X σ (E σ)) (ha : PA X (e :: es) t)
    (hst : starEach (e :: es) X.env = (false, eval e X.env) :: starEach es X.env := by rfl) (hpl : (backTo pos (starEach es X.env)).any (·.1) = false := by rfl)
    (ht : eval (.Call (.Attribute o m apos) (e :: es) [] pos) X.env = (do
      let ov ← eval o X.env; standAt apos.atName
      let (f, first) ← holding [ov] (getMethod ov m pl)
      callWith pos f first (backTo pos (starEach (e :: es) X.env)) (backToKw pos (keywordEach [] X.env))) := by rfl) :
    PE X (.Call (.Attribute o m apos) (e :: es) [] pos) (tMethD m Ms E ta t) := ⟨fun pins s σ H Q I h => by
  refine PySem.W.methodCall_KW (pl := pl) (thn (he.run pins s σ H _ I h) fun u s1 ⟨x, H1, I1, rx, a, C, dx, fs, sp, ex, ea, ms, l, q⟩ => ?_) ht
  subst ex
  cases (show u = Value.ref a from rx)
  obtain ⟨c, f, hm, D⟩ := M C sp ms
  exact getmeth_ok I1 ea c hm l (PySem.W.callWith_K (first := [.ref a]) (h₀ := X.base) I.ok.mod.kin hm.kp (thn (ha.run pos pins s1 σ H1 _ I1 q) fun us s2 ⟨vs, H2, I2, r, q2⟩ => ⟨I2.kIn, def1_run (us := .ref a :: us) (vs := .ref a :: vs) D (hx σ) I2 (.cons rfl r) q2⟩) hst hpl)⟩
theorem pe_methD0 {pl : Sem Bool} {Ms : Addr → Sp → Prop} (he : PE X o ta) (M : MethsOk X m Ms) (hx : ∀ σ, PassesAt (L2.CX X.prog X.w) X σ (E σ))
    (ht : eval (.Call (.Attribute o m apos) [] [] pos) X.env = (do
      let ov ← eval o X.env; standAt apos.atName
      let (f, first) ← holding [ov] (getMethod ov m pl)
      callWith pos f first (backTo pos (starEach [] X.env)) (backToKw pos (keywordEach [] X.env))) := by rfl) :
    PE X (.Call (.Attribute o m apos) [] [] pos) (tMethD m Ms E ta tNil) := ⟨fun pins s σ H Q I h => by
  refine PySem.W.methodCall_KW (pl := pl) (thn (he.run pins s σ H _ I h) fun u s1 ⟨x, H1, I1, rx, a, C, dx, fs, sp, ex, ea, ms, l, q⟩ => ?_) ht
  subst ex
  cases (show u = Value.ref a from rx)
  obtain ⟨c, f, hm, D⟩ := M C sp ms
  exact getmeth_ok I1 ea c hm l (PySem.W.callWith_K0 (first := [.ref a]) I1.kIn hm.kp (def1_run (us := [.ref a]) (vs := [.ref a]) D (hx σ) I1 (.cons rfl .nil) q))⟩
def tMakeD (C : Addr) (sp : Sp) (E : L2.St → XK) (t : TA) : TE := fun σ H Q => t σ H fun vs H1 => ∀ x dx, H1 x = none → H1 dx = none → dx ≠ x → sp (.ref x :: vs) (upd (upd H1 dx (.own x)) x (.ins C dx [])) (fun v H2 => v = .non ∧ Q (.ref x) H2) (E σ)
theorem make_runD {pins : List (Addr × Obj)} {σ : L2.St} {H : Hp} {s : Shared} {Q : VK} {us : List Value} {vs : List V} (M : Mk X.K C f) (D : Def1 X f sp) (hx : PassesAt (L2.CX X.prog X.w) X σ (E σ)) (I : Inv X pins σ H s) (r : Vals vs us)
    (h : ∀ x dx, H x = none → H dx = none → dx ≠ x → sp (.ref x :: vs) (upd (upd H dx (.own x)) x (.ins C dx [])) (fun v H2 => v = .non ∧ Q (.ref x) H2) (E σ)) :
    wpAny (model X.prog X.w) X.A (call (.ref C) us) (EP X pins σ Q) X.xe s := by
  obtain ⟨k, fd, ps, ds, dvs, sp0, F, hr, hb, hd, hs⟩ := D
  have hq := hs _ _ _ _ (h (s.heap.objs.size + 1) s.heap.objs.size (I.hok.fresh (Nat.le_succ _)) (I.hok.fresh (Nat.le_refl _)) (Nat.ne_of_lt (Nat.lt_succ_self _)))
  have I2 := Inv.made (C := C) I
  have r2 : Vals (V.ref (s.heap.objs.size + 1) :: vs ++ dvs) (Value.ref (s.heap.objs.size + 1) :: us ++ ds) := Vals.append (.cons rfl r) hd
  have hl : (Value.ref (s.heap.objs.size + 1) :: us ++ ds).length = ps.length := by rw [← r2.length]; exact F.len _ _ _ _ hq
  have go := F.run _ X.stack _ _ ⟨Value.ref (s.heap.objs.size + 1) :: us, []⟩ (Value.ref (s.heap.objs.size + 1) :: us ++ ds) _ _ (E σ) (hr.make C us []) (I2.env0.make C us []) (hb _ (Value.ref (s.heap.objs.size + 1) :: us) I2.kIn hl) r2 hq
  refine wpAny_call (make_map (f := f) I.kIn M.makes M.init (beq_iff_eq.mp M.fn) (codeAny_mono go fun r s' hq' => ?_))
  cases r with
  | ok fl => cases fl with
    | next => exact hq'.elim
    | brk => exact hq'.elim
    | cont => exact hq'.elim
    | ret u =>
      obtain ⟨v, H', I3, rv, ev, q3⟩ := I2.after hq'
      cases ev
      exact ⟨rv, ⟨V.ref (s.heap.objs.size + 1), H', I3, rfl, q3⟩⟩
  | error e => exact hx pins _ _ e s' I2 hq'
theorem pe_makeD0 (M : Mk X.K C f) (D : Def1 X f sp) (hg : Gl X x) (hm : X.mg x = some (.ref C)) (hx : ∀ σ, PassesAt (L2.CX X.prog X.w) X σ (E σ)) (hdb : (x == ("__debug__" : Str)) = false := by decide) :
    PE X (.Call (.Name x p) [] [] pos) (tMakeD C sp E tNil) := ⟨fun pins s σ H Q I h =>
  wpAny_Call_Name_kw (ld_glob I hg hm (PySem.W.callWith_K0 I.kIn M.kp (make_runD (us := []) M D (hx σ) I .nil h)) hdb)⟩
end
end Q

namespace Q
open PySem PySem.Spec PyProof.Rows L2
section
variable {X : Cx} {T : Th} {W : WX} {Γ : List Md} {bs : List Bool}
theorem ShrM.app {g : G} {H : Hp} {dd : List D} {dvs : List V} (hd : ∀ g H, ShrL T g H dd dvs) : ∀ {bs : List Bool} {ds : List D} {vs : List V}, ShrM T g H bs ds vs → ShrM T g H bs (ds ++ dd) (vs ++ dvs)
  | bs, [], vs, h => by
    simp only [ShrM] at h
    subst h
    show ShrM T g H bs dd dvs
    have key : ∀ (dd : List D) (dvs : List V) (bs : List Bool), (∀ g H, ShrL T g H dd dvs) → ShrM T g H bs dd dvs := by
      intro dd
      induction dd with
      | nil => intro dvs bs h; have := h g H; simp only [ShrL] at this; simp only [ShrM]; exact this
      | cons d r ih =>
        intro dvs bs h
        have h0 := h g H
        simp only [ShrL] at h0
        obtain ⟨v, ws, rfl, _, _⟩ := h0
        simp only [ShrM]
        refine ⟨v, ws, rfl, ?_, ih ws bs.tail fun g' H' => ?_⟩
        · have h1 := h (if bs.headD false = true then g.bb else g) H
          simp only [ShrL] at h1
          obtain ⟨v', ws', e, s, _⟩ := h1
          cases e
          exact s
        · have h1 := h g' H'
          simp only [ShrL] at h1
          obtain ⟨v', ws', e, _, r'⟩ := h1
          cases e
          exact r'
    exact key dd dvs bs hd
  | bs, d :: ds, vs, h => by
    simp only [ShrM] at h
    obtain ⟨v, ws, rfl, q, r⟩ := h
    show ShrM T g H bs (d :: (ds ++ dd)) (v :: (ws ++ dvs))
    simp only [ShrM]
    exact ⟨v, _, rfl, q, ShrM.app hd r⟩
def RFE (r : RF) : RE := match r with
  | .ok d _ S => .ok d S
  | .exc x _ S => .exc x S
  | .no => .no
theorem call_core {n : Nat} {sg : Sig} {Φ : FF} {g g1 : G} {H H1 : Hp} {ρ : Env} {σ : L2.St} {S1 : Store} {ds : List D} {vs : List V} {Q : VK} (R1 : Rel T g1 Γ ρ S1 σ H1) (f1 : FrE g H g1 H1) (s1 : ShrM T g1 H1 bs ds vs) (hm : ∀ i, sg.ms.getD i .s = mdOf (bs.getD i false))
    (hn : ds.length = n) (hg : GoodN T W Γ sg.kr ρ σ g H (RFE (Φ ds S1)) Q) : spD T n sg Φ vs H1 Q (WE W σ) := by
  refine ⟨by rw [← s1.length]; exact hn, g1.callee, ds, S1, rel_argsM R1 s1 hm, ?_⟩
  have npin : ∀ (i k : Nat), sg.ms.getD i .s ≠ .p k := fun i k h => by
    rw [hm] at h
    unfold mdOf at h
    split at h <;> cases h
  cases ef : Φ ds S1 with
  | no => rw [ef] at hg; exact hg
  | ok d outs S2 =>
    rw [ef] at hg
    intro v g' H' Fo R' f' nf ho hw
    have nf' : ∀ i a, ¬ g'.F i a := fun i a z => by
      obtain ⟨k, e⟩ := nf i a z
      exact npin i k e
    obtain ⟨R2, f2, hU⟩ := call_back R1 R' f' nf'
    obtain ⟨R3, out⟩ := call_fresh R1 R' f' nf' ho
    refine hg v (g1.back g') H' Fo R3 (f1.trans f2) (fun a z => ⟨(out a z).1, ?_⟩) ?_
    · rcases (out a z).2 with w | w
      · exact f1.B a w
      · exact f1.none w
    · have st : Stay (g'.plus Fo) H' ((g1.back g').plusF ρ.length Fo) H' := ⟨fun _ _ h _ => h, fun a h => .inl (by
        rcases G.plusF_U.mp h with h | h
        · exact hU a h
        · exact G.plus_U.mpr (.inr h)), Nat.le_refl _, fun _ _ => rfl, rfl⟩
      exact Own.keepF st _ _ _ _ (fun _ _ _ q => q) hw
  | exc x outs S2 =>
    rw [ef] at hg
    intro c dd g' H' R' f' nf ex
    have nf' : ∀ i a, ¬ g'.F i a := fun i a z => by
      obtain ⟨k, e⟩ := nf i a z
      exact npin i k e
    obtain ⟨R2, f2, hU⟩ := call_back R1 (plus_none R') f' nf'
    refine hg c dd (g1.back g') H' R2 (f1.trans f2) ?_
    obtain ⟨e0, e1, e2⟩ := ex
    refine ⟨e0, e1, e2.imp id fun ⟨d, fs, h1, h2, h3, h4, h5⟩ => ⟨d, fs, h1, h2, h3, h4, ?_⟩⟩
    have st : Stay g' H' (g1.back g') H' := ⟨fun _ _ h _ => h, fun a h => .inl (by
      rcases hU a h with (h | h) | h | h
      · exact .inl h
      · exact h.elim
      · exact .inr (.inl h)
      · exact .inr (.inr h)), Nat.le_refl _, fun _ _ => rfl, rfl⟩
    exact ⟨ShrL.stay st _ _ h5.1, st.off h3 h5.2⟩
def spDD (T : Th) (n : Nat) (sg : Sig) (Φ : FF) (dvs : List V) : Sp := fun vs H Q E => spD T n sg Φ (vs ++ dvs) H Q E
def eCallD (Φ : FF) (dd : List D) (as : FL) : FE := fun ρ S => match as ρ S with
  | .ok ds S1 => RFE (Φ (ds ++ dd) S1)
  | .exc x S1 => .exc x S1
  | .no => .no
def methK (m : Str) (tbl : List (Nat × FF)) (dd : List D) (x : D) (S1 : Store) (k : Store → RL) : RE := match x with
  | .obj n => (match S1[n]? with
    | some ob => if (ob.fs.lookup m).isNone = true then (match tbl.lookup ob.cls with
      | some Φ => (match k S1 with
        | .ok ds S2 => RFE (Φ (.obj n :: (ds ++ dd)) S2)
        | .exc y S2 => .exc y S2
        | .no => .no)
      | none => .no) else .no
    | none => .no)
  | _ => .no
def eMeth (m : Str) (tbl : List (Nat × FF)) (dd : List D) (a : FE) (as : FL) : FE := fun ρ S => (a ρ S).bind fun x S1 => methK m tbl dd x S1 (as ρ)
def Ms (T : Th) (tbl : List (Nat × FF)) (n : Nat) (sg : Sig) (dvs : List V) : Addr → Sp → Prop := fun C sp => ∃ c Φ, tbl.lookup c = some Φ ∧ C = T.cA c ∧ sp = spDD T n sg Φ dvs
def MethOk (X : Cx) (T : Th) (m : Str) (n : Nat) (sg : Sig) (dvs : List V) (c : Nat) (Φ : FF) : Prop := Cls X.K (T.cA c) ∧ ∃ f, Meth X.K (T.cA c) m f ∧ Def1 X f (spDD T n sg Φ dvs)
def TblOk (X : Cx) (T : Th) (m : Str) (n : Nat) (sg : Sig) (dvs : List V) (tbl : List (Nat × FF)) : Prop := ∀ c Φ, tbl.lookup c = some Φ → MethOk X T m n sg dvs c Φ
theorem tbl_nil {m : Str} {n : Nat} {sg : Sig} {dvs : List V} : TblOk X T m n sg dvs [] := fun _ _ h => by cases h
theorem tbl_cons {m : Str} {n : Nat} {sg : Sig} {dvs : List V} {c : Nat} {Φ : FF} {r : List (Nat × FF)} (h : MethOk X T m n sg dvs c Φ) (hr : TblOk X T m n sg dvs r) : TblOk X T m n sg dvs ((c, Φ) :: r) := fun c' Φ' e => by
  by_cases hc : c' = c
  · subst hc
    rw [List.lookup_cons_self] at e
    cases e
    exact h
  · have hb : (c' == c) = false := beq_eq_false_iff_ne.mpr hc
    rw [List.lookup_cons, hb] at e
    exact hr c' Φ' e
theorem tbl_meths {m : Str} {n : Nat} {sg : Sig} {dvs : List V} {tbl : List (Nat × FF)} (h : TblOk X T m n sg dvs tbl) : MethsOk X m (Ms T tbl n sg dvs) := fun C sp ⟨c, Φ, e, hC, hs⟩ => by
  subst hC hs
  exact h c Φ e
theorem def1_of {n : Nat} {sg : Sig} {Φ : FF} {f : Addr} {k : Nat} {fd : FuncData} {ps : List Str} {ds : List Value} {dvs : List V} (F : FnOk X.prog X.w X.K X.mg X.base (L2.CX X.prog X.w) k f fd ps (spD T n sg Φ)) (hr : Room (k + 1) X.A) (hb : Binds X.K fd ps ds) (hd : Vals dvs ds) : Def1 X f (spDD T n sg Φ dvs) :=
  ⟨k, fd, ps, ds, dvs, _, F, hr, hb, hd, fun _ _ _ _ h => h⟩
theorem goodN_bindE {ρ : Env} {σ : L2.St} {g : G} {H : Hp} {k : Nat} {r : RE} {c : D → Store → RE} {Q Q' : VK} (h : GoodN T W Γ k ρ σ g H (r.bind c) Q)
    (hk : ∀ d S v g' H', r = .ok d S → Rel T g' Γ ρ S σ H' → FrE g H g' H' → Shr T g' H' d v → GoodN T W Γ k ρ σ g H (c d S) Q → Q' v H') : GoodE T W Γ ρ σ g H r Q' := by
  cases r with
  | ok d S => exact fun v g' H' R f s => hk d S v g' H' rfl R f s h
  | exc x S => exact h
  | no => exact h
theorem lookup_off {β γ : Type} {f : Str} : ∀ {l : List (Str × β)} {m : List (Str × γ)}, m.map (·.1) = l.map (·.1) → l.lookup f = none → m.lookup f = none
  | [], [], _, _ => rfl
  | [], _ :: _, e, _ => by simp at e
  | _ :: _, [], e, _ => by simp at e
  | (k, x) :: l, (k', y) :: m, e, h => by
    simp only [List.map_cons, List.cons.injEq] at e
    obtain ⟨e1, e2⟩ := e
    subst e1
    rw [List.lookup_cons] at h ⊢
    cases hb : f == k' with
    | true => rw [hb] at h; cases h
    | false => rw [hb] at h; exact lookup_off e2 h
theorem xf_meth {m : Str} {n j : Nat} {sg : Sig} {dd : List D} {dvs : List V} {tbl : List (Nat × FF)} {e o : Expr} {es : List Expr} {A : FE} {B : FL} (hd : ∀ g H, ShrL T g H dd dvs) (hm : ∀ i, sg.ms.getD i .s = mdOf ((false :: bs).getD i false)) (hB : ∀ ρ S ds S1, B ρ S = .ok ds S1 → ds.length = j) (hn : j + dd.length + 1 = n)
    (M : TblOk X T m n sg dvs tbl) (ho : XE X T W Γ o A) (ha : XM X T W Γ bs es B) (he : PE X o (tX T W Γ A) → MethsOk X m (Ms T tbl n sg dvs) → PA X es (tM T W Γ bs B) → PE X e (tMethD m (Ms T tbl n sg dvs) (WE W) (tX T W Γ A) (tM T W Γ bs B))) : XF X T W Γ sg.kr e (eMeth m tbl dd A B) :=
  pe_imp (he ho (tbl_meths M) ha) fun σ H Q ⟨g, ρ, S, R, hg⟩ => ⟨g, ρ, S, R, goodN_bindE hg fun x S1 v g1 H1 eR R1 f1 s1 hg1 => by
    clear eR
    unfold methK at hg1
    split at hg1
    · rename_i no
      split at hg1
      · rename_i ob e1
        split at hg1
        · rename_i hl
          split at hg1
          · rename_i Φ e2
            simp only [Shr] at s1
            obtain ⟨dx, fs, h1, h2, h3⟩ := R1.st.ob no ob e1
            have hlook : fs.lookup m = none := lookup_off h2 (by simpa using hl)
            refine ⟨g1.μ no, _, dx, fs, _, s1.2, h1, ⟨ob.cls, Φ, e2, rfl, rfl⟩, hlook, g1, ρ, S1, R1, ?_⟩
            cases eb : B ρ S1 with
            | no => rw [eb] at hg1; exact hg1
            | exc y S2 => rw [eb] at hg1; exact fun c dd' g' H' R' f' ex => hg1 c dd' g' H' R' (f1.trans f') ex
            | ok ds S2 =>
              rw [eb] at hg1
              intro vs g2 H2 R2 f2 s2
              refine call_core (bs := false :: bs) R2 (f1.trans f2) (ds := .obj no :: (ds ++ dd)) ?_ hm (by rw [List.length_cons, List.length_append, hB ρ S1 ds S2 eb]; exact hn) hg1
              show ShrM T g2 H2 (false :: bs) (.obj no :: (ds ++ dd)) (v :: (vs ++ dvs))
              simp only [ShrM]
              refine ⟨v, _, rfl, ?_, s2.app hd⟩
              simp only [List.headD_cons, Bool.false_eq_true, if_false, Shr]
              exact ⟨Nat.lt_of_lt_of_le s1.1 f2.N, by rw [f2.μ _ s1.1]; exact s1.2⟩
          · exact hg1.elim
        · exact hg1.elim
      · exact hg1.elim
    · exact hg1.elim⟩
def G.newObj (g : G) (x : Addr) : G := { g with N := g.N + 1, μ := fun n => if n = g.N then x else g.μ n, B := fun a => g.B a ∨ a = x }
theorem Rel.newObj {g : G} {ρ : Env} {S : Store} {σ : L2.St} {H : Hp} {c : Nat} {x dx : Addr} (R : Rel T g Γ ρ S σ H) (hx : H x = none) (hdx : H dx = none) (ne : dx ≠ x) :
    Rel T (g.newObj x) Γ ρ (S ++ [⟨c, []⟩]) σ (upd (upd H dx (.own x)) x (.ins (T.cA c) dx [])) ∧ FrE g H (g.newObj x) (upd (upd H dx (.own x)) x (.ins (T.cA c) dx [])) := by
  have e1 : Exx H (upd H dx (.own x)) := Exx.new hdx
  have hx1 : upd H dx (.own x) x = none := by rw [upd_ne ne.symm]; exact hx
  have ex : Exx H (upd (upd H dx (.own x)) x (.ins (T.cA c) dx [])) := e1.trans (Exx.new hx1)
  have np : ∀ a, g.U a → a ≠ x := fun a u z => by
    obtain ⟨o, q⟩ := R.dom a u
    rw [z, hx] at q; cases q
  have ndx : ∀ a, g.U a → a ≠ dx := fun a u z => by
    obtain ⟨o, q⟩ := R.dom a u
    rw [z, hdx] at q; cases q
  have hU : ∀ a, (g.newObj x).U a → g.U a ∨ a = x := fun a u => by
    rcases u with u | u | u | u
    · exact .inl (.inl u)
    · exact .inl (.inr (.inl u))
    · exact .inl (.inr (.inr u))
    · exact .inr u
  have fe : FrE g H (g.newObj x) (upd (upd H dx (.own x)) x (.ins (T.cA c) dx [])) := ⟨fun a o h _ => ex a o h, fun a h => h.imp id fun z => by rw [z]; exact hx, rfl, rfl, rfl, Nat.le_succ _, fun n h => if_neg (Nat.ne_of_lt h), fun a o h => ⟨o, ex a o h⟩⟩
  refine ⟨⟨R.len, fun i d e => ?_, R.dF, R.dFO, fun i a h u => ?_, fun a h u => ?_, fun a u => ?_, ?_, fun a u w r => ?_⟩, fe⟩
  · obtain ⟨v, h1, h2⟩ := R.slot i d e
    refine ⟨v, h1, ?_⟩
    have st := fe.stay
    cases hm : Γ.getD i .s <;> rw [hm] at h2 <;> simp only [RepM] at h2 ⊢
    · exact h2.stay st
    · exact Own.keepF st _ _ _ _ (fun a o z q => ex a o q) h2
    · exact Own.keepF st _ _ _ _ (fun a o z q => ex a o q) h2
    · exact ⟨h2.1, Own.keepF st _ _ _ _ (fun a o z q => ex a o q) h2.2⟩
    · exact h2
    · exact h2.stay fe.bare
    · exact ⟨h2.1, (st).keep _ _ h2.2.1 h2.2.2, (st).off h2.2.1 h2.2.2⟩
  · rcases u with u | u
    · exact R.dFB i a h u
    · exact np a (.inr (.inl ⟨i, h⟩)) u
  · rcases u with u | u
    · exact R.dOB a h u
    · exact np a (.inl h) u
  · rcases hU a u with u | u
    · obtain ⟨o, q⟩ := R.dom a u
      exact ⟨o, ex a o q⟩
    · exact ⟨_, by rw [u]; exact upd_same⟩
  · have st := fe.stay
    have r := R.st
    have hN : g.N = S.length := r.N
    have μo : ∀ n, n < g.N → (g.newObj x).μ n = g.μ n := fun n h => if_neg (Nat.ne_of_lt h)
    have μn : (g.newObj x).μ g.N = x := if_pos rfl
    refine ⟨by show g.N + 1 = _; rw [hN]; simp, fun m n hm hn e => ?_, fun n hn => ?_, fun n f a h => ⟨.inl (r.bB n f a h).1, fun m hm => ?_⟩, r.bd, fun n o e => ?_, fun n o e => ?_, fun p hp => (r.tb p hp).stay st (fun o e => ex _ _ e) (fun z => .inl z) fun n f z => z⟩
    · have hm : m < g.N + 1 := hm
      have hn : n < g.N + 1 := hn
      by_cases h1 : m = g.N <;> by_cases h2 : n = g.N
      · rw [h1, h2]
      · subst h1
        rw [μn, μo n (by omega)] at e
        exact absurd e.symm (np _ (.inr (.inr (r.mB n (by omega)))))
      · subst h2
        rw [μn, μo m (by omega)] at e
        exact absurd e (np _ (.inr (.inr (r.mB m (by omega)))))
      · rw [μo m (by omega), μo n (by omega)] at e
        exact r.inj m n (by omega) (by omega) e
    · have hn : n < g.N + 1 := hn
      by_cases h2 : n = g.N
      · subst h2; rw [μn]; exact .inr rfl
      · rw [μo n (by omega)]; exact .inl (r.mB n (by omega))
    · have hm : m < g.N + 1 := hm
      by_cases h2 : m = g.N
      · subst h2; rw [μn]; exact np a (.inr (.inr (r.bB n f a h).1))
      · rw [μo m (by omega)]; exact (r.bB n f a h).2 m (by omega)
    · rw [List.getElem?_append] at e
      split at e
      · exact r.nd n o e
      · rename_i h
        cases hk : n - S.length with
        | zero => rw [hk] at e; cases e; exact List.nodup_nil
        | succ j => rw [hk] at e; simp at e
    · by_cases h2 : n < S.length
      · rw [List.getElem?_append_left h2] at e
        obtain ⟨dx', fs, h1, h3, h4⟩ := r.ob n o e
        refine ⟨dx', fs, by rw [μo n (by omega)]; exact ex _ _ h1, h3, fun j d w a b => ?_⟩
        exact Own.keepF st _ _ _ _ (fun a o _ q => ex a o q) (h4 j d w a b)
      · rw [List.getElem?_append_right (by omega)] at e
        cases hk : n - S.length with
        | zero =>
          rw [hk] at e
          cases e
          have : n = g.N := by omega
          subst this
          exact ⟨dx, [], by rw [μn]; exact upd_same, rfl, fun j d w a => by simp at a⟩
        | succ j => rw [hk] at e; simp at e
  · rcases hU a u with u | u
    · exact ex.nt R.dom R.nt a u w r
    · rw [u] at r
      rcases r with r | ⟨b, r⟩
      · rw [upd_same] at r; cases r
      · rw [upd_same] at r; cases r
def makeR (n : Nat) (r : RF) : RE := match r with
  | .ok .non _ S => .ok (.obj n) S
  | .exc x _ S => .exc x S
  | _ => .no
def eMake (c : Nat) (Φ : FF) (dd : List D) (as : FL) : FE := fun ρ S => match as ρ S with
  | .ok ds S1 => makeR S1.length (Φ (.obj S1.length :: (ds ++ dd)) (S1 ++ [⟨c, []⟩]))
  | .exc x S1 => .exc x S1
  | .no => .no
theorem xe_make {n j c : Nat} {sg : Sig} {Φ : FF} {dd : List D} {dvs : List V} {e : Expr} {es : List Expr} {A : FL} (hd : ∀ g H, ShrL T g H dd dvs) (hm : ∀ i, sg.ms.getD i .s = mdOf ((false :: bs).getD i false)) (hA : ∀ ρ S ds S1, A ρ S = .ok ds S1 → ds.length = j) (hn : j + dd.length + 1 = n)
    (ha : XM X T W Γ bs es A) (he : PA X es (tM T W Γ bs A) → PE X e (tMakeD (T.cA c) (spDD T n sg Φ dvs) (WE W) (tM T W Γ bs A))) : XE X T W Γ e (eMake c Φ dd A) := pe_imp (he ha) fun σ H Q ⟨g, ρ, S, R, hg⟩ => by
  refine ⟨g, ρ, S, R, ?_⟩
  unfold eMake at hg
  cases ea : A ρ S with
  | exc x S1 => rw [ea] at hg; exact hg
  | no => rw [ea] at hg; exact hg
  | ok ds S1 =>
    rw [ea] at hg
    intro vs g1 H1 R1 f1 s1 x dx hx hdx ne
    obtain ⟨R2, f2⟩ := R1.newObj (c := c) hx hdx ne
    have hN : g1.N = S1.length := R1.st.N
    refine call_core (bs := false :: bs) R2 (.refl _ _) (ds := .obj S1.length :: (ds ++ dd)) (vs := .ref x :: (vs ++ dvs)) ?_ hm (by rw [List.length_cons, List.length_append, hA ρ S ds S1 ea]; exact hn) ?_
    · show ShrM T _ _ (false :: bs) (.obj S1.length :: (ds ++ dd)) (.ref x :: (vs ++ dvs))
      simp only [ShrM]
      refine ⟨_, _, rfl, ?_, (s1.stayE f2).app hd⟩
      simp only [List.headD_cons, Bool.false_eq_true, if_false, Shr]
      exact ⟨by show S1.length < g1.N + 1; omega, by show V.ref x = V.ref (if S1.length = g1.N then x else _); rw [if_pos hN.symm]⟩
    · have hg : GoodE T W Γ ρ σ g H (makeR S1.length (Φ (.obj S1.length :: (ds ++ dd)) (S1 ++ [⟨c, []⟩]))) Q := hg
      cases ef : Φ (.obj S1.length :: (ds ++ dd)) (S1 ++ [⟨c, []⟩]) with
      | no => rw [ef] at hg; exact hg
      | exc y o S2 => rw [ef] at hg; exact fun c' dd' g' H' R' f' ex => hg c' dd' g' H' R' ((f1.trans f2).trans f') ex
      | ok d o S2 =>
        rw [ef] at hg
        cases d <;> first | exact hg.elim | skip
        intro v g' H' Fo R' f' ho hw
        have hw : Own T (g'.plusF ρ.length Fo) H' sg.kr Fo .non v := hw
        have ev : v = .non := by
          cases hk : sg.kr with
          | zero => rw [hk] at hw; simpa only [Own, Shr] using hw
          | succ k => rw [hk] at hw; simpa only [Own, Shr] using hw
        refine ⟨ev, hg _ g' H' R'.unplus ((f1.trans f2).trans f') ?_⟩
        have lt : S1.length < (g1.newObj x).N := by show S1.length < g1.N + 1; omega
        simp only [Shr]
        exact ⟨Nat.lt_of_lt_of_le lt f'.N, by rw [f'.μ _ lt]; show V.ref x = V.ref (if S1.length = g1.N then x else _); rw [if_pos hN.symm]⟩
end
end Q

namespace Q
open PySem PySem.Spec PyProof.Rows L2
def putD (f : Str) (d : D) : List (Str × D) → List (Str × D)
  | [] => [(f, d)]
  | (g, x) :: r => if g = f then (g, d) :: r else (g, x) :: putD f d r
theorem putD_keys {f : Str} {d : D} {y : V} : ∀ {l : List (Str × D)} {m : List (Str × V)}, m.map (·.1) = l.map (·.1) → (putF f y m).map (·.1) = (putD f d l).map (·.1)
  | [], [], _ => rfl
  | [], _ :: _, e => by simp at e
  | _ :: _, [], e => by simp at e
  | (k, x) :: l, (k', z) :: m, e => by
    simp only [List.map_cons, List.cons.injEq] at e
    obtain ⟨e1, e2⟩ := e
    subst e1
    unfold putD putF
    split
    · simp only [List.map_cons]; rw [e2]
    · simp only [List.map_cons]; rw [putD_keys e2]
theorem putD_mem {f : Str} {d : D} : ∀ {l : List (Str × D)} {k : Str}, k ∈ (putD f d l).map (·.1) → k = f ∨ k ∈ l.map (·.1)
  | [], k, h => by simp [putD] at h; exact .inl h
  | (k', x) :: l, k, h => by
    unfold putD at h
    split at h
    · exact .inr h
    · simp only [List.map_cons, List.mem_cons] at h ⊢
      rcases h with h | h
      · exact .inr (.inl h)
      · rcases putD_mem h with h | h
        · exact .inl h
        · exact .inr (.inr h)
theorem putD_nodup {f : Str} {d : D} : ∀ {l : List (Str × D)}, (l.map (·.1)).Nodup → ((putD f d l).map (·.1)).Nodup
  | [], _ => by simp [putD]
  | (k', x) :: l, h => by
    unfold putD
    split
    · exact h
    · rename_i hk
      simp only [List.map_cons, List.nodup_cons] at h ⊢
      refine ⟨fun z => ?_, putD_nodup h.2⟩
      rcases putD_mem z with z | z
      · exact hk z
      · exact h.1 z
theorem put_pair {f : Str} {d : D} {y : V} : ∀ {l : List (Str × D)} {m : List (Str × V)} {j : Nat} {p : Str × D} {q : Str × V}, m.map (·.1) = l.map (·.1) → (l.map (·.1)).Nodup → (putD f d l)[j]? = some p → (putF f y m)[j]? = some q →
    (p = (f, d) ∧ q = (f, y)) ∨ (p.1 ≠ f ∧ l[j]? = some p ∧ m[j]? = some q)
  | [], [], j, p, q, _, _, h1, h2 => by
    cases j with
    | zero => cases h1; cases h2; exact .inl ⟨rfl, rfl⟩
    | succ j => simp [putD] at h1
  | [], _ :: _, _, _, _, e, _, _, _ => by simp at e
  | _ :: _, [], _, _, _, e, _, _, _ => by simp at e
  | (k, x) :: l, (k', z) :: m, j, p, q, e, hn, h1, h2 => by
    simp only [List.map_cons, List.cons.injEq] at e
    obtain ⟨e1, e2⟩ := e
    subst e1
    simp only [List.map_cons, List.nodup_cons] at hn
    unfold putD at h1
    unfold putF at h2
    by_cases hk : k' = f
    · rw [if_pos hk] at h1 h2
      cases j with
      | zero => cases h1; cases h2; rw [hk]; exact .inl ⟨rfl, rfl⟩
      | succ j =>
        refine .inr ⟨fun z => ?_, h1, h2⟩
        have : p ∈ l := List.mem_of_getElem? h1
        exact hn.1 (List.mem_map.mpr ⟨p, this, by rw [z, hk]⟩)
    · rw [if_neg hk] at h1 h2
      cases j with
      | zero => cases h1; exact .inr ⟨hk, rfl, h2⟩
      | succ j =>
        rcases put_pair (j := j) e2 hn.2 h1 h2 with h | ⟨h, h3, h4⟩
        · exact .inl h
        · exact .inr ⟨h, h3, h4⟩
theorem plusF_none {g : G} {n : Nat} : g.plusF n (fun _ => False) = g := by
  unfold G.plusF
  congr 1
  funext j a
  simp
def G.putf (g : G) (n : Nat) (f : Str) (Fo : Addr → Prop) : G := { g with B := fun a => g.B a ∨ Fo a, BF := fun m e a => (m = n ∧ e = f ∧ Fo a) ∨ (¬ (m = n ∧ e = f) ∧ g.BF m e a) }
section
variable {T : Th} {Γ : List Md} {g : G} {ρ : Env} {S : Store} {σ : L2.St} {H : Hp} {Fo : Addr → Prop}
theorem Rel.putf {n : Nat} {f : Str} {ob : Ob} {dx : Addr} {fs : List (Str × V)} {d : D} {y : V} (R : Rel T (g.plusF ρ.length Fo) Γ ρ S σ H) (hFo : ∀ a, Fo a → ¬ g.U a) (e1 : S[n]? = some ob) (h1 : H (g.μ n) = some (.ins (T.cA ob.cls) dx fs)) (h2 : fs.map (·.1) = ob.fs.map (·.1))
    (hw : Own T (g.plusF ρ.length Fo) H (T.fm ob.cls f) Fo d y) : Rel T (g.putf n f Fo) Γ ρ (S.set n ⟨ob.cls, putD f d ob.fs⟩) σ (upd H (g.μ n) (.ins (T.cA ob.cls) dx (putF f y fs))) ∧ Stay (g.plusF ρ.length Fo) H (g.putf n f Fo) (upd H (g.μ n) (.ins (T.cA ob.cls) dx (putF f y fs))) := by
  have r := R.st
  have hn : n < g.N := by have : g.N = S.length := r.N; rw [this]; exact (List.getElem?_eq_some_iff.mp e1).1
  have hB : g.B (g.μ n) := r.mB n hn
  have hUU : ∀ a, (g.putf n f Fo).U a → (g.plusF ρ.length Fo).U a := fun a u => by
    rcases u with u | u | u | u
    · exact G.plusF_U.mpr (.inl (.inl u))
    · exact G.plusF_U.mpr (.inl (.inr (.inl u)))
    · exact G.plusF_U.mpr (.inl (.inr (.inr u)))
    · exact G.plusF_U.mpr (.inr u)
  have kp : ∀ a o, a ≠ g.μ n → H a = some o → upd H (g.μ n) (.ins (T.cA ob.cls) dx (putF f y fs)) a = some o := fun a o h e => by rw [upd_ne h]; exact e
  have st : Stay (g.plusF ρ.length Fo) H (g.putf n f Fo) (upd H (g.μ n) (.ins (T.cA ob.cls) dx (putF f y fs))) := ⟨fun a o e hu => kp a o (fun z => hu (by rw [z]; exact .inr (.inr hB))) e, fun a h => .inl (hUU a h), Nat.le_refl _, fun _ _ => rfl, rfl⟩
  have stb : Stay (g.plusF ρ.length Fo).bare H (g.putf n f Fo).bare (upd H (g.μ n) (.ins (T.cA ob.cls) dx (putF f y fs))) := ⟨fun a o e hu => kp a o (fun z => hu (by rw [z]; exact .inr (.inr hB))) e, fun a h => .inl (by
    rcases h with h | ⟨i, h⟩ | h | h
    · exact h.elim
    · exact .inr (.inl ⟨i, .inl h⟩)
    · exact .inr (.inr h)
    · exact .inr (.inl ⟨ρ.length, .inr ⟨rfl, h⟩⟩)), Nat.le_refl _, fun _ _ => rfl, rfl⟩
  refine ⟨⟨R.len, fun i d' e => ?_, fun i j a h h' => R.dF i j a (.inl h) (.inl h'), fun i a h => R.dFO i a (.inl h), fun i a h u => ?_, fun a h u => ?_, fun a u => ?_, ?_, nt_upd (fun a u => R.nt a (hUU a u)) (fun _ => ⟨nofun, fun _ => nofun⟩)⟩, st⟩
  · obtain ⟨v, q1, q2⟩ := R.slot i d' e
    have hi : i < ρ.length := (List.getElem?_eq_some_iff.mp e).1
    refine ⟨v, q1, ?_⟩
    have wF : ∀ a, (g.plusF ρ.length Fo).F i a → (g.putf n f Fo).F i a := fun a z => z.elim id fun z => absurd z.1 (by omega)
    have kF : ∀ a o, (g.plusF ρ.length Fo).F i a → H a = some o → upd H (g.μ n) (.ins (T.cA ob.cls) dx (putF f y fs)) a = some o := fun a o z q => kp a o (fun w => R.dFB i a z (by rw [w]; exact hB)) q
    cases hm : Γ.getD i .s <;> rw [hm] at q2 <;> simp only [RepM] at q2 ⊢
    · exact q2.stay st
    · exact Own.wide _ _ _ _ _ wF (Own.keepF st _ _ _ _ kF q2)
    · exact Own.keepF st _ _ _ _ (fun a o z q => kp a o (fun w => R.dOB a z (by rw [w]; exact hB)) q) q2
    · exact ⟨q2.1, Own.wide _ _ _ _ _ wF (Own.keepF st _ _ _ _ kF q2.2)⟩
    · exact q2
    · exact q2.stay stb
    · exact ⟨q2.1, (st).keep _ _ q2.2.1 q2.2.2, (st).off q2.2.1 q2.2.2⟩
  · rcases u with u | u
    · exact R.dFB i a (.inl h) u
    · exact hFo a u (.inr (.inl ⟨i, h⟩))
  · rcases u with u | u
    · exact R.dOB a h u
    · exact hFo a u (.inl h)
  · by_cases ha : a = g.μ n
    · exact ⟨_, by rw [ha]; exact upd_same⟩
    · obtain ⟨o, q⟩ := R.dom a (hUU a u)
      exact ⟨o, kp a o ha q⟩
  · refine ⟨by show g.N = _; rw [List.length_set]; exact r.N, r.inj, fun m hm => .inl (r.mB m hm), fun m e a h => ?_, fun m e m' e' a h h' => ?_, fun m o e => ?_, fun m o e => ?_, fun p hp => ?_⟩
    rotate_right
    · have t := r.tb p hp
      obtain ⟨t1, t2, ps, t3, _⟩ := id t
      refine t.stay st (fun o e => kp _ _ (fun z => ?_) e) (fun z => .inl z) fun m e z => ?_
      · rw [z, h1] at t3; cases t3
      · rcases z with z | z
        · exact absurd (.inr (.inr t1)) (hFo p.1 z.2.2)
        · exact z.2
    · rcases h with h | h
      · exact ⟨.inr h.2.2, fun m' hm' z => hFo a h.2.2 (by rw [z]; exact .inr (.inr (r.mB m' hm')))⟩
      · exact ⟨.inl (r.bB m e a h.2).1, (r.bB m e a h.2).2⟩
    · rcases h with h | h <;> rcases h' with h' | h'
      · exact ⟨h.1.trans h'.1.symm, h.2.1.trans h'.2.1.symm⟩
      · exact absurd (.inr (.inr (r.bB m' e' a h'.2).1)) (hFo a h.2.2)
      · exact absurd (.inr (.inr (r.bB m e a h.2).1)) (hFo a h'.2.2)
      · exact r.bd m e m' e' a h.2 h'.2
    · by_cases hm : n = m
      · subst hm
        rw [List.getElem?_set_self (by rw [← r.N]; exact hn)] at e
        cases e
        exact putD_nodup (r.nd n ob e1)
      · rw [List.getElem?_set_ne hm] at e
        exact r.nd m o e
    · by_cases hm : n = m
      · subst hm
        rw [List.getElem?_set_self (by rw [← r.N]; exact hn)] at e
        cases e
        refine ⟨dx, putF f y fs, upd_same, putD_keys h2, fun j p q a b => ?_⟩
        rcases put_pair h2 (r.nd n ob e1) a b with ⟨rfl, rfl⟩ | ⟨hp, a', b'⟩
        · refine Own.wide _ Fo _ _ _ (fun a z => .inl ⟨rfl, rfl, z⟩) ?_
          exact Own.keepF st _ _ _ _ (fun a o z q => kp a o (fun w => hFo a z (by rw [w]; exact .inr (.inr hB))) q) hw
        · obtain ⟨dx', fs', k1, k2, k3⟩ := r.ob n ob e1
          have : HO.ins (T.cA ob.cls) dx' fs' = .ins (T.cA ob.cls) dx fs := Option.some.inj ((show H (g.μ n) = _ from k1).symm.trans h1)
          cases this
          have hw' := k3 j p q a' b'
          refine Own.wide _ (g.BF n p.1) _ _ _ (fun a z => .inr ⟨fun w => hp w.2, z⟩) ?_
          exact Own.keepF st _ _ _ _ (fun a o z q => kp a o ((r.bB n p.1 a z).2 n hn) q) hw'
      · rw [List.getElem?_set_ne hm] at e
        obtain ⟨dx', fs', k1, k2, k3⟩ := r.ob m o e
        have hmN : m < g.N := by have : g.N = S.length := r.N; rw [this]; exact (List.getElem?_eq_some_iff.mp e).1
        refine ⟨dx', fs', kp _ _ (fun w => hm (r.inj n m hn hmN w.symm)) k1, k2, fun j p q a b => ?_⟩
        refine Own.wide _ (g.BF m p.1) _ _ _ (fun a z => .inr ⟨fun w => hm w.1.symm, z⟩) ?_
        exact Own.keepF st _ _ _ _ (fun a o z q => kp a o ((r.bB m p.1 a z).2 n hn) q) (k3 j p q a b)
end
def fldPut (fm : Nat → Str → Nat) (cs : List Nat) (k : Nat) (f : Str) (x d : D) (ρ : Env) (S : Store) : RS := match x with
  | .obj n => (match S[n]? with
    | some ob => if ob.cls ∈ cs ∧ fm ob.cls f = k ∧ ob.fs.length < 1000 then .nx ρ (S.set n ⟨ob.cls, putD f d ob.fs⟩) else .no
    | none => .no)
  | _ => .no
def fFld (fm : Nat → Str → Nat) (cs : List Nat) (k : Nat) (f : Str) (o e : FE) : FS := fun ρ S => (e ρ S).bindS ρ fun d S1 => (o ρ S1).bindS ρ fun x S2 => fldPut fm cs k f x d ρ S2
section
variable {X : Cx} {T : Th} {J : Jd} {Γ : List Md} {fm : Nat → Str → Nat} {cs : List Nat} {f : Str}
theorem fld_core {g g1 : G} {ρ : Env} {S2 : Store} {σ : L2.St} {H H1 : Hp} {Fo : Addr → Prop} {k : Nat} {x d : D} {v y : V} {D : Ends} (hfm : T.fm = fm) (hc : FldOk X.K T cs f) (R1 : Rel T (g1.plusF ρ.length Fo) Γ ρ S2 σ H1) (f1 : FrS g H g1 H1) (ho : ∀ a, Fo a → ¬ g1.U a ∧ (g.U a ∨ H a = none))
    (hw : Own T (g1.plusF ρ.length Fo) H1 k Fo d y) (sx : Shr T (g1.plusF ρ.length Fo) H1 x v) (hg : GoodS T J Γ g H (fldPut fm cs k f x d ρ S2) D) :
    ∃ a C dx fs, v = .ref a ∧ H1 a = some (.ins C dx fs) ∧ Cls X.K C ∧ NoAttr X.K C f ∧ fs.length < 1000 ∧ D.nx σ (upd H1 a (.ins C dx (putF f y fs))) := by
  unfold fldPut at hg
  split at hg
  · rename_i n
    split at hg
    · rename_i ob e1
      split at hg
      · rename_i hh
        obtain ⟨hcs, hk, hl⟩ := hh
        simp only [Shr] at sx
        obtain ⟨dx, fs, h1, h2, h3⟩ := R1.st.ob n ob e1
        have hw : Own T (g1.plusF ρ.length Fo) H1 (T.fm ob.cls f) Fo d y := by rw [hfm, hk]; exact hw
        obtain ⟨R2, st⟩ := R1.putf (fun a z => (ho a z).1) e1 h1 h2 hw
        refine ⟨g1.μ n, _, dx, fs, sx.2, h1, (hc _ hcs).1, (hc _ hcs).2, by
          have := congrArg List.length h2
          rw [List.length_map, List.length_map] at this
          omega, hg σ _ _ R2 ?_⟩
        have hB : g1.B (g1.μ n) := R1.st.mB n sx.1
        have f2 : FrS g1 H1 (g1.putf n f Fo) (upd H1 (g1.μ n) (.ins (T.cA ob.cls) dx (putF f y fs))) → True := fun _ => trivial
        refine ⟨fun a o e hu => ?_, fun a u => ?_, f1.O, f1.P, f1.N, f1.μ, fun a o e => ?_⟩
        · have e' := f1.keep a o e hu
          have : a ≠ g1.μ n := fun w => by
            rcases hu with hu | hu
            · exact f1.stay.off e hu (by rw [w]; exact .inr (.inr hB))
            · exact R1.dOB a (show g1.O a by rw [f1.O]; exact hu) (by rw [w]; exact hB)
          rw [upd_ne this]; exact e'
        · rcases u with u | u | u | u
          · exact f1.own a (.inl u)
          · exact f1.own a (.inr (.inl u))
          · exact f1.own a (.inr (.inr u))
          · exact (ho a u).2
        · obtain ⟨o', e'⟩ := f1.dom a o e
          by_cases ha : a = g1.μ n
          · exact ⟨_, by rw [ha]; exact upd_same⟩
          · exact ⟨o', by rw [upd_ne ha]; exact e'⟩
      · exact hg.elim
    · exact hg.elim
  · exact hg.elim
theorem xs_fldF {k : Nat} {o e : Expr} {A B : FE} {st : Stmt} (hfm : T.fm = fm) (hc : FldOk X.K T cs f) (hx : J.ΓX Γ) (ho : XC X T J.W Γ o A) (hv : XF X T J.W Γ k e B) (he : PE X o (tC1 T J.W Γ A) → PE X e (tN T J.W Γ k B) → PS X st (sFld X.K (tC1 T J.W Γ A) (tN T J.W Γ k B) f)) : XS X T J Γ Γ st (fFld fm cs k f A B) := ps_imp (he ho hv) fun D σ H ⟨g, ρ, S, R, hg⟩ => by
  refine ⟨g, ρ, S, R, ?_⟩
  unfold fFld at hg
  cases r : B ρ S with
  | no => rw [r] at hg; exact hg
  | exc x S1 => rw [r] at hg; exact fun c dd g' H' R' f' e => hg Γ c dd σ g' H' hx R' (f'.frs R.dOB) e
  | ok d S1 =>
    rw [r] at hg
    intro y g1 H1 Fo R1 f1 hfo hw
    refine ⟨g1.plusF ρ.length Fo, ρ, S1, R1, ?_⟩
    replace hg : GoodS T J Γ g H ((A ρ S1).bindS ρ fun x S2 => fldPut fm cs k f x d ρ S2) D := hg
    cases r2 : A ρ S1 with
    | no => rw [r2] at hg; exact hg
    | exc x S2 =>
      rw [r2] at hg
      intro c dd g' H' R' f' e
      refine hg Γ c dd σ g' H' hx R' ?_ e
      have f1' := f1.frs R.dOB
      have f2' := f'.frs R1.dOB
      refine ⟨fun a o e hu => ?_, fun a u => ?_, ?_, ?_, ?_, ?_, ?_⟩
      · refine f2'.keep a o (f1'.keep a o e hu) ?_
        rcases hu with hu | hu
        · refine .inl fun w => ?_
          rcases G.plusF_U.mp w with w | w
          · exact f1'.stay.off e hu w
          · rcases (hfo a w).2 with z | z
            · exact hu (.inr (.inr z))
            · rw [e] at z; cases z
        · exact .inr (by show g1.O a; rw [f1.O]; exact hu)
      · rcases f2'.own a u with w | w
        · rcases G.plusF_U.mp w with w | w
          · exact f1'.own a w
          · exact (hfo a w).2.imp (fun z => .inr (.inr z)) id
        · cases e : H a with
          | none => exact .inr rfl
          | some o =>
            obtain ⟨o', e'⟩ := f1.dom a o e
            rw [w] at e'; cases e'
      · exact f2'.O.trans f1.O
      · exact f2'.P.trans f1.P
      · exact Nat.le_trans f1.N f2'.N
      · exact fun n h => (f2'.μ n (Nat.lt_of_lt_of_le h f1.N)).trans (f1.μ n h)
      · intro a o e
        obtain ⟨o', e'⟩ := f1.dom a o e
        exact f2'.dom a o' e'
    | ok x S2 =>
      rw [r2] at hg
      intro es v H2 e2 sx
      subst es
      have R2 := R1.ex e2
      have f2 : FrS g H g1 H2 := (f1.frs R.dOB).trans ((FrE.ex e2).frs (fun a h => R1.dOB a h))
      exact fld_core hfm hc R2 f2 (fun a z => ⟨(hfo a z).1, (hfo a z).2.imp (fun z => .inr (.inr z)) id⟩) (Own.keepF (.ex e2) _ _ _ _ (fun a o _ q => e2 a o q) hw) sx hg
theorem xs_fldS {o e : Expr} {A B : FE} {st : Stmt} (hfm : T.fm = fm) (hc : FldOk X.K T cs f) (hx : J.ΓX Γ) (ho : XC X T J.W Γ o A) (hv : XE X T J.W Γ e B) (he : PE X o (tC1 T J.W Γ A) → PE X e (tX T J.W Γ B) → PS X st (sFld X.K (tC1 T J.W Γ A) (tX T J.W Γ B) f)) : XS X T J Γ Γ st (fFld fm cs 0 f A B) := ps_imp (he ho hv) fun D σ H ⟨g, ρ, S, R, hg⟩ => by
  refine ⟨g, ρ, S, R, ?_⟩
  unfold fFld at hg
  cases r : B ρ S with
  | no => rw [r] at hg; exact hg
  | exc x S1 => rw [r] at hg; exact fun c dd g' H' R' f' e => hg Γ c dd σ g' H' hx R' (f'.frs R.dOB) e
  | ok d S1 =>
    rw [r] at hg
    intro y g1 H1 R1 f1 sy
    refine ⟨g1, ρ, S1, R1, ?_⟩
    replace hg : GoodS T J Γ g H ((A ρ S1).bindS ρ fun x S2 => fldPut fm cs 0 f x d ρ S2) D := hg
    cases r2 : A ρ S1 with
    | no => rw [r2] at hg; exact hg
    | exc x S2 => rw [r2] at hg; exact fun c dd g' H' R' f' e => hg Γ c dd σ g' H' hx R' ((f1.trans f').frs R.dOB) e
    | ok x S2 =>
      rw [r2] at hg
      intro es v H2 e2 sx
      subst es
      have R2 := R1.ex e2
      have f2 : FrS g H g1 H2 := (f1.trans (.ex e2)).frs R.dOB
      refine fld_core (Fo := fun _ => False) (k := 0) hfm hc (by rw [plusF_none]; exact R2) f2 (fun a z => z.elim) ?_ (by rw [plusF_none]; exact sx) hg
      rw [plusF_none]
      simp only [Own]
      exact Shr.stay (.ex e2) _ _ sy
end
end Q

namespace Q
open PySem PySem.Spec PyProof.Rows L2
def Focus (T : Th) (H : Hp) : List Nat → D → V → D → V → Prop
  | [], d, v, d', v' => d' = d ∧ v' = v
  | j :: js, .lst l, v, d', v' => ∃ p vs d1 w, v = .ref p ∧ H p = some (.lst vs) ∧ l[j]? = some d1 ∧ vs[j]? = some w ∧ Focus T H js d1 w d' v'
  | j :: js, .dct l, v, d', v' => ∃ p kd w, v = .ref p ∧ (∃ kvs, DRep T H p l kvs) ∧ (∀ kvs, DRep T H p l kvs → ∃ u, kvs[j]? = some (u, w)) ∧ l[j]? = some kd ∧ Focus T H js kd.2 w d' v'
  | _ :: _, _, _, _, _ => False
def setAt : List Nat → D → D → D
  | [], _, x => x
  | j :: js, .lst l, x => (match l[j]? with
    | some d => .lst (l.set j (setAt js d x))
    | none => .lst l)
  | j :: js, .dct l, x => (match l[j]? with
    | some kd => .dct (l.set j (kd.1, setAt js kd.2 x))
    | none => .dct l)
  | _ :: _, d, _ => d
section
variable {T : Th} {g g' : G} {H H' : Hp}
theorem Focus.ex (e : Exx H H') : ∀ {js : List Nat} {d : D} {v : V} {d' : D} {v' : V}, Focus T H js d v d' v' → Focus T H' js d v d' v'
  | [], _, _, _, _, h => h
  | j :: js, .lst l, v, d', v', h => by
    obtain ⟨p, vs, d1, w, e1, e2, e3, e4, e5⟩ := h
    exact ⟨p, vs, d1, w, e1, e p _ e2, e3, e4, Focus.ex e e5⟩
  | j :: js, .dct l, v, d', v', h => by
    obtain ⟨p, d1, w, e1, ⟨kvs, e2⟩, e3, e4, e5⟩ := h
    refine ⟨p, d1, w, e1, ⟨kvs, e2.at fun o z => e p o z⟩, fun kvs' h' => e3 kvs' ?_, e4, Focus.ex e e5⟩
    obtain ⟨o, ho⟩ := e2.there
    exact h'.at fun o' z => by rw [e p o ho] at z; cases z; exact ho
  | _ :: _, .non, _, _, _, h => h.elim
  | _ :: _, .bl _, _, _, _, h => h.elim
  | _ :: _, .int _, _, _, _, h => h.elim
  | _ :: _, .str _, _, _, _, h => h.elim
  | _ :: _, .tup _, _, _, _, h => h.elim
  | _ :: _, .scr _, _, _, _, h => h.elim
  | _ :: _, .obj _, _, _, _, h => h.elim
  | _ :: _, .fn _ _, _, _, _, h => h.elim
  | _ :: _, .gone _, _, _, _, h => h.elim
theorem drep_set {a : Addr} {l : List (D × D)} {kvs : List (V × V)} {j : Nat} {kd : D × D} {x : D} (h : DRep T H a l kvs) (e : l[j]? = some kd) : DRep T H a (l.set j (kd.1, x)) kvs := by
  rcases h with ⟨ks, h1, h2⟩ | ⟨ps, h1, h2, h3, h4⟩
  · exact .inl ⟨ks, h1, h2⟩
  · refine .inr ⟨ps, h1, h2, ?_, h4⟩
    rw [h3, List.map_set]
    apply List.ext_getElem?
    intro i
    by_cases hi : j = i
    · subst hi
      rw [List.getElem?_map, e]
      by_cases hl : j < (l.map fun p => nk p.1).length
      · rw [List.getElem?_set_self hl]; rfl
      · have := (List.getElem?_eq_some_iff.mp e).1
        rw [List.length_map] at hl
        exact absurd this hl
    · rw [List.getElem?_set_ne hi]
theorem Own.focus {d' : D} {v' : V} : ∀ (js : List Nat) (k : Nat) (F : Addr → Prop) (d : D) (v : V), Own T g H k F d v → Focus T H js d v d' v' → js.length ≤ k →
    ∃ F' : Addr → Prop, (∀ a, F' a → F a) ∧ Own T g H (k - js.length) F' d' v' ∧ ∀ (g2 : G) (H2 : Hp) (Fo F2 : Addr → Prop) (x : D), Stay g H g2 H2 → (∀ a o, F a → ¬ F' a → H a = some o → H2 a = some o) → (∀ a, Fo a → ¬ F a) → (∀ a, F2 a → F' a ∨ Fo a) → Own T g2 H2 (k - js.length) F2 x v' → Own T g2 H2 k (fun a => F a ∨ Fo a) (setAt js d x) v
  | [], k, F, d, v, hw, hf, _ => by
    obtain ⟨rfl, rfl⟩ := hf
    exact ⟨F, fun _ z => z, hw, fun g2 H2 Fo F2 x st kp hd h2 hx => Own.wide _ F2 _ _ _ h2 hx⟩
  | j :: js, 0, F, d, v, hw, hf, hl => absurd hl (by simp)
  | j :: js, k + 1, F, .lst l, v, hw, hf, hl => by
    obtain ⟨p0, vs0, d1, w, e0, e1, e2, e3, e4⟩ := hf
    simp only [Own] at hw
    obtain ⟨p, vs, e00, hF, hH, hlen, Gs, h1, h2, h3⟩ := hw
    have ep : p = p0 := V.ref.inj (e00.symm.trans e0)
    subst ep
    have evs : vs = vs0 := by rw [hH] at e1; cases e1; rfl
    subst evs
    have hl' : js.length ≤ k := by simpa using hl
    obtain ⟨F', q1, q2, q3⟩ := Own.focus js k (Gs j) d1 w (h3 j d1 w e2 e3) e4 hl'
    have hk : k + 1 - (j :: js).length = k - js.length := by simp
    refine ⟨F', fun a z => (h1 j a (q1 a z)).1, by rw [hk]; exact q2, fun g2 H2 Fo F2 x st kp hd hf2 hx => ?_⟩
    rw [hk] at hx
    simp only [setAt, e2, Own]
    have hj : j < l.length := (List.getElem?_eq_some_iff.mp e2).1
    refine ⟨p, vs, e00, .inl hF, kp p _ hF (fun z => (h1 j p (q1 p z)).2 rfl) hH, by rw [List.length_set]; exact hlen, fun i a => Gs i a ∨ (i = j ∧ Fo a), fun i a z => ?_, fun i i' a z z' => ?_, fun i d2 w2 a b => ?_⟩
    · rcases z with z | ⟨_, z⟩
      · exact ⟨.inl (h1 i a z).1, (h1 i a z).2⟩
      · exact ⟨.inr z, fun w => hd a z (by rw [w]; exact hF)⟩
    · rcases z with z | ⟨z0, z⟩ <;> rcases z' with z' | ⟨z0', z'⟩
      · exact h2 i i' a z z'
      · exact absurd (h1 i a z).1 (hd a z')
      · exact absurd (h1 i' a z').1 (hd a z)
      · rw [z0, z0']
    · by_cases hi : j = i
      · subst hi
        rw [List.getElem?_set_self hj] at a
        cases a
        rw [e3] at b
        cases b
        refine Own.wide _ (fun a => Gs j a ∨ Fo a) _ _ _ (fun a z => z.imp id fun z => ⟨rfl, z⟩) ?_
        exact q3 g2 H2 Fo F2 x st (fun a o z n e => kp a o (h1 j a z).1 n e) (fun a z w => hd a z (h1 j a w).1) hf2 hx
      · rw [List.getElem?_set_ne hi] at a
        refine Own.wide _ (Gs i) _ _ _ (fun a z => .inl z) ?_
        exact Own.keepF st _ _ _ _ (fun a o z e => kp a o (h1 i a z).1 (fun w => hi (h2 j i a (q1 a w) z)) e) (h3 i d2 w2 a b)
  | j :: js, k + 1, F, .dct l, v, hw, hf, hl => by
    obtain ⟨p0, d1, w0, e0, _, e3, e2, e4⟩ := hf
    simp only [Own] at hw
    obtain ⟨p, vs0, e00, hF, hH, hlen, Gs, h1, h2, h3⟩ := hw
    have ep : p = p0 := V.ref.inj (e00.symm.trans e0)
    subst ep
    obtain ⟨u0, e3⟩ := e3 vs0 hH
    have hl' : js.length ≤ k := by simpa using hl
    obtain ⟨F', q1, q2, q3⟩ := Own.focus js k (Gs j) d1.2 w0 (h3 j d1 (u0, w0) e2 e3).2 e4 hl'
    have hk : k + 1 - (j :: js).length = k - js.length := by simp
    refine ⟨F', fun a z => (h1 j a (q1 a z)).1, by rw [hk]; exact q2, fun g2 H2 Fo F2 x st kp hd hf2 hx => ?_⟩
    rw [hk] at hx
    simp only [setAt, e2, Own]
    have hj : j < l.length := (List.getElem?_eq_some_iff.mp e2).1
    refine ⟨p, vs0, e00, .inl hF, (drep_set hH e2).at fun o z => kp p o hF (fun z => (h1 j p (q1 p z)).2 rfl) z, by rw [List.length_set]; exact hlen, fun i a => Gs i a ∨ (i = j ∧ Fo a), fun i a z => ?_, fun i i' a z z' => ?_, fun i d2 w2 a b => ?_⟩
    · rcases z with z | ⟨_, z⟩
      · exact ⟨.inl (h1 i a z).1, (h1 i a z).2⟩
      · exact ⟨.inr z, fun w => hd a z (by rw [w]; exact hF)⟩
    · rcases z with z | ⟨z0, z⟩ <;> rcases z' with z' | ⟨z0', z'⟩
      · exact h2 i i' a z z'
      · exact absurd (h1 i a z).1 (hd a z')
      · exact absurd (h1 i' a z').1 (hd a z)
      · rw [z0, z0']
    · by_cases hi : j = i
      · subst hi
        rw [List.getElem?_set_self hj] at a
        cases a
        rw [e3] at b
        cases b
        refine ⟨(h3 j d1 (u0, w0) e2 e3).1.stay st, ?_⟩
        refine Own.wide _ (fun a => Gs j a ∨ Fo a) _ _ _ (fun a z => z.imp id fun z => ⟨rfl, z⟩) ?_
        exact q3 g2 H2 Fo F2 x st (fun a o z n e => kp a o (h1 j a z).1 n e) (fun a z w => hd a z (h1 j a w).1) hf2 hx
      · rw [List.getElem?_set_ne hi] at a
        refine ⟨(h3 i d2 w2 a b).1.stay st, ?_⟩
        refine Own.wide _ (Gs i) _ _ _ (fun a z => .inl z) ?_
        exact Own.keepF st _ _ _ _ (fun a o z e => kp a o (h1 i a z).1 (fun w => hi (h2 j i a (q1 a w) z)) e) (h3 i d2 w2 a b).2
  | _ :: _, _ + 1, _, .non, _, _, h, _ => h.elim
  | _ :: _, _ + 1, _, .bl _, _, _, h, _ => h.elim
  | _ :: _, _ + 1, _, .int _, _, _, h, _ => h.elim
  | _ :: _, _ + 1, _, .str _, _, _, h, _ => h.elim
  | _ :: _, _ + 1, _, .tup _, _, _, h, _ => h.elim
  | _ :: _, _ + 1, _, .scr _, _, _, h, _ => h.elim
  | _ :: _, _ + 1, _, .obj _, _, _, h, _ => h.elim
  | _ :: _, _ + 1, _, .fn _ _, _, _, h, _ => h.elim
  | _ :: _, _ + 1, _, .gone _, _, _, h, _ => h.elim
end
end Q

namespace Q
open PySem PySem.Spec PyProof.Rows L2
inductive RP where
  | ok (n : Nat) (f : Str) (js : List Nat) (d : D) (S : Store)
  | exc (x : Exc) (S : Store)
  | no
abbrev FP := Env → Store → RP
def PlAt (T : Th) (g : G) (S : Store) (H : Hp) (n : Nat) (f : Str) (js : List Nat) (d : D) (v : V) : Prop := ∃ c d0 dx fs v0, getF S n f = some (c, d0) ∧ H (g.μ n) = some (.ins (T.cA c) dx fs) ∧ fs.lookup f = some v0 ∧ Focus T H js d0 v0 d v
def GoodP (T : Th) (W : WX) (Γ : List Md) (ρ : Env) (σ : L2.St) (g : G) (S : Store) (H : Hp) : RP → VK → Prop
  | .ok n f js d S', Q => S' = S → ∀ v H', Exx H H' → PlAt T g S H' n f js d v → Q v H'
  | .exc x S', _ => ∀ c dd g' H', Rel T g' Γ ρ S' σ H' → FrE g H g' H' → ExcR T g' H' x c dd → W c dd σ H'
  | .no, _ => False
def tP (T : Th) (W : WX) (Γ : List Md) (F : FP) : TE := fun σ H Q => ∃ g ρ S, Rel T g Γ ρ S σ H ∧ GoodP T W Γ ρ σ g S H (F ρ S) Q
abbrev XP (X : Cx) (T : Th) (W : WX) (Γ : List Md) (e : Expr) (F : FP) : Prop := PE X e (tP T W Γ F)
theorem PlAt.ex {T : Th} {g : G} {S : Store} {H H' : Hp} {n : Nat} {f : Str} {js : List Nat} {d : D} {v : V} (h : PlAt T g S H n f js d v) (e : Exx H H') : PlAt T g S H' n f js d v := by
  obtain ⟨c, d0, dx, fs, v0, h1, h2, h3, h4⟩ := h
  exact ⟨c, d0, dx, fs, v0, h1, e _ _ h2, h3, h4.ex e⟩
def pFldK (cs : List Nat) (f : Str) (x : D) (S : Store) : RP := match x with
  | .obj n => (match getF S n f with
    | some (c, d) => if c ∈ cs then .ok n f [] d S else .no
    | none => .no)
  | _ => .no
def pFld (cs : List Nat) (f : Str) (a : FE) : FP := fun ρ S => match a ρ S with
  | .ok x S1 => pFldK cs f x S1
  | .exc y S1 => .exc y S1
  | .no => .no
def posOf : D → D → Option (Nat × D)
  | .lst l, .int i => (ixN l.length i).bind fun j => (l[j]?).map fun d => (j, d)
  | _, _ => none
def deep (fm : Nat → Str → Nat) (S : Store) (n : Nat) (f : Str) (k : Nat) : Bool := match getF S n f with
  | some (c, _) => decide (k ≤ fm c f)
  | none => false
def pIxK (fm : Nat → Str → Nat) (n : Nat) (f : Str) (js : List Nat) (S : Store) (o : Option (Nat × D)) : RP := match o with
  | some (j, d) => if deep fm S n f (js.length + 1) = true then .ok n f (js ++ [j]) d S else .no
  | none => .no
def pIx (fm : Nat → Str → Nat) (p : FP) (e : FE) : FP := fun ρ S => match p ρ S with
  | .ok n f js d S1 => (match e ρ S1 with
    | .ok k S2 => pIxK fm n f js S2 (posOf d k)
    | .exc y S2 => .exc y S2
    | .no => .no)
  | .exc y S1 => .exc y S1
  | .no => .no
section
variable {X : Cx} {T : Th} {W : WX} {Γ : List Md} {fm : Nat → Str → Nat} {cs : List Nat} {f : Str}
theorem xp_fld {e a : Expr} {A : FE} (hc : FldOk X.K T cs f) (ha : XC X T W Γ a A) (he : PE X a (tC1 T W Γ A) → PE X e (tFld X.K (tC1 T W Γ A) f)) : XP X T W Γ e (pFld cs f A) := pe_imp (he ha) fun σ H Q ⟨g, ρ, S, R, hg⟩ => by
  refine ⟨g, ρ, S, R, ?_⟩
  unfold pFld at hg
  cases ea : A ρ S with
  | no => rw [ea] at hg; exact hg.elim
  | exc y S1 => rw [ea] at hg; exact hg
  | ok x S1 =>
    rw [ea] at hg
    intro es v H1 e1 s1
    subst es
    replace hg : GoodP T W Γ ρ σ g S1 H (pFldK cs f x S1) Q := hg
    unfold pFldK at hg
    split at hg
    · rename_i n
      split at hg
      · rename_i c d eF
        split at hg
        · rename_i hcs
          obtain ⟨hn, dx, fs, w, h1, h2, h3⟩ := (R.ex e1).st.fld eF
          simp only [Shr] at s1
          exact ⟨g.μ n, _, dx, fs, w, s1.2, h1, (hc c hcs).1, (hc c hcs).2, h2, hg rfl w H1 e1 ⟨c, d, dx, fs, w, eF, h1, h2, rfl, rfl⟩⟩
        · exact hg.elim
      · exact hg.elim
    · exact hg.elim
theorem Focus.snocL {H : Hp} : ∀ {js : List Nat} {d0 : D} {v0 : V} {l : List D} {p : Addr} {vs : List V} {j : Nat} {d1 : D} {w : V}, Focus T H js d0 v0 (.lst l) (.ref p) → H p = some (.lst vs) → l[j]? = some d1 → vs[j]? = some w → Focus T H (js ++ [j]) d0 v0 d1 w
  | [], d0, v0, l, p, vs, j, d1, w, h, h1, h2, h3 => by
    obtain ⟨rfl, rfl⟩ := h
    exact ⟨p, vs, d1, w, rfl, h1, h2, h3, rfl, rfl⟩
  | i :: js, .lst l0, v0, l, p, vs, j, d1, w, h, h1, h2, h3 => by
    obtain ⟨p0, vs0, x, y, e1, e2, e3, e4, e5⟩ := h
    exact ⟨p0, vs0, x, y, e1, e2, e3, e4, Focus.snocL e5 h1 h2 h3⟩
  | i :: js, .dct l0, v0, l, p, vs, j, d1, w, h, h1, h2, h3 => by
    obtain ⟨p0, x, y, e1, e2, e3, e4, e5⟩ := h
    exact ⟨p0, x, y, e1, e2, e3, e4, Focus.snocL e5 h1 h2 h3⟩
  | _ :: _, .non, _, _, _, _, _, _, _, h, _, _, _ => h.elim
  | _ :: _, .bl _, _, _, _, _, _, _, _, h, _, _, _ => h.elim
  | _ :: _, .int _, _, _, _, _, _, _, _, h, _, _, _ => h.elim
  | _ :: _, .str _, _, _, _, _, _, _, _, h, _, _, _ => h.elim
  | _ :: _, .tup _, _, _, _, _, _, _, _, h, _, _, _ => h.elim
  | _ :: _, .scr _, _, _, _, _, _, _, _, h, _, _, _ => h.elim
  | _ :: _, .obj _, _, _, _, _, _, _, _, h, _, _, _ => h.elim
  | _ :: _, .fn _ _, _, _, _, _, _, _, _, h, _, _, _ => h.elim
  | _ :: _, .gone _, _, _, _, _, _, _, _, h, _, _, _ => h.elim
theorem own_at {g : G} {S : Store} {ρ : Env} {σ : L2.St} {H : Hp} {n : Nat} {js : List Nat} {d : D} {v : V} (R : Rel T g Γ ρ S σ H) (h : PlAt T g S H n f js d v) (hl : ∀ c d0, getF S n f = some (c, d0) → js.length ≤ T.fm c f) :
    ∃ c d0 dx fs v0 F', getF S n f = some (c, d0) ∧ n < g.N ∧ H (g.μ n) = some (.ins (T.cA c) dx fs) ∧ fs.lookup f = some v0 ∧ (∀ a, F' a → g.BF n f a) ∧ Own T g H (T.fm c f - js.length) F' d v ∧
    ∀ (g2 : G) (H2 : Hp) (Fo F2 : Addr → Prop) (x : D), Stay g H g2 H2 → (∀ a o, g.BF n f a → ¬ F' a → H a = some o → H2 a = some o) → (∀ a, Fo a → ¬ g.BF n f a) → (∀ a, F2 a → F' a ∨ Fo a) → Own T g2 H2 (T.fm c f - js.length) F2 x v → Own T g2 H2 (T.fm c f) (fun a => g.BF n f a ∨ Fo a) (setAt js d0 x) v0 := by
  obtain ⟨c, d0, dx, fs, v0, h1, h2, h3, h4⟩ := h
  obtain ⟨hn, dx', fs', v0', k1, k2, k3⟩ := R.st.fld h1
  have : HO.ins (T.cA c) dx' fs' = .ins (T.cA c) dx fs := Option.some.inj (k1.symm.trans h2)
  cases this
  rw [h3] at k2
  cases k2
  obtain ⟨F', q1, q2, q3⟩ := Own.focus js _ _ _ _ k3 h4 (hl c d0 h1)
  exact ⟨c, d0, dx, fs, v0, F', h1, hn, h2, h3, q1, q2, q3⟩
theorem deep_le {fm : Nat → Str → Nat} {S : Store} {n k : Nat} (h : deep fm S n f k = true) : ∀ c d0, getF S n f = some (c, d0) → k ≤ fm c f := fun c d0 e => by
  unfold deep at h
  rw [e] at h
  exact of_decide_eq_true h
theorem goodP_ex {ρ : Env} {σ : L2.St} {g : G} {S : Store} {H H1 : Hp} {r : RP} {Q : VK} (e : Exx H H1) (h : GoodP T W Γ ρ σ g S H r Q) : GoodP T W Γ ρ σ g S H1 r Q := by
  cases r with
  | ok n f js d S' => exact fun es v H' x s => h es v H' (e.trans x) s
  | exc x S' => exact exc_ex e h
  | no => exact h
theorem xp_ix {o e i : Expr} {P : FP} {A : FE} (hK : X.K = T.K) (hfm : T.fm = fm) (ho : XP X T W Γ o P) (hi : XC X T W Γ i A) (he : PE X o (tP T W Γ P) → PE X i (tC1 T W Γ A) → PE X e (tOp (rIxA X.K) (tP T W Γ P) (tC1 T W Γ A))) : XP X T W Γ e (pIx fm P A) := pe_imp (he ho hi) fun σ H Q ⟨g, ρ, S, R, hg⟩ => by
  refine ⟨g, ρ, S, R, ?_⟩
  unfold pIx at hg
  cases ep : P ρ S with
  | no => rw [ep] at hg; exact hg.elim
  | exc y S1 => rw [ep] at hg; exact hg
  | ok n f js d S1 =>
    rw [ep] at hg
    intro es v H1 e1 pl
    subst es
    refine ⟨g, ρ, S1, R.ex e1, ?_⟩
    replace hg : GoodP T W Γ ρ σ g S1 H1 (match A ρ S1 with | .ok k S2 => pIxK fm n f js S2 (posOf d k) | .exc y S2 => .exc y S2 | .no => .no) Q := goodP_ex e1 hg
    cases ea : A ρ S1 with
    | no => rw [ea] at hg; exact hg.elim
    | exc y S2 => rw [ea] at hg; exact hg
    | ok k S2 =>
      rw [ea] at hg
      intro es w H2 e2 s2
      subst es
      replace hg : GoodP T W Γ ρ σ g S2 H1 (pIxK fm n f js S2 (posOf d k)) Q := hg
      cases epos : posOf d k with
      | none => rw [epos] at hg; exact hg.elim
      | some jd =>
        obtain ⟨j, d1⟩ := jd
        rw [epos] at hg
        unfold pIxK at hg
        dsimp only at hg
        split at hg
        · rename_i hdp
          have pl2 := pl.ex e2
          have R2 := (R.ex e1).ex e2
          have dl := deep_le hdp
          rw [← hfm] at dl
          obtain ⟨c, d0, dx, fs, v0, F', k1, k2, k3, k4, k5, k6, k7⟩ := own_at R2 pl2 fun c d0 h => Nat.le_of_succ_le (dl c d0 h)
          have hk : T.fm c f - js.length = (T.fm c f - js.length - 1) + 1 := by have := dl c d0 k1; omega
          rw [hk] at k6
          unfold posOf at epos
          split at epos
          · rename_i l i0
            obtain ⟨j', e3, e4⟩ := Option.bind_eq_some_iff.mp epos
            obtain ⟨d1', e5, e6⟩ := Option.map_eq_some_iff.mp e4
            cases e6
            simp only [Own] at k6
            obtain ⟨p, vs, rfl, hF, hH, hl, _⟩ := k6
            have hj : j < l.length := (List.getElem?_eq_some_iff.mp e5).1
            obtain ⟨u, hu⟩ : ∃ u, vs[j]? = some u := ⟨vs[j], List.getElem?_eq_getElem (by omega)⟩
            rw [shr_int.mp s2]
            refine .inl ⟨p, vs, i0, u, rfl, rfl, .of hH, ?_, ?_⟩
            · unfold atI
              rw [← hl, e3]
              exact hu
            · refine hg rfl u H2 e2 ?_
              obtain ⟨c', d0', dx', fs', v0', p1, p2, p3, p4⟩ := pl2
              exact ⟨c', d0', dx', fs', v0', p1, p2, p3, p4.snocL hH e5 hu⟩
          · cases epos
        · exact hg.elim
end
def setF (S : Store) (n : Nat) (f : Str) (d : D) : Store := match S[n]? with
  | some ob => S.set n ⟨ob.cls, putD f d ob.fs⟩
  | none => S
def G.growf (g : G) (n : Nat) (f : Str) (Fo : Addr → Prop) : G := { g with B := fun a => g.B a ∨ Fo a, BF := fun m e a => g.BF m e a ∨ (m = n ∧ e = f ∧ Fo a) }
theorem put_same {f : Str} {d d1 : D} {y : V} : ∀ {l : List (Str × D)} {m : List (Str × V)} {j : Nat} {p : Str × D} {q : Str × V}, m.map (·.1) = l.map (·.1) → (l.map (·.1)).Nodup → l.lookup f = some d → m.lookup f = some y → (putD f d1 l)[j]? = some p → m[j]? = some q → (p = (f, d1) ∧ q = (f, y)) ∨ (p.1 ≠ f ∧ l[j]? = some p)
  | [], _, _, _, _, _, _, h, _, _, _ => by cases h
  | _ :: _, [], _, _, _, e, _, _, _, _, _ => by simp at e
  | (k, x) :: l, (k', z) :: m, j, p, q, e, hn, h1, h2, h3, h4 => by
    simp only [List.map_cons, List.cons.injEq] at e
    obtain ⟨e1, e2⟩ := e
    subst e1
    simp only [List.map_cons, List.nodup_cons] at hn
    unfold putD at h3
    by_cases hk : k' = f
    · rw [if_pos hk] at h3
      subst hk
      rw [List.lookup_cons_self] at h2
      cases h2
      cases j with
      | zero => cases h3; cases h4; exact .inl ⟨rfl, rfl⟩
      | succ j =>
        refine .inr ⟨fun z => ?_, h3⟩
        exact hn.1 (List.mem_map.mpr ⟨p, List.mem_of_getElem? h3, z⟩)
    · rw [if_neg hk] at h3
      have hb : (f == k') = false := beq_eq_false_iff_ne.mpr fun z => hk z.symm
      rw [List.lookup_cons, hb] at h1 h2
      cases j with
      | zero => cases h3; exact .inr ⟨hk, rfl⟩
      | succ j =>
        rcases put_same (j := j) e2 hn.2 h1 h2 h3 h4 with h | ⟨h, h'⟩
        · exact .inl h
        · exact .inr ⟨h, h'⟩
theorem putD_keys_in {f : Str} {d d1 : D} : ∀ {l : List (Str × D)}, l.lookup f = some d → (putD f d1 l).map (·.1) = l.map (·.1)
  | [], h => by cases h
  | (k, x) :: l, h => by
    unfold putD
    by_cases hk : k = f
    · rw [if_pos hk, List.map_cons, List.map_cons]
    · rw [if_neg hk, List.map_cons, List.map_cons]
      have hb : (f == k) = false := beq_eq_false_iff_ne.mpr fun z => hk z.symm
      rw [List.lookup_cons, hb] at h
      rw [putD_keys_in h]
section
variable {T : Th} {Γ : List Md} {g : G} {ρ : Env} {S : Store} {σ : L2.St} {H : Hp} {Fo : Addr → Prop}
theorem Rel.wrf {n c : Nat} {f : Str} {d0 d1 : D} {dx p : Addr} {fs : List (Str × V)} {v0 : V} {o : HO} (R : Rel T (g.plusF ρ.length Fo) Γ ρ S σ H) (hFo : ∀ a, Fo a → ¬ g.U a) (eF : getF S n f = some (c, d0)) (h1 : H (g.μ n) = some (.ins (T.cA c) dx fs)) (h2 : fs.lookup f = some v0) (hp : g.BF n f p) (hno : ∀ u, o ≠ .tup u ∧ ∀ b, o ≠ .frz b (.tup u))
    (hw : Stay (g.plusF ρ.length Fo) H (g.growf n f Fo) (upd H p o) → Own T (g.growf n f Fo) (upd H p o) (T.fm c f) (fun a => g.BF n f a ∨ Fo a) d1 v0) : Rel T (g.growf n f Fo) Γ ρ (setF S n f d1) σ (upd H p o) ∧ Stay (g.plusF ρ.length Fo) H (g.growf n f Fo) (upd H p o) := by
  have r := R.st
  obtain ⟨ob, e1, e2⟩ := Option.bind_eq_some_iff.mp eF
  obtain ⟨d0', e3, e4⟩ := Option.map_eq_some_iff.mp e2
  cases e4
  have hn : n < g.N := by have : g.N = S.length := r.N; rw [this]; exact (List.getElem?_eq_some_iff.mp e1).1
  have hB : g.B p := (r.bB n f p hp).1
  have hpμ : ∀ m, m < g.N → p ≠ g.μ m := (r.bB n f p hp).2
  have hUU : ∀ a, (g.growf n f Fo).U a → (g.plusF ρ.length Fo).U a := fun a u => by
    rcases u with u | u | u | u
    · exact G.plusF_U.mpr (.inl (.inl u))
    · exact G.plusF_U.mpr (.inl (.inr (.inl u)))
    · exact G.plusF_U.mpr (.inl (.inr (.inr u)))
    · exact G.plusF_U.mpr (.inr u)
  have kp : ∀ a u, a ≠ p → H a = some u → upd H p o a = some u := fun a u h e => by rw [upd_ne h]; exact e
  have st : Stay (g.plusF ρ.length Fo) H (g.growf n f Fo) (upd H p o) := ⟨fun a u e hu => kp a u (fun z => hu (by rw [z]; exact .inr (.inr hB))) e, fun a h => .inl (hUU a h), Nat.le_refl _, fun _ _ => rfl, rfl⟩
  have stb : Stay (g.plusF ρ.length Fo).bare H (g.growf n f Fo).bare (upd H p o) := ⟨fun a u e hu => kp a u (fun z => hu (by rw [z]; exact .inr (.inr hB))) e, fun a h => .inl (by
    rcases h with h | ⟨i, h⟩ | h | h
    · exact h.elim
    · exact .inr (.inl ⟨i, .inl h⟩)
    · exact .inr (.inr h)
    · exact .inr (.inl ⟨ρ.length, .inr ⟨rfl, h⟩⟩)), Nat.le_refl _, fun _ _ => rfl, rfl⟩
  have eset : setF S n f d1 = S.set n ⟨ob.cls, putD f d1 ob.fs⟩ := by unfold setF; rw [e1]
  rw [eset]
  refine ⟨⟨R.len, fun i d' e => ?_, fun i j a h h' => R.dF i j a (.inl h) (.inl h'), fun i a h => R.dFO i a (.inl h), fun i a h u => ?_, fun a h u => ?_, fun a u => ?_, ?_, nt_upd (fun a u => R.nt a (hUU a u)) hno⟩, st⟩
  · obtain ⟨v, q1, q2⟩ := R.slot i d' e
    have hi : i < ρ.length := (List.getElem?_eq_some_iff.mp e).1
    refine ⟨v, q1, ?_⟩
    have wF : ∀ a, (g.plusF ρ.length Fo).F i a → (g.growf n f Fo).F i a := fun a z => z.elim id fun z => absurd z.1 (by omega)
    have kF : ∀ a u, (g.plusF ρ.length Fo).F i a → H a = some u → upd H p o a = some u := fun a u z q => kp a u (fun w => R.dFB i a z (by rw [w]; exact hB)) q
    cases hm : Γ.getD i .s <;> rw [hm] at q2 <;> simp only [RepM] at q2 ⊢
    · exact q2.stay st
    · exact Own.wide _ _ _ _ _ wF (Own.keepF st _ _ _ _ kF q2)
    · exact Own.keepF st _ _ _ _ (fun a u z q => kp a u (fun w => R.dOB a z (by rw [w]; exact hB)) q) q2
    · exact ⟨q2.1, Own.wide _ _ _ _ _ wF (Own.keepF st _ _ _ _ kF q2.2)⟩
    · exact q2
    · exact q2.stay stb
    · exact ⟨q2.1, (st).keep _ _ q2.2.1 q2.2.2, (st).off q2.2.1 q2.2.2⟩
  · rcases u with u | u
    · exact R.dFB i a (.inl h) u
    · exact hFo a u (.inr (.inl ⟨i, h⟩))
  · rcases u with u | u
    · exact R.dOB a h u
    · exact hFo a u (.inl h)
  · by_cases ha : a = p
    · exact ⟨_, by rw [ha]; exact upd_same⟩
    · obtain ⟨o', q⟩ := R.dom a (hUU a u)
      exact ⟨o', kp a o' ha q⟩
  · refine ⟨by show g.N = _; rw [List.length_set]; exact r.N, r.inj, fun m hm => .inl (r.mB m hm), fun m e a h => ?_, fun m e m' e' a h h' => ?_, fun m o' e => ?_, fun m o' e => ?_, fun p2 hp2 => ?_⟩
    rotate_right
    · have t := r.tb p2 hp2
      obtain ⟨t1, t2, ps, t3, _⟩ := id t
      refine t.stay st (fun o e => kp _ _ (fun z => t2 n f (by rw [z]; exact hp)) e) (fun z => .inl z) fun m e z => ?_
      rcases z with z | z
      · exact z
      · exact absurd (.inr (.inr t1)) (hFo p2.1 z.2.2)
    · rcases h with h | h
      · exact ⟨.inl (r.bB m e a h).1, (r.bB m e a h).2⟩
      · exact ⟨.inr h.2.2, fun m' hm' z => hFo a h.2.2 (by rw [z]; exact .inr (.inr (r.mB m' hm')))⟩
    · rcases h with h | h <;> rcases h' with h' | h'
      · exact r.bd m e m' e' a h h'
      · exact absurd (.inr (.inr (r.bB m e a h).1)) (hFo a h'.2.2)
      · exact absurd (.inr (.inr (r.bB m' e' a h').1)) (hFo a h.2.2)
      · exact ⟨h.1.trans h'.1.symm, h.2.1.trans h'.2.1.symm⟩
    · by_cases hm : n = m
      · subst hm
        rw [List.getElem?_set_self (by rw [← r.N]; exact hn)] at e
        cases e
        exact putD_nodup (r.nd n ob e1)
      · rw [List.getElem?_set_ne hm] at e
        exact r.nd m o' e
    · by_cases hm : n = m
      · subst hm
        rw [List.getElem?_set_self (by rw [← r.N]; exact hn)] at e
        cases e
        obtain ⟨dx', fs', k1, k2, k3⟩ := r.ob n ob e1
        have : HO.ins (T.cA ob.cls) dx' fs' = .ins (T.cA ob.cls) dx fs := Option.some.inj ((show H (g.μ n) = _ from k1).symm.trans h1)
        cases this
        refine ⟨dx, fs, kp _ _ (fun z => hpμ n hn z.symm) h1, by rw [k2, putD_keys_in e3], fun j q q' a b => ?_⟩
        rcases put_same k2 (r.nd n ob e1) e3 h2 a b with ⟨rfl, rfl⟩ | ⟨hq, a'⟩
        · exact Own.wide _ (fun a => g.BF n f a ∨ Fo a) _ _ _ (fun a z => z.imp id fun z => ⟨rfl, rfl, z⟩) (hw st)
        · refine Own.wide _ (g.BF n q.1) _ _ _ (fun a z => .inl z) ?_
          exact Own.keepF st _ _ _ _ (fun a u z e => kp a u (fun w => hq ((r.bd n q.1 n f p (by rw [← w]; exact z) hp).2)) e) (k3 j q q' a' b)
      · rw [List.getElem?_set_ne hm] at e
        obtain ⟨dx', fs', k1, k2, k3⟩ := r.ob m o' e
        have hmN : m < g.N := by have : g.N = S.length := r.N; rw [this]; exact (List.getElem?_eq_some_iff.mp e).1
        refine ⟨dx', fs', kp _ _ (fun z => hpμ m hmN z.symm) k1, k2, fun j q q' a b => ?_⟩
        refine Own.wide _ (g.BF m q.1) _ _ _ (fun a z => .inl z) ?_
        exact Own.keepF st _ _ _ _ (fun a u z e => kp a u (fun w => hm ((r.bd m q.1 n f p (by rw [← w]; exact z) hp).1.symm)) e) (k3 j q q' a b)
end
end Q

namespace Q
open PySem PySem.Spec PyProof.Rows L2
def plPut (fm : Nat → Str → Nat) (k : Nat) (n : Nat) (f : Str) (js : List Nat) (x : D) (S : Store) (ρ : Env) : RS := match getF S n f with
  | some (c, d0) => if fm c f = js.length + k then .nx ρ (setF S n f (setAt js d0 x)) else .no
  | none => .no
def RP.bindS (ρ : Env) (r : RP) (k : Nat → Str → List Nat → D → Store → RS) : RS := match r with
  | .ok n f js d S => k n f js d S
  | .exc x S => .exc x ρ S
  | .no => .no
def RL.bindR (ρ : Env) (r : RL) (k : List D → Store → RS) : RS := match r with
  | .ok ds S => k ds S
  | .exc x S => .exc x ρ S
  | .no => .no
def lstK (d : D) (k : List D → RS) : RS := match d with
  | .lst l => k l
  | _ => .no
def optK {α : Type} (o : Option α) (k : α → RS) : RS := match o with
  | some x => k x
  | none => .no
def fPMut (fm : Nat → Str → Nat) (p : FP) (h : HM) (a : FL) : FS := fun ρ S => (p ρ S).bindS ρ fun n f js d S1 => lstK d fun l => if deep fm S1 n f (js.length + 1) = true then (a ρ S1).bindR ρ fun ds S2 => optK (h l ds) fun zl => plPut fm 1 n f js (.lst zl.2) S2 ρ else .no
def fPSet (fm : Nat → Str → Nat) (p : FP) (e v : FE) : FS := fun ρ S => (v ρ S).bindS ρ fun x S1 => (p ρ S1).bindS ρ fun n f js d S2 => (e ρ S2).bindS ρ fun k S3 => lstK d fun l => optK (posOf (.lst l) k) fun jd => plPut fm 1 n f js (.lst (l.set jd.1 x)) S3 ρ
def fPApp (fm : Nat → Str → Nat) (p : FP) (v : FE) : FS := fun ρ S => (p ρ S).bindS ρ fun n f js d S1 => lstK d fun l => if deep fm S1 n f (js.length + 2) = true ∧ l.length < 1000000 then (v ρ S1).bindS ρ fun x S2 => plPut fm 2 n f js (.lst (l ++ [x])) S2 ρ else .no
def GoodNC (T : Th) (W : WX) (Γ : List Md) (k : Nat) (ρ : Env) (σ : L2.St) (g : G) (S : Store) (H : Hp) : RE → VK → Prop
  | .ok d S', Q => S' = S → ∀ v H' Fo, Exx H H' → (∀ a, Fo a → H a = none) → Rel T (g.plusF ρ.length Fo) Γ ρ S σ H' → Own T (g.plusF ρ.length Fo) H' k Fo d v → Q v H'
  | .exc x S', _ => ∀ c dd g' H', Rel T g' Γ ρ S' σ H' → FrE g H g' H' → ExcR T g' H' x c dd → W c dd σ H'
  | .no, _ => False
def tNC (T : Th) (W : WX) (Γ : List Md) (k : Nat) (F : FE) : TE := fun σ H Q => ∃ g ρ S, Rel T g Γ ρ S σ H ∧ GoodNC T W Γ k ρ σ g S H (F ρ S) Q
abbrev XNC (X : Cx) (T : Th) (W : WX) (Γ : List Md) (k : Nat) (e : Expr) (F : FE) : Prop := PE X e (tNC T W Γ k F)
section
variable {X : Cx} {T : Th} {W : WX} {Γ : List Md}
theorem Exx.none {H H1 : Hp} {a : Addr} (e : Exx H H1) (h : H1 a = Option.none) : H a = Option.none := by
  cases q : H a with
  | none => rfl
  | some o => rw [e a o q] at h; cases h
theorem goodNC_ex {k : Nat} {ρ : Env} {σ : L2.St} {g : G} {S : Store} {H H1 : Hp} {r : RE} {Q : VK} (e : Exx H H1) (h : GoodNC T W Γ k ρ σ g S H r Q) : GoodNC T W Γ k ρ σ g S H1 r Q := by
  cases r with
  | ok d S' => exact fun es v H' Fo x hf => h es v H' Fo (e.trans x) fun a z => e.none (hf a z)
  | exc x S' => exact exc_ex e h
  | no => exact h
theorem goodNC_bind {k0 : Nat} {ρ : Env} {σ : L2.St} {g : G} {S : Store} {H : Hp} {r : RE} {k : D → Store → RE} {Q Q' : VK} (h : GoodNC T W Γ k0 ρ σ g S H (r.bind k) Q)
    (hk : ∀ d v H', r = .ok d S → Exx H H' → Shr T g H' d v → GoodNC T W Γ k0 ρ σ g S H' (k d S) Q → Q' v H') : GoodC T W Γ ρ σ g S H r Q' := by
  cases r with
  | ok d S1 =>
    intro es v H' e s
    subst es
    exact hk d v H' rfl e s (goodNC_ex e h)
  | exc x S1 => exact h
  | no => exact h
def hRep : D → D → Option D
  | .lst l, .int k => if 0 ≤ k ∧ k ≤ 1000000 ∧ l.length * k.toNat ≤ 1000000 then some (.lst (rep l k.toNat)) else none
  | _, _ => none
theorem xnc_rep {e a b : Expr} {A B : FE} (ha : XC X T W Γ a A) (hb : XC X T W Γ b B) (he : PE X a (tC1 T W Γ A) → PE X b (tC1 T W Γ B) → PE X e (tOp rRep (tC1 T W Γ A) (tC1 T W Γ B))) : XNC X T W Γ 1 e (eOp hRep A B) := pe_imp (he ha hb) fun σ H Q ⟨g, ρ, S, R, hg⟩ =>
  ⟨g, ρ, S, R, goodNC_bind hg fun x v H1 _ e1 s1 hg1 => ⟨g, ρ, S, R.ex e1, goodNC_bind hg1 fun y w H2 _ e2 s2 hg2 => by
    cases ez : hRep x y with
    | none => rw [ez] at hg2; exact hg2.elim
    | some z =>
      rw [ez] at hg2
      have R2 := (R.ex e1).ex e2
      unfold hRep at ez
      split at ez
      · split at ez
        · rename_i hl
          cases ez
          obtain ⟨a, vs, rfl, la, ra⟩ := shr_lst.mp s1
          have la2 := e2 _ _ la.1
          have ra2 := ShrL.stay (.ex e2) _ _ ra
          refine ⟨a, _, vs, rfl, shr_int.mp s2, la2, by omega, by omega, by rw [← ra.length]; exact sz6 hl.2.2, fun p hp => ?_⟩
          exact hg2 rfl _ _ (· = p) (Exx.new hp) (fun a z => by rw [z]; exact hp) (R2.fresh hp fun _ => ⟨nofun, fun _ => nofun⟩) (R2.fresh_lst hp (shrL_rep ra2 _))
        · cases ez
      · cases ez⟩⟩
theorem own_nilL {g : G} {H : Hp} {k : Nat} {F : Addr → Prop} {p : Addr} (hF : F p) (hH : H p = some (.lst [])) : Own T g H (k + 1) F (.lst []) (.ref p) := by
  simp only [Own]
  exact ⟨p, [], rfl, hF, hH, rfl, fun _ _ => False, fun _ _ z => z.elim, fun _ _ _ z => z.elim, fun j d w a => by simp at a⟩
theorem xnc_nil {k : Nat} {pos : Pos} : XNC X T W Γ (k + 1) (.List [] pos) (eC (.lst [])) := pe_imp (pe_lst pa_nil) fun σ H Q ⟨g, ρ, S, R, hg⟩ =>
  ⟨Nat.zero_le _, fun p hp => hg rfl _ _ (· = p) (Exx.new hp) (fun a z => by rw [z]; exact hp) (R.fresh hp fun _ => ⟨nofun, fun _ => nofun⟩) (own_nilL rfl upd_same)⟩
theorem xf_ofNC {k : Nat} {e : Expr} {F : FE} (h : XNC X T W Γ k e F) : XF X T W Γ k e F := pe_imp h fun σ H Q ⟨g, ρ, S, R, hg⟩ => by
  refine ⟨g, ρ, S, R, ?_⟩
  cases r : F ρ S with
  | ok d S1 =>
    rw [r] at hg
    intro es v H' Fo ex hf R' hw
    subst es
    exact hg v g H' Fo R' (.ex ex) (fun a z => ⟨fun u => (by obtain ⟨o, q⟩ := R.dom a u; rw [hf a z] at q; cases q), .inr (hf a z)⟩) hw
  | exc x S1 => rw [r] at hg; exact hg
  | no => rw [r] at hg; exact hg
variable {J : Jd} {fm : Nat → Str → Nat} {f : Str}
theorem put_core {k : Nat} {g g1 : G} {ρ : Env} {S : Store} {σ : L2.St} {H H1 : Hp} {n : Nat} {js : List Nat} {d x : D} {v : V} {D : Ends} {Fo F2 : Addr → Prop} (hfm : T.fm = fm) (R1 : Rel T (g1.plusF ρ.length Fo) Γ ρ S σ H1) (f1 : FrS g H g1 H1) (ho : ∀ a, Fo a → ¬ g1.U a ∧ (g.U a ∨ H a = none))
    (pl : PlAt T g1 S H1 n f js d v) (hk : ∀ c d0, getF S n f = some (c, d0) → fm c f = js.length + (k + 1)) :
    ∃ F' : Addr → Prop, (∀ a, F' a → g1.BF n f a) ∧ Own T (g1.plusF ρ.length Fo) H1 (k + 1) F' d v ∧ ∀ (p : Addr) (o : HO) (F2 : Addr → Prop), F' p → (∀ u, o ≠ .tup u ∧ ∀ b, o ≠ .frz b (.tup u)) → (∀ a, F2 a → F' a ∨ Fo a) →
      (Stay (g1.plusF ρ.length Fo) H1 (g1.growf n f Fo) (upd H1 p o) → Own T (g1.growf n f Fo) (upd H1 p o) (k + 1) F2 x v) → GoodS T J Γ g H (plPut fm (k + 1) n f js x S ρ) D → D.nx σ (upd H1 p o) := by
  have pl2 : PlAt T (g1.plusF ρ.length Fo) S H1 n f js d v := pl
  obtain ⟨c, d0, dx, fs, v0, F', k1, k2, k3, k4, k5, k6, k7⟩ := own_at R1 pl2 fun c d0 h => by rw [hfm, hk c d0 h]; omega
  have ek : T.fm c f - js.length = k + 1 := by rw [hfm, hk c d0 k1]; omega
  rw [ek] at k6 k7
  refine ⟨F', k5, k6, fun p o F2 hp hno hF2 hx hg => ?_⟩
  have hFo : ∀ a, Fo a → ¬ g1.BF n f a := fun a z w => (ho a z).1 (.inr (.inr (R1.st.bB n f a w).1))
  obtain ⟨R2, st⟩ := R1.wrf (fun a z => (ho a z).1) k1 k3 k4 (k5 p hp) hno (d1 := setAt js d0 x) fun st => k7 _ _ Fo F2 x st (fun a u z nz e => by rw [upd_ne (fun w => nz (by rw [w]; exact hp))]; exact e) hFo hF2 (hx st)
  unfold plPut at hg
  rw [k1] at hg
  dsimp only at hg
  rw [if_pos (hk c d0 k1)] at hg
  refine hg σ _ _ R2 ?_
  have hB : g1.B p := (R1.st.bB n f p (k5 p hp)).1
  refine ⟨fun a o' e hu => ?_, fun a u => ?_, f1.O, f1.P, f1.N, f1.μ, fun a o' e => ?_⟩
  · have e' := f1.keep a o' e hu
    have : a ≠ p := fun w => by
      rcases hu with hu | hu
      · exact f1.stay.off e hu (by rw [w]; exact .inr (.inr hB))
      · exact R1.dOB a (show g1.O a by rw [f1.O]; exact hu) (by rw [w]; exact hB)
    rw [upd_ne this]; exact e'
  · rcases u with u | u | u | u
    · exact f1.own a (.inl u)
    · exact f1.own a (.inr (.inl u))
    · exact f1.own a (.inr (.inr u))
    · exact (ho a u).2
  · obtain ⟨o2, e'⟩ := f1.dom a o' e
    by_cases ha : a = p
    · exact ⟨_, by rw [ha]; exact upd_same⟩
    · exact ⟨o2, by rw [upd_ne ha]; exact e'⟩
theorem plPut_k {k n : Nat} {js : List Nat} {x : D} {S : Store} {ρ : Env} {g : G} {H : Hp} {D : Ends} (h : GoodS T J Γ g H (plPut fm k n f js x S ρ) D) : ∀ c d0, getF S n f = some (c, d0) → fm c f = js.length + k := fun c d0 e => by
  unfold plPut at h
  rw [e] at h
  dsimp only at h
  split at h
  · assumption
  · exact h.elim
theorem lstK_get {d : D} {k : List D → RS} {g : G} {H : Hp} {D : Ends} (h : GoodS T J Γ g H (lstK d k) D) : ∃ l, d = .lst l ∧ GoodS T J Γ g H (k l) D := by
  unfold lstK at h
  split at h
  · exact ⟨_, rfl, h⟩
  · exact h.elim
theorem optK_get {α : Type} {o : Option α} {k : α → RS} {g : G} {H : Hp} {D : Ends} (h : GoodS T J Γ g H (optK o k) D) : ∃ x, o = some x ∧ GoodS T J Γ g H (k x) D := by
  unfold optK at h
  split at h
  · exact ⟨_, rfl, h⟩
  · exact h.elim
theorem place_list {g : G} {S : Store} {ρ : Env} {σ : L2.St} {H : Hp} {n k : Nat} {js : List Nat} {l : List D} {v : V} (hfm : T.fm = fm) (R : Rel T g Γ ρ S σ H) (h : PlAt T g S H n f js (.lst l) v) (hd : deep fm S n f (js.length + (k + 1)) = true) : ∃ p vs, v = .ref p ∧ H p = some (.lst vs) ∧ l.length = vs.length := by
  have dl := deep_le hd
  rw [← hfm] at dl
  obtain ⟨c, d0, dx, fs, v0, F', k1, k2, k3, k4, k5, k6, k7⟩ := own_at R h fun c d0 h => by have := dl c d0 h; omega
  have hk : T.fm c f - js.length = (T.fm c f - js.length - 1) + 1 := by have := dl c d0 k1; omega
  rw [hk] at k6
  simp only [Own] at k6
  obtain ⟨p, vs, rfl, hF, hH, hl, _⟩ := k6
  exact ⟨p, vs, rfl, hH, hl⟩
theorem xs_pmut {st : Stmt} {o : Expr} {es : List Expr} {P : FP} {A : FL} {r : V → List V → Hp → VK → Prop} {h : HM} (hK : X.K = T.K) (hfm : T.fm = fm) (hx : J.ΓX Γ) (ok : MutOk T r h) (ho : XP X T J.W Γ o P) (ha : XCL X T J.W Γ es A)
    (he : PE X o (tP T J.W Γ P) → PA X es (tCL T J.W Γ A) → PS X st (tDrop (tBM X.K "list" r (tP T J.W Γ P) (tCL T J.W Γ A)))) : XS X T J Γ Γ st (fPMut fm P h A) := ps_imp (he ho ha) fun D σ H ⟨g, ρ, S, R, hg⟩ => by
  refine ⟨g, ρ, S, R, ?_⟩
  unfold fPMut at hg
  cases ep : P ρ S with
  | no => rw [ep] at hg; exact hg
  | exc y S1 => rw [ep] at hg; exact fun c dd g' H' R' f' e => hg Γ c dd σ g' H' hx R' (f'.frs R.dOB) e
  | ok n f js d S1 =>
    rw [ep] at hg
    intro es v H1 e1 pl
    subst es
    obtain ⟨l, rfl, hg2⟩ := lstK_get (show GoodS T J Γ g H (lstK d _) D from hg)
    clear hg
    have hg := hg2
    split at hg
    · rename_i hd
      have R1 := R.ex e1
      obtain ⟨p, vs, rfl, hH, hl⟩ := place_list (k := 0) hfm R1 pl hd
      refine ⟨.inl ⟨rfl, vs, SqL.of hH⟩, g, ρ, S1, R1, ?_⟩
      cases ea : A ρ S1 with
      | no => rw [ea] at hg; exact hg.elim
      | exc y S2 => rw [ea] at hg; exact fun c dd g' H' R' f' e => hg Γ c dd σ g' H' hx R' (((FrE.ex e1).trans f').frs R.dOB) e
      | ok ds S2 =>
        rw [ea] at hg
        intro es ws H2 e2 sw
        subst es
        obtain ⟨zl, ez, hg2⟩ := optK_get (show GoodS T J Γ g H (optK (h l ds) _) D from hg)
        clear hg
        have hg := hg2
        obtain ⟨z, l'⟩ := zl
        have R2 := R1.ex e2
        have f2 : FrS g H g H2 := (FrE.ex (e1.trans e2)).frs R.dOB
        have hk := plPut_k hg
        obtain ⟨F', q1, q2, q3⟩ := put_core (k := 0) (x := .lst l') (Fo := fun _ => False) (D := D) hfm (by rw [plusF_none]; exact R2) f2 (fun a z => z.elim) (pl.ex e2) hk (F2 := fun _ => False)
        rw [plusF_none] at q2 q3
        obtain ⟨p', vs', e3, hF, hH2, s3⟩ := own1_lst.mp q2
        cases e3
        refine ok g H2 p l ds l' z vs' ws hH2 s3 sw (.inr (.inr (R2.st.bB n f p (q1 p hF)).1)) ez _ fun u vs2 s2 su => ?_
        refine q3 p _ F' hF (fun _ => ⟨nofun, fun _ => nofun⟩) (fun a z => .inl z) (fun st => ?_) hg
        exact own1_lst.mpr ⟨p, vs2, rfl, hF, upd_same, ShrL.stay st _ _ s2⟩
    · exact hg.elim
theorem posOf_lst {l : List D} {k d : D} {j : Nat} (h : posOf (.lst l) k = some (j, d)) : ∃ i, k = .int i ∧ ixN l.length i = some j ∧ l[j]? = some d := by
  cases k <;> simp only [posOf] at h <;> first | cases h | skip
  obtain ⟨j', e5, e6⟩ := Option.bind_eq_some_iff.mp h
  obtain ⟨d1', e7, e8⟩ := Option.map_eq_some_iff.mp e6
  cases e8
  exact ⟨_, rfl, e5, e7⟩
theorem xs_pset {o e v : Expr} {st : Stmt} {P : FP} {A B : FE} (hfm : T.fm = fm) (hx : J.ΓX Γ) (ho : XP X T J.W Γ o P) (hi : XC X T J.W Γ e A) (hv : XE X T J.W Γ v B)
    (he : PE X v (tX T J.W Γ B) → PE X o (tP T J.W Γ P) → PE X e (tC1 T J.W Γ A) → PS X st (tAsg (tX T J.W Γ B) (gSub (tP T J.W Γ P) (tC1 T J.W Γ A) rSetL))) : XS X T J Γ Γ st (fPSet fm P A B) := ps_imp (he hv ho hi) fun D σ H ⟨g, ρ, S, R, hg⟩ => by
  refine ⟨g, ρ, S, R, ?_⟩
  unfold fPSet at hg
  refine good_bindS R hx hg fun x S1 w g1 H1 eR R1 f1 s1 hg1 => ?_
  clear hg eR
  refine ⟨g1, ρ, S1, R1, ?_⟩
  cases ep : P ρ S1 with
  | no => rw [ep] at hg1; exact hg1.elim
  | exc y S2 => rw [ep] at hg1; exact fun c dd g' H' R' f' e => hg1 Γ c dd σ g' H' hx R' (f'.frs R1.dOB) e
  | ok n f js d S2 =>
    rw [ep] at hg1
    intro es v1 H2 e2 pl
    subst es
    refine ⟨g1, ρ, S2, R1.ex e2, ?_⟩
    replace hg1 : GoodS T J Γ g1 H1 ((A ρ S2).bindS ρ fun k S3 => lstK d fun l => optK (posOf (.lst l) k) fun jd => plPut fm 1 n f js (.lst (l.set jd.1 x)) S3 ρ) D := hg1
    cases ea : A ρ S2 with
    | no => rw [ea] at hg1; exact hg1.elim
    | exc y S3 => rw [ea] at hg1; exact fun c dd g' H' R' f' e => hg1 Γ c dd σ g' H' hx R' (((FrE.ex e2).trans f').frs R1.dOB) e
    | ok k S3 =>
      rw [ea] at hg1
      intro es u H3 e3 su
      subst es
      obtain ⟨l, rfl, hg2⟩ := lstK_get (show GoodS T J Γ g1 H1 (lstK d _) D from hg1)
      clear hg1
      obtain ⟨jd, epos, hg1⟩ := optK_get hg2
      clear hg2
      obtain ⟨j, d1⟩ := jd
      have R3 := (R1.ex e2).ex e3
      have f3 : FrS g1 H1 g1 H3 := (FrE.ex (e2.trans e3)).frs R1.dOB
      obtain ⟨F', q1, q2, q3⟩ := put_core (k := 0) (x := .lst (l.set j x)) (Fo := fun _ => False) (D := D) hfm (by rw [plusF_none]; exact R3) f3 (fun a z => z.elim) (pl.ex e3) (plPut_k hg1) (F2 := fun _ => False)
      rw [plusF_none] at q2 q3
      obtain ⟨p', vs', rfl, hF, hH2, s3⟩ := own1_lst.mp q2
      obtain ⟨i0, rfl, e5, e7⟩ := posOf_lst epos
      refine ⟨p', vs', i0, j, rfl, shr_int.mp su, hH2, by rw [← s3.length]; exact e5, ?_⟩
      refine q3 p' _ F' hF (fun _ => ⟨nofun, fun _ => nofun⟩) (fun a z => .inl z) (fun st => ?_) hg1
      refine own1_lst.mpr ⟨p', _, rfl, hF, upd_same, ?_⟩
      have sx := Shr.stay st _ _ (Shr.stay (.ex (e2.trans e3)) _ _ s1)
      have s4 := ShrL.stay st _ _ s3
      refine .of (by rw [List.length_set, List.length_set]; exact s4.length) fun i a b ha hb => ?_
      by_cases hij : j = i
      · subst hij
        have hj : j < l.length := (List.getElem?_eq_some_iff.mp e7).1
        rw [List.getElem?_set_self hj] at ha
        rw [List.getElem?_set_self (by rw [← s3.length]; exact hj)] at hb
        cases ha; cases hb
        exact sx
      · rw [List.getElem?_set_ne hij] at ha hb
        obtain ⟨w', h1, h2⟩ := s4.get ha
        rw [hb] at h1; cases h1
        exact h2
theorem xs_papp {st : Stmt} {o e : Expr} {P : FP} {B : FE} (hK : X.K = T.K) (hfm : T.fm = fm) (hx : J.ΓX Γ) (ho : XP X T J.W Γ o P) (hv : XNC X T J.W Γ 1 e B)
    (he : PE X o (tP T J.W Γ P) → PE X e (tNC T J.W Γ 1 B) → PS X st (tDrop (tBM X.K "list" rAppend (tP T J.W Γ P) (tCons (tNC T J.W Γ 1 B) tNil)))) : XS X T J Γ Γ st (fPApp fm P B) := ps_imp (he ho hv) fun D σ H ⟨g, ρ, S, R, hg⟩ => by
  refine ⟨g, ρ, S, R, ?_⟩
  unfold fPApp at hg
  cases ep : P ρ S with
  | no => rw [ep] at hg; exact hg
  | exc y S1 => rw [ep] at hg; exact fun c dd g' H' R' f' e => hg Γ c dd σ g' H' hx R' (f'.frs R.dOB) e
  | ok n f js d S1 =>
    rw [ep] at hg
    intro es v H1 e1 pl
    subst es
    obtain ⟨l, rfl, hg2⟩ := lstK_get (show GoodS T J Γ g H (lstK d _) D from hg)
    clear hg
    have hg := hg2
    split at hg
    · rename_i hd
      have R1 := R.ex e1
      obtain ⟨p, vs, rfl, hH, hl⟩ := place_list (k := 1) hfm R1 pl hd.1
      refine ⟨.inl ⟨rfl, vs, SqL.of hH⟩, g, ρ, S1, R1, ?_⟩
      cases ea : B ρ S1 with
      | no => rw [ea] at hg; exact hg.elim
      | exc y S2 => rw [ea] at hg; exact fun c dd g' H' R' f' e => hg Γ c dd σ g' H' hx R' (((FrE.ex e1).trans f').frs R.dOB) e
      | ok x S2 =>
        rw [ea] at hg
        intro es w H2 Fo e2 hfo R2 hw
        subst es
        replace hg : GoodS T J Γ g H (plPut fm 2 n f js (.lst (l ++ [x])) S2 ρ) D := hg
        have f2 : FrS g H g H2 := (FrE.ex (e1.trans e2)).frs R.dOB
        have hFo : ∀ a, Fo a → ¬ g.U a := fun a z u => by
          obtain ⟨o, q⟩ := R1.dom a u
          rw [hfo a z] at q; cases q
        obtain ⟨F', q1, q2, q3⟩ := put_core (k := 1) (x := .lst (l ++ [x])) (Fo := Fo) (D := D) hfm R2 f2 (fun a z => ⟨hFo a z, .inr (e1.none (hfo a z))⟩) (pl.ex e2) (plPut_k hg) (F2 := fun _ => False)
        simp only [Own] at q2
        obtain ⟨p', vs', e3, hF, hH2, hl2, Gs, h1, h2, h3⟩ := q2
        cases e3
        refine ⟨p, vs', w, rfl, rfl, hH2, by rw [← hl2]; exact sz_lt6 hd.2, ?_⟩
        refine q3 p _ (fun a => F' a ∨ Fo a) hF (fun _ => ⟨nofun, fun _ => nofun⟩) (fun a z => z) (fun st => ?_) hg
        simp only [Own]
        have pF : ∀ a, Fo a → a ≠ p := fun a z e => hFo a z (by rw [e]; exact .inr (.inr (R2.st.bB n f p (q1 p hF)).1))
        refine ⟨p, _, rfl, .inl hF, upd_same, by simp [hl2], fun i a => Gs i a ∧ i < l.length ∨ i = l.length ∧ Fo a, fun i a z => ?_, fun i j a z z' => ?_, fun i d' w' a b => ?_⟩
        · rcases z with z | z
          · exact ⟨.inl (h1 i a z.1).1, (h1 i a z.1).2⟩
          · exact ⟨.inr z.2, pF a z.2⟩
        · rcases z with z | z <;> rcases z' with z' | z'
          · exact h2 i j a z.1 z'.1
          · exact absurd (.inr (.inr (R2.st.bB n f a (q1 a (h1 i a z.1).1)).1)) (hFo a z'.2)
          · exact absurd (.inr (.inr (R2.st.bB n f a (q1 a (h1 j a z'.1).1)).1)) (hFo a z.2)
          · rw [z.1, z'.1]
        · by_cases hi : i < l.length
          · rw [List.getElem?_append_left hi] at a
            rw [List.getElem?_append_left (by omega)] at b
            refine Own.wide _ (Gs i) _ _ _ (fun a z => .inl ⟨z, hi⟩) ?_
            exact Own.keepF st _ _ _ _ (fun a u z e => by rw [upd_ne (h1 i a z).2]; exact e) (h3 i d' w' a b)
          · have hil : i = l.length := by
              have := (List.getElem?_eq_some_iff.mp a).1
              simp at this
              omega
            subst hil
            rw [List.getElem?_append_right (Nat.le_refl _), Nat.sub_self] at a
            rw [hl2, List.getElem?_append_right (Nat.le_refl _), Nat.sub_self] at b
            cases a; cases b
            refine Own.wide _ Fo _ _ _ (fun a z => .inr ⟨rfl, z⟩) ?_
            exact Own.keepF st _ _ _ _ (fun a u z e => by rw [upd_ne (pF a z)]; exact e) hw
    · exact hg.elim
end
end Q

namespace Q
open PySem PySem.Spec PyProof.Rows L2
def GoodSC (T : Th) (J : Jd) (Γ' : List Md) (g : G) (S : Store) (H : Hp) : RS → Ends → Prop
  | .nx ρ' S', D => S' = S → ∀ σ' g' H', Rel T g' Γ' ρ' S σ' H' → FrS g H g' H' → Exx H H' → D.nx σ' H'
  | .exc x ρ' S', _ => ∀ Γ'' c dd σ' g' H', J.ΓX Γ'' → Rel T g' Γ'' ρ' S' σ' H' → FrS g H g' H' → ExcR T g' H' x c dd → J.W c dd σ' H'
  | _, _ => False
def tSC (T : Th) (J : Jd) (Γ Γ' : List Md) (F : FS) : TS := fun D σ H => ∃ g ρ S, Rel T g Γ ρ S σ H ∧ GoodSC T J Γ' g S H (F ρ S) D
abbrev XSC (X : Cx) (T : Th) (J : Jd) (Γ Γ' : List Md) (st : Stmt) (F : FS) : Prop := PS X st (tSC T J Γ Γ' F)
abbrev XBC (X : Cx) (T : Th) (J : Jd) (Γ Γ' : List Md) (st : List Stmt) (F : FS) : Prop := PSs X st (tSC T J Γ Γ' F)
def forC (tf : D → Env → Option Env) (b : FS) : List D → Env → Store → RS
  | [], ρ, S => .nx ρ S
  | d :: ds, ρ, S => match tf d ρ with
    | none => .no
    | some ρ1 => match b ρ1 S with
      | .nx ρ2 _ => forC tf b ds ρ2 S
      | .exc x ρ2 S2 => .exc x ρ2 S2
      | _ => .no
def fForP (fm : Nat → Str → Nat) (p : FP) (tf : D → Env → Option Env) (b : FS) : FS := fun ρ S => (p ρ S).bindS ρ fun n f js d S1 => lstK d fun l => if deep fm S1 n f (js.length + 1) = true ∧ deep fm S1 n f (js.length + 2) = false then forC tf b l ρ S1 else .no
section
variable {X : Cx} {T : Th} {J : Jd} {Γ Γ' Γ1 : List Md} {fm : Nat → Str → Nat}
theorem GoodSC.after {g g1 : G} {S : Store} {H H1 : Hp} {r : RS} {D : Ends} (h : GoodSC T J Γ' g S H r D) (f : FrS g H g1 H1) (e : Exx H H1) : GoodSC T J Γ' g1 S H1 r D := by
  cases r with
  | nx ρ' S' => exact fun es σ' g' H' R f' e' => h es σ' g' H' R (f.trans f') (e.trans e')
  | exc x ρ' S' => exact fun Γ'' c dd σ' g' H' a R f' ex => h Γ'' c dd σ' g' H' a R (f.trans f') ex
  | bk _ _ => exact h
  | ct _ _ => exact h
  | rt _ _ _ => exact h
  | no => exact h
theorem xbc_one {st : Stmt} {A : FS} (ha : XSC X T J Γ Γ' st A) : XBC X T J Γ Γ' [st] A := pss_one ha
theorem xsc_set {i : Nat} {e : Expr} {A : FE} {st : Stmt} (hx : J.ΓX Γ) (ha : XC X T J.W Γ e A) (he : PE X e (tC1 T J.W Γ A) → PS X st (tAsg (tC1 T J.W Γ A) (gName i))) (hΓ : Γ.set i .s = Γ') : XSC X T J Γ Γ' st (fSet i A) := ps_imp (he ha) fun D σ H ⟨g, ρ, S, R, h⟩ => by
  refine ⟨g, ρ, S, R, ?_⟩
  unfold fSet at h
  cases r : A ρ S with
  | no => rw [r] at h; exact h
  | exc x S1 => rw [r] at h; exact fun c dd g' H' R' f' e => h Γ c dd σ g' H' hx R' (f'.frs R.dOB) e
  | ok d S1 =>
    rw [r] at h
    intro es v H1 e1 s1
    subst es
    exact h rfl _ (g.drop i) H1 (by rw [← hΓ]; exact (R.ex e1).set s1) (((FrE.ex e1).frs R.dOB).trans .drop) e1
theorem xs_forP {tg it : Expr} {body : List Stmt} {P : FP} {B : FS} {tf : D → Env → Option Env} {t : TG} {is : List Nat} {pos : Pos} (hK : X.K = T.K) (hfm : T.fm = fm) (hx : J.ΓX Γ) (hp : PassesOwn (model X.prog X.w) X.A X.env X.xe) (hc : X.calm = true) (ho : XP X T J.W Γ it P) (hg : PG X tg t) (ht : TgOk T Γ Γ is t tf)
    (hb : XBC X T J Γ Γ body B) (hi : PE X it (tP T J.W Γ P) → PI X tg it (fun σ H R => tP T J.W Γ P σ H fun x H1 => ∃ a, x = .ref a ∧ (∃ xs, SqL X.K H1 a xs) ∧ R (Itl X.K a) H1)) (hs : ∀ x, foldedSetIterable it X.env x = pure x := by intro _; rfl) : XS X T J Γ Γ (.For tg it body [] pos) (fForP fm P tf B) := ps_imp (ps_for hp hc (hi ho) hg hb hs) fun D σ H ⟨g, ρ, S, R, h⟩ => by
  refine ⟨g, ρ, S, R, ?_⟩
  unfold fForP at h
  cases ep : P ρ S with
  | no => rw [ep] at h; exact h
  | exc y S1 => rw [ep] at h; exact fun c dd g' H' R' f' e => h Γ c dd σ g' H' hx R' (f'.frs R.dOB) e
  | ok n f js d S1 =>
    rw [ep] at h
    intro es v H1 e1 pl
    subst es
    obtain ⟨l, rfl, h2⟩ := lstK_get (show GoodS T J Γ g H (lstK d _) D from h)
    clear h
    split at h2
    · rename_i hd
      have R1 := R.ex e1
      have dl := deep_le hd.1
      rw [← hfm] at dl
      obtain ⟨c, d0, dx, fs, v0, F', k1, k2, k3, k4, k5, k6, k7⟩ := own_at R1 pl fun c d0 h => Nat.le_of_succ_le (dl c d0 h)
      have hk : T.fm c f - js.length = 1 := by
        have a := dl c d0 k1
        have b := hd.2
        unfold deep at b
        rw [k1] at b
        have b := of_decide_eq_false b
        rw [← hfm] at b
        omega
      rw [hk] at k6
      obtain ⟨p, vs, rfl, hF, hH, s3⟩ := own1_lst.mp k6
      have h0 : GoodS T J Γ g H1 (forC tf B l ρ S1) D := GoodS.then h2 ((FrE.ex e1).frs R.dOB)
      generalize hr : forC tf B l ρ S1 = r at h0
      clear h2
      refine ⟨p, rfl, ⟨vs, SqL.of hH⟩, ?_⟩
      refine ⟨fun i m σ' H' => ∃ g' ρ', Rel T g' Γ ρ' S1 σ' H' ∧ FrS g H1 g' H' ∧ Exx H1 H' ∧ m = l.length - i ∧ i ≤ l.length ∧ forC tf B (l.drop i) ρ' S1 = r, ⟨l.length, g, ρ, R1, .refl _ _, .refl _, by simp, Nat.zero_le _, by rw [List.drop_zero]; exact hr⟩, fun i m σ' H' ⟨g', ρ', R', f', x', em, hi', er⟩ => ?_⟩
      have hH' : H' p = some (.lst vs) := x' p _ hH
      have h2 := GoodS.then h0 f'
      by_cases hlt : i < l.length
      · obtain ⟨d, hd⟩ : ∃ d, l[i]? = some d := ⟨l[i], List.getElem?_eq_getElem hlt⟩
        obtain ⟨w, hw1, hw2⟩ := s3.get hd
        refine .inr ⟨⟨vs, w, .of hH', hw1⟩, fun σ2 H2 => ∃ m', m' < m ∧ ∃ g' ρ', Rel T g' Γ ρ' S1 σ2 H2 ∧ FrS g H1 g' H2 ∧ Exx H1 H2 ∧ m' = l.length - (i + 1) ∧ i + 1 ≤ l.length ∧ forC tf B (l.drop (i + 1)) ρ' S1 = r, fun σ2 H2 ⟨m', l', w'⟩ => ⟨m', l', w'⟩, fun x H2 y => ?_⟩
        obtain ⟨y1, y2⟩ := y
        subst y1
        have := y2 vs (.of hH')
        rw [hw1] at this
        cases this
        have sx : Shr T g' H2 d w := Shr.stay f'.stay _ _ hw2
        have ed : l.drop i = d :: l.drop (i + 1) := by
          rw [List.drop_eq_getElem_cons hlt]
          rw [List.getElem?_eq_getElem hlt] at hd
          rw [Option.some.inj hd]
        rw [ed] at er
        rw [forC] at er
        split at er
        · rw [← er] at h2
          exact h2.elim
        · rename_i ρ1 e1'
          refine ht g' ρ' ρ1 S1 σ' H2 d w _ R' sx e1' fun σ3 R3 _ _ => ⟨g'.drops is, ρ1, S1, R3, ?_⟩
          have f3 : FrS g' H2 (g'.drops is) H2 := .drops
          have h3 := GoodS.then h2 f3
          split at er
          · rename_i ρ2 S2 eb
            rw [eb]
            intro es σ4 g4 H4 R4 f4 x4
            exact ⟨l.length - (i + 1), by omega, g4, ρ2, R4, (f'.trans f3).trans f4, x'.trans x4, rfl, hlt, er⟩
          · rename_i y ρ2 S2 eb
            rw [eb]
            rw [← er] at h3
            exact h3
          · rw [← er] at h3
            exact h3.elim
      · have ei : i = l.length := by omega
        subst ei
        refine .inl ⟨⟨vs, .of hH', by rw [← s3.length]; exact Nat.le_refl _⟩, ?_⟩
        rw [List.drop_length, forC] at er
        rw [← er] at h2
        exact h2 σ' g' H' R' (.refl _ _)
    · exact h2.elim
def fNo : FS := fun _ _ => .no
theorem xs_no {st : Stmt} (h : PS X st (fun _ _ _ => False)) : XS X T J Γ Γ' st fNo := ps_imp h fun D σ H ⟨g, ρ, S, R, h⟩ => h
end
end Q

namespace Q
open PySem PySem.Spec PyProof.Rows L2
def appD (c : D) : D → D
  | .lst r => .lst (r ++ [c])
  | d => d
def shortL : D → Bool
  | .lst r => decide (r.length < 1000000)
  | _ => false
def fForApp (fm : Nat → Str → Nat) (p : FP) (i : Nat) (c : D) : FS := fun ρ S => (p ρ S).bindS ρ fun n f js d S1 => lstK d fun l => if js = [] ∧ deep fm S1 n f 2 = true ∧ deep fm S1 n f 3 = false ∧ l.all shortL = true ∧ i < ρ.length then .nx (if l.isEmpty = true then ρ else ρ.set i none) (setF S1 n f (.lst (l.map (appD c)))) else .no
theorem take_set {l : List D} {a : D → D} {t : Nat} {x : D} (h : l[t]? = some x) : ((l.take t).map a ++ l.drop t).set t (a x) = (l.take (t + 1)).map a ++ l.drop (t + 1) := by
  have ht : t < l.length := (List.getElem?_eq_some_iff.mp h).1
  have hl : ((l.take t).map a).length = t := by rw [List.length_map, List.length_take]; omega
  rw [List.set_append_right _ _ (by omega), hl, Nat.sub_self, List.drop_eq_getElem_cons ht, List.set_cons_zero, List.take_add_one, h, List.map_append, List.append_assoc]
  rfl
theorem getF_setF {S : Store} {n c : Nat} {f : Str} {d0 d : D} (h : getF S n f = some (c, d0)) : getF (setF S n f d) n f = some (c, d) := by
  unfold getF at h ⊢
  obtain ⟨o, e1, e2⟩ := Option.bind_eq_some_iff.mp h
  obtain ⟨d', e3, e4⟩ := Option.map_eq_some_iff.mp e2
  cases e4
  unfold setF
  rw [e1]
  dsimp only
  rw [List.getElem?_set_self (List.getElem?_eq_some_iff.mp e1).1]
  have key : ∀ l : List (Str × D), (l.lookup f = some d0) → (putD f d l).lookup f = some d := by
    intro l
    induction l with
    | nil => intro h; cases h
    | cons p l ih =>
      obtain ⟨k, x⟩ := p
      intro h
      unfold putD
      by_cases hk : k = f
      · rw [if_pos hk, hk, List.lookup_cons_self]
      · rw [if_neg hk]
        have hb : (f == k) = false := beq_eq_false_iff_ne.mpr fun z => hk z.symm
        rw [List.lookup_cons, hb] at h ⊢
        exact ih h
  show ((putD f d o.fs).lookup f).map _ = _
  rw [key _ e3]
  rfl
theorem putD_put {f : Str} {a b : D} : ∀ l : List (Str × D), putD f b (putD f a l) = putD f b l
  | [] => by simp [putD]
  | (k, x) :: l => by
    by_cases hk : k = f
    · simp [putD, hk]
    · simp only [putD, if_neg hk, putD_put l]
theorem setF_setF {S : Store} {n : Nat} {f : Str} {a b : D} : setF (setF S n f a) n f b = setF S n f b := by
  unfold setF
  cases e : S[n]? with
  | none => dsimp only; rw [e]
  | some o =>
    dsimp only
    rw [List.getElem?_set_self (List.getElem?_eq_some_iff.mp e).1]
    dsimp only
    rw [List.set_set, putD_put]
theorem setF_same {S : Store} {n c : Nat} {f : Str} {d : D} (h : getF S n f = some (c, d)) : setF S n f d = S := by
  unfold getF at h
  obtain ⟨o, e1, e2⟩ := Option.bind_eq_some_iff.mp h
  obtain ⟨d', e3, e4⟩ := Option.map_eq_some_iff.mp e2
  cases e4
  unfold setF
  rw [e1]
  dsimp only
  have key : ∀ l : List (Str × D), l.lookup f = some d → putD f d l = l := by
    intro l
    induction l with
    | nil => intro h; cases h
    | cons p l ih =>
      obtain ⟨k, x⟩ := p
      intro h
      unfold putD
      by_cases hk : k = f
      · subst hk
        rw [List.lookup_cons_self] at h
        cases h
        rw [if_pos rfl]
      · rw [if_neg hk]
        have hb : (f == k) = false := beq_eq_false_iff_ne.mpr fun z => hk z.symm
        rw [List.lookup_cons, hb] at h
        rw [ih h]
  rw [key _ e3]
  obtain ⟨hn, hg⟩ := List.getElem?_eq_some_iff.mp e1
  rw [show (⟨o.cls, o.fs⟩ : Ob) = S[n] from hg.symm]
  exact List.set_getElem_self hn
section
variable {X : Cx} {T : Th} {J : Jd} {Γ : List Md} {fm : Nat → Str → Nat}
theorem Rel.hide {g : G} {ρ : Env} {S : Store} {σ : L2.St} {H : Hp} {i : Nat} {w : Option V} (R : Rel T g Γ ρ S σ H) : Rel T (g.drop i) Γ (ρ.set i none) S (σ.set i w) H := by
  refine R.shift rfl rfl rfl rfl (fun a h => G.drop_U h) (fun j k a h h' => R.dF j k a h.2 h'.2) (fun j a h => R.dFO j a h.2) (fun a h => .inl h) (fun j a h => .inl ⟨j, h.2⟩) (by simp [R.len]) fun st j d' e => ?_
  by_cases hj : i = j
  · subst hj
    by_cases hlt : i < ρ.length
    · rw [List.getElem?_set_self hlt] at e; cases e
    · rw [List.getElem?_eq_none (by simpa using hlt)] at e
      cases e
  · rw [List.getElem?_set_ne hj] at e
    obtain ⟨v, h1, h2⟩ := R.slot j d' e
    exact ⟨v, by rw [List.getElem?_set_ne hj]; exact h1, h2.stay st (fun a z => ⟨fun q => hj q.symm, z⟩) (fun a z => z) rfl (bare_sub rfl rfl (fun i a z => ⟨i, z.2⟩) fun _ z => z)⟩
theorem row_core {g : G} {ρ : Env} {S : Store} {σ : L2.St} {H : Hp} {n c t : Nat} {f : Str} {l r : List D} {p q : Addr} {cd : D} {v : V} (hfm : T.fm = fm) (hs : ∀ g H, Shr T g H cd v) (R : Rel T g Γ ρ S σ H) (pl : PlAt T g S H n f [] (.lst l) (.ref p)) (hc : getF S n f = some (c, .lst l)) (hk : fm c f = 2) (er : l[t]? = some (.lst r))
    (hq : ∃ vs, H p = some (.lst vs) ∧ vs[t]? = some (.ref q)) : ∃ us, H q = some (.lst us) ∧ us.length = r.length ∧ ∃ g', Rel T g' Γ ρ (setF S n f (.lst (l.set t (.lst (r ++ [cd]))))) σ (upd H q (.lst (us ++ [v]))) ∧ FrS g H g' (upd H q (.lst (us ++ [v]))) ∧ PlAt T g' (setF S n f (.lst (l.set t (.lst (r ++ [cd]))))) (upd H q (.lst (us ++ [v]))) n f [] (.lst (l.set t (.lst (r ++ [cd])))) (.ref p) := by
  obtain ⟨vs, hp1, hp2⟩ := hq
  have pl2 : PlAt T g S H n f [t] (.lst r) (.ref q) := by
    obtain ⟨c', d0, dx, fs, v0, p1, p2, p3, p4⟩ := pl
    exact ⟨c', d0, dx, fs, v0, p1, p2, p3, Focus.snocL (js := []) p4 hp1 er hp2⟩
  have hk' : ∀ c' d0, getF S n f = some (c', d0) → fm c' f = [t].length + (0 + 1) := fun c' d0 e => by
    rw [hc] at e; cases e; exact hk
  let S' := setF S n f (.lst (l.set t (.lst (r ++ [cd]))))
  obtain ⟨F', q1, q2, q3⟩ := put_core (k := 0) (g := g) (H := H) (ρ := ρ) (x := .lst (r ++ [cd])) (Fo := fun _ => False) (D := ⟨fun σ' H' => ∃ g', Rel T g' Γ ρ S' σ' H' ∧ FrS g H g' H', fun _ _ => False, fun _ _ => False, fun _ _ => False⟩) (J := ⟨fun _ _ _ _ => False, fun _ => False, fun _ => False, 0, []⟩) hfm (by rw [plusF_none]; exact R) (.refl _ _) (fun a z => z.elim) pl2 hk' (F2 := fun _ => False)
  rw [plusF_none] at q2 q3
  obtain ⟨q', us, e1, hF, hH2, s3⟩ := own1_lst.mp q2
  cases e1
  refine ⟨us, hH2, s3.length.symm, ?_⟩
  have := q3 q (.lst (us ++ [v])) F' hF (fun _ => ⟨nofun, fun _ => nofun⟩) (fun a z => .inl z) (fun st => own1_lst.mpr ⟨q, us ++ [v], rfl, hF, upd_same, ShrL.append (ShrL.stay st _ _ s3) (.cons (hs _ _) .nil)⟩) (by
    unfold plPut
    rw [hc]
    dsimp only
    rw [if_pos (by exact hk)]
    have es : setAt [t] (.lst l) (.lst (r ++ [cd])) = .lst (l.set t (.lst (r ++ [cd]))) := by simp only [setAt, er]
    rw [es]
    exact fun σ' g' H' R' f' => ⟨g', R', f'⟩)
  obtain ⟨g', R', f'⟩ := this
  refine ⟨g', R', f', ?_⟩
  obtain ⟨c', d0, dx, fs, v0, p1, p2, p3, p4⟩ := pl
  have hn : n < g.N := (R.st.fld hc).1
  have hne : g.μ n ≠ q := fun e => by rw [e, hH2] at p2; cases p2
  refine ⟨c, _, dx, fs, v0, getF_setF hc, ?_, p3, ?_⟩
  · rw [f'.μ n hn, upd_ne hne, p2]
    rw [hc] at p1
    cases p1
    rfl
  · exact ⟨rfl, p4.2⟩
theorem xs_forApp {tg it : Expr} {body : List Stmt} {P : FP} {i : Nat} {cd : D} {v : V} {pos : Pos} (hK : X.K = T.K) (hfm : T.fm = fm) (hx : J.ΓX Γ) (hs : ∀ g H, Shr T g H cd v) (ho : XP X T J.W Γ it P)
    (he : PE X it (tP T J.W Γ P) → PS X (.For tg it body [] pos) (tFor (iList X.K (tP T J.W Γ P)) (gName i) (tDrop (tBM X.K "list" rAppend (tVar i) (tCons (tC v) tNil))))) : XS X T J Γ Γ (.For tg it body [] pos) (fForApp fm P i cd) := ps_imp (he ho) fun D σ H ⟨g, ρ, S, R, h⟩ => by
  refine ⟨g, ρ, S, R, ?_⟩
  unfold fForApp at h
  cases ep : P ρ S with
  | no => rw [ep] at h; exact h
  | exc y S1 => rw [ep] at h; exact fun c dd g' H' R' f' e => h Γ c dd σ g' H' hx R' (f'.frs R.dOB) e
  | ok n f js d S1 =>
    rw [ep] at h
    intro es w H1 e1 pl
    subst es
    obtain ⟨l, rfl, h2⟩ := lstK_get (show GoodS T J Γ g H (lstK d _) D from h)
    clear h
    split at h2
    · rename_i hd
      obtain ⟨rfl, hd1, hd2, hall, hi⟩ := hd
      have R1 := R.ex e1
      have f1 : FrS g H g H1 := (FrE.ex e1).frs R.dOB
      obtain ⟨c, d0, dx, fs, v0, p1, p2, p3, p4⟩ := id pl
      obtain ⟨rfl, rfl⟩ := p4
      have hk : fm c f = 2 := by
        have a := deep_le hd1 _ _ p1
        have b := hd2
        unfold deep at b
        rw [p1] at b
        have b := of_decide_eq_false b
        omega
      obtain ⟨p, vs, rfl, hH, hl⟩ := place_list (k := 1) hfm R1 pl hd1
      refine ⟨p, rfl, ⟨vs, SqL.of hH⟩, ?_⟩
      refine ⟨fun t m σ' H' => ∃ g', Rel T g' Γ (if t = 0 then ρ else ρ.set i none) (setF S1 n f (.lst ((l.take t).map (appD cd) ++ l.drop t))) σ' H' ∧ FrS g H g' H' ∧ PlAt T g' (setF S1 n f (.lst ((l.take t).map (appD cd) ++ l.drop t))) H' n f [] (.lst ((l.take t).map (appD cd) ++ l.drop t)) (.ref p) ∧ m = l.length - t ∧ t ≤ l.length, ⟨l.length, g, ?_, f1, ?_, by simp, Nat.zero_le _⟩, fun t m σ' H' ⟨g', R', f', pl', em, ht⟩ => ?_⟩
      · rw [if_pos rfl, List.take_zero, List.map_nil, List.nil_append, List.drop_zero, setF_same p1]; exact R1
      · rw [List.take_zero, List.map_nil, List.nil_append, List.drop_zero, setF_same p1]; exact pl
      · have gF : getF (setF S1 n f (.lst ((l.take t).map (appD cd) ++ l.drop t))) n f = some (c, .lst ((l.take t).map (appD cd) ++ l.drop t)) := getF_setF p1
        have hdp : deep fm (setF S1 n f (.lst ((l.take t).map (appD cd) ++ l.drop t))) n f (([] : List Nat).length + (1 + 1)) = true := by
          unfold deep
          rw [gF]
          exact decide_eq_true (by rw [hk]; exact Nat.le_refl _)
        obtain ⟨p', vs', e3, hH', hl'⟩ := place_list (js := []) (k := 1) hfm R' pl' hdp
        cases e3
        have hlen : ((l.take t).map (appD cd) ++ l.drop t).length = l.length := by
          rw [List.length_append, List.length_map, List.length_take, List.length_drop]; omega
        by_cases hlt : t < l.length
        · obtain ⟨d, hd⟩ : ∃ d, l[t]? = some d := ⟨l[t], List.getElem?_eq_getElem hlt⟩
          have hsh : shortL d = true := List.all_eq_true.mp hall d (List.mem_of_getElem? hd)
          obtain ⟨r, rfl, hr⟩ : ∃ r, d = .lst r ∧ r.length < 1000000 := by
            cases d <;> simp only [shortL] at hsh <;> first | cases hsh | exact ⟨_, rfl, of_decide_eq_true hsh⟩
          have hdt : ((l.take t).map (appD cd) ++ l.drop t)[t]? = some (.lst r) := by
            have hl0 : ((l.take t).map (appD cd)).length = t := by rw [List.length_map, List.length_take]; omega
            rw [List.getElem?_append_right (by omega), hl0, Nat.sub_self, List.getElem?_drop, Nat.add_zero]
            exact hd
          obtain ⟨u, hu⟩ : ∃ u, vs'[t]? = some u := ⟨vs'[t], List.getElem?_eq_getElem (by omega)⟩
          refine .inr ⟨⟨vs', u, .of hH', hu⟩, fun σ2 H2 => ∃ m', m' < m ∧ ∃ g', Rel T g' Γ (if t + 1 = 0 then ρ else ρ.set i none) (setF S1 n f (.lst ((l.take (t + 1)).map (appD cd) ++ l.drop (t + 1)))) σ2 H2 ∧ FrS g H g' H2 ∧ PlAt T g' (setF S1 n f (.lst ((l.take (t + 1)).map (appD cd) ++ l.drop (t + 1)))) H2 n f [] (.lst ((l.take (t + 1)).map (appD cd) ++ l.drop (t + 1))) (.ref p) ∧ m' = l.length - (t + 1) ∧ t + 1 ≤ l.length, fun σ2 H2 ⟨m', a, b⟩ => ⟨m', a, b⟩, fun x H2 y => ?_⟩
          obtain ⟨y1, y2⟩ := y
          subst y1
          have := y2 vs' (.of hH')
          rw [hu] at this
          cases this
          have R3 : Rel T (g'.drop i) Γ (ρ.set i none) (setF S1 n f (.lst ((l.take t).map (appD cd) ++ l.drop t))) (σ'.set i (some u)) H2 := by
            have := R'.hide (i := i) (w := some u)
            split at this
            · exact this
            · rw [List.set_set] at this; exact this
          have f3 : FrS g H (g'.drop i) H2 := f'.trans .drop
          have hq : ∃ q, u = .ref q := by
            obtain ⟨c2, d2, dx2, fs2, w2, F2, k1, k2, k3, k4, k5, k6, k7⟩ := own_at R' pl' fun c' d' e => by simp
            rw [gF] at k1
            cases k1
            rw [hfm, hk] at k6
            simp only [List.length_nil, Nat.sub_zero, Own] at k6
            obtain ⟨p2, vs2, e5, hF5, hH5, hl5, Gs, g1', g2', g3'⟩ := k6
            cases e5
            rw [hH'] at hH5
            cases hH5
            have := g3' t _ _ hdt hu
            simp only [Own] at this
            obtain ⟨q, us, e6, _⟩ := this
            exact ⟨q, e6⟩
          obtain ⟨q, rfl⟩ := hq
          obtain ⟨us, hq1, hq2, g4, R4, f4, pl4⟩ := row_core hfm hs R3 pl' gF hk hdt ⟨vs', hH', hu⟩
          rw [setF_setF] at R4 pl4
          have et : ((l.take t).map (appD cd) ++ l.drop t).set t (.lst (r ++ [cd])) = (l.take (t + 1)).map (appD cd) ++ l.drop (t + 1) := take_set (a := appD cd) hd
          rw [et] at R4 pl4
          have hil : i < σ'.length := by
            have := R'.len
            have e0 : (if t = 0 then ρ else ρ.set i none).length = ρ.length := by split <;> simp
            rw [e0] at this
            omega
          refine ⟨.ref q, List.getElem?_set_self hil, .inl ⟨rfl, us, .of hq1⟩, q, us, v, rfl, rfl, hq1, by rw [hq2]; exact sz_lt6 hr, ?_⟩
          refine ⟨l.length - (t + 1), by omega, g4, by rw [if_neg (Nat.succ_ne_zero t)]; exact R4, f3.trans f4, pl4, rfl, hlt⟩
        · have et : t = l.length := by omega
          subst et
          refine .inl ⟨⟨vs', .of hH', by rw [← hl', hlen]; exact Nat.le_refl _⟩, ?_⟩
          rw [List.take_length, List.drop_length, List.append_nil] at R'
          refine h2 σ' g' H' ?_ f'
          have : (if l.isEmpty = true then ρ else ρ.set i none) = (if l.length = 0 then ρ else ρ.set i none) := by cases l <;> rfl
          rw [this]
          exact R'
    · exact h2.elim
end
end Q

namespace Q
open PySem PySem.Spec PyProof.Rows L2
section
variable {P : Program} {w : World} {K : PySem.W.Frag} {mg : Str → Option Value} {base : Heap}
theorem okRule_funD {x qual : Str} {st : Stmt} {dvs : List V} {f : Addr} {fd : FuncData} (F : FunD K x qual (defArgs st) (defBody st) (defScope st) dvs [] f fd) : OkRule P w K mg base qual st f fd := fun Sc len h => F.ok Sc len h
end
def BindsD (K : PySem.W.Frag) (fd : FuncData) (ps : List Str) (dvs : List V) : Prop := ∃ ds, Vals dvs ds ∧ Binds K fd ps ds
section
variable {X : Cx} {T : Th} {W : WX} {Γ : List Md} {fm : Nat → Str → Nat} {f : Str}
theorem def1_ofD {n : Nat} {sg : Sig} {Φ : FF} {f : Addr} {k : Nat} {fd : FuncData} {ps : List Str} {dvs : List V} (F : FnOk X.prog X.w X.K X.mg X.base (L2.CX X.prog X.w) k f fd ps (spD T n sg Φ)) (hr : Room (k + 1) X.A) (hb : BindsD X.K fd ps dvs) : Def1 X f (spDD T n sg Φ dvs) := by
  obtain ⟨ds, hd, hb⟩ := hb
  exact def1_of F hr hb hd
def eAt (fm : Nat → Str → Nat) (p : FP) : FE := fun ρ S => match p ρ S with
  | .ok n f js d S1 => if deep fm S1 n f js.length = true ∧ deep fm S1 n f (js.length + 1) = false then .ok d S1 else .no
  | .exc x S1 => .exc x S1
  | .no => .no
theorem xc_at {e : Expr} {P : FP} (hfm : T.fm = fm) (ho : XP X T W Γ e P) : XC X T W Γ e (eAt fm P) := pe_imp ho fun σ H Q ⟨g, ρ, S, R, hg⟩ => by
  refine ⟨g, ρ, S, R, ?_⟩
  unfold eAt at hg
  cases ep : P ρ S with
  | no => rw [ep] at hg; exact hg.elim
  | exc y S1 => rw [ep] at hg; exact hg
  | ok n f js d S1 =>
    rw [ep] at hg
    intro es v H1 e1 pl
    subst es
    replace hg : GoodC T W Γ ρ σ g S1 H (if deep fm S1 n f js.length = true ∧ deep fm S1 n f (js.length + 1) = false then .ok d S1 else .no) Q := hg
    split at hg
    · rename_i hd
      have dl := deep_le hd.1
      rw [← hfm] at dl
      obtain ⟨c, d0, dx, fs, v0, F', k1, k2, k3, k4, k5, k6, k7⟩ := own_at (R.ex e1) pl dl
      have hk : T.fm c f - js.length = 0 := by
        have b := hd.2
        unfold deep at b
        rw [k1] at b
        have b := of_decide_eq_false b
        rw [← hfm] at b
        omega
      rw [hk] at k6
      exact hg rfl v H1 e1 (by simpa only [Own] using k6)
    · exact hg.elim
end
end Q

namespace Q
open PySem PySem.Spec PyProof.Rows L2
theorem fldok_nil {K : PySem.W.Frag} {T : Th} {f : Str} : FldOk K T [] f := fun c h => by cases h
theorem fldok_cons {K : PySem.W.Frag} {T : Th} {f : Str} {c : Nat} {cs : List Nat} (h : Cls K (T.cA c) ∧ NoAttr K (T.cA c) f) (r : FldOk K T cs f) : FldOk K T (c :: cs) f := fun d hd => by
  rcases List.mem_cons.mp hd with e | hd
  · subst e; exact h
  · exact r d hd
theorem sgS_rows {n : Nat} {bs : List Bool} (h : bs.all (· = false) = true := by rfl) : ∀ i, (sgS n).ms.getD i .s = mdOf (bs.getD i false) := fun i => by
  have : bs.getD i false = false := by
    by_cases hi : i < bs.length
    · have := List.all_eq_true.mp h bs[i] (List.getElem_mem hi)
      simpa [List.getD, hi] using this
    · simp [List.getD, List.getElem?_eq_none (Nat.le_of_not_lt hi)]
  rw [this]
  exact rep_s
section
variable {X : Cx} {T : Th} {W : WX} {Γ : List Md} {bs : List Bool}
theorem tm_nil {σ : L2.St} {H : Hp} {K : List V → Hp → Prop} (h : tM T W Γ bs lNil σ H K) : K [] H := by
  obtain ⟨g, ρ, S, R, hg⟩ := h
  exact hg [] g H R (.refl _ _) (by simp only [ShrM])
theorem pe_make_nil {e : Expr} {sp : Sp} {E : L2.St → XK} {C : Addr} (h : PE X e (tMakeD C sp E tNil)) : PE X e (tMakeD C sp E (tM T W Γ bs lNil)) := pe_imp h fun σ H Q q => tm_nil q
theorem pe_meth_nil {e : Expr} {m : Str} {Ms : Addr → Sp → Prop} {A : FE} {E : L2.St → XK} (h : PE X e (tMethD m Ms E (tX T W Γ A) tNil)) : PE X e (tMethD m Ms E (tX T W Γ A) (tM T W Γ bs lNil)) := pe_imp h fun σ H Q ⟨g, ρ, S, R, hg⟩ => by
  refine ⟨g, ρ, S, R, ?_⟩
  cases r : A ρ S with
  | no => rw [r] at hg; exact hg
  | exc x S1 => rw [r] at hg; exact hg
  | ok d S1 =>
    rw [r] at hg
    intro v g' H' R' f' s'
    obtain ⟨a, C, dx, fs, sp, h1, h2, h3, h4, h5⟩ := hg v g' H' R' f' s'
    exact ⟨a, C, dx, fs, sp, h1, h2, h3, h4, tm_nil h5⟩
end
section
variable {P : Program} {w : World} {K : PySem.W.Frag} {mg : Str → Option Value} {base : Heap} {T : Th}
theorem fn_okSR {qual : Str} {st : Stmt} {f : Addr} {fd : FuncData} {N ps : List Str} {k n : Nat} {B : FS} {Γ' : List Md} (F : OkRule P w K mg base qual st f fd) (Sc : FnScope N ps (defScope st)) (hn : ps.length = n) (hN : n ≤ N.length)
    (hbody : ∀ (cdv : Value) (A : Around) (outer : List PySem.Env) (s : Shared) (H : Hp) (E : XK), Room k (A.deeper (envOfC qual (defScope st) s.heap.objs.size f cdv)) →
      XB (cxOf (L2.CX P w) P w K mg base N qual (defScope st) f cdv A outer s H E) T (jdS n E) (ΓS N.length) Γ' (defBody st) B) :
    FnOk P w K mg base (L2.CX P w) (k + 1) f fd ps (spD T n (sgS n) (fBody N.length n (ΓS n) B)) := by
  refine fn_okR (sg := sgS n) F Sc hn hN (Γ' := Γ') (fun cdv A outer s H E hr => ?_) gp_s
  have e : (sgS n).ms ++ List.replicate (N.length - (sgS n).ms.length) .s = ΓS N.length := by
    show List.replicate n Md.s ++ List.replicate (N.length - (List.replicate n Md.s).length) .s = List.replicate N.length .s
    rw [List.length_replicate, List.replicate_append_replicate]
    congr 1; omega
  rw [e]; exact hbody cdv A outer s H E hr
end
end Q

namespace Q
open PySem PySem.Spec PyProof.Rows L2
mutual
def NK (K : PySem.W.Frag) (H : Hp) : NestedKey → V → Prop
  | .none, v => v = .non
  | .num i, v => v = .int i ∨ ∃ b : Bool, v = .bl b ∧ i = (if b = true then 1 else 0)
  | .text x, v => v = .str x
  | .tup ks, v => ∃ a vs, v = .ref a ∧ SqT K H a vs ∧ NKL K H ks vs
def NKL (K : PySem.W.Frag) (H : Hp) : List NestedKey → List V → Prop
  | [], vs => vs = []
  | k :: ks, vs => ∃ v ws, vs = v :: ws ∧ NK K H k v ∧ NKL K H ks ws
end
mutual
theorem nk_shr {T : Th} {g : G} {H : Hp} : ∀ (d : D) (k : NestedKey) (v : V), nk d = some k → Shr T g H d v → NK T.K H k v
  | .non, k, v, e, s => by simp only [nk] at e; cases e; simp only [NK]; exact shr_non.mp s
  | .bl b, k, v, e, s => by simp only [nk] at e; cases e; simp only [NK]; exact .inr ⟨b, shr_bl.mp s, rfl⟩
  | .int i, k, v, e, s => by simp only [nk] at e; cases e; simp only [NK]; exact .inl (shr_int.mp s)
  | .str x, k, v, e, s => by simp only [nk] at e; cases e; simp only [NK]; exact shr_str.mp s
  | .tup l, k, v, e, s => by
    simp only [nk] at e
    obtain ⟨ks, e1, e2⟩ := Option.map_eq_some_iff.mp e
    subst e2
    obtain ⟨a, vs, h1, h2, h3⟩ := shr_tup.mp s
    simp only [NK]
    exact ⟨a, vs, h1, h2.sq, nkL_shr l ks vs e1 h3⟩
  | .lst l, k, v, e, s => by simp only [nk] at e; cases e
  | .scr l, k, v, e, s => by simp only [nk] at e; cases e
  | .dct l, k, v, e, s => by simp only [nk] at e; cases e
  | .obj n, k, v, e, s => by simp only [nk] at e; cases e
  | .fn n l, k, v, e, s => by simp only [nk] at e; cases e
  | .gone n, k, v, e, s => by simp only [nk] at e; cases e
theorem nkL_shr {T : Th} {g : G} {H : Hp} : ∀ (l : List D) (ks : List NestedKey) (vs : List V), nkL l = some ks → ShrL T g H l vs → NKL T.K H ks vs
  | [], ks, vs, e, s => by
    simp only [nkL] at e
    cases e
    simp only [ShrL] at s
    simp only [NKL]
    exact s
  | d :: r, ks, vs, e, s => by
    simp only [nkL] at e
    split at e
    · rename_i k ks' e1 e2
      cases e
      simp only [ShrL] at s
      obtain ⟨v, ws, h1, h2, h3⟩ := s
      simp only [NKL]
      exact ⟨v, ws, h1, nk_shr d k v e1 h2, nkL_shr r ks' ws e2 h3⟩
    · cases e
end
section
variable {X : Cx} {pins : List (Addr × Obj)} {σ : L2.St} {H : Hp} {s : Shared}
mutual
theorem nk_is (I : Inv X pins σ H s) : ∀ (k : NestedKey) (v : V) (u : Value), NK X.K H k v → RelV v u → NestedIs s.heap k u
  | .none, v, u, h, r => by
    simp only [NK] at h
    subst h
    obtain rfl : u = Value.none := r
    exact .none
  | .num i, v, u, h, r => by
    simp only [NK] at h
    rcases h with h | ⟨b, h, e⟩
    · subst h
      obtain ⟨t, rfl⟩ := (show ∃ t, u = Value.int i t from r)
      exact .int i t
    · subst h
      obtain rfl : u = Value.bool b := r
      exact .bool e
  | .text x, v, u, h, r => by
    simp only [NK] at h
    subst h
    obtain ⟨t, rfl⟩ := (show ∃ t, u = Value.str x t from r)
    exact .text x t
  | .tup ks, v, u, h, r => by
    simp only [NK] at h
    obtain ⟨a, vs, h1, h2, h3⟩ := h
    subst h1
    obtain rfl : u = Value.ref a := r
    obtain ⟨its, rv, pl, hz⟩ := I.tuple h2
    obtain ⟨o, ho, hc, n, hd⟩ := pl
    exact .tup ho hc hd (by simpa using nkL_is I ks vs its h3 rv)
theorem nkL_is (I : Inv X pins σ H s) : ∀ (ks : List NestedKey) (vs : List V) (us : List Value), NKL X.K H ks vs → Vals vs us → NestedAll s.heap ks us
  | [], vs, us, h, r => by
    simp only [NKL] at h
    subst h
    cases r
    exact .nil
  | k :: ks, vs, us, h, r => by
    simp only [NKL] at h
    obtain ⟨v, ws, h1, h2, h3⟩ := h
    subst h1
    cases r with
    | cons h4 h5 => exact .cons (nk_is I k v _ h2 h4) (nkL_is I ks ws _ h3 h5)
end
end
def valN (ps : List (NestedKey × Addr × V)) (k : NestedKey) : Option V := (ps.find? fun p => decide (p.1 = k)).map (·.2.2)
def putNAt (k : NestedKey) (v : V) (p : NestedKey × Addr × V) : NestedKey × Addr × V := if p.1 = k then (p.1, p.2.1, v) else p
def putN (ps : List (NestedKey × Addr × V)) (k : NestedKey) (b : Addr) (v : V) : List (NestedKey × Addr × V) := if (valN ps k).isSome then ps.map (putNAt k v) else ps ++ [(k, b, v)]
abbrev PN (ps : List (NestedKey × Addr × V)) (xs : List (NestedKey × Addr × Value)) : Prop := Paired (fun (p : NestedKey × Addr × V) (x : NestedKey × Addr × Value) => p.1 = x.1 ∧ p.2.1 = x.2.1 ∧ RelV p.2.2 x.2.2) ps xs
theorem PN.val {ps : List (NestedKey × Addr × V)} {xs : List (NestedKey × Addr × Value)} (r : PN ps xs) (k : NestedKey) : RelO (valN ps k) ((atKey xs k).map (·.2)) := by
  induction r with
  | nil => exact True.intro
  | @cons p q ps qs h t ih =>
    obtain ⟨h1, _, h2⟩ := h
    by_cases e : p.1 = k
    · have e' : q.1 = k := h1.symm.trans e
      have b : atKey (q :: qs) k = some q.2 := by simp [atKey, List.find?_cons, e']
      have c : valN (p :: ps) k = some p.2.2 := by simp [valN, List.find?_cons, e]
      rw [c, b]; exact h2
    · have e' : ¬ q.1 = k := fun z => e (h1.trans z)
      have b : atKey (q :: qs) k = atKey qs k := by simp [atKey, List.find?_cons, e']
      have c : valN (p :: ps) k = valN ps k := by simp [valN, List.find?_cons, e]
      rw [c, b]; exact ih
theorem PN.put {ps : List (NestedKey × Addr × V)} {xs : List (NestedKey × Addr × Value)} (r : PN ps xs) (k : NestedKey) (b : Addr) {y : V} {u : Value} (ry : RelV y u) : PN (putN ps k b y) (storedH xs k b u) := by
  have e : (valN ps k).isSome = (atKey xs k).isSome := by rw [(r.val k).isSome_eq, Option.isSome_map]
  unfold putN storedH
  rw [e]
  by_cases q : (atKey xs k).isSome = true
  · rw [if_pos q, if_pos q]
    clear q e
    induction r with
    | nil => exact .nil
    | @cons p q ps qs h t ih =>
      rw [List.map_cons, List.map_cons]
      refine .cons ?_ ih
      obtain ⟨h1, h2, h3⟩ := h
      unfold putAt putNAt
      by_cases e : p.1 = k
      · rw [if_pos e, if_pos (h1.symm.trans e)]; exact ⟨h1, h2, ry⟩
      · rw [if_neg e, if_neg (fun z => e (h1.trans z))]; exact ⟨h1, h2, h3⟩
  · rw [if_neg q, if_neg q]; exact Paired.snoc r ⟨rfl, rfl, ry⟩
def NGet (P : Program) (w : World) (K : PySem.W.Frag) (H : Hp) (a : Addr) (y : V) (r : Option V) : Prop :=
  (∃ ks k, Rd H a (.dK ks) ∧ y = kV k ∧ r = valV ks k) ∨
  (∃ ps k b, Rd H a (dN P w a ps) ∧ y = .ref b ∧ NK K H k y ∧ k.depth ≤ 8 ∧ (∀ p ∈ ps, NK K H p.1 (.ref p.2.1) ∧ p.1.depth ≤ 8) ∧ r = valN ps k) ∨
  (∃ k b, Rd H a (.dK []) ∧ y = .ref b ∧ NK K H k y ∧ k.depth ≤ 8 ∧ r = none)
section
variable {X : Cx} {pins : List (Addr × Obj)} {σ : L2.St} {H : Hp} {s : Shared} {a : Addr} {y v : V} {u r : Value} {o : Option V} {A : Around} {E : Value → Shared → Prop}
theorem dn_of {ps : List (NestedKey × Addr × V)} (I : Inv X pins σ H s) (e : Rd H a (dN X.prog X.w a ps)) (hk : ∀ p ∈ ps, NK X.K H p.1 (.ref p.2.1) ∧ p.1.depth ≤ 8) :
    ps.length ≤ sizeLine ∧ (a == sysModules) = false ∧ ∃ xs, PN ps xs ∧ s.heap.DictOfH (nestedKind X.prog X.w) a xs := by
  obtain ⟨⟨z, y, o, es, ep, xs, h1, h2, h3, h4, h5, h6⟩, _⟩ := (show ObjOk X.prog X.w H s.heap a (dN X.prog X.w a ps) from e.ok I.hok)
  refine ⟨z, y, xs, h6, o, es, ep, h1, h2, h3, h4, fun x hx => ?_, h5⟩
  have all : ∀ {l : List (NestedKey × Addr × V)} {m : List (NestedKey × Addr × Value)}, PN l m → (∀ p ∈ l, NK X.K H p.1 (.ref p.2.1) ∧ p.1.depth ≤ 8) → ∀ x ∈ m, (nestedKind X.prog X.w).is s.heap x.1 x.2.1 := by
    intro l m q hl
    induction q with
    | nil => intro x hx; exact nomatch hx
    | @cons p q ps qs hq t ih =>
      intro x hx
      rcases List.mem_cons.mp hx with e | hx
      · subst e
        obtain ⟨h1, h2⟩ := hl p (List.mem_cons_self ..)
        rw [← hq.1, ← hq.2.1]
        exact ⟨nk_is I _ _ _ h1 rfl, h2⟩
      · exact ih (fun p hp => hl p (List.mem_cons_of_mem _ hp)) x hx
  exact all h6 hk x hx
theorem pairs_nil {P : Program} {w : World} {l : List DictEntry} (h : Pairs (mixKind P w) l ([] : List (Key × Value))) : l = [] := by cases h; rfl
theorem dn_empty (I : Inv X pins σ H s) (e : Rd H a (.dK [])) : (a == sysModules) = false ∧ s.heap.DictOfH (nestedKind X.prog X.w) a [] := by
  obtain ⟨z, hd, vs, rel, o, es, ep, h1, h2, h3, h4, h5, h6⟩ := dk_rd I.hok e
  cases rel
  exact ⟨hd, o, es, ep, h1, h2, h3, pairs_nil h5, fun x hx => (nomatch hx), List.nodup_nil⟩
end
end Q

namespace Q
open PySem PySem.Spec PyProof.Rows L2
theorem kind_room {P : Program} {w : World} {A : Around} (hu : A.units + 16 < cLine) : (nestedKind P w).room A.in1 := by
  show A.in1.units + 8 < cLine
  have : A.in1.units ≤ A.units + 1 := by
    unfold Around.in1
    show _ ≤ _
    simp
  omega
section
variable {X : Cx} {pins : List (Addr × Obj)} {σ : L2.St} {H : Hp} {s : Shared} {a : Addr} {y v : V} {u r : Value} {o : Option V} {A : Around} {E : Value → Shared → Prop}
theorem n_in {Q : Value → Shared → Prop} (hu : A.units + 16 < cLine) (I : Inv X pins σ H s) (g : NGet X.prog X.w X.K H a y o) (ry : RelV y u) (h : ∀ s', Inv X pins σ H s' → Q (.bool o.isSome) s') :
    wpAny (model X.prog X.w) A (compareOp .In u (.ref a)) Q E s := by
  rcases g with ⟨ks, k, e, ey, l⟩ | ⟨ps, k, b, e, ey, nk, dk, al, l⟩ | ⟨k, b, e, ey, nk, dk, l⟩
  · exact d_in (by omega) I (.inl ⟨ks, k, e, ey, l⟩) ry h
  · subst ey
    cases (show u = Value.ref b from ry)
    obtain ⟨z, hd, xs, rel, dd⟩ := dn_of I e al
    refine wpAny_in_heap (kind_room hu) ⟨nk_is I _ _ _ nk rfl, dk⟩ hd dd ?_
    have q := (rel.val k).isSome_eq
    rw [Option.isSome_map] at q
    rw [← q, ← l]
    exact h _ (I.tok _)
  · subst ey
    cases (show u = Value.ref b from ry)
    obtain ⟨hd, dd⟩ := dn_empty I e
    refine wpAny_in_heap (kind_room hu) ⟨nk_is I _ _ _ nk rfl, dk⟩ hd dd ?_
    rw [l] at h
    exact h _ (I.tok _)
def NPut (P : Program) (w : World) (K : PySem.W.Frag) (H : Hp) (a : Addr) (y v : V) (H' : Hp) : Prop :=
  (∃ ks k, H a = some (.dK ks) ∧ y = kV k ∧ ks.length < sizeLine ∧ H' = upd H a (.dK (putK ks k v))) ∨
  (∃ ps k b, H a = some (dN P w a ps) ∧ y = .ref b ∧ NK K H k y ∧ k.depth ≤ 8 ∧ (∀ p ∈ ps, NK K H p.1 (.ref p.2.1) ∧ p.1.depth ≤ 8) ∧ ps.length < sizeLine ∧ H' = upd H a (dN P w a (putN ps k b v))) ∨
  (∃ k b, H a = some (.dK []) ∧ y = .ref b ∧ NK K H k y ∧ k.depth ≤ 8 ∧ H' = upd H a (dN P w a [(k, b, v)]))
theorem putN_length (ps : List (NestedKey × Addr × V)) (k : NestedKey) (b : Addr) (v : V) : (putN ps k b v).length ≤ ps.length + 1 := by
  unfold putN
  split
  · rw [List.length_map]; omega
  · rw [List.length_append]; exact Nat.le_refl _
theorem dn_ok {h' : Heap} {H' : Hp} {ps : List (NestedKey × Addr × V)} {xs : List (NestedKey × Addr × Value)} (z : ps.length ≤ sizeLine) (hd : (a == sysModules) = false) (rel : PN ps xs) (dd : h'.DictOfH (nestedKind X.prog X.w) a xs) : ObjOk X.prog X.w H' h' a (dN X.prog X.w a ps) := by
  obtain ⟨o, es, ep, h1, h2, h3, h4, _, h5⟩ := dd
  exact ⟨⟨z, hd, o, es, ep, xs, h1, h2, h3, h4, h5, rel⟩, ⟨o, h1⟩, fun k1 k2 ⟨z, hd, o, es, ep, xs, h1, h2, h3, h4, h5, rel⟩ kp => ⟨z, hd, o, es, ep, xs, kp o h1, h2, h3, h4, h5, rel⟩⟩
theorem n_setItem {H' : Hp} {Q : Unit → Shared → Prop} (hu : A.units + 16 < cLine) (I : Inv X pins σ H s) (g : NPut X.prog X.w X.K H a y v H') (ry : RelV y u) (rv : RelV v r) (h : ∀ s', Inv X pins σ H' s' → Q () s') :
    wpAny (model X.prog X.w) A (setItem (.ref a) u r) Q E s := by
  rcases g with ⟨ks, k, e, ey, l, eH⟩ | ⟨ps, k, b, e, ey, nk, dk, al, l, eH⟩ | ⟨k, b, e, ey, nk, dk, eH⟩
  · exact d_setItem (by omega) I (.inl ⟨ks, k, e, ey, l, eH⟩) ry rv h
  · subst ey eH
    cases (show u = Value.ref b from ry)
    obtain ⟨z, hd, xs, rel, dd⟩ := dn_of I (.inl e) al
    have hz : xs.length ≤ sizeLine := by rw [← Paired.length rel]; exact z
    have hl : (putN ps k b v).length ≤ sizeLine := by have := putN_length ps k b v; omega
    refine wpAny_setItem_heap (hsz := hz) (kind_room hu) ⟨nk_is I _ _ _ nk rfl, dk⟩ dd fun h' dd' hs => h _ ?_
    have he : ∃ q, h'.get? a = some q := let ⟨q, _, _, hq, _⟩ := dd'; ⟨q, hq⟩
    exact d_write I (by rw [e]; exact True.intro) hs he (dn_ok hl hd (rel.put k b rv) dd')
  · subst ey eH
    cases (show u = Value.ref b from ry)
    obtain ⟨hd, dd⟩ := dn_empty I (.inl e)
    refine wpAny_setItem_heap (hsz := Nat.zero_le _) (kind_room hu) ⟨nk_is I _ _ _ nk rfl, dk⟩ dd fun h' dd' hs => h _ ?_
    have he : ∃ q, h'.get? a = some q := let ⟨q, _, _, hq, _⟩ := dd'; ⟨q, hq⟩
    exact d_write I (by rw [e]; exact True.intro) hs he (dn_ok (xs := [(k, b, r)]) (Nat.succ_le_of_lt (by rw [sizeLine_eq]; decide)) hd (.cons ⟨rfl, rfl, rv⟩ .nil) dd')
end
end Q

namespace Q
open PySem PySem.Spec PyProof.Rows L2
def kEq (a b : D) : Bool := match nk a, nk b with
  | some x, some y => decide (x = y)
  | _, _ => false
def dlook (l : List (D × D)) (k : D) : Option D := (l.find? fun p => kEq p.1 k).map (·.2)
def keyF (k : D) : Bool := match k with
  | .int _ => true
  | .str _ => true
  | .tup _ => (nk k).any fun x => decide (x.depth ≤ 8)
  | _ => false
def keyD : Key → D
  | .inl i => .int i
  | .inr x => .str x
section
variable {T : Th} {g : G} {H : Hp}
theorem shr_kV {d : D} {k : Key} (s : Shr T g H d (kV k)) : d = keyD k := by
  cases k with
  | inl i =>
    cases d <;> simp only [Shr, kV] at s <;> first | (cases s; done) | (cases s; rfl) | skip
    all_goals (first | (obtain ⟨_, _, z, _⟩ := s; cases z; done) | (obtain ⟨_, z⟩ := s; cases z; done) | (obtain ⟨_, s⟩ := s; simp only [Clo] at s; obtain ⟨_, _, _, _, _, _, z, _⟩ := s; cases z; done) | (exact s.elim))
  | inr i =>
    cases d <;> simp only [Shr, kV] at s <;> first | (cases s; done) | (cases s; rfl) | skip
    all_goals (first | (obtain ⟨_, _, z, _⟩ := s; cases z; done) | (obtain ⟨_, z⟩ := s; cases z; done) | (obtain ⟨_, s⟩ := s; simp only [Clo] at s; obtain ⟨_, _, _, _, _, _, z, _⟩ := s; cases z; done) | (exact s.elim))
theorem kEq_keyD (a b : Key) : kEq (keyD a) (keyD b) = decide (a = b) := by
  cases a <;> cases b <;> unfold kEq keyD <;> simp only [nk] <;> simp
theorem dlook_cons_t {p : D × D} {l : List (D × D)} {k : D} (h : kEq p.1 k = true) : dlook (p :: l) k = some p.2 := by simp [dlook, List.find?_cons, h]
theorem dlook_cons_f {p : D × D} {l : List (D × D)} {k : D} (h : kEq p.1 k = false) : dlook (p :: l) k = dlook l k := by simp [dlook, List.find?_cons, h]
theorem dk_look {k : Key} : ∀ (ks : List (Key × V)) (l : List (D × D)), ShrK T g H l (ks.map fun p => (kV p.1, p.2)) → (dlook l (keyD k)).isSome = (valV ks k).isSome ∧ ∀ z, dlook l (keyD k) = some z → ∃ v, valV ks k = some v ∧ Shr T g H z v
  | [], [], _ => ⟨rfl, fun z h => by cases h⟩
  | [], (a, d) :: l, s => by
    simp only [List.map_nil, ShrK] at s
    obtain ⟨_, _, _, z, _⟩ := s
    cases z
  | p :: ks, [], s => by
    simp only [List.map_cons, ShrK] at s
    cases s
  | p :: ks, (a, d) :: l, s => by
    simp only [List.map_cons, ShrK] at s
    obtain ⟨u, v, ws, e, s1, s2, s3⟩ := s
    cases e
    have ea := shr_kV s1
    subst ea
    have ih := dk_look (k := k) ks l s3
    by_cases e : p.1 = k
    · have h1 : kEq (keyD p.1) (keyD k) = true := by rw [kEq_keyD, decide_eq_true e]
      rw [dlook_cons_t (p := (keyD p.1, d)) h1, valV_pos e]
      exact ⟨rfl, fun z h => by cases h; exact ⟨_, rfl, s2⟩⟩
    · have h1 : kEq (keyD p.1) (keyD k) = false := by rw [kEq_keyD, decide_eq_false e]
      rw [dlook_cons_f (p := (keyD p.1, d)) h1, valV_neg e]
      exact ih
theorem dn_look {k : D} {kk : NestedKey} (hk : nk k = some kk) : ∀ (ps : List (NestedKey × Addr × V)) (l : List (D × D)), ShrK T g H l (ps.map fun p => (V.ref p.2.1, p.2.2)) → ps.map (fun p => some p.1) = l.map (fun p => nk p.1) →
    (dlook l k).isSome = (valN ps kk).isSome ∧ (∀ z, dlook l k = some z → ∃ v, valN ps kk = some v ∧ Shr T g H z v) ∧ ∀ p ∈ ps, NK T.K H p.1 (.ref p.2.1)
  | [], [], _, _ => ⟨rfl, fun z h => (by cases h), fun p hp => (nomatch hp)⟩
  | [], (a, d) :: l, s, _ => by
    simp only [List.map_nil, ShrK] at s
    obtain ⟨_, _, _, z, _⟩ := s
    cases z
  | p :: ps, [], s, _ => by
    simp only [List.map_cons, ShrK] at s
    cases s
  | p :: ps, (a, d) :: l, s, e0 => by
    simp only [List.map_cons, ShrK] at s
    obtain ⟨u, v, ws, e, s1, s2, s3⟩ := s
    cases e
    simp only [List.map_cons, List.cons.injEq] at e0
    obtain ⟨i1, i2, i3⟩ := dn_look hk ps l s3 e0.2
    have ea : nk a = some p.1 := e0.1.symm
    have hn := nk_shr a p.1 _ ea s1
    have al : ∀ q ∈ p :: ps, NK T.K H q.1 (.ref q.2.1) := fun q hq => by
      rcases List.mem_cons.mp hq with h | h
      · rw [h]; exact hn
      · exact i3 q h
    by_cases e : p.1 = kk
    · have h1 : kEq a k = true := by unfold kEq; rw [ea, hk]; exact decide_eq_true e
      have h2 : valN (p :: ps) kk = some p.2.2 := by simp [valN, List.find?_cons, e]
      rw [dlook_cons_t (p := (a, d)) h1, h2]
      exact ⟨rfl, fun z h => (by cases h; exact ⟨_, rfl, s2⟩), al⟩
    · have h1 : kEq a k = false := by unfold kEq; rw [ea, hk]; exact decide_eq_false e
      have h2 : valN (p :: ps) kk = valN ps kk := by simp [valN, List.find?_cons, e]
      rw [dlook_cons_f (p := (a, d)) h1, h2]
      exact ⟨i1, i2, al⟩
def sortOk (l : List (D × D)) (k : D) : Bool := match k with
  | .tup _ => l.all fun p => match p.1 with
    | .tup _ => true
    | _ => false
  | _ => flatKs l
theorem shr_key {k : D} {y : V} (hk : keyF k = true) (s : Shr T g H k y) : (∃ q, k = keyD q ∧ y = kV q) ∨ ∃ l kk b, k = .tup l ∧ nk k = some kk ∧ kk.depth ≤ 8 ∧ y = .ref b ∧ NK T.K H kk y := by
  cases k <;> unfold keyF at hk <;> try (cases hk; done)
  · rename_i i
    exact .inl ⟨.inl i, rfl, shr_int.mp s⟩
  · rename_i x
    exact .inl ⟨.inr x, rfl, shr_str.mp s⟩
  · rename_i l
    obtain ⟨kk, e1, e2⟩ : ∃ kk, nk (.tup l) = some kk ∧ decide (kk.depth ≤ 8) = true := by
      cases e : nk (.tup l) with
      | none => rw [e] at hk; cases hk
      | some kk => rw [e] at hk; exact ⟨kk, rfl, hk⟩
    obtain ⟨a, vs, e3, _, _⟩ := shr_tup.mp s
    exact .inr ⟨l, kk, a, rfl, e1, of_decide_eq_true e2, e3, nk_shr _ kk y e1 s⟩
theorem nget_shr {a : Addr} {l : List (D × D)} {kvs : List (V × V)} {k : D} {y : V} (hD : DShr T H a l kvs) (hs : ShrK T g H l kvs) (hk : keyF k = true) (hy : Shr T g H k y) (hl : sortOk l k = true ∨ (dlook l k).isSome = true) :
    ∃ o, NGet T.pr T.w T.K H a y o ∧ (dlook l k).isSome = o.isSome ∧ ∀ z, dlook l k = some z → ∃ v, o = some v ∧ Shr T g H z v := by
  rcases shr_key hk hy with ⟨q, e1, e2⟩ | ⟨kl, kk, b, e1, e2, e3, e4, e5⟩
  · subst e1 e2
    rcases hD with ⟨ks, h1, h2⟩ | ⟨ps, h1, h2, h3, h4, h5⟩
    · subst h2
      obtain ⟨i1, i2⟩ := dk_look (k := q) ks l hs
      exact ⟨valV ks q, .inl ⟨ks, q, h1, rfl, rfl⟩, i1, i2⟩
    · exfalso
      subst h2
      cases ps with
      | nil => exact h4 rfl
      | cons p ps =>
        have allT : ∀ x ∈ l, ∃ t, x.1 = .tup t := by
          have gen : ∀ (ps : List (NestedKey × Addr × V)) (l : List (D × D)), ShrK T g H l (ps.map fun p => (V.ref p.2.1, p.2.2)) → ps.map (fun p => some p.1) = l.map (fun p => nk p.1) → ∀ x ∈ l, ∃ t, x.1 = .tup t := by
            intro ps
            induction ps with
            | nil => intro l s e x hx; cases l with
              | nil => nomatch hx
              | cons d l => simp at e
            | cons p ps ih => intro l s e x hx; cases l with
              | nil => nomatch hx
              | cons d l =>
                obtain ⟨d1, d2⟩ := d
                simp only [List.map_cons, ShrK] at s
                obtain ⟨u, v, ws, e', s1, s2, s3⟩ := s
                cases e'
                simp only [List.map_cons, List.cons.injEq] at e
                rcases List.mem_cons.mp hx with h | h
                · subst h
                  have en := e.1
                  cases d1 <;> simp only [nk] at en <;> first | (cases en; done) | (simp only [Shr] at s1; cases s1; done) | exact ⟨_, rfl⟩
                · exact ih l s3 e.2 x h
          exact gen (p :: ps) l hs h3
        have hl0 : l ≠ [] := by intro z; subst z; simp at h3
        rcases hl with hl | hl
        · cases l with
          | nil => exact hl0 rfl
          | cons x l =>
            obtain ⟨t, et⟩ := allT x (List.mem_cons_self ..)
            have : flatKs (x :: l) = true := by cases q <;> exact hl
            unfold flatKs at this
            rw [List.all_cons, et] at this
            cases this
        · obtain ⟨z, hz⟩ := Option.isSome_iff_exists.mp hl
          unfold dlook at hz
          obtain ⟨x, hx, _⟩ := Option.map_eq_some_iff.mp hz
          obtain ⟨t, et⟩ := allT x (List.mem_of_find?_eq_some hx)
          have hq := List.find?_some hx
          rw [et] at hq
          cases q <;> unfold kEq keyD at hq <;> simp only [nk] at hq <;> (cases ht : nkL t <;> rw [ht] at hq <;> simp at hq)
  · subst e1 e4
    rcases hD with ⟨ks, h1, h2⟩ | ⟨ps, h1, h2, h3, h4, h5⟩
    · subst h2
      have fl : ∀ (ks : List (Key × V)) (l : List (D × D)), ShrK T g H l (ks.map fun p => (kV p.1, p.2)) → ∀ x ∈ l, ∃ q, x.1 = keyD q := by
        intro ks
        induction ks with
        | nil => intro l s x hx; cases l with
          | nil => nomatch hx
          | cons d l =>
            obtain ⟨d1, d2⟩ := d
            simp only [List.map_nil, ShrK] at s
            obtain ⟨_, _, _, z, _⟩ := s
            cases z
        | cons p ks ih => intro l s x hx; cases l with
          | nil => nomatch hx
          | cons d l =>
            obtain ⟨d1, d2⟩ := d
            simp only [List.map_cons, ShrK] at s
            obtain ⟨u, v, ws, e', s1, s2, s3⟩ := s
            cases e'
            rcases List.mem_cons.mp hx with h | h
            · subst h; exact ⟨_, shr_kV s1⟩
            · exact ih l s3 x h
      have fl := fl ks l hs
      have l0 : l = [] := by
        cases l with
        | nil => rfl
        | cons x l =>
          exfalso
          rcases hl with hl | hl
          · obtain ⟨q, eq⟩ := fl x (List.mem_cons_self ..)
            unfold sortOk at hl
            simp only [List.all_cons] at hl
            rw [eq] at hl
            cases q <;> simp [keyD] at hl
          · obtain ⟨z, hz⟩ := Option.isSome_iff_exists.mp hl
            unfold dlook at hz
            obtain ⟨x, hx, _⟩ := Option.map_eq_some_iff.mp hz
            obtain ⟨q, eq⟩ := fl x (List.mem_of_find?_eq_some hx)
            have hq := List.find?_some hx
            rw [eq] at hq
            unfold kEq at hq
            rw [e2] at hq
            simp only [nk] at e2
            obtain ⟨kt, _, e6⟩ := Option.map_eq_some_iff.mp e2
            subst e6
            cases q <;> simp [keyD, nk] at hq
      subst l0
      have k0 : ks = [] := by
        cases ks with
        | nil => rfl
        | cons p ks => simp only [List.map_cons, ShrK] at hs; cases hs
      subst k0
      exact ⟨none, .inr (.inr ⟨kk, b, h1, rfl, e5, e3, rfl⟩), rfl, fun z h => by cases h⟩
    · subst h2
      obtain ⟨i1, i2, i3⟩ := dn_look e2 ps l hs h3
      exact ⟨valN ps kk, .inr (.inl ⟨ps, kk, b, h1, rfl, e5, e3, fun p hp => ⟨i3 p hp, h5 p hp⟩, rfl⟩), i1, i2⟩
end
end Q

namespace Q
open PySem PySem.Spec PyProof.Rows L2
theorem room16 {k : Nat} {A : Around} (r : Room k A) : A.units + 16 < cLine := by have := r.un; omega
section
variable {X : Cx}
abbrev rNIn (P : Program) (w : World) (K : PySem.W.Frag) (neg : Bool) : R2 := fun x y H Q => ∃ a o, y = .ref a ∧ NGet P w K H a x o ∧ Q (.bl (if neg = true then !o.isSome else o.isSome)) H
theorem op_inN (hu : X.A.units + 16 < cLine) : OpR X (compareOp .In) (rNIn X.prog X.w X.K false) := by
  intro pins s σ H x y v u Q I rx ry h
  obtain ⟨a, o, rfl, gt, q⟩ := h
  obtain rfl : u = Value.ref a := ry
  exact n_in hu I gt rx fun s' I' => ⟨.bl o.isSome, H, I', rfl, q⟩
abbrev rInAD (P : Program) (w : World) (K : PySem.W.Frag) : R2 := fun x y H Q => rInA0 K x y H Q ∨ rNIn P w K false x y H Q
theorem op_inAD (hu : X.A.units + 16 < cLine) : OpR X (compareOp .In) (rInAD X.prog X.w X.K) := opr_or op_inA (op_inN hu)
end
def hIxD (x k : D) : Option D := match x with
  | .dct l => if keyF k = true then dlook l k else none
  | _ => hIx x k
def hInD (neg : Bool) (k x : D) : Option D := match x with
  | .dct l => if keyF k = true ∧ sortOk l k = true then some (.bl (if neg = true then !(dlook l k).isSome else (dlook l k).isSome)) else none
  | _ => hIn neg k x
section
variable {T : Th}
theorem shr_dct {g : G} {H : Hp} {l : List (D × D)} {v : V} : Shr T g H (.dct l) v ↔ ∃ a kvs, v = .ref a ∧ (DShr T H a l kvs ∧ ¬ g.U a) ∧ ShrK T g H l kvs := by simp only [Shr]
theorem hInD_not {neg : Bool} {x k : D} (h : ∀ l, x ≠ .dct l) : hInD neg k x = hIn neg k x := by
  cases x <;> first | rfl | exact absurd rfl (h _)
theorem ok_inD : OpOk T (rInAD T.pr T.w T.K) (hInD false) := by
  intro g H x y z v w sx sy e hd Q q
  by_cases hy : ∃ l, y = .dct l
  · obtain ⟨l, rfl⟩ := hy
    have e : (if keyF x = true ∧ sortOk l x = true then some (D.bl (dlook l x).isSome) else none) = some z := e
    split at e
    · rename_i hk
      obtain ⟨a, kvs, rfl, ⟨hD, _⟩, hs⟩ := shr_dct.mp sy
      obtain ⟨o, h1, h2, h3⟩ := nget_shr hD hs hk.1 sx (.inl hk.2)
      cases e
      exact .inr ⟨a, o, rfl, h1, q _ H (.refl H) (by rw [← h2]; exact shr_bl.mpr rfl)⟩
    · cases e
  · rw [hInD_not (fun l h => hy ⟨l, h⟩)] at e
    exact .inl (ok_in0 g H x y z v w sx sy e hd Q q)
end
end Q

namespace Q
open PySem PySem.Spec PyProof.Rows L2
def dpos : List (D × D) → D → Option (Nat × D)
  | [], _ => none
  | p :: l, k => if kEq p.1 k = true then some (0, p.2) else (dpos l k).map fun q => (q.1 + 1, q.2)
section
variable {T : Th} {g : G} {H : Hp}
def ShrKs (T : Th) (g : G) (H : Hp) (l : List (D × D)) (kvs : List (V × V)) : Prop := l.length = kvs.length ∧ ∀ (j : Nat) (d : D × D) (w : V × V), l[j]? = some d → kvs[j]? = some w → Shr T g H d.1 w.1
theorem ks_flat {l : List (D × D)} {a : Addr} {kvs : List (V × V)} (hD : DRep T H a l kvs) (hs : ShrKs T g H l kvs) (f : flatKs l = true) : ∃ ks : List (Key × V), H a = some (.dK ks) ∧ kvs = ks.map fun p => (kV p.1, p.2) := by
  rcases hD with h | ⟨ps, h1, h2, h3, h4, _⟩
  · exact h
  · exfalso
    cases ps with
    | nil => exact h4 rfl
    | cons p ps =>
      subst h2
      cases l with
      | nil => simp at h3
      | cons d l =>
        have q := hs.2 0 d (V.ref p.2.1, p.2.2) rfl rfl
        unfold flatKs at f
        rw [List.all_cons, Bool.and_eq_true] at f
        have f := f.1
        obtain ⟨k, d⟩ := d
        dsimp only at q f
        cases k <;> simp only [Shr] at q <;> first | (cases q; done) | (cases f)
end
inductive RV where
  | ok (js : List Nat) (d : D) (S : Store)
  | exc (x : Exc) (S : Store)
  | no
abbrev FV := Env → Store → RV
def PlV (T : Th) (ρ : Env) (σ : L2.St) (H : Hp) (i : Nat) (js : List Nat) (d : D) (v : V) : Prop := ∃ d0 v0, ρ[i]? = some (some d0) ∧ σ[i]? = some (some v0) ∧ Focus T H js d0 v0 d v
def GoodPV (T : Th) (W : WX) (Γ : List Md) (i : Nat) (ρ : Env) (σ : L2.St) (g : G) (S : Store) (H : Hp) : RV → VK → Prop
  | .ok js d S', Q => S' = S → ∀ v H', Exx H H' → PlV T ρ σ H' i js d v → Q v H'
  | .exc x S', _ => ∀ c dd g' H', Rel T g' Γ ρ S' σ H' → FrE g H g' H' → ExcR T g' H' x c dd → W c dd σ H'
  | .no, _ => False
def tPV (T : Th) (W : WX) (Γ : List Md) (i : Nat) (F : FV) : TE := fun σ H Q => ∃ g ρ S, Rel T g Γ ρ S σ H ∧ GoodPV T W Γ i ρ σ g S H (F ρ S) Q
abbrev XPV (X : Cx) (T : Th) (W : WX) (Γ : List Md) (i : Nat) (e : Expr) (F : FV) : Prop := PE X e (tPV T W Γ i F)
theorem PlV.ex {T : Th} {ρ : Env} {σ : L2.St} {H H' : Hp} {i : Nat} {js : List Nat} {d : D} {v : V} (h : PlV T ρ σ H i js d v) (e : Exx H H') : PlV T ρ σ H' i js d v := by
  obtain ⟨d0, v0, h1, h2, h3⟩ := h
  exact ⟨d0, v0, h1, h2, h3.ex e⟩
def pVar (i : Nat) : FV := fun ρ S => match ρ[i]? with
  | some (some d) => .ok [] d S
  | _ => .no
def posT (d : D) (k : Str) : Option (Nat × D) := match d with
  | .dct l => if flatKs l = true then dpos l (.str k) else none
  | _ => none
def pKeyK (K : Nat) (js : List Nat) (S : Store) (o : Option (Nat × D)) : RV := match o with
  | some (j, d) => if js.length + 1 ≤ K then .ok (js ++ [j]) d S else .no
  | none => .no
def pKey (K : Nat) (p : FV) (k : Str) : FV := fun ρ S => match p ρ S with
  | .ok js d S1 => pKeyK K js S1 (posT d k)
  | .exc y S1 => .exc y S1
  | .no => .no
section
variable {X : Cx} {T : Th} {W : WX} {Γ : List Md} {i K : Nat}
def ownK (K : Nat) (m : Md) : Prop := m = .o K ∨ m = .p K
theorem ownK_own {g : G} {H : Hp} {m : Md} {d : D} {v : V} (hm : ownK K m) (h : RepM T g H i m d v) : Own T g H K (g.F i) d v := by
  rcases hm with rfl | rfl
  · exact h
  · exact h.2
theorem ownK_rep {g g2 : G} {H H2 : Hp} {m : Md} {d d' : D} {v : V} (hm : ownK K m) (h : RepM T g H i m d v) (hP : g2.P i = g.P i) (h2 : Own T g2 H2 K (g2.F i) d' v) : RepM T g2 H2 i m d' v := by
  rcases hm with rfl | rfl
  · exact h2
  · exact ⟨h.1.trans hP.symm, h2⟩
theorem xpv_var {e : Expr} (he : PE X e (tVar i)) (hm : ownK K (Γ.getD i .s)) : XPV X T W Γ i e (pVar i) := pe_imp he fun σ H Q ⟨g, ρ, S, R, h⟩ => by
  have h : GoodPV T W Γ i ρ σ g S H (match ρ[i]? with | some (some d) => RV.ok [] d S | _ => .no) Q := h
  split at h
  · rename_i d e
    obtain ⟨v, h1, h2⟩ := R.slot i d e
    exact ⟨v, h1, h rfl v H (.refl H) ⟨d, v, e, h1, rfl, rfl⟩⟩
  · exact h.elim
theorem own_atV {g : G} {S : Store} {ρ : Env} {σ : L2.St} {H : Hp} {js : List Nat} {d : D} {v : V} (R : Rel T g Γ ρ S σ H) (hm : ownK K (Γ.getD i .s)) (h : PlV T ρ σ H i js d v) (hl : js.length ≤ K) :
    ∃ d0 v0 F', ρ[i]? = some (some d0) ∧ σ[i]? = some (some v0) ∧ (∀ a, F' a → g.F i a) ∧ Own T g H (K - js.length) F' d v ∧
    ∀ (g2 : G) (H2 : Hp) (Fo F2 : Addr → Prop) (x : D), Stay g H g2 H2 → (∀ a o, g.F i a → ¬ F' a → H a = some o → H2 a = some o) → (∀ a, Fo a → ¬ g.F i a) → (∀ a, F2 a → F' a ∨ Fo a) → Own T g2 H2 (K - js.length) F2 x v → Own T g2 H2 K (fun a => g.F i a ∨ Fo a) (setAt js d0 x) v0 := by
  obtain ⟨d0, v0, h1, h2, h3⟩ := h
  obtain ⟨v0', k1, k2⟩ := R.slot i d0 h1
  rw [h2] at k1
  cases k1
  replace k2 := ownK_own hm k2
  obtain ⟨F', q1, q2, q3⟩ := Own.focus js K _ _ _ k2 h3 hl
  exact ⟨d0, v0, F', h1, h2, q1, q2, q3⟩
theorem goodPV_ex {ρ : Env} {σ : L2.St} {g : G} {S : Store} {H H1 : Hp} {r : RV} {Q : VK} (e : Exx H H1) (h : GoodPV T W Γ i ρ σ g S H r Q) : GoodPV T W Γ i ρ σ g S H1 r Q := by
  cases r with
  | ok js d S' => exact fun es v H' x s => h es v H' (e.trans x) s
  | exc x S' => exact exc_ex e h
  | no => exact h
end
end Q

namespace Q
open PySem PySem.Spec PyProof.Rows L2
def slotPut (K k i : Nat) (js : List Nat) (x : D) (S : Store) (ρ : Env) : RS := match ρ[i]? with
  | some (some d0) => if K = js.length + k then .nx (ρ.set i (some (setAt js d0 x))) S else .no
  | _ => .no
def RV.bindS (ρ : Env) (r : RV) (k : List Nat → D → Store → RS) : RS := match r with
  | .ok js d S => k js d S
  | .exc x S => .exc x ρ S
  | .no => .no
def fVMut (K i : Nat) (p : FV) (h : HM) (a : FL) : FS := fun ρ S => (p ρ S).bindS ρ fun js d S1 => lstK d fun l => if K = js.length + 1 then (a ρ S1).bindR ρ fun ds S2 => optK (h l ds) fun zl => slotPut K 1 i js (.lst zl.2) S2 ρ else .no
section
variable {X : Cx} {T : Th} {Γ : List Md} {J : Jd} {i K : Nat}
theorem slotPut_k {k : Nat} {js : List Nat} {x : D} {S : Store} {ρ : Env} {g : G} {H : Hp} {D : Ends} (h : GoodS T J Γ g H (slotPut K k i js x S ρ) D) : K = js.length + k := by
  unfold slotPut at h
  split at h
  · split at h
    · assumption
    · exact h.elim
  · exact h.elim
theorem putv_core {k : Nat} {g g1 : G} {ρ : Env} {S : Store} {σ : L2.St} {H H1 : Hp} {js : List Nat} {d : D} {v : V} {De : Ends} (hm : ownK K (Γ.getD i .s)) (R1 : Rel T g1 Γ ρ S σ H1) (f1 : FrS g H g1 H1) (pl : PlV T ρ σ H1 i js d v) (hk : K = js.length + (k + 1)) :
    ∃ F' : Addr → Prop, (∀ a, F' a → g1.F i a) ∧ Own T g1 H1 (k + 1) F' d v ∧ ∀ (p : Addr) (o : HO) (F2 : Addr → Prop) (x : D), F' p → (∀ u, o ≠ .tup u ∧ ∀ b, o ≠ .frz b (.tup u)) → (∀ a, F2 a → F' a) →
      (Stay g1 H1 g1 (upd H1 p o) → Own T g1 (upd H1 p o) (k + 1) F2 x v) → GoodS T J Γ g H (slotPut K (k + 1) i js x S ρ) De → De.nx σ (upd H1 p o) := by
  obtain ⟨d0, v0, F', k1, k2, k3, k4, k5⟩ := own_atV R1 hm pl (by omega)
  have ek : K - js.length = k + 1 := by omega
  rw [ek] at k4 k5
  obtain ⟨v1, b1, b2⟩ := R1.slot i d0 k1
  rw [k2] at b1
  cases b1
  refine ⟨F', k3, k4, fun p o F2 x hp hno hF2 hx hg => ?_⟩
  have R2 := R1.write (d := setAt js d0 x) (k3 p hp) hno k2 fun st => by
    refine ownK_rep hm b2 rfl ?_
    exact Own.wide _ _ _ _ _ (fun a z => z.elim id fun z => z.elim) (k5 g1 (upd H1 p o) (fun _ => False) F2 x st (fun a u z nz e => by rw [upd_ne (fun w => nz (by rw [w]; exact hp))]; exact e) (fun a z => z.elim) (fun a z => .inl (hF2 a z)) (hx st))
  unfold slotPut at hg
  rw [k1] at hg
  dsimp only at hg
  rw [if_pos hk] at hg
  exact hg σ g1 _ R2 (f1.trans (R1.wrote (k3 p hp)))
theorem xs_vmut {st : Stmt} {o : Expr} {es : List Expr} {P : FV} {A : FL} {r : V → List V → Hp → VK → Prop} {h : HM} (hK : X.K = T.K) (hx : J.ΓX Γ) (hm : ownK K (Γ.getD i .s)) (ok : MutOk T r h) (ho : XPV X T J.W Γ i o P) (ha : XCL X T J.W Γ es A)
    (he : PE X o (tPV T J.W Γ i P) → PA X es (tCL T J.W Γ A) → PS X st (tDrop (tBM X.K "list" r (tPV T J.W Γ i P) (tCL T J.W Γ A)))) : XS X T J Γ Γ st (fVMut K i P h A) := ps_imp (he ho ha) fun D σ H ⟨g, ρ, S, R, hg⟩ => by
  refine ⟨g, ρ, S, R, ?_⟩
  unfold fVMut at hg
  cases ep : P ρ S with
  | no => rw [ep] at hg; exact hg
  | exc y S1 => rw [ep] at hg; exact fun c dd g' H' R' f' e => hg Γ c dd σ g' H' hx R' (f'.frs R.dOB) e
  | ok js d S1 =>
    rw [ep] at hg
    intro es v H1 e1 pl
    subst es
    obtain ⟨l, rfl, hg2⟩ := lstK_get (show GoodS T J Γ g H (lstK d _) D from hg)
    clear hg
    have hg := hg2
    split at hg
    · rename_i hd
      have R1 := R.ex e1
      have hlist : ∃ p vs, v = .ref p ∧ H1 p = some (.lst vs) := by
        obtain ⟨d0, v0, F', k1, k2, k3, k4, k5⟩ := own_atV R1 hm pl (by omega)
        have ek : K - js.length = 0 + 1 := by omega
        rw [ek] at k4
        simp only [Own] at k4
        obtain ⟨p, vs, rfl, hF, hH, _⟩ := k4
        exact ⟨p, vs, rfl, hH⟩
      obtain ⟨p, vs, rfl, hH⟩ := hlist
      refine ⟨.inl ⟨rfl, vs, SqL.of hH⟩, g, ρ, S1, R1, ?_⟩
      cases ea : A ρ S1 with
      | no => rw [ea] at hg; exact hg.elim
      | exc y S2 => rw [ea] at hg; exact fun c dd g' H' R' f' e => hg Γ c dd σ g' H' hx R' (((FrE.ex e1).trans f').frs R.dOB) e
      | ok ds S2 =>
        rw [ea] at hg
        intro es ws H2 e2 sw
        subst es
        obtain ⟨zl, ez, hg2⟩ := optK_get (show GoodS T J Γ g H (optK (h l ds) _) D from hg)
        clear hg
        have hg := hg2
        obtain ⟨z, l'⟩ := zl
        have R2 := R1.ex e2
        have f2 : FrS g H g H2 := (FrE.ex (e1.trans e2)).frs R.dOB
        obtain ⟨F', q1, q2, q3⟩ := putv_core (k := 0) (De := D) hm R2 f2 (pl.ex e2) (slotPut_k hg)
        obtain ⟨p', vs', e3, hF, hH2, s3⟩ := own1_lst.mp q2
        cases e3
        refine ok g H2 p l ds l' z vs' ws hH2 s3 sw (.inr (.inl ⟨i, q1 p hF⟩)) ez _ fun u vs2 s2 su => ?_
        refine q3 p _ F' (.lst l') hF (fun _ => ⟨nofun, fun _ => nofun⟩) (fun a z => z) (fun st => ?_) hg
        exact own1_lst.mpr ⟨p, vs2, rfl, hF, upd_same, ShrL.stay st _ _ s2⟩
    · exact hg.elim
end
end Q

namespace Q
open PySem PySem.Spec PyProof.Rows L2
def dput (l : List (D × D)) (k x : D) : List (D × D) := if (l.any fun p => kEq p.1 k) = true then l.map (fun p => if kEq p.1 k = true then (p.1, x) else p) else l ++ [(k, x)]
def plainV (x : D) : Bool := match x with
  | .lst _ => false
  | .dct _ => false
  | _ => true
section
variable {T : Th} {g : G} {H : Hp}
theorem own_plain {m : Nat} {F : Addr → Prop} {x : D} {u : V} (h : m = 0 ∨ plainV x = true) (s : Shr T g H x u) : Own T g H m F x u := by
  rcases h with h | h
  · subst h
    cases x <;> exact s
  · cases m with
    | zero => cases x <;> exact s
    | succ m => cases x <;> first | exact s | cases h
def Prs (T : Th) (g : G) (H : Hp) (m : Nat) (Gs : Nat → Addr → Prop) (l : List (D × D)) (kvs : List (V × V)) : Prop := l.length = kvs.length ∧ ∀ (j : Nat) (d : D × D) (w : V × V), l[j]? = some d → kvs[j]? = some w → Shr T g H d.1 w.1 ∧ Own T g H m (Gs j) d.2 w.2
theorem Prs.put {α : Type} {m : Nat} {Gs : Nat → Addr → Prop} {k x : D} {y u : V} (hx : m = 0 ∨ plainV x = true) (sy : Shr T g H k y) (sx : Shr T g H x u) (f : α → V × V) (hit : α → Bool) (rep : α → α) (new : α) (hr : ∀ a, (f (rep a)) = ((f a).1, u)) (hn : f new = (y, u))
    {l : List (D × D)} {ks : List α} (h : Prs T g H m Gs l (ks.map f)) (hh : ∀ (j : Nat) (d : D × D) (a : α), l[j]? = some d → ks[j]? = some a → kEq d.1 k = hit a) (hnew : l.any (fun p => kEq p.1 k) = ks.any hit) :
    Prs T g H m (fun j a => Gs j a ∧ j < l.length) (dput l k x) ((if ks.any hit = true then ks.map (fun a => if hit a = true then rep a else a) else ks ++ [new]).map f) := by
  obtain ⟨h1, h2⟩ := h
  rw [List.length_map] at h1
  unfold dput
  rw [hnew]
  by_cases q : ks.any hit = true
  · rw [if_pos q, if_pos q]
    refine ⟨by simp [h1], fun j d w e1 e2 => ?_⟩
    rw [List.getElem?_map] at e1 e2
    obtain ⟨d0, e3, e4⟩ := Option.map_eq_some_iff.mp e1
    obtain ⟨a0, e5, e6⟩ := Option.map_eq_some_iff.mp e2
    rw [List.getElem?_map] at e5
    obtain ⟨a1, e7, e8⟩ := Option.map_eq_some_iff.mp e5
    have hj : j < l.length := (List.getElem?_eq_some_iff.mp e3).1
    obtain ⟨i1, i2⟩ := h2 j d0 (f a1) e3 (by rw [List.getElem?_map, e7]; rfl)
    have ek := hh j d0 a1 e3 e7
    subst e4 e6 e8
    by_cases e : hit a1 = true
    · rw [ek, if_pos e, if_pos e, hr]
      exact ⟨i1, own_plain hx sx⟩
    · rw [ek, if_neg e, if_neg e]
      exact ⟨i1, Own.wide _ _ _ _ _ (fun a z => ⟨z, hj⟩) i2⟩
  · rw [if_neg q, if_neg q]
    refine ⟨by simp [h1], fun j d w e1 e2 => ?_⟩
    rw [List.map_append] at e2
    by_cases hj : j < l.length
    · rw [List.getElem?_append_left hj] at e1
      rw [List.getElem?_append_left (by rw [List.length_map]; omega)] at e2
      obtain ⟨i1, i2⟩ := h2 j d w e1 e2
      exact ⟨i1, Own.wide _ _ _ _ _ (fun a z => ⟨z, hj⟩) i2⟩
    · have hj2 : j = l.length := by
        have := (List.getElem?_eq_some_iff.mp e1).1
        simp at this
        omega
      subst hj2
      rw [List.getElem?_append_right (Nat.le_refl _), Nat.sub_self] at e1
      rw [List.getElem?_append_right (by rw [List.length_map]; omega), List.length_map, h1, Nat.sub_self] at e2
      cases e1
      have e2 : f new = w := by simpa using e2
      rw [hn] at e2
      subst e2
      exact ⟨sy, own_plain hx sx⟩
end
end Q

namespace Q
open PySem PySem.Spec PyProof.Rows L2
theorem any_pt {α β : Type} (p : α → Bool) (q : β → Bool) : ∀ (l : List α) (m : List β), l.length = m.length → (∀ (j : Nat) a b, l[j]? = some a → m[j]? = some b → p a = q b) → l.any p = m.any q
  | [], [], _, _ => rfl
  | [], _ :: _, h, _ => by simp at h
  | _ :: _, [], h, _ => by simp at h
  | a :: l, b :: m, h, e => by
    rw [List.any_cons, List.any_cons, e 0 a b rfl rfl, any_pt p q l m (by simpa using h) fun j a b h1 h2 => e (j + 1) a b h1 h2]
theorem valN_any (ps : List (NestedKey × Addr × V)) (k : NestedKey) : (valN ps k).isSome = ps.any fun p => decide (p.1 = k) := by
  unfold valN
  rw [Option.isSome_map]
  induction ps with
  | nil => rfl
  | cons p ps ih =>
    rw [List.find?_cons, List.any_cons]
    by_cases e : decide (p.1 = k) = true
    · rw [e]; rfl
    · rw [Bool.not_eq_true] at e
      rw [e, ih]; rfl
section
variable {T : Th} {g : G} {H : Hp}
theorem keep_prs {m : Nat} {F : Addr → Prop} {Gs : Nat → Addr → Prop} {p : Addr} {o : HO} {l : List (D × D)} {kvs : List (V × V)} (st : Stay g H g (upd H p o)) (h1 : ∀ j q, Gs j q → F q ∧ q ≠ p) {n : Nat} (h : Prs T g H m (fun j a => Gs j a ∧ j < n) l kvs) :
    ∀ (j : Nat) (d : D × D) (w : V × V), l[j]? = some d → kvs[j]? = some w → Shr T g (upd H p o) d.1 w.1 ∧ Own T g (upd H p o) m (fun a => Gs j a ∧ j < n) d.2 w.2 := fun j d w e1 e2 => by
  obtain ⟨i1, i2⟩ := h.2 j d w e1 e2
  exact ⟨i1.stay st, Own.keepF st _ _ _ _ (fun a u z e => by rw [upd_ne (h1 j a z.1).2]; exact e) i2⟩
theorem nput_own {m : Nat} {F : Addr → Prop} {l : List (D × D)} {v y u : V} {k x : D} (h : Own T g H (m + 1) F (.dct l) v) (hk : keyF k = true) (sy : Shr T g H k y) (sx : Shr T g H x u) (hx : m = 0 ∨ plainV x = true) (hl : sortOk l k = true) (hlen : l.length < 1000000) :
    ∃ p o, v = .ref p ∧ F p ∧ NPut T.pr T.w T.K H p y u (upd H p o) ∧ (∀ z, o ≠ .tup z ∧ ∀ b, o ≠ .frz b (.tup z)) ∧ (Stay g H g (upd H p o) → Own T g (upd H p o) (m + 1) F (.dct (dput l k x)) v) := by
  simp only [Own] at h
  obtain ⟨p, kvs, rfl, hF, hD, hn, Gs, h1, h2, h3⟩ := h
  have hP : Prs T g H m Gs l kvs := ⟨hn, h3⟩
  have hG : ∀ i j q, (Gs i q ∧ i < l.length) → (Gs j q ∧ j < l.length) → i = j := fun i j q z z' => h2 i j q z.1 z'.1
  rcases shr_key hk sy with ⟨q, e1, e2⟩ | ⟨kl, kk, b, e1, e2, e3, e4, e5⟩
  · subst e1 e2
    have hf : flatKs l = true := by cases q <;> exact hl
    obtain ⟨ks, hH, rfl⟩ := ks_flat hD ⟨hn, fun j d w a b => (h3 j d w a b).1⟩ hf
    have hh : ∀ (j : Nat) (d : D × D) (a : Key × V), l[j]? = some d → ks[j]? = some a → kEq d.1 (keyD q) = decide (a.1 = q) := fun j d a a1 a2 => by
      have := (h3 j d (kV a.1, a.2) a1 (by rw [List.getElem?_map, a2]; rfl)).1
      rw [shr_kV this, kEq_keyD]
    have hP2 := hP.put hx sy sx (fun a : Key × V => (kV a.1, a.2)) (fun a => decide (a.1 = q)) (fun a => (a.1, u)) (q, u) (fun _ => rfl) rfl hh (any_pt _ _ l ks (by rw [List.length_map] at hn; exact hn) hh)
    have ep : (if (ks.any fun a => decide (a.1 = q)) = true then ks.map (fun a => if decide (a.1 = q) = true then (a.1, u) else a) else ks ++ [(q, u)]) = putK ks q u := by
      unfold putK
      simp only [decide_eq_true_eq]
    rw [ep] at hP2
    refine ⟨p, .dK (putK ks q u), rfl, hF, .inl ⟨ks, q, hH, rfl, ?_, rfl⟩, fun _ => ⟨nofun, fun _ => nofun⟩, fun st => ?_⟩
    · rw [List.length_map] at hn
      rw [sizeLine_eq]
      omega
    · simp only [Own]
      exact ⟨p, _, rfl, hF, .inl ⟨_, upd_same, rfl⟩, hP2.1, _, fun j a z => h1 j a z.1, hG, keep_prs st h1 hP2⟩
  · subst e1 e4
    rcases hD with ⟨ks, hH, e6⟩ | ⟨ps, hH, e6, e7, e8, e9⟩
    · subst e6
      have l0 : l = [] := by
        cases l with
        | nil => rfl
        | cons d l =>
          exfalso
          cases ks with
          | nil => simp at hn
          | cons a ks =>
            have := (h3 0 d (kV a.1, a.2) rfl rfl).1
            have ed := shr_kV this
            unfold sortOk at hl
            simp only [List.all_cons] at hl
            rw [ed] at hl
            cases hq : a.1 <;> rw [hq] at hl <;> simp [keyD] at hl
      subst l0
      have k0 : ks = [] := by
        cases ks with
        | nil => rfl
        | cons a ks => simp at hn
      subst k0
      refine ⟨p, dN T.pr T.w p [(kk, b, u)], rfl, hF, .inr (.inr ⟨kk, b, hH, rfl, e5, e3, rfl⟩), fun _ => ⟨nofun, fun _ => nofun⟩, fun st => ?_⟩
      have ed : dput [] (.tup kl) x = [(.tup kl, x)] := rfl
      rw [ed]
      simp only [Own]
      refine ⟨p, [(.ref b, u)], rfl, hF, .inr ⟨[(kk, b, u)], upd_same, rfl, ?_, List.cons_ne_nil _ _, fun q hq => by rw [List.mem_singleton.mp hq]; exact e3⟩, rfl, fun _ _ => False, fun _ _ z => z.elim, fun _ _ _ z => z.elim, fun j d w a1 a2 => ?_⟩
      · simp only [List.map_cons, List.map_nil]
        rw [e2]
      · cases j with
        | zero => cases a1; cases a2; exact ⟨sy.stay st, own_plain hx (sx.stay st)⟩
        | succ j => simp at a1
    · subst e6
      have hh : ∀ (j : Nat) (d : D × D) (a : NestedKey × Addr × V), l[j]? = some d → ps[j]? = some a → kEq d.1 (.tup kl) = decide (a.1 = kk) := fun j d a a1 a2 => by
        have e : (ps.map fun p => some p.1)[j]? = (l.map fun p => nk p.1)[j]? := by rw [e7]
        rw [List.getElem?_map, List.getElem?_map, a1, a2] at e
        have e : some a.1 = nk d.1 := Option.some.inj e
        unfold kEq
        rw [← e, e2]
      have hP2 := hP.put hx sy sx (fun a : NestedKey × Addr × V => (V.ref a.2.1, a.2.2)) (fun a => decide (a.1 = kk)) (fun a => (a.1, a.2.1, u)) (kk, b, u) (fun _ => rfl) rfl hh (any_pt _ _ l ps (by rw [List.length_map] at hn; exact hn) hh)
      have ep : (if (ps.any fun a => decide (a.1 = kk)) = true then ps.map (fun a => if decide (a.1 = kk) = true then (a.1, a.2.1, u) else a) else ps ++ [(kk, b, u)]) = putN ps kk b u := by
        unfold putN
        rw [valN_any]
        unfold putNAt
        simp only [decide_eq_true_eq]
      rw [ep] at hP2
      have hN : ∀ q ∈ ps, NK T.K H q.1 (.ref q.2.1) := fun q hq => by
        obtain ⟨j, hj, ej⟩ := List.getElem_of_mem hq
        have hlj : j < l.length := by rw [List.length_map] at hn; omega
        have a2 : ps[j]? = some q := by rw [List.getElem?_eq_getElem hj, ej]
        have a1 := List.getElem?_eq_getElem hlj
        have e : (ps.map fun p => some p.1)[j]? = (l.map fun p => nk p.1)[j]? := by rw [e7]
        rw [List.getElem?_map, List.getElem?_map, a1, a2] at e
        have e : some q.1 = nk l[j].1 := Option.some.inj e
        exact nk_shr _ _ _ e.symm (h3 j l[j] (V.ref q.2.1, q.2.2) a1 (by rw [List.getElem?_map, a2]; rfl)).1
      refine ⟨p, dN T.pr T.w p (putN ps kk b u), rfl, hF, .inr (.inl ⟨ps, kk, b, hH, rfl, e5, e3, fun q hq => ⟨hN q hq, e9 q hq⟩, ?_, rfl⟩), fun _ => ⟨nofun, fun _ => nofun⟩, fun st => ?_⟩
      · rw [List.length_map] at hn
        rw [sizeLine_eq]
        omega
      · simp only [Own]
        refine ⟨p, _, rfl, hF, .inr ⟨putN ps kk b u, upd_same, rfl, ?_, ?_, ?_⟩, hP2.1, _, fun j a z => h1 j a z.1, hG, keep_prs st h1 hP2⟩
        · have ha := any_pt _ _ l ps (by rw [List.length_map] at hn; exact hn) hh
          unfold putN dput
          rw [valN_any, ha]
          split
          · rw [List.map_map, List.map_map]
            have e10 : (ps.map fun p => some p.1) = ps.map ((fun p => some p.1) ∘ putNAt kk u) := List.map_congr_left fun a _ => by
              show some a.1 = some (putNAt kk u a).1
              unfold putNAt; split <;> rfl
            have e11 : (l.map fun p => nk p.1) = l.map ((fun p => nk p.1) ∘ fun p => if kEq p.1 (.tup kl) = true then (p.1, x) else p) := List.map_congr_left fun a _ => by
              show nk a.1 = nk (if kEq a.1 (.tup kl) = true then (a.1, x) else a).1
              split <;> rfl
            rw [← e10, ← e11]; exact e7
          · rw [List.map_append, List.map_append, e7]
            simp only [List.map_cons, List.map_nil]
            rw [e2]
        · intro z
          unfold putN at z
          split at z
          · exact e8 (List.map_eq_nil_iff.mp z)
          · simp at z
        · intro q hq
          unfold putN at hq
          split at hq
          · obtain ⟨a, ha, rfl⟩ := List.mem_map.mp hq
            unfold putNAt
            split <;> exact e9 a ha
          · rcases List.mem_append.mp hq with h | h
            · exact e9 q h
            · rw [List.mem_singleton.mp h]; exact e3
end
end Q

namespace Q
open PySem PySem.Spec PyProof.Rows L2
def sNPut (P : Program) (w : World) (K : PySem.W.Frag) (td ty tv : TE) : TS := fun D σ H => tv σ H fun v H1 => td σ H1 fun x H2 => ty σ H2 fun y H3 => ∃ a H4, x = .ref a ∧ NPut P w K H3 a y v H4 ∧ D.nx σ H4
section
variable {X : Cx} {o i value : Expr} {pos pos' : Pos} {td ty tv : TE}
theorem ps_nput (hu : X.A.units + 16 < cLine) (ho : PE X o td) (hi : PE X i ty) (hv : PE X value tv) (hs : swapsWith value (some (.Subscript o i pos')) pos.line X.env = pure false) :
    PS X (.Assign [.Subscript o i pos'] value pos) (sNPut X.prog X.w X.K td ty tv) := by
  refine ⟨fun pins s σ H D I h => ?_⟩
  refine wpAny_Assign_Subscript (thn (hv.run pins s σ H _ I h) fun r s1 ⟨v, H1, I1, rv, q1⟩ => thn (ho.run pins s1 σ H1 _ I1 q1) fun u s2 ⟨x, H2, I2, rx, q2⟩ => thn (hi.run pins s2 σ H2 _ I2 q2) fun iv s3 ⟨y, H3, I3, ry, a, H4, ex, g, q3⟩ => ?_) hs
  subst ex
  obtain rfl : u = Value.ref a := rx
  exact n_setItem hu I3 g ry rv fun s4 I4 => ⟨σ, H4, I4, q3⟩
end
def dctK (d : D) (k : List (D × D) → RS) : RS := match d with
  | .dct l => k l
  | _ => .no
def fVPut (K i : Nat) (p : FV) (e v : FE) : FS := fun ρ S => (v ρ S).bindS ρ fun x S1 => (p ρ S1).bindS ρ fun js d S2 => (e ρ S2).bindS ρ fun k S3 => dctK d fun l =>
  if (keyF k = true ∧ sortOk l k = true ∧ l.length < 1000000) ∧ js.length + 1 ≤ K ∧ (K - js.length - 1 = 0 ∨ plainV x = true) then slotPut K (K - js.length - 1 + 1) i js (.dct (dput l k x)) S3 ρ else .no
section
variable {X : Cx} {T : Th} {Γ : List Md} {J : Jd} {i K : Nat}
theorem dctK_get {d : D} {k : List (D × D) → RS} {g : G} {H : Hp} {D : Ends} (h : GoodS T J Γ g H (dctK d k) D) : ∃ l, d = .dct l ∧ GoodS T J Γ g H (k l) D := by
  unfold dctK at h
  split at h
  · exact ⟨_, rfl, h⟩
  · exact h.elim
theorem xs_vput {st : Stmt} {o e v : Expr} {P : FV} {A B : FE} (hP : X.prog = T.pr) (hw : X.w = T.w) (hK : X.K = T.K) (hx : J.ΓX Γ) (hm : ownK K (Γ.getD i .s)) (ho : XPV X T J.W Γ i o P) (hi : XC X T J.W Γ e A) (hv : XE X T J.W Γ v B)
    (he : PE X v (tX T J.W Γ B) → PE X o (tPV T J.W Γ i P) → PE X e (tC1 T J.W Γ A) → PS X st (sNPut X.prog X.w X.K (tPV T J.W Γ i P) (tC1 T J.W Γ A) (tX T J.W Γ B))) : XS X T J Γ Γ st (fVPut K i P A B) := ps_imp (he hv ho hi) fun D σ H ⟨g, ρ, S, R, hg⟩ => by
  refine ⟨g, ρ, S, R, ?_⟩
  unfold fVPut at hg
  refine good_bindS R hx hg fun x S1 w g1 H1 eR R1 f1 s1 hg1 => ?_
  clear hg eR
  refine ⟨g1, ρ, S1, R1, ?_⟩
  cases ep : P ρ S1 with
  | no => rw [ep] at hg1; exact hg1.elim
  | exc y S2 => rw [ep] at hg1; exact fun c dd g' H' R' f' e => hg1 Γ c dd σ g' H' hx R' (f'.frs R1.dOB) e
  | ok js d S2 =>
    rw [ep] at hg1
    intro es v1 H2 e2 pl
    subst es
    refine ⟨g1, ρ, S2, R1.ex e2, ?_⟩
    replace hg1 : GoodS T J Γ g1 H1 ((A ρ S2).bindS ρ fun k S3 => dctK d fun l => if (keyF k = true ∧ sortOk l k = true ∧ l.length < 1000000) ∧ js.length + 1 ≤ K ∧ (K - js.length - 1 = 0 ∨ plainV x = true) then slotPut K (K - js.length - 1 + 1) i js (.dct (dput l k x)) S3 ρ else .no) D := hg1
    cases ea : A ρ S2 with
    | no => rw [ea] at hg1; exact hg1.elim
    | exc y S3 => rw [ea] at hg1; exact fun c dd g' H' R' f' e => hg1 Γ c dd σ g' H' hx R' (((FrE.ex e2).trans f').frs R1.dOB) e
    | ok k S3 =>
      rw [ea] at hg1
      intro es u H3 e3 su
      subst es
      obtain ⟨l, rfl, hg2⟩ := dctK_get (show GoodS T J Γ g1 H1 (dctK d _) D from hg1)
      clear hg1
      have hg1 := hg2
      split at hg1
      · rename_i hc
        obtain ⟨⟨c1, c2, c3⟩, c4, c5⟩ := hc
        have R3 := (R1.ex e2).ex e3
        have f3 : FrS g1 H1 g1 H3 := (FrE.ex (e2.trans e3)).frs R1.dOB
        obtain ⟨F', q1, q2, q3⟩ := putv_core (k := K - js.length - 1) (De := D) hm R3 f3 (pl.ex e3) (by omega)
        have sx := Shr.stay (.ex (e2.trans e3)) _ _ s1
        obtain ⟨p, ob, rfl, hF, np, hno, own⟩ := nput_own q2 c1 su sx c5 c2 c3
        exact ⟨p, _, rfl, by rw [hP, hw, hK]; exact np, q3 p ob F' (.dct (dput l k x)) hF hno (fun a z => z) own hg1⟩
      · exact hg1.elim
end
end Q

namespace Q
open PySem PySem.Spec PyProof.Rows L2
inductive Itm where
  | l
  | d
  | s (F : FE)
  | f (F : FE)
def eItms : List (Str × Itm) → Env → Store → Option (List (D × D))
  | [], _, _ => some []
  | (k, .l) :: r, ρ, S => (eItms r ρ S).map ((.str k, .lst []) :: ·)
  | (k, .d) :: r, ρ, S => (eItms r ρ S).map ((.str k, .dct []) :: ·)
  | (k, .s F) :: r, ρ, S => match F ρ S with
    | .ok x _ => if plainV x = true then (eItms r ρ S).map ((.str k, x) :: ·) else none
    | _ => none
  | (k, .f F) :: r, ρ, S => match F ρ S with
    | .ok x _ => (eItms r ρ S).map ((.str k, x) :: ·)
    | _ => none
def eDct (its : List (Str × Itm)) : FE := fun ρ S => match eItms its ρ S with
  | some l => if its.length ≤ 15 ∧ (its.map (·.1)).Nodup then .ok (.dct l) S else .no
  | none => .no
section
variable {X : Cx} {T : Th} {W : WX} {Γ : List Md}
theorem own_nilD {g : G} {H : Hp} {k : Nat} {F : Addr → Prop} {p : Addr} (hF : F p) (hH : H p = some (.dK [])) : Own T g H (k + 1) F (.dct []) (.ref p) := by
  simp only [Own]
  exact ⟨p, [], rfl, hF, .inl ⟨[], hH, rfl⟩, rfl, fun _ _ => False, fun _ _ z => z.elim, fun _ _ _ z => z.elim, fun j d w a => by simp at a⟩
end
end Q

namespace Q
open PySem PySem.Spec PyProof.Rows L2
section
variable {X : Cx} {T : Th} {W : WX} {Γ : List Md}
end
end Q

namespace Q
open PySem PySem.Spec PyProof.Rows L2
end Q

namespace Q
open PySem PySem.Spec PyProof.Rows L2
section
variable {X : Cx} {T : Th} {W : WX} {Γ : List Md}
theorem xq_isi {e a : Expr} {A : FE} {n : String} (hK : X.K = T.K) (ha : XQ X T W Γ a A) (he : PE X a (tQ T W Γ A) → PE X e (tCB (rIsi X.K) (tCons (tQ T W Γ A) (tCons (tC (.ty n)) tNil)))) : XQ X T W Γ e (eUn (hIsi n) A) := pe_imp (he ha) fun σ H Q ⟨g, ρ, S, R, hg⟩ =>
  ⟨g, ρ, S, R, goodQ_bind hg fun x S1 v g1 H1 _ R1 f1 s1 hg1 => by
    obtain ⟨z, ez, hg3⟩ := goodQ_of hg1
    obtain ⟨m, e1, e2⟩ := Option.bind_eq_some_iff.mp ez
    obtain ⟨b, e3, e4⟩ := Option.map_eq_some_iff.mp e2
    subst e4
    refine ⟨v, .ty n, .type m, .type n, b, rfl, .ty n, by rw [hK]; exact ty_shr s1 e1, kit_ty e3, hg3 _ g1 H1 R1 (.refl _ _) (shr_bl.mpr rfl)⟩⟩
theorem goodTQ_bind {ρ : Env} {σ : L2.St} {g : G} {H : Hp} {r : RE} {k : D → Store → RE} {Q : Bool → Hp → Prop} {Q' : VK} (h : GoodT T W Γ ρ σ g H (r.bind k) Q)
    (hk : ∀ d S v g' H', r = .ok d S → Rel T g' Γ ρ S σ H' → FrE g H g' H' → Shr T g'.bb H' d v → GoodT T W Γ ρ σ g' H' (k d S) Q → Q' v H') : GoodQ T W Γ ρ σ g H r Q' := by
  cases r with
  | ok d S =>
    intro v g' H' R f s
    refine hk d S v g' H' rfl R f s ?_
    have h' : GoodT T W Γ ρ σ g H (k d S) Q := h
    cases e : k d S with
    | ok d2 S2 =>
      rw [e] at h'
      obtain ⟨b, e2, h'⟩ := h'
      exact ⟨b, e2, fun g2 H2 R2 f2 => h' g2 H2 R2 (f.trans f2)⟩
    | exc x S2 =>
      rw [e] at h'
      exact fun c dd g2 H2 R2 f2 s2 => h' c dd g2 H2 R2 (f.trans f2) s2
    | no => rw [e] at h'; exact h'
  | exc x S => exact h
  | no => exact h
theorem xt_qop {e : Expr} {r : R2} {h : D → D → Option D} {a b : Expr} {A B : FE} (ok : OpOk T r h) (ha : XQ X T W Γ a A) (hb : XQ X T W Γ b B)
    (he : PE X a (tQ T W Γ A) → PE X b (tQ T W Γ B) → PT X e (tTest (tOp r (tQ T W Γ A) (tQ T W Γ B)))) : XT X T W Γ e (eOp h A B) := pt_imp (he ha hb) fun σ H Q ⟨g, ρ, S, R, hg⟩ =>
  ⟨g, ρ, S, R, goodTQ_bind hg fun x S1 v g1 H1 _ R1 f1 s1 hg1 => ⟨g1, ρ, S1, R1, goodTQ_bind hg1 fun y S2 w g2 H2 _ R2 f2 s2 hg2 => by
    cases ez : h x y with
    | none => rw [ez] at hg2; exact hg2.elim
    | some z =>
      rw [ez] at hg2
      obtain ⟨b, rfl, hg3⟩ := hg2
      exact ok g2.bb H2 x y _ v w (s1.stay f2.bb) s2 ez (fun a u => R2.dom a (.inr (.inr (G.bb_U.mp u)))) _ fun u H' ex su => ⟨b, shr_bl.mp su, hg3 g2 H' (R2.ex ex) (.ex ex)⟩⟩⟩
theorem xf_sort {e a : Expr} {A : FE} (hK : X.K = T.K) (ha : XE X T W Γ a A) (he : PE X a (tX T W Γ A) → PE X e (tUn (rSort1 X.K) (tX T W Γ A))) : XF X T W Γ 1 e (eUn hSort A) := pe_imp (he ha) fun σ H Q ⟨g, ρ, S, R, hg⟩ => by
  refine ⟨g, ρ, S, R, ?_⟩
  unfold eUn at hg
  cases r : A ρ S with
  | no => rw [r] at hg; exact hg
  | exc x S1 => rw [r] at hg; exact hg
  | ok d S1 =>
    rw [r] at hg
    intro v g1 H1 R1 f1 s1
    have hg : GoodN T W Γ 1 ρ σ g H (RE.of S1 (hSort d)) Q := hg
    obtain ⟨l, rfl⟩ : ∃ l, d = .lst l := by
      cases d <;> simp only [hSort] at hg <;> first | exact hg.elim | exact ⟨_, rfl⟩
    obtain ⟨a, vs, rfl, la, ra⟩ := shr_lst.mp s1
    simp only [hSort] at hg
    cases en : intsOf l with
    | none => rw [en] at hg; exact hg.elim
    | some ns =>
      rw [en] at hg
      have hg : GoodN T W Γ 1 ρ σ g H (RE.ok (.lst ((isort ns).map .int)) S1) Q := hg
      obtain ⟨h1, h2⟩ := intsOf_map en ra
      subst h1
      refine ⟨a, ns, rfl, .of la.1, fun ms p hp hs hn => ?_⟩
      rw [isort_eq hs hp]
      refine hg _ g1 _ (· = p) (R1.fresh hn fun _ => ⟨nofun, fun _ => nofun⟩) (f1.trans (.ex (Exx.new hn))) (fun a z => ⟨(R1.fresh_out hn a z).1, ?_⟩) (R1.fresh_lst hn (shrL_int _))
      rw [z]; exact f1.none hn
end
end Q

namespace Q
open PySem PySem.Spec PyProof.Rows L2
section
variable {X : Cx} {T : Th} {W : WX} {Γ : List Md}
end
end Q

namespace Q
open PySem PySem.Spec PyProof.Rows L2
def noRB (Γ : List Md) : Bool := Γ.all fun m => match m with
  | .r _ => false
  | .l => false
  | _ => true
theorem noRB_l {Γ : List Md} (h : noRB Γ = true) (j : Nat) : Γ.getD j .s ≠ .l := fun e => by
  rw [List.getD_eq_getElem?_getD] at e
  cases q : Γ[j]? with
  | none => rw [q] at e; cases e
  | some m =>
    rw [q] at e
    have e : m = .l := e
    have := List.all_eq_true.mp h m (List.mem_of_getElem? q)
    rw [e] at this
    cases this
theorem noRB_get {Γ : List Md} (h : noRB Γ = true) (j k : Nat) : Γ.getD j .s ≠ .r k := fun e => by
  rw [List.getD_eq_getElem?_getD] at e
  cases q : Γ[j]? with
  | none => rw [q] at e; cases e
  | some m =>
    rw [q] at e
    have e : m = .r k := e
    have := List.all_eq_true.mp h m (List.mem_of_getElem? q)
    rw [e] at this
    cases this
section
variable {X : Cx} {T : Th} {W : WX} {Γ : List Md} {J : Jd}
theorem RepM.less {g g2 : G} {H H' : Hp} {i : Nat} {m : Md} {d : D} {v : V} (hm : ∀ k, m ≠ .r k) (hl : m ≠ .l) (h : RepM T g H i m d v) (st : Stay g H g2 H) (hF : ∀ a, g.F i a → g2.F i a) (hP : g2.P i = g.P i) : RepM T g2 H i m d v := by
  cases m with
  | s => exact Shr.stay st _ _ h
  | o k => exact (Own.wide k _ _ d v hF (Own.keepF st k _ d v (fun _ _ _ q => q) h) : Own T g2 H k (g2.F i) d v)
  | r k => exact absurd rfl (hm k)
  | p k => exact ⟨by rw [hP]; exact h.1, (Own.wide k _ _ d v hF (Own.keepF st k _ d v (fun _ _ _ q => q) h.2) : Own T g2 H k (g2.F i) d v)⟩
  | e w => exact h
  | l => exact absurd rfl hl
  | x w dd fs => exact ⟨h.1, st.keep _ _ h.2.1 h.2.2, st.off h.2.1 h.2.2⟩
theorem Rel.lessO {g : G} {ρ : Env} {S : Store} {σ : L2.St} {H : Hp} {O : Addr → Prop} (R : Rel T g Γ ρ S σ H) (hn : noRB Γ = true) (hO : ∀ a, O a → g.O a) : Rel T { g with O := O } Γ ρ S σ H := by
  refine R.shift rfl rfl rfl rfl (fun a u => ?_) R.dF (fun i a z w => R.dFO i a z (hO a w)) (fun a z => .inl (hO a z)) (fun i a z => .inl ⟨i, z⟩) R.len fun st j d e => ?_
  · rcases u with u | u | u
    · exact .inl (hO a u)
    · exact .inr (.inl u)
    · exact .inr (.inr u)
  · obtain ⟨v, h1, h2⟩ := R.slot j d e
    exact ⟨v, h1, RepM.less (H' := H) (noRB_get hn j) (noRB_l hn j) h2 st (fun a z => z) rfl⟩
theorem Rel.back {g g4 : G} {ρ ρ4 : Env} {S S4 : Store} {σ σ4 : L2.St} {H H4 : Hp} {i : Nat} {v : V} {d d0 : D} (R : Rel T g Γ ρ S σ H) (hn : noRB Γ = true) (hm : Γ.getD i .s = .o 1) (hd : ρ[i]? = some (some d)) (hv : σ[i]? = some (some v))
    (R4 : Rel T g4 (Γ.set i (.e v)) ρ4 S4 σ4 H4) (f : FrS (g.lend [i]) H g4 H4) (h0 : ρ4[i]? = some (some d0)) :
    ∃ g5, Rel T g5 Γ (ρ4.set i (some d)) S4 σ4 H4 ∧ FrS g H g5 H4 := by
  have hil : i < Γ.length := by
    by_cases hl : i < Γ.length
    · exact hl
    · rw [List.getD_eq_getElem?_getD, List.getElem?_eq_none (by omega)] at hm
      cases hm
  have lo : ∀ a, g.O a → g4.O a := fun a z => by rw [f.O]; exact .inl z
  have lf : ∀ a, g.F i a → g4.O a := fun a z => by rw [f.O]; exact .inr ⟨i, List.mem_singleton.mpr rfl, z⟩
  have f5 : FrS g H { g4 with O := g.O, F := fun j a => g4.F j a ∨ (j = i ∧ g.F i a) } H4 := by
    refine ⟨fun a o e hu => f.keep a o e (hu.imp (fun z w => z (G.lend_U.mp w)) .inl), fun a u => ?_, rfl, f.P, f.N, f.μ, f.dom⟩
    rcases u with u | ⟨j, u | ⟨_, u⟩⟩ | u
    · exact .inl (.inl u)
    · exact (f.own a (.inr (.inl ⟨j, u⟩))).imp G.lend_U.mp id
    · exact .inl (.inr (.inl ⟨i, u⟩))
    · exact (f.own a (.inr (.inr u))).imp G.lend_U.mp id
  refine ⟨_, ?_, f5⟩
  refine R4.shift rfl rfl rfl rfl (fun a u => ?_) (fun j k a h h' => ?_) (fun j a h z => ?_) (fun a z => .inl (lo a z)) (fun j a h => ?_) (by rw [List.length_set, R4.len]) fun st j d' e => ?_
  · rcases u with u | ⟨j, u | ⟨_, u⟩⟩ | u
    · exact .inl (lo a u)
    · exact .inr (.inl ⟨j, u⟩)
    · exact .inl (lf a u)
    · exact .inr (.inr u)
  · rcases h with h | ⟨ej, h⟩ <;> rcases h' with h' | ⟨ek, h'⟩
    · exact R4.dF j k a h h'
    · exact absurd (lf a h') (R4.dFO j a h)
    · exact absurd (lf a h) (R4.dFO k a h')
    · exact ej.trans ek.symm
  · rcases h with h | ⟨_, h⟩
    · exact R4.dFO j a h (lo a z)
    · exact R.dFO i a h z
  · rcases h with h | ⟨_, h⟩
    · exact .inl ⟨j, h⟩
    · exact .inr (lf a h)
  · by_cases hj : i = j
    · subst hj
      obtain ⟨w, h1, h2⟩ := R4.slot i d0 h0
      rw [List.getD_eq_getElem?_getD, List.getElem?_set_self hil] at h2
      have h2 : w = v := h2
      subst h2
      have hl2 : i < ρ4.length := by
        by_cases hl : i < ρ4.length
        · exact hl
        · rw [List.getElem?_eq_none (by omega)] at h0
          cases h0
      rw [List.getElem?_set_self hl2] at e
      cases e
      refine ⟨_, h1, ?_⟩
      rw [hm]
      obtain ⟨w2, q1, q2⟩ := R.slot i d hd
      rw [hv] at q1
      cases q1
      rw [hm] at q2
      exact Own.wide 1 _ _ d _ (fun a z => .inr ⟨rfl, z⟩) (Own.keepF f5.stay 1 (g.F i) d _ (fun a o z q => f.keep a o q (.inr (.inr ⟨i, List.mem_singleton.mpr rfl, z⟩))) q2)
    · rw [List.getElem?_set_ne hj] at e
      obtain ⟨w, h1, h2⟩ := R4.slot j d' e
      rw [getD_set_ne hj] at h2
      exact ⟨w, h1, RepM.less (H' := H4) (noRB_get hn j) (noRB_l hn j) h2 st (fun a z => .inl z) rfl⟩
theorem frs_unlend {g g' : G} {i : Nat} {H H' : Hp} (f : FrS (g.lend [i]) H g' H') : FrS g H { g' with O := g.O } H' :=
  ⟨fun a o e hu => f.keep a o e (hu.imp (fun z w => z (G.lend_U.mp w)) .inl), fun a u => by
    rcases u with u | u | u
    · exact .inl (.inl u)
    · exact (f.own a (.inr (.inl u))).imp G.lend_U.mp id
    · exact (f.own a (.inr (.inr u))).imp G.lend_U.mp id, rfl, f.P, f.N, f.μ, f.dom⟩
end
end Q

set_option maxHeartbeats 2000000
namespace RT
open PySem PySem.Calls PyProof PyProof.Rows
section
variable {prog : Program} {w : World} {A : Around} {E : Value → Shared → Prop} {s : Shared}
end
end RT
namespace RT
open PySem PySem.Spec PyProof.Rows L2
section
variable {X : Cx}
end
end RT
namespace Q
open PySem PySem.Spec PyProof.Rows L2
section
variable {X : Cx} {T : Th} {W : WX} {Γ : List Md}
end
end Q

namespace Q
open PySem PySem.Spec PyProof.Rows L2
def G.give (g : G) (i j : Nat) : G := { g with F := fun q a => (q = i ∧ (g.F i a ∨ g.F j a)) ∨ (q ≠ i ∧ q ≠ j ∧ g.F q a) }
section
variable {X : Cx} {T : Th} {Γ : List Md} {J : Jd} {i j K : Nat}
theorem G.give_U {g : G} {a : Addr} : (g.give i j).U a ↔ g.U a := by
  constructor
  · rintro (h | ⟨q, ⟨_, h | h⟩ | ⟨_, _, h⟩⟩ | h)
    · exact .inl h
    · exact .inr (.inl ⟨i, h⟩)
    · exact .inr (.inl ⟨j, h⟩)
    · exact .inr (.inl ⟨q, h⟩)
    · exact .inr (.inr h)
  · rintro (h | ⟨q, h⟩ | h)
    · exact .inl h
    · by_cases hi : q = i
      · subst hi; exact .inr (.inl ⟨q, .inl ⟨rfl, .inl h⟩⟩)
      · by_cases hj : q = j
        · subst hj; exact .inr (.inl ⟨i, .inl ⟨rfl, .inr h⟩⟩)
        · exact .inr (.inl ⟨q, .inr ⟨hi, hj, h⟩⟩)
    · exact .inr (.inr h)
theorem Rel.give {g : G} {ρ : Env} {S : Store} {σ : L2.St} {H : Hp} {m : Nat} (R : Rel T g Γ ρ S σ H) (hij : i ≠ j) (hm : Γ.getD i .s = .o m) : Rel T (g.give i j) (Γ.set j .s) (ρ.set j none) S σ H := by
  refine R.shift rfl rfl rfl rfl (fun a h => G.give_U.mp h) (fun p q a h h' => ?_) (fun q a h z => ?_) (fun a h => .inl h) (fun q a h => ?_) (by rw [List.length_set, R.len]) fun st q d e => ?_
  · rcases h with ⟨e1, h | h⟩ | ⟨e1, e2, h⟩ <;> rcases h' with ⟨e3, h' | h'⟩ | ⟨e3, e4, h'⟩
    · rw [e1, e3]
    · rw [e1, e3]
    · exact absurd (R.dF i q a h h').symm e3
    · rw [e1, e3]
    · rw [e1, e3]
    · exact absurd (R.dF j q a h h').symm e4
    · exact absurd (R.dF p i a h h') e1
    · exact absurd (R.dF p j a h h') e2
    · exact R.dF p q a h h'
  · rcases h with ⟨_, h | h⟩ | ⟨_, _, h⟩
    · exact R.dFO i a h z
    · exact R.dFO j a h z
    · exact R.dFO q a h z
  · rcases h with ⟨_, h | h⟩ | ⟨_, _, h⟩
    · exact .inl ⟨i, h⟩
    · exact .inl ⟨j, h⟩
    · exact .inl ⟨q, h⟩
  · by_cases hq : j = q
    · subst hq
      by_cases hl : j < ρ.length
      · rw [List.getElem?_set_self hl] at e; cases e
      · rw [List.getElem?_eq_none (by rw [List.length_set]; omega)] at e; cases e
    · rw [List.getElem?_set_ne hq] at e
      obtain ⟨v, h1, h2⟩ := R.slot q d e
      refine ⟨v, h1, ?_⟩
      rw [getD_set_ne hq]
      by_cases hi : q = i
      · subst hi
        exact h2.stay st (fun a z => .inl ⟨rfl, .inl z⟩) (fun a z => z) rfl (bare_sub rfl rfl (fun p a z => by
          rcases z with ⟨_, z | z⟩ | ⟨_, _, z⟩
          · exact ⟨q, z⟩
          · exact ⟨j, z⟩
          · exact ⟨p, z⟩) fun _ z => z)
      · exact h2.stay st (fun a z => .inr ⟨hi, fun w => hq w.symm, z⟩) (fun a z => z) rfl (bare_sub rfl rfl (fun p a z => by
          rcases z with ⟨_, z | z⟩ | ⟨_, _, z⟩
          · exact ⟨i, z⟩
          · exact ⟨j, z⟩
          · exact ⟨p, z⟩) fun _ z => z)
theorem FrS.give {g : G} {H : Hp} : FrS g H (g.give i j) H := ⟨fun a o h _ => h, fun a h => .inl (G.give_U.mp h), rfl, rfl, Nat.le_refl _, fun _ _ => rfl, fun a o h => ⟨o, h⟩⟩
end
end Q

namespace Q
open PySem PySem.Spec PyProof.Rows L2
section
variable {X : Cx} {T : Th} {Γ : List Md} {J : Jd} {i K : Nat}
end
end Q

namespace Q
open PySem PySem.Spec PyProof.Rows L2
def G.taken (g : G) (Fo : Addr → Prop) : G := { g with O := fun a => g.O a ∨ ∃ i, g.F i a, F := fun i a => i = 0 ∧ Fo a }
section
variable {X : Cx} {T : Th} {W : WX} {Γ : List Md}
def flatV : D → Bool
  | .lst [] => true
  | .dct [] => true
  | x => plainV x
end
end Q

namespace Q
open PySem PySem.Spec PyProof.Rows L2
section
variable {T : Th}
end
end Q

namespace Q
open PySem PySem.Spec PyProof.Rows L2
section
variable {T : Th}
end
section
variable {T : Th}
end
end Q

namespace Q
open PySem PySem.Spec PyProof.Rows L2
abbrev AK := Option (Nat × Nat)
def mdA : AK → Md
  | none => .s
  | some (_, k) => .p k
def lentA (ks : List AK) (j : Nat) : Option Nat := match ks[j]? with
  | some (some (i, _)) => some i
  | _ => none
inductive REP where
  | ok (d : D) (ρ : Env) (S : Store)
  | exc (x : Exc) (ρ : Env) (S : Store)
  | no
abbrev FEP := Env → Store → REP
def ArgP (T : Th) (g : G) (H : Hp) (ρ : Env) (σ : L2.St) : List AK → List D → List V → Prop
  | [], ds, vs => ds = [] ∧ vs = []
  | k :: ks, ds, vs => ∃ d ds' v vs', ds = d :: ds' ∧ vs = v :: vs' ∧ (match k with
    | none => Shr T g H d v
    | some (i, _) => ρ[i]? = some (some d) ∧ σ[i]? = some (some v)) ∧ ArgP T g H ρ σ ks ds' vs'
section
variable {T : Th} {g g' : G} {H H' : Hp} {ρ : Env} {σ : L2.St}
theorem ArgP.len : ∀ {ks : List AK} {ds : List D} {vs : List V}, ArgP T g H ρ σ ks ds vs → ds.length = ks.length ∧ vs.length = ks.length
  | [], _, _, h => by
    obtain ⟨rfl, rfl⟩ := h
    exact ⟨rfl, rfl⟩
  | k :: ks, _, _, h => by
    obtain ⟨d, ds, v, vs, rfl, rfl, _, r⟩ := h
    have := ArgP.len r
    simp only [List.length_cons]
    omega
theorem ArgP.get : ∀ {ks : List AK} {ds : List D} {vs : List V} {j : Nat} {k : AK}, ArgP T g H ρ σ ks ds vs → ks[j]? = some k → ∃ d v, ds[j]? = some d ∧ vs[j]? = some v ∧ (match k with
    | none => Shr T g H d v
    | some (i, _) => ρ[i]? = some (some d) ∧ σ[i]? = some (some v))
  | [], _, _, _, _, _, e => by simp at e
  | k :: ks, _, _, j, k', h, e => by
    obtain ⟨d, ds, v, vs, rfl, rfl, q, r⟩ := h
    cases j with
    | zero =>
      simp at e
      subst e
      exact ⟨d, v, rfl, rfl, q⟩
    | succ j =>
      obtain ⟨d', v', h1, h2, h3⟩ := ArgP.get (j := j) r (by simpa using e)
      exact ⟨d', v', by simpa using h1, by simpa using h2, h3⟩
theorem ArgP.stayE (f : FrE g H g' H') : ∀ {ks : List AK} {ds : List D} {vs : List V}, ArgP T g H ρ σ ks ds vs → ArgP T g' H' ρ σ ks ds vs
  | [], _, _, h => h
  | k :: ks, _, _, h => by
    obtain ⟨d, ds, v, vs, rfl, rfl, q, r⟩ := h
    refine ⟨d, ds, v, vs, rfl, rfl, ?_, ArgP.stayE f r⟩
    match k, q with
    | none, q => exact q.stay f.stay
    | some (i, k), q => exact q
end
def GoodPA (T : Th) (W : WX) (Γ : List Md) (ks : List AK) (ρ : Env) (σ : L2.St) (g : G) (H : Hp) : RL → (List V → Hp → Prop) → Prop
  | .ok ds S', Q => ∀ vs g' H', Rel T g' Γ ρ S' σ H' → FrE g H g' H' → ArgP T g' H' ρ σ ks ds vs → Q vs H'
  | .exc x S', _ => ∀ c dd g' H', Rel T g' Γ ρ S' σ H' → FrE g H g' H' → ExcR T g' H' x c dd → W c dd σ H'
  | .no, _ => False
def tPA (T : Th) (W : WX) (Γ : List Md) (ks : List AK) (F : FL) : TA := fun σ H Q => ∃ g ρ S, Rel T g Γ ρ S σ H ∧ GoodPA T W Γ ks ρ σ g H (F ρ S) Q
abbrev XPA (X : Cx) (T : Th) (W : WX) (Γ : List Md) (ks : List AK) (es : List Expr) (F : FL) : Prop := PA X es (tPA T W Γ ks F)
section
variable {X : Cx} {T : Th} {W : WX} {Γ : List Md} {ks : List AK}
theorem xpa_nil : XPA X T W Γ [] [] lNil := pa_imp pa_nil fun σ H Q ⟨g, ρ, S, R, hg⟩ => hg [] g H R (.refl g H) ⟨rfl, rfl⟩
theorem xpa_s {e : Expr} {es : List Expr} {A : FE} {B : FL} (ha : XE X T W Γ e A) (hb : XPA X T W Γ ks es B) (hx : PE X e (tX T W Γ A) → PA X es (tPA T W Γ ks B) → PA X (e :: es) (tCons (tX T W Γ A) (tPA T W Γ ks B))) : XPA X T W Γ (none :: ks) (e :: es) (lCons A B) := pa_imp (hx ha hb) fun σ H Q ⟨g, ρ, S, R, hg⟩ => by
  refine ⟨g, ρ, S, R, ?_⟩
  unfold lCons at hg
  cases e : A ρ S with
  | ok x S1 =>
    rw [e] at hg
    intro v g1 H1 R1 f1 s1
    refine ⟨g1, ρ, S1, R1, ?_⟩
    have hg : GoodPA T W Γ (none :: ks) ρ σ g H (match B ρ S1 with | .ok xs S2 => .ok (x :: xs) S2 | .exc x S2 => .exc x S2 | .no => .no) Q := hg
    cases e2 : B ρ S1 with
    | ok xs S2 =>
      rw [e2] at hg
      exact fun vs g2 H2 R2 f2 s2 => hg (v :: vs) g2 H2 R2 (f1.trans f2) ⟨x, xs, v, vs, rfl, rfl, s1.stay f2.stay, s2⟩
    | exc y S2 => rw [e2] at hg; exact fun c dd g2 H2 R2 f2 s2 => hg c dd g2 H2 R2 (f1.trans f2) s2
    | no => rw [e2] at hg; exact hg
  | exc y S1 => rw [e] at hg; exact hg
  | no => rw [e] at hg; exact hg
theorem xpa_p {i k : Nat} {e : Expr} {es : List Expr} {B : FL} (he : PE X e (tVar i)) (hb : XPA X T W Γ ks es B) (hx : PE X e (tVar i) → PA X es (tPA T W Γ ks B) → PA X (e :: es) (tCons (tVar i) (tPA T W Γ ks B))) : XPA X T W Γ (some (i, k) :: ks) (e :: es) (lCons (eVar i) B) := pa_imp (hx he hb) fun σ H Q ⟨g, ρ, S, R, hg⟩ => by
  unfold lCons at hg
  have hg : GoodPA T W Γ (some (i, k) :: ks) ρ σ g H (match (match ρ[i]? with | some (some d) => RE.ok d S | _ => .no) with
    | .ok x S1 => (match B ρ S1 with
      | .ok xs S2 => .ok (x :: xs) S2
      | .exc x S2 => .exc x S2
      | .no => .no)
    | .exc x S1 => .exc x S1
    | .no => .no) Q := hg
  cases e : ρ[i]? with
  | none => rw [e] at hg; exact hg.elim
  | some o =>
    cases o with
    | none => rw [e] at hg; exact hg.elim
    | some x =>
      rw [e] at hg
      obtain ⟨v, h1, _⟩ := R.slot i x e
      refine ⟨v, h1, g, ρ, S, R, ?_⟩
      have hg : GoodPA T W Γ (some (i, k) :: ks) ρ σ g H (match B ρ S with | .ok xs S2 => .ok (x :: xs) S2 | .exc x S2 => .exc x S2 | .no => .no) Q := hg
      cases e2 : B ρ S with
      | ok xs S2 =>
        rw [e2] at hg
        exact fun vs g2 H2 R2 f2 s2 => hg (v :: vs) g2 H2 R2 f2 ⟨x, xs, v, vs, rfl, rfl, ⟨e, h1⟩, s2⟩
      | exc y S2 => rw [e2] at hg; exact fun c dd g2 H2 R2 f2 s2 => hg c dd g2 H2 R2 f2 s2
      | no => rw [e2] at hg; exact hg
def G.lendTo (g : G) (ks : List AK) (vs : List V) : G := { g with
  O := fun a => g.O a ∨ ∃ i, (∀ j, lentA ks j ≠ some i) ∧ g.F i a
  F := fun j a => ∃ i, lentA ks j = some i ∧ g.F i a
  P := fun n => if n < ks.length then vs.getD n .non else g.P n }
def G.backP (g1 g' : G) (ks : List AK) : G := { g' with O := g1.O, P := g1.P, F := fun i a => (∃ j, lentA ks j = some i ∧ g'.F j a) ∨ ((∀ j, lentA ks j ≠ some i) ∧ g1.F i a) }
theorem lendTo_U {g : G} {vs : List V} {a : Addr} : (g.lendTo ks vs).U a ↔ g.U a := by
  constructor
  · rintro ((h | ⟨i, _, h⟩) | ⟨j, i, _, h⟩ | h)
    · exact .inl h
    · exact .inr (.inl ⟨i, h⟩)
    · exact .inr (.inl ⟨i, h⟩)
    · exact .inr (.inr h)
  · rintro (h | ⟨i, h⟩ | h)
    · exact .inl (.inl h)
    · by_cases q : ∃ j, lentA ks j = some i
      · obtain ⟨j, q⟩ := q
        exact .inr (.inl ⟨j, i, q, h⟩)
      · exact .inl (.inr ⟨i, fun j z => q ⟨j, z⟩, h⟩)
    · exact .inr (.inr h)
theorem lendTo_Z {g : G} {vs : List V} (hl : ks.length ≤ 1000) : (g.lendTo ks vs).Z = g.Z := by
  funext k
  show (if 1000000 + k < ks.length then vs.getD (1000000 + k) .non else g.P (1000000 + k)) = _
  rw [if_neg (by omega)]
  rfl
def putOuts : List AK → Env → Env → Env
  | some (i, _) :: ks, o :: outs, ρ => putOuts ks outs (ρ.set i o)
  | none :: ks, _ :: outs, ρ => putOuts ks outs ρ
  | _, _, ρ => ρ
theorem putOuts_len : ∀ (ks : List AK) (outs ρ : Env), (putOuts ks outs ρ).length = ρ.length
  | [], _, _ => rfl
  | some (i, _) :: ks, [], _ => rfl
  | none :: ks, [], _ => rfl
  | some (i, _) :: ks, o :: outs, ρ => by
    show (putOuts ks outs (ρ.set i o)).length = _
    rw [putOuts_len, List.length_set]
  | none :: ks, o :: outs, ρ => by
    show (putOuts ks outs ρ).length = _
    rw [putOuts_len]
theorem lentA_zero {i k : Nat} : lentA (some (i, k) :: ks) 0 = some i := rfl
theorem lentA_succ {k : AK} {j : Nat} : lentA (k :: ks) (j + 1) = lentA ks j := by
  unfold lentA
  rw [List.getElem?_cons_succ]
theorem putOuts_get : ∀ (ks : List AK) (outs ρ : Env), outs.length = ks.length → ∀ (i : Nat) (d : D), (putOuts ks outs ρ)[i]? = some (some d) → (∃ j, lentA ks j = some i ∧ outs[j]? = some (some d)) ∨ ((∀ j, lentA ks j ≠ some i) ∧ ρ[i]? = some (some d))
  | [], outs, ρ, _, i, d, h => .inr ⟨fun j z => (by unfold lentA at z; rw [List.getElem?_nil] at z; cases z), h⟩
  | some (i0, k0) :: ks, [], ρ, hl, i, d, h => by simp at hl
  | none :: ks, [], ρ, hl, i, d, h => by simp at hl
  | some (i0, k0) :: ks, o :: outs, ρ, hl, i, d, h => by
    have hl : outs.length = ks.length := by simpa using hl
    rcases putOuts_get ks outs (ρ.set i0 o) hl i d h with ⟨j, h1, h2⟩ | ⟨h1, h2⟩
    · exact .inl ⟨j + 1, by rw [lentA_succ]; exact h1, by rw [List.getElem?_cons_succ]; exact h2⟩
    · by_cases e : i0 = i
      · subst e
        by_cases hlt : i0 < ρ.length
        · rw [List.getElem?_set_self hlt] at h2
          exact .inl ⟨0, rfl, by rw [List.getElem?_cons_zero]; exact h2⟩
        · rw [List.getElem?_eq_none (by simpa using hlt)] at h2
          cases h2
      · rw [List.getElem?_set_ne e] at h2
        refine .inr ⟨fun j z => ?_, h2⟩
        cases j with
        | zero => rw [lentA_zero] at z; exact e (Option.some.inj z)
        | succ j => rw [lentA_succ] at z; exact h1 j z
  | none :: ks, o :: outs, ρ, hl, i, d, h => by
    have hl : outs.length = ks.length := by simpa using hl
    rcases putOuts_get ks outs ρ hl i d h with ⟨j, h1, h2⟩ | ⟨h1, h2⟩
    · exact .inl ⟨j + 1, by rw [lentA_succ]; exact h1, by rw [List.getElem?_cons_succ]; exact h2⟩
    · refine .inr ⟨fun j z => ?_, h2⟩
      cases j with
      | zero => cases z
      | succ j => rw [lentA_succ] at z; exact h1 j z
def onceA (ks : List AK) : Prop := ∀ j j' i, lentA ks j = some i → lentA ks j' = some i → j = j'
def lentsOf : List AK → List Nat
  | [] => []
  | some (i, _) :: ks => i :: lentsOf ks
  | none :: ks => lentsOf ks
theorem lentA_mem : ∀ {ks : List AK} {j i : Nat}, lentA ks j = some i → i ∈ lentsOf ks
  | [], j, i, h => by unfold lentA at h; rw [List.getElem?_nil] at h; cases h
  | some (i0, _) :: ks, 0, i, h => by rw [lentA_zero] at h; cases h; exact List.mem_cons_self
  | some (i0, _) :: ks, j + 1, i, h => by rw [lentA_succ] at h; exact List.mem_cons_of_mem _ (lentA_mem h)
  | none :: ks, 0, i, h => by cases h
  | none :: ks, j + 1, i, h => by rw [lentA_succ] at h; exact lentA_mem (ks := ks) h
theorem onceA_of : ∀ {ks : List AK}, (lentsOf ks).Nodup → onceA ks
  | [], _ => fun j j' i h => by unfold lentA at h; rw [List.getElem?_nil] at h; cases h
  | some (i0, k) :: ks, h => fun j j' i h1 h2 => by
    have h : (i0 :: lentsOf ks).Nodup := h
    rw [List.nodup_cons] at h
    cases j with
    | zero =>
      cases j' with
      | zero => rfl
      | succ j' =>
        rw [lentA_zero] at h1
        cases h1
        rw [lentA_succ] at h2
        exact absurd (lentA_mem h2) h.1
    | succ j =>
      cases j' with
      | zero =>
        rw [lentA_zero] at h2
        cases h2
        rw [lentA_succ] at h1
        exact absurd (lentA_mem h1) h.1
      | succ j' =>
        rw [lentA_succ] at h1 h2
        rw [onceA_of h.2 j j' i h1 h2]
  | none :: ks, h => fun j j' i h1 h2 => by
    have h : (lentsOf ks).Nodup := h
    cases j with
    | zero => cases h1
    | succ j =>
      cases j' with
      | zero => cases h2
      | succ j' =>
        rw [lentA_succ] at h1 h2
        rw [onceA_of h j j' i h1 h2]
theorem lentA_get {j i : Nat} (h : lentA ks j = some i) : ∃ k, ks[j]? = some (some (i, k)) := by
  unfold lentA at h
  split at h
  · rename_i i' k e
    cases h
    exact ⟨k, e⟩
  · cases h
theorem lentA_of {j i k : Nat} (h : ks[j]? = some (some (i, k))) : lentA ks j = some i := by
  unfold lentA
  rw [h]
def ownA (Γ : List Md) (ks : List AK) : Prop := ∀ (j i k : Nat), ks[j]? = some (some (i, k)) → Γ.getD i .s = .o k ∨ Γ.getD i .s = .p k
theorem mdA_get {j : Nat} {k : AK} (h : ks[j]? = some k) : (ks.map mdA).getD j .s = mdA k := by
  rw [List.getD_eq_getElem?_getD, List.getElem?_map, h]
  rfl
theorem rel_lend {g1 : G} {ρ : Env} {S1 : Store} {σ : L2.St} {H1 : Hp} {ds : List D} {vs : List V} (R1 : Rel T g1 Γ ρ S1 σ H1) (s : ArgP T g1 H1 ρ σ ks ds vs) (hl : ks.length ≤ 1000) (ho : ownA Γ ks) (hd : onceA ks) : Rel T (g1.lendTo ks vs) (ks.map mdA) (ds.map some) S1 (vs.map some) H1 := by
  obtain ⟨l1, l2⟩ := s.len
  refine R1.shift rfl rfl rfl rfl (fun a h => lendTo_U.mp h) (fun i j a h h' => ?_) (fun i a h u => ?_) (fun a h => ?_) (fun i a h => ?_) (by simp [l1, l2]) (fun st j d e => ?_) (lendTo_Z hl)
  · obtain ⟨p, e1, h1⟩ := h
    obtain ⟨q, e2, h2⟩ := h'
    have := R1.dF p q a h1 h2
    subst this
    exact hd i j p e1 e2
  · obtain ⟨p, e1, h1⟩ := h
    rcases u with u | ⟨q, e2, u⟩
    · exact R1.dFO p a h1 u
    · have := R1.dF p q a h1 u
      subst this
      exact e2 i e1
  · rcases h with h | ⟨i, _, h⟩
    · exact .inl h
    · exact .inr ⟨i, h⟩
  · obtain ⟨p, e1, h1⟩ := h
    exact .inl ⟨p, h1⟩
  · rw [List.getElem?_map] at e
    cases q : ds[j]? with
    | none => rw [q] at e; cases e
    | some d' =>
      rw [q] at e
      cases e
      have hj : j < ks.length := by
        rw [← l1]
        exact (List.getElem?_eq_some_iff.mp q).1
      obtain ⟨d2, v, h1, h2, h3⟩ := s.get (j := j) (List.getElem?_eq_getElem hj)
      rw [q] at h1
      cases h1
      refine ⟨v, by rw [List.getElem?_map, h2]; rfl, ?_⟩
      have hk := List.getElem?_eq_getElem hj
      rw [mdA_get hk]
      generalize ks[j] = k at *
      match k, h3, hk with
      | none, h3, hk => exact h3.stay st
      | some (i, k), h3, hk =>
        obtain ⟨a1, a2⟩ := h3
        obtain ⟨w, b1, b2⟩ := R1.slot i _ a1
        rw [a2] at b1
        cases b1
        show v = _ ∧ Own T _ _ k _ _ v
        refine ⟨?_, ?_⟩
        · show v = if j < ks.length then vs.getD j .non else _
          rw [if_pos hj, List.getD_eq_getElem?_getD, h2]
          rfl
        · have own : Own T g1 H1 k (g1.F i) d v := by
            rcases ho j i k hk with e | e
            · rw [e] at b2; exact b2
            · rw [e] at b2; exact b2.2
          exact Own.wide _ _ _ _ _ (fun a z => ⟨i, lentA_of hk, z⟩) (Own.keepF st _ _ _ _ (fun _ _ _ q => q) own)
theorem call_backP {g1 g' : G} {ρ : Env} {S1 S2 : Store} {σ : L2.St} {H1 H' : Hp} {Fo : Addr → Prop} {outs : Env} {ds : List D} {vs : List V} (R1 : Rel T g1 Γ ρ S1 σ H1) (s : ArgP T g1 H1 ρ σ ks ds vs) (hl : ks.length ≤ 1000) (ho : ownA Γ ks) (R' : Rel T (g'.plus Fo) (ks.map mdA) outs S2 (vs.map some) H') (f' : FrS (g1.lendTo ks vs) H1 g' H') :
    Rel T (g1.backP g' ks) Γ (putOuts ks outs ρ) S2 σ H' ∧ FrS g1 H1 (g1.backP g' ks) H' ∧ (∀ a, (g1.backP g' ks).U a → (g'.plus Fo).U a) := by
  obtain ⟨l1, l2⟩ := s.len
  have eO : ∀ a, g'.O a ↔ (g1.O a ∨ ∃ i, (∀ j, lentA ks j ≠ some i) ∧ g1.F i a) := fun a => by rw [f'.O]; exact Iff.rfl
  have hU : ∀ a, (g1.backP g' ks).U a → (g'.plus Fo).U a := fun a h => by
    rcases h with h | ⟨i, ⟨j, _, h⟩ | ⟨h1, h⟩⟩ | h
    · exact .inl (.inl ((eO a).mpr (.inl h)))
    · exact .inr (.inl ⟨j, h⟩)
    · exact .inl (.inl ((eO a).mpr (.inr ⟨i, h1, h⟩)))
    · exact .inr (.inr h)
  have own1 : ∀ a, g'.U a → g1.U a ∨ H1 a = none := fun a h => (f'.own a h).imp lendTo_U.mp id
  have hZ : (g1.backP g' ks).Z = (g'.plus Fo).Z := by
    funext k
    show g1.P (1000000 + k) = g'.P (1000000 + k)
    rw [f'.P]
    show _ = if 1000000 + k < ks.length then vs.getD (1000000 + k) .non else g1.P (1000000 + k)
    rw [if_neg (by omega)]
  have fs : FrS g1 H1 (g1.backP g' ks) H' := ⟨fun a o e h => f'.keep a o e (h.imp (fun z u => z (lendTo_U.mp u)) .inl), fun a h => by
    rcases h with h | ⟨i, ⟨j, _, h⟩ | ⟨_, h⟩⟩ | h
    · exact .inl (.inl h)
    · exact own1 a (.inr (.inl ⟨j, h⟩))
    · exact .inl (.inr (.inl ⟨i, h⟩))
    · exact own1 a (.inr (.inr h)), rfl, rfl, f'.N, f'.μ, f'.dom⟩
  have st := fs.stay
  have ol : outs.length = ks.length := by
    have := R'.len
    rw [List.length_map] at this
    omega
  have st2 : Stay (g'.plus Fo) H' (g1.backP g' ks) H' := stay_iff hU rfl rfl hZ
  have stb : Stay g1.bare H1 (g1.backP g' ks).bare H' := by
    refine ⟨fun a o e h => ?_, fun a h => ?_, f'.N, f'.μ, fs.Z⟩
    · refine f'.keep a o e ?_
      by_cases q : g1.O a
      · exact .inr (.inl q)
      · refine .inl fun u => h ?_
        rcases lendTo_U.mp u with u | u | u
        · exact absurd u q
        · exact .inr (.inl u)
        · exact .inr (.inr u)
    · have noO : ∀ a, g'.U a → ¬ g'.O a → g1.bare.U a ∨ H1 a = none := fun a u n => by
        rcases own1 a u with u | u
        · refine .inl ?_
          rcases u with u | u | u
          · exact absurd ((eO a).mpr (.inl u)) n
          · exact .inr (.inl u)
          · exact .inr (.inr u)
        · exact .inr u
      rcases h with h | ⟨i, ⟨j, _, h⟩ | ⟨_, h⟩⟩ | h
      · exact h.elim
      · exact noO a (.inr (.inl ⟨j, h⟩)) fun z => R'.dFO j a h (.inl z)
      · exact .inl (.inr (.inl ⟨i, h⟩))
      · exact noO a (.inr (.inr h)) fun z => R'.dOB a (.inl z) h
  refine ⟨⟨by rw [putOuts_len]; exact R1.len, fun i d e => ?_, fun i j a h h' => ?_, fun i a h u => ?_, fun i a h u => ?_, fun a h => R'.dOB a (.inl ((eO a).mpr (.inl h))), fun a h => R'.dom a (hU a h), R'.st.keep st2 (fun _ _ _ h => h) rfl rfl rfl fun _ _ => rfl, fun a h => R'.nt a (hU a h)⟩, fs, hU⟩
  · rcases putOuts_get ks outs ρ ol i d e with ⟨j, h1, h2⟩ | ⟨h1, h2⟩
    · obtain ⟨k, hk⟩ := lentA_get h1
      obtain ⟨d0, v0, a1, a2, a3, a4⟩ := s.get hk
      obtain ⟨v, b1, b2⟩ := R'.slot j d h2
      rw [List.getElem?_map, a2] at b1
      cases b1
      refine ⟨v0, a4, ?_⟩
      rw [mdA_get hk] at b2
      have b2 : v0 = _ ∧ Own T (g'.plus Fo) H' k (g'.F j) d v0 := b2
      have own := Own.wide _ _ ((g1.backP g' ks).F i) _ _ (fun a z => .inl ⟨j, h1, z⟩) (Own.keepF st2 _ _ _ _ (fun _ _ _ q => q) b2.2)
      rcases ho j i k hk with e | e
      · rw [e]; exact own
      · rw [e]
        refine ⟨?_, own⟩
        obtain ⟨w, c1, c2⟩ := R1.slot i d0 a3
        rw [a4] at c1
        cases c1
        rw [e] at c2
        exact c2.1
    · obtain ⟨v, b1, b2⟩ := R1.slot i d h2
      refine ⟨v, b1, ?_⟩
      have kF : ∀ a o, g1.F i a → H1 a = some o → H' a = some o := fun a o z q => f'.keep a o q (.inr (.inr ⟨i, h1, z⟩))
      have wF : ∀ a, g1.F i a → (g1.backP g' ks).F i a := fun a z => .inr ⟨h1, z⟩
      cases hm : Γ.getD i .s <;> rw [hm] at b2 <;> simp only [RepM] at b2 ⊢
      · exact b2.stay st
      · exact Own.wide _ _ _ _ _ wF (Own.keepF st _ _ _ _ kF b2)
      · exact Own.keepF st _ _ _ _ (fun a o z q => f'.keep a o q (.inr (.inl z))) b2
      · exact ⟨b2.1, Own.wide _ _ _ _ _ wF (Own.keepF st _ _ _ _ kF b2.2)⟩
      · exact b2
      · exact b2.stay stb
      · exact ⟨b2.1, (st).keep _ _ b2.2.1 b2.2.2, (st).off b2.2.1 b2.2.2⟩
  · rcases h with ⟨p, e1, h1⟩ | ⟨e1, h1⟩ <;> rcases h' with ⟨q, e2, h2⟩ | ⟨e2, h2⟩
    · have := R'.dF p q a h1 h2
      subst this
      rw [e1] at e2
      exact Option.some.inj e2
    · exact absurd (.inl ((eO a).mpr (.inr ⟨j, e2, h2⟩))) (R'.dFO p a h1)
    · exact absurd (.inl ((eO a).mpr (.inr ⟨i, e1, h1⟩))) (R'.dFO q a h2)
    · exact R1.dF i j a h1 h2
  · rcases h with ⟨p, e1, h1⟩ | ⟨e1, h1⟩
    · exact R'.dFO p a h1 (.inl ((eO a).mpr (.inl u)))
    · exact R1.dFO i a h1 u
  · rcases h with ⟨p, e1, h1⟩ | ⟨e1, h1⟩
    · exact R'.dFB p a h1 u
    · exact R'.dOB a (.inl ((eO a).mpr (.inr ⟨i, e1, h1⟩))) u
def eCallP (Φ : FF) (ks : List AK) (as : FL) : FEP := fun ρ S => match as ρ S with
  | .ok ds S1 => (match Φ ds S1 with
    | .ok d outs S2 => .ok d (putOuts ks outs ρ) S2
    | .exc x outs S2 => .exc x (putOuts ks outs ρ) S2
    | .no => .no)
  | .exc x S1 => .exc x ρ S1
  | .no => .no
variable {J : Jd} {Γ' : List Md}
def REP.bindS (r : REP) (k : D → Env → Store → RS) : RS := match r with
  | .ok d ρ S => k d ρ S
  | .exc x ρ S => .exc x ρ S
  | .no => .no
end
end Q

namespace Q
open PySem PySem.Spec PyProof.Rows L2
section
variable {X : Cx} {T : Th} {Γ : List Md} {J : Jd} {i K : Nat}
def OwnR (Γ : List Md) : List AK → Prop
  | [] => True
  | none :: ks => OwnR Γ ks
  | some (i, k) :: ks => (Γ.getD i .s = .o k ∨ Γ.getD i .s = .p k) ∧ OwnR Γ ks
theorem ownr_nil : OwnR Γ [] := trivial
theorem ownr_s {ks : List AK} (h : OwnR Γ ks) : OwnR Γ (none :: ks) := h
theorem ownr_p {ks : List AK} {i k : Nat} (h1 : Γ.getD i .s = .o k ∨ Γ.getD i .s = .p k) (h : OwnR Γ ks) : OwnR Γ (some (i, k) :: ks) := ⟨h1, h⟩
theorem ownA_of : ∀ {ks : List AK}, OwnR Γ ks → ownA Γ ks
  | [], _ => fun j i k h => by rw [List.getElem?_nil] at h; cases h
  | none :: ks, h => fun j i k e => by
    cases j with
    | zero => cases e
    | succ j => exact ownA_of (ks := ks) h j i k (by simpa using e)
  | some (i0, k0) :: ks, h => fun j i k e => by
    cases j with
    | zero =>
      simp at e
      obtain ⟨rfl, rfl⟩ := e
      exact h.1
    | succ j => exact ownA_of (ks := ks) h.2 j i k (by simpa using e)
def pinSame : List Md → List Md → Bool
  | [], _ => true
  | .p k :: ms, .p k' :: Γ => k == k' && pinSame ms Γ
  | .p _ :: _, _ => false
  | _ :: ms, _ :: Γ => pinSame ms Γ
  | _ :: ms, [] => pinSame ms []
theorem gp_p : ∀ {ms Γ : List Md}, pinSame ms Γ = true → ΓP ms Γ
  | [], _, _ => fun i k e => by simp at e
  | m :: ms, [], h => fun i k e => by
    cases m with
    | p k0 => simp [pinSame] at h
    | _ =>
      have h : pinSame ms [] = true := by simpa only [pinSame] using h
      cases i with
      | zero => cases e
      | succ i =>
        have := gp_p h i k (by simpa using e)
        simp at this
  | m :: ms, n :: Γ, h => fun i k e => by
    cases m with
    | p k0 =>
      cases n with
      | p k1 =>
        simp only [pinSame, Bool.and_eq_true, beq_iff_eq] at h
        cases i with
        | zero =>
          simp at e ⊢
          rw [← h.1]
          exact e
        | succ i =>
          have := gp_p h.2 i k (by simpa using e)
          simpa using this
      | _ => simp [pinSame] at h
    | _ =>
      have h : pinSame ms Γ = true := by cases n <;> simpa only [pinSame] using h
      cases i with
      | zero => cases e
      | succ i =>
        have := gp_p h i k (by simpa using e)
        simpa using this
end
section
variable {P : Program} {w : World} {K : PySem.W.Frag} {mg : Str → Option Value} {base : Heap} {T : Th}
theorem fn_okPR {qual : Str} {st : Stmt} {f : Addr} {fd : FuncData} {N ps : List Str} {k n : Nat} {sg : Sig} {B : FS} {Γ0 Γ' : List Md} (F : OkRule P w K mg base qual st f fd) (Sc : FnScope N ps (defScope st)) (hn : ps.length = n) (hN : n ≤ N.length) (h0 : sg.ms ++ List.replicate (N.length - sg.ms.length) .s = Γ0)
    (hp : pinSame sg.ms Γ' = true)
    (hbody : ∀ (cdv : Value) (A : Around) (outer : List PySem.Env) (s : Shared) (H : Hp) (E : XK), Room k (A.deeper (envOfC qual (defScope st) s.heap.objs.size f cdv)) →
      XB (cxOf (L2.CX P w) P w K mg base N qual (defScope st) f cdv A outer s H E) T (jdF sg.ms sg.kr E) Γ0 Γ' (defBody st) B) :
    FnOk P w K mg base (L2.CX P w) (k + 1) f fd ps (spD T n sg (fBody N.length n sg.ms B)) := fn_okR F Sc hn hN (fun cdv A outer s H E hr => by rw [h0]; exact hbody cdv A outer s H E hr) (gp_p hp)
end
end Q

namespace Q
open PySem PySem.Spec PyProof.Rows L2
def hIxO : D → D → Option D
  | .lst l, y => hIx (.lst l) y
  | _, _ => none
theorem hIxO_lst {l : List D} {y : D} : hIxO (.lst l) y = hIx (.lst l) y := rfl
section
variable {X : Cx} {T : Th} {W : WX} {Γ : List Md}
theorem xc_oix {i : Nat} {e a b : Expr} {B : FE} (hm : isOwn1 (Γ.getD i .s)) (hv : PE X a (tVar i)) (hb : XC X T W Γ b B) (he : PE X a (tVar i) → PE X b (tC1 T W Γ B) → PE X e (tOp (rIxA X.K) (tVar i) (tC1 T W Γ B))) : XC X T W Γ e (eOp hIxO (eVar i) B) := pe_imp (he hv hb) fun σ H Q ⟨g, ρ, S, R, hg⟩ => by
  have hg : GoodC T W Γ ρ σ g S H ((match ρ[i]? with | some (some d) => RE.ok d S | _ => .no).bind fun x S1 => (B ρ S1).bind fun y S2 => .of S2 (hIxO x y)) Q := hg
  cases el : ρ[i]? with
  | none => rw [el] at hg; exact hg.elim
  | some o =>
    rw [el] at hg
    match o, hg, el with
    | none, hg, el => exact hg.elim
    | some d, hg, el =>
      have hg : GoodC T W Γ ρ σ g S H ((B ρ S).bind fun y S2 => .of S2 (hIxO d y)) Q := hg
      obtain ⟨v, h1, _⟩ := R.slot i d el
      refine ⟨v, h1, g, ρ, S, R, goodC_bind hg fun y w H1 _ e1 s1 hg1 => ?_⟩
      cases ez : hIxO d y with
      | none => rw [ez] at hg1; exact hg1.elim
      | some z =>
        rw [ez] at hg1
        cases d <;> simp only [hIxO] at ez <;> first | (cases ez; done) | skip
        rename_i l
        obtain ⟨p, vs, k1, hF, hH, sl, _⟩ := (R.ex e1).own1 hm el
        rw [h1] at k1
        cases k1
        have hg1 : GoodC T W Γ ρ σ g S H1 (.ok z S) Q := hg1
        cases y <;> simp only [hIx] at ez <;> first | (cases ez; done) | skip
        obtain ⟨u, h2, h3⟩ := atI_shr sl ez
        exact .inl ⟨p, vs, _, u, rfl, shr_int.mp s1, .of hH, h2, hg1 rfl u H1 (.refl H1) h3⟩
end
end Q

namespace Q
open PySem PySem.Spec PyProof.Rows L2
section
variable {X : Cx} {T : Th} {W : WX} {Γ : List Md}
theorem xf_dnil {k : Nat} {pos : Pos} : XF X T W Γ (k + 1) (.Dict [] [] pos) (eC (.dct [])) := pe_imp pe_dnewK fun σ H Q ⟨g, ρ, S, R, hg⟩ => by
  intro p hp
  refine hg _ g _ (· = p) (R.fresh hp fun _ => ⟨nofun, fun _ => nofun⟩) (.ex (Exx.new hp)) (R.fresh_out hp) (own_nilD rfl upd_same)
end
section
variable {T : Th} {Γ : List Md}
end
section
variable {X : Cx} {T : Th} {Γ Γ' : List Md} {J : Jd} {i : Nat}
end
end Q

namespace Q
open PySem PySem.Spec PyProof.Rows L2
structure ClsFn (K : PySem.W.Frag) (C f : Addr) (m : Str) : Prop where
  rd : PySem.W.readsIn K C (.type "type") = true
  ga : PySem.W.specialIn K (.ref C) "__getattribute__" = some (some (.builtin "type.__getattribute__"))
  at_ : PySem.W.findCls K (.ref C) (.type "type") m = some (.val (.ref f))
end Q

namespace Q
open PySem PySem.Spec PyProof.Rows L2
section
variable {P : Program} {w : World} {K : PySem.W.Frag} {mg : Str → Option Value} {base : Heap} {qual : Str} {st : Stmt} {f : Addr} {fd : FuncData} {N ps : List Str} {k : Nat} {f1 f2 : Str}
end
section
variable {X : Cx} {T : Th} {J : Jd} {Γ Γ' : List Md}
end
section
variable {X : Cx} {T : Th} {Γ : List Md}
end
end Q

namespace Q
open PySem PySem.Spec PyProof.Rows L2
section
variable {X : Cx} {a D : Addr} {oe : Obj} {pn : List (Addr × Obj)} {d : Option Addr} {pins : List (Addr × Obj)} {s : Shared} {σ : L2.St} {H : Hp}
end
section
variable {X : Cx} {T : Th} {W : WX} {Γ : List Md} {y : Exc} {d : Option Addr} {m : Md} {a : Addr} {i : Nat}
end
end Q
namespace Q
open PySem PySem.Spec PyProof.Rows L2
theorem all_cons {p : Str → Prop} {a : Str} {l : List Str} (h : p a) (r : ∀ f ∈ l, p f) : ∀ f ∈ a :: l, p f := fun f hf => by
  rcases List.mem_cons.mp hf with rfl | hf
  · exact h
  · exact r f hf
end Q

namespace Q
open PySem PySem.Spec PyProof.Rows L2
section
variable {X : Cx}
end
section
variable {T : Th} {g : G} {H : Hp}
end
section
variable {X : Cx} {T : Th} {W : WX} {Γ : List Md}
end
end Q

namespace Q
open PySem PySem.Spec PyProof.Rows L2
def tupB : PyData → Bool
  | .tuple (_ :: _) => true
  | _ => false
section
variable {X : Cx}
end
end Q

namespace Q
open PySem PySem.Spec PyProof.Rows L2
section
variable {T : Th} {g : G} {H : Hp}
end
section
variable {X : Cx} {T : Th} {W : WX} {Γ : List Md}
end
end Q

namespace Q
open PySem PySem.Spec PyProof.Rows L2
section
variable {X : Cx} {k : Nat} {C f : Addr} {fd : FuncData} {ps : List Str} {sp : Sp} {E : L2.St → XK} {o e : Expr} {es : List Expr} {m : Str} {pos apos : Pos} {ta : TE} {t : TA} {pl : Sem Bool}
end
end Q

namespace Q
open PySem PySem.Spec PyProof.Rows L2
structure IsO (K : PySem.W.Frag) (C : Addr) (cv : Value) (b : Bool) : Prop where
  cl : Cls K C
  ha : PySem.W.findIn K (.ref C) "__class__" = some (some (.builtin "object.__class__"))
  hn : PySem.W.specialIn K (.builtin "object.__class__") "__get__" = some (some (.builtin "getset_descriptor.__get__"))
  ht : PySem.W.takesIn K (.builtin "object.__class__") = some true
  hm : PySem.W.mroIn K C (.type "object") = some true
  hk : PySem.W.kitOne K (.ref C) cv = some b
section
variable {X : Cx} {T : Th} {W : WX} {Γ : List Md} {tb : List (Nat × Bool)} {c : V} {cv : Value}
end
end Q

namespace Q
open PySem PySem.Spec PyProof.Rows L2
variable {T : Th}
end Q

namespace Q
open PySem PySem.Spec PyProof.Rows L2
def hListR : D → Option D
  | .int n => if 0 ≤ n ∧ n ≤ 1000000 then some (.lst (rangeL 0 n)) else none
  | _ => none
theorem hListR_int {n : Int} (h : 0 ≤ n ∧ n ≤ 1000000) : hListR (.int n) = some (.lst (rangeL 0 n)) := if_pos h
theorem shrL_map2 {T : Th} {g : G} {H : Hp} {α : Type} {f : α → D} {f2 : α → V} (h : ∀ x, Shr T g H (f x) (f2 x)) : ∀ l : List α, ShrL T g H (l.map f) (l.map f2)
  | [] => .nil
  | x :: l => by
    rw [List.map_cons, List.map_cons]
    exact .cons (h x) (shrL_map2 h l)
section
variable {X : Cx} {T : Th} {W : WX} {Γ : List Md}
theorem xf_lrange {e a : Expr} {A : FE} (ha : XE X T W Γ a A) (he : PE X a (tX T W Γ A) → PE X e (tLstRg (tRg1 (tX T W Γ A)))) : XF X T W Γ 1 e (eUn hListR A) := pe_imp (he ha) fun σ H Q ⟨g, ρ, S, R, hg⟩ => by
  refine ⟨g, ρ, S, R, ?_⟩
  unfold eUn at hg
  cases r : A ρ S with
  | no => rw [r] at hg; exact hg
  | exc x S1 => rw [r] at hg; exact hg
  | ok d S1 =>
    rw [r] at hg
    intro v g1 H1 R1 f1 s1
    have hg : GoodN T W Γ 1 ρ σ g H (RE.of S1 (hListR d)) Q := hg
    cases d with
    | int n =>
      by_cases hn : 0 ≤ n ∧ n ≤ 1000000
      · rw [hListR_int hn] at hg
        refine ⟨n, shr_int.mp s1, RgOk.of_le (by decide) (by omega) (by decide) hn.1, fun p hp => ?_⟩
        refine hg _ g1 _ (· = p) (R1.fresh hp fun _ => ⟨nofun, fun _ => nofun⟩) (f1.trans (.ex (Exx.new hp))) (fun a z => ⟨(R1.fresh_out hp a z).1, ?_⟩) (R1.fresh_lst hp (shrL_map2 (fun x => shr_int.mpr rfl) _))
        rw [z]; exact f1.none hp
      · have e : hListR (.int n) = none := if_neg hn
        rw [e] at hg
        exact hg.elim
    | _ => exact hg.elim
end
end Q

namespace Q
open PySem PySem.Spec PyProof.Rows L2
section
variable {X : Cx} {T : Th} {W : WX} {Γ : List Md}
end
section
variable {X : Cx} {T : Th} {Γ : List Md} {J : Jd} {i K : Nat}
end
end Q

namespace Q
open PySem PySem.Spec PyProof.Rows L2 PySem.Builtin PySem.Builtin.Str
section
variable {X : Cx} {T : Th} {Γ : List Md} {J : Jd}
end
end Q

namespace Q
open PySem PySem.Spec PyProof.Rows L2
section
variable {X : Cx} {T : Th} {W : WX} {Γ : List Md}
end
end Q

namespace Q
open PySem PySem.Spec PyProof.Rows L2
end Q

set_option maxHeartbeats 2000000
namespace Q
open PySem PySem.Spec PyProof.Rows L2
inductive HdsAs (X : Cx) (n : Str) : List ExceptHandler → List (Value × (Addr → Value → Option Addr → TS)) → Prop
  | nil : HdsAs X n [] []
  | cons {x : Str} {c : Value} {ts : Addr → Value → Option Addr → TS} {b₀ : Stmt} {suite : List Stmt} {np pos' : Pos} {hds : List ExceptHandler} {l : List (Value × (Addr → Value → Option Addr → TS))} (hc : Names X x c)
      (hsu : ∀ (a : Addr) (oe : Obj) (cls : Value) (d : Option Addr) (pn : List (Addr × Obj)), Zc cls d oe → (∃ vs, oe.data = .fields vs) → PSs (X.suite a ((a, oe) :: pn)) (b₀ :: suite) (ts a cls d)) (r : HdsAs X n hds l) :
      HdsAs X n (.ExceptHandler (some (.Name x np)) (some n) (b₀ :: suite) pos' :: hds) ((c, ts) :: l)
section
variable {X : Cx} {n : Str} {i : Nat} {body : List Stmt} {h₀ : ExceptHandler} {hds : List ExceptHandler} {l : List (Value × (Addr → Value → Option Addr → TS))} {pos : Pos} {tb : WX → TS} {Wout : WX}
end
section
variable {X : Cx} {T : Th} {Γ : List Md}
end
end Q

set_option maxHeartbeats 2000000
namespace Q
open PySem PySem.Spec PyProof.Rows L2
def DctO (P : Program) (w : World) (d : Addr) (u : HO) : Prop := (∃ ks : List (Key × V), u = .dK ks) ∨ ∃ ps, u = dN P w d ps
theorem DctO.nofrz {P : Program} {w : World} {d : Addr} {u : HO} (h : DctO P w d u) : ∀ o x, u ≠ .frz o x := fun o x e => by
  rcases h with ⟨ks, rfl⟩ | ⟨ps, rfl⟩
  · cases e
  · unfold dN at e; cases e
theorem DctO.noins {P : Program} {w : World} {d : Addr} {u : HO} (h : DctO P w d u) : (∀ l, u ≠ .lst l) ∧ (∀ l, u ≠ .tup l) ∧ (∀ c dx fs, u ≠ .ins c dx fs) ∧ ∀ fs, u ≠ .xd fs := by
  rcases h with ⟨ks, rfl⟩ | ⟨ps, rfl⟩
  · refine ⟨?_, ?_, ?_, ?_⟩ <;> intros <;> intro e <;> cases e
  · unfold dN
    refine ⟨?_, ?_, ?_, ?_⟩ <;> intros <;> intro e <;> cases e
structure Lk (P : Program) (w : World) (d : Addr) (u : HO) (H H' : Hp) : Prop where
  ne : ∀ b, b ≠ d → H' b = H b
  r : Rd H d u
  r' : Rd H' d u
  dc : DctO P w d u
section
variable {T : Th} {g : G} {d : Addr} {u : HO} {H H' : Hp}
theorem Lk.rd (L : Lk T.pr T.w d u H H') {b : Addr} {v : HO} (hv : ∀ o x, v ≠ .frz o x) (h : Rd H b v) : Rd H' b v := by
  by_cases e : b = d
  · subst e
    have hu := L.dc.nofrz
    have e2 : v = u := by
      rcases h with h | ⟨o, h⟩ <;> rcases L.r with r | ⟨o', r⟩ <;> rw [h] at r
      · exact Option.some.inj r
      · exact absurd (Option.some.inj r) (hv _ _)
      · exact absurd (Option.some.inj r).symm (hu _ _)
      · injection r with r
        injection r
    rw [e2]
    exact L.r'
  · rcases h with h | ⟨o, h⟩
    · exact .inl (by rw [L.ne b e]; exact h)
    · exact .inr ⟨o, by rw [L.ne b e]; exact h⟩
theorem Lk.at (L : Lk T.pr T.w d u H H') {b : Addr} {v : HO} (hv : ∀ o x, v ≠ .frz o x) (hu : v ≠ u) (h : H b = some v) : H' b = some v := by
  by_cases e : b = d
  · subst e
    exfalso
    rcases L.r with r | ⟨o', r⟩ <;> rw [h] at r
    · exact hu (Option.some.inj r)
    · exact hv _ _ (Option.some.inj r)
  · rw [L.ne b e]; exact h
theorem dN_nofrz {P : Program} {w : World} {a : Addr} {ps : List (NestedKey × Addr × V)} : ∀ o x, dN P w a ps ≠ .frz o x := fun o x e => by unfold dN at e; cases e
theorem LkT.lk {a : Addr} {vs : List V} (L : Lk T.pr T.w d u H H') (h : LkT T.K g.U H a vs) : LkT T.K g.U H' a vs := h.imp (fun z => ⟨L.rd (fun o x e => by cases e) z.1, z.2⟩) id
theorem LkL.lk {a : Addr} {vs : List V} (L : Lk T.pr T.w d u H H') (h : LkL T.K g.U H a vs) : LkL T.K g.U H' a vs := h.imp (fun z => ⟨L.rd (fun o x e => by cases e) z.1, z.2⟩) id
theorem codeO_ne {P : Program} {w : World} {c d : Addr} {q : Str} {u : HO} (h : DctO P w d u) : LamX.CodeO c q ≠ u := fun e => by
  rcases h with ⟨ks, rfl⟩ | ⟨ps, rfl⟩
  · unfold LamX.CodeO at e; cases e
  · unfold LamX.CodeO dN at e
    injection e with e
    let o1 : Obj := { cls := .none, data := .fields #[.none, .str q 0] }
    have hg : ∀ (a : Addr) (o : Obj), (⟨Array.replicate (c + 1) o1, {}⟩ : Heap).get? a = some o → o = o1 := fun a o z => by
      unfold Heap.get? at z
      rw [Array.getElem?_replicate] at z
      by_cases ha : a < c + 1
      · rw [if_pos ha] at z
        exact (Option.some.inj z).symm
      · rw [if_neg ha] at z
        cases z
    have hc : (⟨Array.replicate (c + 1) o1, {}⟩ : Heap).get? c = some o1 := by
      unfold Heap.get?
      rw [Array.getElem?_replicate, if_pos (Nat.lt_succ_self c)]
    have e2 := congrFun e (⟨Array.replicate (c + 1) o1, {}⟩ : Heap)
    have h1 : ∃ (oc : Obj) (vs : Array Value) (t : Tok), (⟨Array.replicate (c + 1) o1, {}⟩ : Heap).get? c = some oc ∧ oc.data = .fields vs ∧ vs[1]? = some (.str q t) := ⟨o1, _, _, hc, rfl, rfl⟩
    rw [e2] at h1
    obtain ⟨_, _, o, es, ep, xs, h2, h3, h4, _⟩ := h1
    rw [hg _ _ h2] at h4
    cases h4
theorem Lk.fz (L : Lk T.pr T.w d u H H') {b : Addr} {o : Obj} (h : H b = some (fzo o)) : H' b = some (fzo o) := by
  by_cases e : b = d
  · subst e
    exfalso
    rcases L.r with r | ⟨o', r⟩ <;> rw [h] at r
    · exact L.dc.nofrz _ _ (Option.some.inj r).symm
    · injection r with r
      injection r with _ r
      rcases L.dc with ⟨ks, z⟩ | ⟨ps, z⟩
      · rw [z] at r; cases r
      · rw [z] at r; unfold dN at r; cases r
  · rw [L.ne b e]; exact h
theorem Lk.code (L : Lk T.pr T.w d u H H') {b : Addr} {q : Str} (h : H b = some (LamX.CodeO b q)) : H' b = some (LamX.CodeO b q) := L.at (fun o x e => by unfold LamX.CodeO at e; cases e) (codeO_ne L.dc) h
theorem Clo.lk (L : Lk T.pr T.w d u H H') {m : Nat} {x : D} {v : V} (h : Clo T g H m x v) : Clo T g H' m x v := Clo.of rfl (fun a o e hu => ⟨L.fz e, hu⟩) (fun a q e hu => ⟨L.code e, hu⟩) x m v h
mutual
theorem Shr.lk (L : Lk T.pr T.w d u H H') : ∀ (x : D) (v : V), Shr T g H x v → Shr T g H' x v
  | .non, _, h => by simpa only [Shr] using h
  | .bl _, _, h => by simpa only [Shr] using h
  | .int _, _, h => by simpa only [Shr] using h
  | .str _, _, h => by simpa only [Shr] using h
  | .tup l, v, h => by
    simp only [Shr] at h ⊢
    obtain ⟨a, vs, e, q, r⟩ := h
    exact ⟨a, vs, e, LkT.lk L q, ShrL.lk L l vs r⟩
  | .lst l, v, h => by
    simp only [Shr] at h ⊢
    obtain ⟨a, vs, e, q, r⟩ := h
    exact ⟨a, vs, e, ⟨L.at (fun o x e => by cases e) (fun e => L.dc.noins.1 _ e.symm) q.1, q.2⟩, ShrL.lk L l vs r⟩
  | .scr l, v, h => by
    simp only [Shr] at h ⊢
    obtain ⟨a, vs, e, q, r⟩ := h
    exact ⟨a, vs, e, LkL.lk L q, ShrL.lk L l vs r⟩
  | .dct l, v, h => by
    simp only [Shr] at h ⊢
    obtain ⟨a, vs, e, q, r⟩ := h
    refine ⟨a, vs, e, ⟨?_, q.2⟩, ShrK.lk L l vs r⟩
    rcases q.1 with ⟨ks, h1, h2⟩ | ⟨ps, h1, h2⟩
    · exact .inl ⟨ks, L.rd (fun o x e => by cases e) h1, h2⟩
    · exact .inr ⟨ps, L.rd dN_nofrz h1, h2⟩
  | .obj n, v, h => by simpa only [Shr] using h
  | .fn _ _, v, h => by
    simp only [Shr] at h ⊢
    exact h.imp fun m z => Clo.lk L z
  | .gone _, v, h => by simp only [Shr] at h
theorem ShrL.lk (L : Lk T.pr T.w d u H H') : ∀ (ds : List D) (vs : List V), ShrL T g H ds vs → ShrL T g H' ds vs
  | [], _, h => by simpa only [ShrL] using h
  | x :: ds, vs, h => by
    simp only [ShrL] at h ⊢
    obtain ⟨v, ws, e, q, r⟩ := h
    exact ⟨v, ws, e, Shr.lk L x v q, ShrL.lk L ds ws r⟩
theorem ShrK.lk (L : Lk T.pr T.w d u H H') : ∀ (ds : List (D × D)) (vs : List (V × V)), ShrK T g H ds vs → ShrK T g H' ds vs
  | [], _, h => by simpa only [ShrK] using h
  | (k, x) :: ds, vs, h => by
    simp only [ShrK] at h ⊢
    obtain ⟨w, v, ws, e, p, q, r⟩ := h
    exact ⟨w, v, ws, e, Shr.lk L k w p, Shr.lk L x v q, ShrK.lk L ds ws r⟩
end
theorem Own.lk (L : Lk T.pr T.w d u H H') : ∀ (k : Nat) (F : Addr → Prop) (x : D) (v : V), (∀ a, F a → a ≠ d) → Own T g H k F x v → Own T g H' k F x v := by
  intro k
  induction k with
  | zero => intro F x v _ h; simp only [Own] at h ⊢; exact Shr.lk L _ _ h
  | succ k ih =>
    intro F x v hF h
    cases x with
    | lst l =>
      simp only [Own] at h ⊢
      obtain ⟨p, vs, e, hp, hH, hl, Gs, h1, h2, h3⟩ := h
      exact ⟨p, vs, e, hp, by rw [L.ne p (hF p hp)]; exact hH, hl, Gs, h1, h2, fun j x w a b => ih _ _ _ (fun a z => hF a (h1 j a z).1) (h3 j x w a b)⟩
    | dct l =>
      simp only [Own] at h ⊢
      obtain ⟨p, vs, e, hp, hH, hl, Gs, h1, h2, h3⟩ := h
      exact ⟨p, vs, e, hp, hH.at fun o z => by rw [L.ne p (hF p hp)]; exact z, hl, Gs, h1, h2, fun j x w a b => ⟨Shr.lk L _ _ (h3 j x w a b).1, ih _ _ _ (fun a z => hF a (h1 j a z).1) (h3 j x w a b).2⟩⟩
    | _ => simp only [Own] at h ⊢; exact Shr.lk L _ _ h
theorem Rel.lk {Γ : List Md} {ρ : Env} {S : Store} {σ : L2.St} (L : Lk T.pr T.w d u H H') (hd : ¬ g.U d) (R : Rel T g Γ ρ S σ H) : Rel T g Γ ρ S σ H' := by
  have nU : ∀ a, g.U a → a ≠ d := fun a z e => hd (e ▸ z)
  refine ⟨R.len, fun i x e => ?_, R.dF, R.dFO, R.dFB, R.dOB, fun a z => ?_, ⟨R.st.N, R.st.inj, R.st.mB, R.st.bB, R.st.bd, R.st.nd, fun n o e => ?_, fun p hp => ?_⟩, fun a z w r => ?_⟩
  · obtain ⟨v, h1, h2⟩ := R.slot i x e
    refine ⟨v, h1, ?_⟩
    cases hm : Γ.getD i .s <;> rw [hm] at h2 <;> simp only [RepM] at h2 ⊢
    · exact Shr.lk L _ _ h2
    · exact Own.lk L _ _ _ _ (fun a z => nU a (.inr (.inl ⟨i, z⟩))) h2
    · exact Own.lk L _ _ _ _ (fun a z => nU a (.inl z)) h2
    · exact ⟨h2.1, Own.lk L _ _ _ _ (fun a z => nU a (.inr (.inl ⟨i, z⟩))) h2.2⟩
    · exact h2
    · exact Shr.lk L _ _ h2
    · exact ⟨h2.1, L.at (fun o x e => by cases e) (fun e => L.dc.noins.2.2.2 _ e.symm) h2.2.1, h2.2.2⟩
  · rw [L.ne a (nU a z)]; exact R.dom a z
  · obtain ⟨dx, fs, h1, h2, h3⟩ := R.st.ob n o e
    refine ⟨dx, fs, L.at (fun o x e => by cases e) (fun e => L.dc.noins.2.2.1 _ _ _ e.symm) h1, h2, fun j x w a b => ?_⟩
    exact Own.lk L _ _ _ _ (fun a z => nU a (.inr (.inr (R.st.bB _ _ a z).1))) (h3 j x w a b)
  · obtain ⟨h1, h2, ps, h3, h4, h5⟩ := R.st.tb p hp
    refine ⟨h1, h2, ps, by rw [L.ne _ (nU _ (.inr (.inr h1)))]; exact h3, h4, fun pos cv e => ?_⟩
    obtain ⟨c, e1, e2, e3⟩ := h5 pos cv e
    exact ⟨c, e1, L.code e2, e3⟩
  · refine R.nt a z w ?_
    rcases r with r | ⟨o, r⟩
    · exact .inl (by rw [← L.ne a (nU a z)]; exact r)
    · exact .inr ⟨o, by rw [← L.ne a (nU a z)]; exact r⟩
end
section
variable {X : Cx} {pins : List (Addr × Obj)} {σ : L2.St} {H : Hp} {s : Shared} {d : Addr} {o : Obj}
end
def Itn (P : Program) (w : World) (d : Addr) (o : Obj) (ps : List (NestedKey × Addr × V)) : It :=
  ⟨fun i H => H d = some (.frz o (dN P w d ps)) ∧ i < ps.length, fun i H x H' => H' = H ∧ ∃ p, ps[i]? = some p ∧ x = .ref p.2.1, fun i H => H d = some (.frz o (dN P w d ps)) ∧ ps.length ≤ i⟩
section
variable {P : Program} {w : World} {K : PySem.W.Frag} {tg : Expr} {d : Addr} {o : Obj} {es : Array DictEntry} {ep : Nat}
end
inductive ItD (P : Program) (w : World) (d : Addr) (o : Obj) : HO → It → Prop
  | k (ks : List (Key × V)) : ItD P w d o (.dK ks) (Itk d o ks)
  | n (ps : List (NestedKey × Addr × V)) : ItD P w d o (dN P w d ps) (Itn P w d o ps)
theorem ItD.dc {P : Program} {w : World} {d : Addr} {o : Obj} {u : HO} {J : It} (h : ItD P w d o u J) : DctO P w d u := by
  cases h with
  | k ks => exact .inl ⟨ks, rfl⟩
  | n ps => exact .inr ⟨ps, rfl⟩
section
variable {X : Cx} {T : Th} {Γ : List Md} {J : Jd}
def ItOkD (T : Th) (g : G) (H : Hp) (It1 : It) (ds : List Q.D) : Prop := ∀ g' H' (i : Nat), Stay g H g' H' → (∀ a, g'.U a → ∃ o, H' a = some o) → (ds.length ≤ i → It1.stop i H') ∧ ∀ d, ds[i]? = some d → It1.go i H' ∧ ∀ x H'', It1.yld i H' x H'' → Exx H' H'' ∧ Shr T g' H'' d x
theorem ItOk.d {T : Th} {g : G} {H : Hp} {It1 : It} {ds : List Q.D} (h : ItOk T g H It1 ds) : ItOkD T g H It1 ds := fun g' H' i st _ => h g' H' i st
end
end Q

set_option maxHeartbeats 2000000
namespace Q
open PySem PySem.Spec PyProof.Rows L2
section
variable {T : Th} {g g' : G} {H H' : Hp}
theorem FrS.bare (f : FrS g H g' H') (dFO : ∀ i a, g'.F i a → ¬ g'.O a) (dOB : ∀ a, g'.O a → ¬ g'.B a) : Stay g.bare H g'.bare H' where
  Z := f.Z
  keep := fun a o h hu => f.keep a o h (by
    by_cases ho : g.O a
    · exact .inr ho
    · refine .inl fun u => hu ?_
      rcases u with u | u | u
      · exact absurd u ho
      · exact .inr (.inl u)
      · exact .inr (.inr u))
  own := fun a h => by
    have hu : g'.U a ∧ ¬ g'.O a := by
      rcases h with h | ⟨i, h⟩ | h
      · exact h.elim
      · exact ⟨.inr (.inl ⟨i, h⟩), dFO i a h⟩
      · exact ⟨.inr (.inr h), fun z => dOB a z h⟩
    refine (f.own a hu.1).imp (fun u => ?_) id
    rcases u with u | u | u
    · exact absurd (by rw [f.O]; exact u) hu.2
    · exact .inr (.inl u)
    · exact .inr (.inr u)
  N := f.N
  μ := f.μ
theorem shr_bare {d : D} {v : V} (s : Shr T g H d v) : Shr T g.bare H d v := s.stay ⟨fun _ _ h _ => h, fun a h => .inl (G.bare_U h), Nat.le_refl _, fun _ _ => rfl, rfl⟩
theorem shr_bareB {d : D} {v : V} (s : Shr T g.bare H d v) : Shr T g.bb H d v := s.stay (show Stay g.bare H g.bb H from stay_bb rfl rfl fun _ h => .inr (.inr h))
theorem Rel.setL {Γ : List Md} {ρ : Env} {S : Store} {σ : L2.St} {d : D} {v : V} {i : Nat} (R : Rel T g Γ ρ S σ H) (hi : i < Γ.length) (s : Shr T g.bare H d v) : Rel T (g.drop i) (Γ.set i .l) (ρ.set i (some d)) S (σ.set i (some v)) H := by
  have sb : Stay g.bare H (g.drop i).bare H := bare_sub rfl rfl (fun i a z => ⟨i, z.2⟩) fun _ z => z
  refine R.shift rfl rfl rfl rfl (fun a h => G.drop_U h) (fun j k a h h' => R.dF j k a h.2 h'.2) (fun j a h => R.dFO j a h.2) (fun a h => .inl h) (fun j a h => .inl ⟨j, h.2⟩) (by simp [R.len]) fun st j d' e => ?_
  by_cases hj : i = j
  · subst hj
    by_cases hlt : i < ρ.length
    · rw [List.getElem?_set_self hlt] at e
      cases e
      refine ⟨v, by rw [List.getElem?_set_self (by rw [← R.len]; exact hlt)], ?_⟩
      rw [getD_set_self hi]
      exact s.stay sb
    · rw [List.getElem?_eq_none (by simpa using hlt)] at e
      cases e
  · rw [List.getElem?_set_ne hj] at e
    obtain ⟨w, h1, h2⟩ := R.slot j d' e
    refine ⟨w, by rw [List.getElem?_set_ne hj]; exact h1, ?_⟩
    rw [getD_set_ne hj]
    exact h2.stay st (fun a z => ⟨fun q => hj q.symm, z⟩) (fun a z => z) rfl sb
theorem Rel.weak {Γ : List Md} {ρ : Env} {S : Store} {σ : L2.St} {i : Nat} (R : Rel T g Γ ρ S σ H) (hi : i < Γ.length) (hm : Γ.getD i .s = .s ∨ Γ.getD i .s = .l) : Rel T g (Γ.set i .l) ρ S σ H := by
  refine ⟨R.len, fun j d e => ?_, R.dF, R.dFO, R.dFB, R.dOB, R.dom, R.st, R.nt⟩
  obtain ⟨v, h1, h2⟩ := R.slot j d e
  refine ⟨v, h1, ?_⟩
  by_cases hj : i = j
  · subst hj
    rw [getD_set_self hi]
    rcases hm with hm | hm <;> rw [hm] at h2
    · exact shr_bare h2
    · exact h2
  · rw [getD_set_ne hj]; exact h2
end
def GoodWl (T : Th) (W : WX) (Γ : List Md) (ρ : Env) (σ : L2.St) (g : G) (H : Hp) : RE → VK → Prop
  | .ok d S', Q => ∀ v g' H', Rel T g' Γ ρ S' σ H' → FrE g H g' H' → Shr T g'.bare H' d v → Q v H'
  | .exc x S', _ => ∀ c dd g' H', Rel T g' Γ ρ S' σ H' → FrE g H g' H' → ExcR T g' H' x c dd → W c dd σ H'
  | .no, _ => False
def tWl (T : Th) (W : WX) (Γ : List Md) (F : FE) : TE := fun σ H Q => ∃ g ρ S, Rel T g Γ ρ S σ H ∧ GoodWl T W Γ ρ σ g H (F ρ S) Q
abbrev XWl (X : Cx) (T : Th) (W : WX) (Γ : List Md) (e : Expr) (F : FE) : Prop := PE X e (tWl T W Γ F)
section
variable {X : Cx} {T : Th} {W : WX} {Γ Γ1 Γ' : List Md} {J : Jd}
theorem xw_varL {i : Nat} {e : Expr} (he : PE X e (tVar i)) (hm : Γ.getD i .s = .l) : XWl X T W Γ e (eVar i) := pe_imp he fun σ H Q ⟨g, ρ, S, R, h⟩ => by
  have h : GoodWl T W Γ ρ σ g H (match ρ[i]? with | some (some d) => RE.ok d S | _ => .no) Q := h
  split at h
  · rename_i d e
    obtain ⟨v, h1, h2⟩ := R.slot i d e
    rw [hm] at h2
    exact ⟨v, h1, h v g H R (.refl g H) h2⟩
  · exact h.elim
def iSeqW (a : FE) : FL := fun ρ S => match a ρ S with
  | .ok d S1 => (match hSeq d with
    | some l => if l.all immD = true then .ok l S1 else .no
    | none => .no)
  | .exc x S1 => .exc x S1
  | .no => .no
theorem shrL_imm {g : G} {H : Hp} {g0 : G} (nt : ∀ a, g.U a → ∀ u, ¬ Rd H a (.tup u)) (hi : ∀ d v, immD d = true → Shr T g0 H d v → Shr T g H d v) : ∀ (ds : List D) (vs : List V), ds.all immD = true → ShrL T g0 H ds vs → ShrL T g H ds vs
  | [], vs, _, h => by simpa only [ShrL] using h
  | d :: ds, vs, a, h => by
    simp only [ShrL] at h ⊢
    simp only [List.all_cons, Bool.and_eq_true] at a
    obtain ⟨v, ws, e, q, r⟩ := h
    exact ⟨v, ws, e, hi d v a.1 q, shrL_imm nt hi ds ws a.2 r⟩
theorem xif_seqW {tg e : Expr} {A : FE} (hK : X.K = T.K) (ha : XWl X T W Γ e A) : XIF X T W Γ tg e (iSeqW A) := pi_imp (pi_of ha (itr_or itr_list itr_tup)) fun σ H Q ⟨g, ρ, S, R, h⟩ => by
  refine ⟨g, ρ, S, R, ?_⟩
  unfold iSeqW at h
  cases e : A ρ S with
  | ok d S1 =>
    rw [e] at h
    intro v g' H' R' f' s
    rw [hK]
    have h : GoodIF T W Γ ρ σ g H (match hSeq d with | some l => if l.all immD = true then RL.ok l S1 else .no | none => .no) Q := h
    have im : ∀ (l : List D) (vs : List V), l.all immD = true → ShrL T g'.bare H' l vs → ShrL T g' H' l vs := fun l vs a r => shrL_imm R'.nt (fun d v hd s => imm_shr R'.nt d v hd (shr_bareB s)) l vs a r
    have kp : ∀ (a : Addr) (o : HO), H' a = some o → ¬ g'.bare.U a → ¬ g'.B a := fun a o _ hu z => hu (.inr (.inr z))
    cases d <;> simp only [hSeq] at h <;> first | exact h.elim | skip
    · split at h
      · rename_i l hl
        obtain ⟨a, vs, rfl, la, ra⟩ := shr_tup.mp s
        refine .inr ⟨a, rfl, ⟨vs, la.sq⟩, h _ g' H' R' f' fun g2 H2 j y k => ?_⟩
        have sq : SqT T.K H2 a vs := by
          rcases la with z | z
          · refine .inl ?_
            rcases z.1 with r | ⟨b, r⟩
            · exact .inl (k a _ r (kp a _ r z.2))
            · exact .inr ⟨b, k a _ r (kp a _ r z.2)⟩
          · exact .inr z
        have sl := ShrL.stay y _ _ (im _ _ hl ra)
        refine ⟨fun hj => ⟨vs, sq, by rw [← ra.length]; exact hj⟩, fun d e => ?_⟩
        obtain ⟨v, w1, w2⟩ := sl.get e
        exact ⟨⟨vs, v, sq, w1⟩, fun x H'' ⟨e1, e2⟩ => by subst e1; have := e2 vs sq; rw [w1] at this; cases this; exact ⟨.refl _, w2⟩⟩
      · exact h.elim
    · split at h
      · rename_i l hl
        obtain ⟨a, vs, rfl, la, ra⟩ := shr_lst.mp s
        refine .inl ⟨a, rfl, ⟨vs, .of la.1⟩, h _ g' H' R' f' fun g2 H2 j y k => ?_⟩
        have sq : SqL T.K H2 a vs := .of (k a _ la.1 (kp a _ la.1 la.2))
        have sl := ShrL.stay y _ _ (im _ _ hl ra)
        refine ⟨fun hj => ⟨vs, sq, by rw [← ra.length]; exact hj⟩, fun d e => ?_⟩
        obtain ⟨v, w1, w2⟩ := sl.get e
        exact ⟨⟨vs, v, sq, w1⟩, fun x H'' ⟨e1, e2⟩ => by subst e1; have := e2 vs sq; rw [w1] at this; cases this; exact ⟨.refl _, w2⟩⟩
      · exact h.elim
    · split at h
      · rename_i l hl
        obtain ⟨a, vs, rfl, la, ra⟩ := shr_scr.mp s
        refine .inl ⟨a, rfl, ⟨vs, la.sq⟩, h _ g' H' R' f' fun g2 H2 j y k => ?_⟩
        have sq : SqL T.K H2 a vs := by
          rcases la with z | z
          · refine .inl ?_
            rcases z.1 with r | ⟨b, r⟩
            · exact .inl (k a _ r (kp a _ r z.2))
            · exact .inr ⟨b, k a _ r (kp a _ r z.2)⟩
          · exact .inr z
        have sl := ShrL.stay y _ _ (im _ _ hl ra)
        refine ⟨fun hj => ⟨vs, sq, by rw [← ra.length]; exact hj⟩, fun d e => ?_⟩
        obtain ⟨v, w1, w2⟩ := sl.get e
        exact ⟨⟨vs, v, sq, w1⟩, fun x H'' ⟨e1, e2⟩ => by subst e1; have := e2 vs sq; rw [w1] at this; cases this; exact ⟨.refl _, w2⟩⟩
      · exact h.elim
  | exc x S1 => rw [e] at h; exact h
  | no => rw [e] at h; exact h
end
end Q

set_option maxHeartbeats 2000000
namespace Q
open PySem PySem.Spec PyProof.Rows L2
section
variable {T : Th} {g : G} {d : Addr} {u : HO} {H : Hp}
end
section
variable {X : Cx} {T : Th} {Γ Γ' : List Md} {J : Jd}
end
section
variable {T : Th} {W : WX} {Γ : List Md} {g : G} {d : Addr} {u : HO} {H : Hp}
end
section
variable {X : Cx} {T : Th} {W : WX} {Γ : List Md}
end
end Q

set_option maxHeartbeats 2000000
namespace Q
open PySem PySem.Spec PyProof.Rows L2
mutual
theorem nk_imm : ∀ (d : D) (k : NestedKey), nk d = some k → immD d = true
  | .non, _, _ => by simp only [immD]
  | .bl _, _, _ => by simp only [immD]
  | .int _, _, _ => by simp only [immD]
  | .str _, _, _ => by simp only [immD]
  | .tup l, k, e => by
    simp only [nk] at e
    obtain ⟨ks, e1, _⟩ := Option.map_eq_some_iff.mp e
    simp only [immD]
    exact nkL_imm l ks e1
  | .lst _, _, e => by simp only [nk] at e; cases e
  | .scr _, _, e => by simp only [nk] at e; cases e
  | .dct _, _, e => by simp only [nk] at e; cases e
  | .obj _, _, e => by simp only [nk] at e; cases e
  | .fn _ _, _, e => by simp only [nk] at e; cases e
  | .gone _, _, e => by simp only [nk] at e; cases e
theorem nkL_imm : ∀ (l : List D) (ks : List NestedKey), nkL l = some ks → immL l = true
  | [], _, _ => by simp only [immL]
  | d :: r, ks, e => by
    simp only [nkL] at e
    split at e
    · rename_i k ks' e1 e2
      simp only [immL, Bool.and_eq_true]
      exact ⟨nk_imm d k e1, nkL_imm r ks' e2⟩
    · cases e
end
section
variable {T : Th} {g : G} {H : Hp}
end
section
variable {X : Cx} {T : Th} {W : WX} {Γ : List Md} {i K : Nat}
end
section
variable {T : Th} {g : G} {H : Hp}
theorem Prs.putF {α : Type} {m : Nat} {Gs : Nat → Addr → Prop} {Fo : Addr → Prop} {k x : D} {y u : V} (sy : Shr T g H k y) (ow : Own T g H m Fo x u) (f : α → V × V) (new : α) (hn : f new = (y, u)) {l : List (D × D)} {ks : List α} (h : Prs T g H m Gs l (ks.map f)) :
    Prs T g H m (fun j a => (Gs j a ∧ j < l.length) ∨ (j = l.length ∧ Fo a)) (l ++ [(k, x)]) ((ks ++ [new]).map f) := by
  obtain ⟨h1, h2⟩ := h
  rw [List.length_map] at h1
  refine ⟨by simp [h1], fun j d w e1 e2 => ?_⟩
  rw [List.map_append] at e2
  by_cases hj : j < l.length
  · rw [List.getElem?_append_left hj] at e1
    rw [List.getElem?_append_left (by rw [List.length_map]; omega)] at e2
    obtain ⟨i1, i2⟩ := h2 j d w e1 e2
    exact ⟨i1, Own.wide _ _ _ _ _ (fun a z => .inl ⟨z, hj⟩) i2⟩
  · have hj2 : j = l.length := by
      have := (List.getElem?_eq_some_iff.mp e1).1
      simp at this
      omega
    subst hj2
    rw [List.getElem?_append_right (Nat.le_refl _), Nat.sub_self] at e1
    rw [List.getElem?_append_right (by rw [List.length_map]; omega), List.length_map, h1, Nat.sub_self] at e2
    cases e1
    simp only [List.map_cons, List.map_nil, List.getElem?_cons_zero, Option.some.injEq] at e2
    rw [← e2, hn]
    exact ⟨sy, Own.wide _ _ _ _ _ (fun a z => .inr ⟨rfl, z⟩) ow⟩
end
section
variable {X : Cx} {T : Th} {Γ : List Md} {J : Jd} {i K : Nat}
theorem Rel.past {g : G} {ρ : Env} {S : Store} {σ : L2.St} {H : Hp} {j : Nat} {q : Md} (R : Rel T g (Γ.set j q) ρ S σ H) (hj : ρ.length ≤ j) : Rel T g Γ ρ S σ H := by
  refine ⟨R.len, fun k d e => ?_, R.dF, R.dFO, R.dFB, R.dOB, R.dom, R.st, R.nt⟩
  obtain ⟨v, h1, h2⟩ := R.slot k d e
  have hk : k < ρ.length := (List.getElem?_eq_some_iff.mp e).1
  rw [getD_set_ne (by omega)] at h2
  exact ⟨v, h1, h2⟩
end
section
variable {X : Cx} {T : Th} {Γ : List Md} {J : Jd} {fm : Nat → Str → Nat}
end
section
variable {X : Cx}
end
section
variable {X : Cx} {T : Th} {W : WX} {Γ : List Md}
end
section
variable {X : Cx} {T : Th} {W : WX} {Γ : List Md}
end
end Q

namespace Q
open PySem PySem.Spec PyProof.Rows L2
section
variable {X : Cx} {T : Th} {Γ : List Md}
end
end Q

namespace Q
open PySem PySem.Spec PyProof.Rows L2
section
variable {prog : Program} {w : World} {A : Around} {R : Result → Shared → Prop} {I : Addr} {fp wr : List Addr} {n : Nat} {P : Nat → Value → Prop} {St : Nat → Heap → Prop}
end
section
variable {prog : Program} {w : World} {A : Around} {E : Value → Shared → Prop} {s : Shared} {l : Addr} {xs : Array (Int × Tok)} {Q : Value → Shared → Prop} {d : Value}
end
end Q

namespace Q
open PySem PySem.Spec PyProof.Rows L2
section
variable {X : Cx}
end
def tupK (l : List (D × D)) : Bool := l.all fun p => match p.1 with
  | .tup _ => true
  | _ => false
section
variable {X : Cx} {T : Th} {Γ : List Md}
end
end Q

namespace Q
open PySem PySem.Spec PyProof.Rows L2
section
variable {prog : Program} {w : World} {A : Around} {E : Value → Shared → Prop} {s : Shared} {d : Addr} {es : Array DictEntry} {ep : Nat}
end
mutual
def hsN : NestedKey → Option Int
  | .none => some (reduceHash 4238894112)
  | .num i => some (hashInt i)
  | .text _ => none
  | .tup ks => (hsNs ks).map fun hs => reduceHash (Builtin.Tuple.tupleHashOf hs)
def hsNs : List NestedKey → Option (List Int)
  | [] => some []
  | k :: ks => match hsN k, hsNs ks with
    | some h, some hs => some (h :: hs)
    | _, _ => none
end
mutual
theorem hsN_eq (w : World) : ∀ (k : NestedKey) (h : Int), hsN k = some h → NestedKey.hash w k = h
  | .none, h, e => by
    simp only [hsN, Option.some.injEq] at e
    rw [NestedKey.hash, e]
  | .num i, h, e => by
    simp only [hsN, Option.some.injEq] at e
    rw [NestedKey.hash, e]
  | .text _, h, e => by simp only [hsN] at e; cases e
  | .tup ks, h, e => by
    simp only [hsN] at e
    obtain ⟨hs, e1, e2⟩ := Option.map_eq_some_iff.mp e
    rw [NestedKey.hash, hsNs_eq w ks hs e1, e2]
theorem hsNs_eq (w : World) : ∀ (ks : List NestedKey) (hs : List Int), hsNs ks = some hs → NestedKey.hashes w ks = hs
  | [], hs, e => by
    simp only [hsNs, Option.some.injEq] at e
    rw [NestedKey.hashes, e]
  | k :: ks, hs, e => by
    simp only [hsNs] at e
    split at e
    · rename_i h hs' e1 e2
      cases e
      rw [NestedKey.hashes, hsN_eq w k h e1, hsNs_eq w ks hs' e2]
    · cases e
end
def hsK : List (D × D) → Option (List Int)
  | [] => some []
  | p :: l => match (nk p.1).bind hsN, hsK l with
    | some h, some hs => some (h :: hs)
    | _, _ => none
def ApartK (l : List (D × D)) : Prop := ∃ hs, hsK l = some hs ∧ hs.Nodup
open Classical in
noncomputable def hDictN : D → Option D
  | .dct l => if tupK l = true ∧ ApartK l then some (.dct l) else none
  | _ => none
section
variable {X : Cx}
end
section
variable {X : Cx} {T : Th} {W : WX} {Γ : List Md}
end
end Q

namespace Q
open PySem PySem.Spec PyProof.Rows L2
section
variable {prog : Program} {w : World} {A : Around} {E : Value → Shared → Prop} {s : Shared} {d : Addr} {es : Array DictEntry} {ep : Nat}
end
end Q

namespace Q
open PySem PySem.Spec PyProof.Rows L2
section
variable {X : Cx} {T : Th} {Γ : List Md} {J : Jd}
end
end Q

namespace Q
open PySem PySem.Spec PyProof.Rows L2
def hListO : D → Option D
  | .lst l => some (.lst l)
  | _ => none
theorem hListO_lst {l : List D} : hListO (.lst l) = some (.lst l) := rfl
def hTruO : D → Option D
  | .lst l => some (.bl !l.isEmpty)
  | _ => none
theorem hTruO_lst {l : List D} : hTruO (.lst l) = some (.bl !l.isEmpty) := rfl
section
variable {X : Cx} {T : Th} {W : WX} {Γ : List Md}
theorem xf_listO {e a : Expr} {i : Nat} (hK : X.K = T.K) (hm : isOwn1 (Γ.getD i .s)) (ha : PE X a (tVar i)) (he : PE X a (tVar i) → PE X e (tUn (r1 (rListOf X.K)) (tVar i))) : XF X T W Γ 1 e (eUn hListO (eVar i)) := pe_imp (he ha) fun σ H Q ⟨g, ρ, S, R, hg⟩ => by
  have hg : GoodN T W Γ 1 ρ σ g H ((match ρ[i]? with | some (some d) => RE.ok d S | _ => .no).bind fun x S1 => .of S1 (hListO x)) Q := hg
  cases el : ρ[i]? with
  | none => rw [el] at hg; exact hg.elim
  | some o =>
    rw [el] at hg
    match o, hg, el with
    | some (.lst l), hg, el =>
      obtain ⟨p0, vs, h1, hF, hH, sl, mk⟩ := R.own1 hm el
      exact ⟨.ref p0, h1, p0, vs, rfl, .inl (.of hH), fun p hp => hg _ g _ (· = p) (R.fresh hp fun _ => ⟨nofun, fun _ => nofun⟩) (.ex (Exx.new hp)) (R.fresh_out hp) (R.fresh_lst hp sl)⟩
theorem xt_truO {e : Expr} {i : Nat} (hK : X.K = T.K) (hm : isOwn1 (Γ.getD i .s)) (ha : PE X e (tVar i)) (he : ∀ whole, isTrue e X.env whole = (do let v ← whole; standAt e.pos; holding [v] (truthy v)) := by intro _; rfl) : XT X T W Γ e (eUn hTruO (eVar i)) := pt_imp (pt_truth ha he) fun σ H Q ⟨g, ρ, S, R, hg⟩ => by
  have hg : GoodT T W Γ ρ σ g H ((match ρ[i]? with | some (some d) => RE.ok d S | _ => .no).bind fun x S1 => .of S1 (hTruO x)) Q := hg
  cases el : ρ[i]? with
  | none => rw [el] at hg; exact hg.elim
  | some o =>
    rw [el] at hg
    match o, hg, el with
    | some (.lst l), hg, el =>
      obtain ⟨p0, vs, h1, hF, hH, sl, mk⟩ := R.own1 hm el
      obtain ⟨b, e2, hg⟩ := hg
      cases e2
      exact ⟨.ref p0, h1, _, .inl ⟨vs, .of hH, by rw [isEmpty_len sl.length]⟩, hg g H R (.refl _ _)⟩
variable {J : Jd}
end
section
variable {A : FEP} {h : HM} {ρ ρ1 : Env} {S S1 : Store} {i : Nat} {d z : D} {l0 l l' : List D}
end
end Q

set_option maxHeartbeats 2000000
namespace Q
open PySem PySem.Spec PyProof.Rows L2 LamX NdefX
section
variable {X : Cx} {pins : List (Addr × Obj)} {σ : L2.St} {H : Hp} {s : Shared}
end
open Classical in
noncomputable def mix (C : Addr → Prop) (A B : Hp) : Hp := fun a => if C a then A a else B a
section
variable {P : Program} {w : World} {C : Addr → Prop} {A B H H' H1 : Hp} {h h' : Heap} {fs : List Addr}
end
mutual
def tupD : D → Bool
  | .int _ => true
  | .tup l => tupL l
  | _ => false
def tupL : List D → Bool
  | [] => true
  | d :: r => tupD d && tupL r
end
section
variable {T T' : Th} {g g' : G} {H H' : Hp}
theorem Clo.mono {m m2 : Nat} (hm : m ≤ m2) {d : D} {v : V} (h : Clo T g H m d v) : Clo T g H m2 d v := by
  cases d with
  | int i => simpa only [Clo] using h
  | fn k l =>
    simp only [Clo] at h ⊢
    obtain ⟨f, c, cl, vs, pm, ctv, e, h1, h2, h3, h4, h5, h6, h7, h8, h9, m', h10, h11, h12⟩ := h
    exact ⟨f, c, cl, vs, pm, ctv, e, Nat.lt_of_lt_of_le h1 hm, h2, h3, h4, h5, h6, h7, h8, fun i y w a b => by
      obtain ⟨x, oc, u, k1, k2, k3⟩ := h9 i y w a b
      exact ⟨x, oc, u, k1, Nat.lt_of_lt_of_le k2 hm, k3⟩, m', Nat.le_trans h10 hm, h11, h12⟩
  | _ => simp only [Clo] at h
theorem Clo.low {m2 : Nat} (ok : ∀ a o, H a = some o → a < m2) : ∀ (d : D) (m : Nat) (v : V), Clo T g H m d v → Clo T g H (min m m2) d v := by
  have key : ∀ (n : Nat) (d : D) (m : Nat) (v : V), sizeOf d < n → Clo T g H m d v → Clo T g H (min m m2) d v := by
    intro n
    induction n with
    | zero => intro d m v h; omega
    | succ n ih =>
      have ihL : ∀ (l : List D) (m : Nat) (vs : List V), (∀ d ∈ l, sizeOf d < n) → CloL T g H m l vs → CloL T g H (min m m2) l vs := by
        intro l
        induction l with
        | nil => intro m vs _ h; simpa only [CloL] using h
        | cons d l ihl =>
          intro m vs hs h
          simp only [CloL] at h ⊢
          obtain ⟨v, ws, e, h1, h2⟩ := h
          exact ⟨v, ws, e, ih d m v (hs d List.mem_cons_self) h1, ihl m ws (fun x hx => hs x (List.mem_cons_of_mem _ hx)) h2⟩
      intro d m v hn h
      cases d with
      | int i => simpa only [Clo] using h
      | fn k l =>
        simp only [Clo] at h ⊢
        obtain ⟨f, c, cl, vs, pm, ctv, e, h1, h2, h3, h4, h5, h6, h7, h8, h9, m', h10, h11, h12⟩ := h
        have q1 := ok _ _ h4
        refine ⟨f, c, cl, vs, pm, ctv, e, Nat.lt_min.mpr ⟨h1, q1⟩, h2, h3, h4, h5, h6, h7, h8, fun i y w a b => ?_, min m' m2, Nat.le_min.mpr ⟨Nat.le_trans (Nat.min_le_left _ _) h10, Nat.min_le_right _ _⟩, fun y a z => ?_, ihL l m' vs (fun d hd => ?_) h12⟩
        · obtain ⟨x, oc, u, k1, k2, k3, k4, k5⟩ := h9 i y w a b
          have q2 := ok _ _ k4
          exact ⟨x, oc, u, k1, Nat.lt_min.mpr ⟨k2, q2⟩, k3, k4, k5⟩
        · exact Nat.le_trans (Nat.min_le_left _ _) (h11 y a z)
        · have := List.sizeOf_lt_of_mem hd
          have e := D.fn.sizeOf_spec k l
          omega
      | _ => simp only [Clo] at h
  exact fun d m v h => key (sizeOf d + 1) d m v (Nat.lt_succ_self _) h
mutual
theorem tup_shr (hR : ∀ a vs, LkT T.K g.U H a vs → LkT T'.K g'.U H' a vs) : ∀ (d : D) (v : V), tupD d = true → Shr T g H d v → Shr T' g' H' d v
  | .int _, _, _, h => by simpa only [Shr] using h
  | .tup l, v, e, h => by
    simp only [tupD] at e
    simp only [Shr] at h ⊢
    obtain ⟨a, vs, e2, q, r⟩ := h
    exact ⟨a, vs, e2, hR a vs q, tup_shrL hR l vs e r⟩
  | .non, _, e, _ => by simp only [tupD] at e; cases e
  | .bl _, _, e, _ => by simp only [tupD] at e; cases e
  | .str _, _, e, _ => by simp only [tupD] at e; cases e
  | .lst _, _, e, _ => by simp only [tupD] at e; cases e
  | .scr _, _, e, _ => by simp only [tupD] at e; cases e
  | .dct _, _, e, _ => by simp only [tupD] at e; cases e
  | .obj _, _, e, _ => by simp only [tupD] at e; cases e
  | .fn _ _, _, e, _ => by simp only [tupD] at e; cases e
  | .gone _, _, e, _ => by simp only [tupD] at e; cases e
theorem tup_shrL (hR : ∀ a vs, LkT T.K g.U H a vs → LkT T'.K g'.U H' a vs) : ∀ (ds : List D) (vs : List V), tupL ds = true → ShrL T g H ds vs → ShrL T' g' H' ds vs
  | [], _, _, h => by simpa only [ShrL] using h
  | d :: ds, vs, e, h => by
    simp only [tupL, Bool.and_eq_true] at e
    simp only [ShrL] at h ⊢
    obtain ⟨v, ws, e2, q, r⟩ := h
    exact ⟨v, ws, e2, tup_shr hR d v e.1 q, tup_shrL hR ds ws e.2 r⟩
end
end
end Q

set_option maxHeartbeats 2000000
namespace Q
open PySem PySem.Spec PyProof.Rows L2 LamX NdefX
section
variable {T : Th} {g : G} {H : Hp}
theorem CloL.stay {g' : G} {H' : Hp} (st : Stay g H g' H') : ∀ {ds : List D} {m : Nat} {vs : List V}, CloL T g H m ds vs → CloL T g' H' m ds vs
  | [], _, _, h => by simpa only [CloL] using h
  | d :: ds, _, vs, h => by
    simp only [CloL] at h ⊢
    obtain ⟨v, ws, e, q, r⟩ := h
    exact ⟨v, ws, e, q.stay st, CloL.stay st r⟩
theorem CloL.length : ∀ {ds : List D} {m : Nat} {vs : List V}, CloL T g H m ds vs → ds.length = vs.length
  | [], _, _, h => by simp only [CloL] at h; subst h; rfl
  | d :: ds, _, vs, h => by
    simp only [CloL] at h
    obtain ⟨v, ws, rfl, _, r⟩ := h
    simp only [List.length_cons, CloL.length r]
theorem CloL.get : ∀ {ds : List D} {m : Nat} {vs : List V} {i : Nat} {d : D}, CloL T g H m ds vs → ds[i]? = some d → ∃ v, vs[i]? = some v ∧ Clo T g H m d v
  | [], _, _, _, _, _, e => by simp at e
  | d :: ds, _, vs, i, d', h, e => by
    simp only [CloL] at h
    obtain ⟨v, ws, rfl, q, r⟩ := h
    cases i with
    | zero => simp at e; subst e; exact ⟨v, rfl, q⟩
    | succ i =>
      obtain ⟨w, h1, h2⟩ := CloL.get (i := i) r (by simpa using e)
      exact ⟨w, by simpa using h1, h2⟩
end
abbrev E0f : XK := fun _ _ _ => False
def LOk (P : Program) (w : World) (K : PySem.W.Frag) (mg : Str → Option Value) (base : Heap) (T : Th) (Λ : D → D → Option Bool) (k : Nat) : Prop :=
  ∀ (A : Around) (outer : List PySem.Env) (s : Shared) (H : Hp) (g : G) (d st : D) (b : Bool) (f : Addr) (vst : V) (u : Value) (Q : VK) (E : XK), Room k A → Env0 P w K mg base A outer s H →
    (∀ a, g.U a → ∃ o, H a = some o) → (∀ a, g.U a → ∀ u, ¬ Rd H a (.tup u)) → Shr T.bare g H d (.ref f) → Shr T.bare g H st vst → tupD st = true → RelV vst u → Λ d st = some b →
    (∀ H', Exx H H' → Q (.bl b) H') → codeAny (model P w) A (.call (.ref f) ⟨[u], []⟩) (CR (L2.CX P w) outer P w H s Q E) s
abbrev lamNF (L : Lam) (cl : List (Str × Addr)) (c : Addr) : NF := ⟨"<lambda>", L.qual, L.params, [], L.scope, cl, c⟩
abbrev lcx (P : Program) (w : World) (K : PySem.W.Frag) (mg : Str → Option Value) (base : Heap) (L : Lam) (p : Str) (cl : List (Str × Addr)) (c f : Addr) (A : Around) (outer : List PySem.Env) (s : Shared) (H : Hp) : Cx :=
  ncx (L2.CX P w) P w K mg base (p :: L.fr) (lamNF L cl c) f A outer s H E0f
abbrev W0 : WX := fun _ _ _ _ => False
structure LamB (P : Program) (w : World) (K : PySem.W.Frag) (mg : Str → Option Value) (base : Heap) (T : Th) (L : Lam) (k : Nat) (p : Str) (F : FE) : Prop where
  S : NScope (p :: L.fr) [p] L.fr L.scope
  bind : ∀ (cl : List (Str × Addr)) (pm cdv ctv u : Value), bindArgs (PySem.W.kla_fn "<lambda>" L.qual L.params L.body L.scope cl pm cdv ctv) ⟨[u], []⟩ = pure [(p, u)]
  body : ∀ (A : Around) (outer : List PySem.Env) (s : Shared) (H : Hp) (f c : Addr) (cl : List (Str × Addr)), Room k (A.deeper (envF (lamNF L cl c) f s.heap.objs.size)) →
    XE (lcx P w K mg base L p cl c f A outer s H) T.bare W0 (ΓS (L.fr.length + 1)) L.body F
section
variable {P : Program} {w : World} {K : PySem.W.Frag} {mg : Str → Option Value} {base : Heap} {T : Th}
theorem LOk.mono {Λ : D → D → Option Bool} {j k : Nat} (h : LOk P w K mg base T Λ j) (hk : j ≤ k) : LOk P w K mg base T Λ k := fun A outer s H g d st b f vst u Q E hr => h A outer s H g d st b f vst u Q E (hr.mono hk)
end
end Q

set_option maxHeartbeats 2000000
namespace Q
open PySem PySem.Spec PyProof.Rows L2 LamX NdefX
section
variable {X : Cx} {T : Th} {W : WX} {Γ : List Md} {Λ : D → D → Option Bool}
end
end Q

set_option maxHeartbeats 2000000
namespace Q
open PySem PySem.Spec PyProof.Rows L2 LamX
end Q

set_option maxHeartbeats 2000000
namespace Q
open PySem PySem.Spec PyProof.Rows L2 LamX NdefX
section
variable {P : Program} {w : World} {K : PySem.W.Frag} {mg : Str → Option Value} {base : Heap} {T : Th}
end
end Q

set_option maxHeartbeats 2000000
namespace Q
open PySem PySem.Spec PyProof.Rows L2 LamX
end Q

set_option maxHeartbeats 2000000
namespace Q
open PySem PySem.Spec PyProof.Rows L2
section
variable {T : Th} {g : G} {d : Addr} {H : Hp}
end
section
variable {X : Cx} {T : Th} {Γ Γ' : List Md} {J : Jd}
end
end Q

set_option maxHeartbeats 2000000
namespace Q
open PySem PySem.Spec PyProof.Rows L2
def isTupD : D → Bool
  | .tup _ => true
  | _ => false
section
variable {X : Cx} {T : Th} {W : WX} {Γ : List Md}
end
end Q

namespace Q
open PySem PySem.Spec PyProof.Rows L2
end Q

namespace Q
open PySem PySem.Spec PyProof.Rows L2
open PyProof.V (Flat)
section
variable {prog : Program} {w : World} {K : Type} [DecidableEq K] {knd : HeapKind prog w K} {A : Around} {E : Value → Shared → Prop} {s : Shared}
inductive SameH (A : Around) (s : Shared) (ys : List (K × Addr × Value)) : List (K × Addr × Value) → Bool → Prop
  | nil : SameH A s ys [] true
  | miss {x : K × Addr × Value} {xs : List (K × Addr × Value)} : (∀ (j : Nat) (p : Addr × Value), ys[j]? ≠ some (x.1, p)) → SameH A s ys (x :: xs) false
  | hit {x : K × Addr × Value} {xs : List (K × Addr × Value)} {j : Nat} {p : Addr × Value} {e b : Bool} : ys[j]? = some (x.1, p) → SeqAt.EqAt A s x.2.2 p.2 e → SameH A s ys xs b → SameH A s ys (x :: xs) (e && b)
end
def pyV : V → Option PyData
  | .non => some .none
  | .int i => some (.int i)
  | .bl b => some (.bool b)
  | _ => none
def eqV (v : V) (o : Option V) : Bool := match o with
  | none => false
  | some y => match pyV v, pyV y with
    | some d, some e => PyData.eqv d e
    | _, _ => false
section
variable {X : Cx} {pins : List (Addr × Obj)} {σ : L2.St} {H : Hp} {s : Shared} {a : Addr}
end
section
variable {T : Th} {g : G} {H : Hp}
end
end Q

namespace Q
open PySem PySem.Spec PyProof.Rows L2
section
variable {X : Cx} {T : Th} {W : WX} {Γ : List Md}
end
end Q

namespace Q
open PySem PySem.Spec PyProof.Rows L2
section
variable {X : Cx}
end
section
variable {X : Cx} {T : Th} {W : WX} {Γ : List Md}
end
end Q

namespace Q
open PySem PySem.Spec PyProof.Rows L2
open Classical in
noncomputable def hDictNQ : D → Option D
  | .dct l => if immL (l.map (·.1)) = true ∧ immL (l.map (·.2)) = true then hDictN (.dct l) else none
  | _ => none
section
variable {T : Th} {g g2 : G} {H : Hp}
end
section
variable {X : Cx} {T : Th} {W : WX} {Γ : List Md}
end
end Q

namespace Q
open PySem PySem.Spec PyProof.Rows L2
section
variable {X : Cx} {o : Expr} {to : TE} {apos cpos : Pos}
end
section
variable {X : Cx} {T : Th} {Γ : List Md} {J : Jd} {i K : Nat}
end
end Q

namespace Q
open PySem PySem.Spec PyProof.Rows L2
section
variable {X : Cx} {T : Th} {W : WX} {Γ : List Md}
end
end Q

namespace Q
open PySem PySem.Spec PyProof.Rows L2
open L2H (RoomH)
structure FnP (P : Program) (w : World) (K : PySem.W.Frag) (mg : Str → Option Value) (base : Heap) (CX : CXT) (a : Addr) (oe : Obj) (k : Nat) (f : Addr) (fd : FuncData) (ps : List Str) (sp : Sp) : Prop where
  len : ∀ vs H Q E, sp vs H Q E → vs.length = ps.length
  run : ∀ (A : Around) (outer : List PySem.Env) (s : Shared) (H : Hp) (args : Args) (us : List Value) (vs : List V) (Q : VK) (E : XK), RoomH k A → Env0 P w K mg base A outer s H → (s.heap.get? a = some oe ∧ H a = none ∧ a ∉ frs outer ∧ ∀ v, oe.data ≠ .cell v) → BindsTo s fd args (ps.zip us) → Vals vs us → sp vs H Q E →
    codeAny (model P w) A (.call (.ref f) args) (CR CX outer P w H s Q E) s
section
variable {P : Program} {w : World} {K : PySem.W.Frag} {mg : Str → Option Value} {base : Heap} {CX : CXT}
theorem _root_.L2H.RoomH.units {k : Nat} {A : Around} (r : RoomH k A) : A.units + 64 < cLine := by have := r.un; omega
theorem FnP.mono {a : Addr} {oe : Obj} {j k : Nat} {f : Addr} {fd : FuncData} {ps : List Str} {sp : Sp} (F : FnP P w K mg base CX a oe j f fd ps sp) (h : j ≤ k) :
    FnP P w K mg base CX a oe k f fd ps sp := ⟨F.len, fun A outer s H args us vs Q E hr => F.run A outer s H args us vs Q E (hr.mono h)⟩
end
section
variable {P : Program} {w : World} {K : PySem.W.Frag} {mg : Str → Option Value} {base : Heap} {T : Th}
end
section
variable {X : Cx} {CX : CXT} {k : Nat} {f a : Addr} {oe : Obj} {fd : FuncData} {ps : List Str} {sp : Sp} {E : L2.St → XK} {x : Str} {p pos : Pos} {e : Expr} {es : List Expr} {t : TA}
end
section
variable {X : Cx} {T : Th} {W : WX} {Γ : List Md} {y : Exc} {d : Option Addr} {m : Md} {a : Addr} {oe : Obj} {i : Nat}
end
section
variable {X : Cx} {a D : Addr} {oe : Obj} {d : Option Addr} {pins : List (Addr × Obj)} {s : Shared} {σ : L2.St} {H : Hp}
end
end Q

set_option maxHeartbeats 2000000
namespace Q
open PySem PySem.Spec PyProof.Rows L2
section
variable {X : Cx} {T : Th} {W : WX} {Γ : List Md}
end
end Q

set_option maxHeartbeats 2000000
namespace Q
open PySem PySem.Spec PyProof.Rows L2
section
variable {X : Cx} {T : Th} {Γ : List Md} {J : Jd} {i j K : Nat}
end
section
variable {X : Cx} {T : Th} {W : WX} {Γ : List Md}
def eLift (A : FE) : FE := fun ρ S => match A ρ S with
  | .ok (.lst l) S1 => if l.all plainV = true then .ok (.lst l) S1 else .no
  | .exc x S1 => .exc x S1
  | _ => .no
theorem own_replain {g : G} {H : Hp} {k k' : Nat} {F F' : Addr → Prop} {x : D} {v : V} (hp : plainV x = true) (h : Own T g H k F x v) : Own T g H k' F' x v := by
  refine own_plain (.inr hp) ?_
  cases x <;> first | (cases hp; done) | (cases k <;> exact h)
theorem xf_lift {k k' : Nat} {e : Expr} {A : FE} (ha : XF X T W Γ (k + 1) e A) : XF X T W Γ (k' + 1) e (eLift A) := pe_imp ha fun σ H Q ⟨g, ρ, S, R, hg⟩ => by
  refine ⟨g, ρ, S, R, ?_⟩
  unfold eLift at hg
  cases ea : A ρ S with
  | exc x S1 => rw [ea] at hg; exact hg
  | no => rw [ea] at hg; exact hg
  | ok d S1 =>
    rw [ea] at hg
    intro v g' H' Fo R' f ho hw
    cases d <;> simp only at hg <;> first | exact hg.elim | skip
    rename_i l
    split at hg
    · rename_i hall
      refine hg v g' H' Fo R' f ho ?_
      simp only [Own] at hw ⊢
      obtain ⟨p, vs, e, hF, hH, hl, Gs, q1, q2, q3⟩ := hw
      exact ⟨p, vs, e, hF, hH, hl, Gs, q1, q2, fun j d w a b => own_replain (List.all_eq_true.mp hall d (List.mem_of_getElem? a)) (q3 j d w a b)⟩
    · exact hg.elim
end
section
variable {T : Th} {g : G} {H : Hp}
end
section
variable {X : Cx} {T : Th} {Γ : List Md} {J : Jd} {i K : Nat}
end
end Q

set_option maxHeartbeats 2000000
namespace Q
open PySem PySem.Spec PyProof.Rows L2
def dropN (ps : List (NestedKey × Addr × V)) (k : NestedKey) : List (NestedKey × Addr × V) := ps.filter fun p => decide (p.1 ≠ k)
theorem PN.drop {k : NestedKey} : ∀ {ps : List (NestedKey × Addr × V)} {xs : List (NestedKey × Addr × Value)}, PN ps xs → PN (dropN ps k) (DT.dropH xs k)
  | _, _, Paired.nil => Paired.nil
  | _, _, Paired.cons (a := p) (b := q) (l₁ := ps) (l₂ := xs) h t => by
    have ih := PN.drop (k := k) t
    by_cases e : p.1 = k
    · have e2 : q.1 = k := h.1.symm.trans e
      have z1 : dropN (p :: ps) k = dropN ps k := List.filter_cons_of_neg (by simp [e])
      have z2 : DT.dropH (q :: xs) k = DT.dropH xs k := List.filter_cons_of_neg (by simp [e2])
      rw [z1, z2]
      exact ih
    · have e2 : ¬ q.1 = k := fun z => e (h.1.trans z)
      have z1 : dropN (p :: ps) k = p :: dropN ps k := List.filter_cons_of_pos (by simp [e])
      have z2 : DT.dropH (q :: xs) k = q :: DT.dropH xs k := List.filter_cons_of_pos (by simp [e2])
      rw [z1, z2]
      exact Paired.cons h ih
def rDPop (P : Program) (w : World) (K : PySem.W.Frag) : V → List V → Hp → VK → Prop := fun x vs H Q => ∃ (a : Addr) (k : NestedKey) (b : Addr) (d : V), x = .ref a ∧ vs = [.ref b, d] ∧ NK K H k (.ref b) ∧ k.depth ≤ 8 ∧
  ((H a = some (.dK []) ∧ Q d H) ∨ ∃ ps, H a = some (dN P w a ps) ∧ (∀ p ∈ ps, NK K H p.1 (.ref p.2.1) ∧ p.1.depth ≤ 8) ∧ (valN ps k = none → Q d H) ∧ (∀ v, valN ps k = some v → dropN ps k ≠ [] → Q v (upd H a (dN P w a (dropN ps k)))) ∧ (∀ v, valN ps k = some v → dropN ps k = [] → Q v (upd H a (.dK []))))
def tDPop (P : Program) (w : World) (K : PySem.W.Frag) (to : TE) (t : TA) : TE := fun σ H Q => to σ H fun x H1 => (∃ a, x = .ref a ∧ (H1 a = some (.dK []) ∨ ∃ ps, H1 a = some (dN P w a ps) ∧ ∀ p ∈ ps, NK K H1 p.1 (.ref p.2.1) ∧ p.1.depth ≤ 8)) ∧ t σ H1 fun vs H2 => rDPop P w K x vs H2 Q
section
variable {X : Cx}
theorem mt_dpop (hu : X.A.units + 16 < cLine) : MtR X "dict.pop" (rDPop X.prog X.w X.K) := by
  intro pins s σ H x xs v us Q I rx rxs h
  obtain ⟨a, k, b, d, rfl, rfl, nk, dk, h⟩ := h
  cases rx
  obtain ⟨u1, u2, rfl, r1, r2⟩ := vals2 rxs
  cases r1
  rcases h with ⟨ha, q⟩ | ⟨ps, ha, al, q0, q1, q2⟩
  · obtain ⟨hd, dd⟩ := dn_empty I (.inl ha)
    refine call_meetsIn PySem.F.slot_dict_pop dd.typeIs PySem.F.entry_dict_pop (PySem.F.args_dict_pop_3 _ _ _) (DT.meetsPop (knd := nestedKind X.prog X.w) (k := k) u2 hd)
      ⟨[], kind_room hu, ⟨nk_is I _ _ _ nk rfl, dk⟩, dd, Nat.zero_le _, fun hn tk => ?_, fun p hp => by cases hp⟩
    exact ⟨d, H, I.tok tk, r2, q⟩
  · obtain ⟨z, hd, xs, rel, dd⟩ := dn_of I (.inl ha) al
    have hz : xs.length ≤ sizeLine := by rw [← Paired.length rel]; exact z
    refine call_meetsIn PySem.F.slot_dict_pop dd.typeIs PySem.F.entry_dict_pop (PySem.F.args_dict_pop_3 _ _ _) (DT.meetsPop (knd := nestedKind X.prog X.w) (k := k) u2 hd)
      ⟨xs, kind_room hu, ⟨nk_is I _ _ _ nk rfl, dk⟩, dd, hz, fun hn tk => ?_, fun p hp h' tk dd' hs => ?_⟩
    · have r := rel.val k
      rw [hn] at r
      have e : valN ps k = none := by
        cases ev : valN ps k with
        | none => rfl
        | some v0 =>
          rw [ev] at r
          exact (show False from r).elim
      exact ⟨d, H, I.tok tk, r2, q0 e⟩
    · have r := rel.val k
      rw [hp] at r
      obtain ⟨v0, ev, rv⟩ : ∃ v0, valN ps k = some v0 ∧ RelV v0 p.2 := by
        cases ev : valN ps k with
        | none =>
          rw [ev] at r
          exact (show False from r).elim
        | some v0 =>
          rw [ev] at r
          exact ⟨v0, rfl, r⟩
      have he : ∃ q, h'.get? a = some q := let ⟨q, _, _, hq, _⟩ := dd'; ⟨q, hq⟩
      have hl : (dropN ps k).length ≤ sizeLine := Nat.le_trans (List.length_filter_le _ _) z
      have hr := rel.drop (k := k)
      by_cases hne : dropN ps k = []
      · rw [hne] at hr
        cases hx : DT.dropH xs k with
        | cons _ _ => rw [hx] at hr; cases hr
        | nil =>
          rw [hx] at dd'
          obtain ⟨o', es, ep, g1, g2, g3, g4, _, g5⟩ := dd'
          have hes : es.toList = [] := g4
          have ek : KeysOf (mixKind X.prog X.w) es := fun e he => by
            have : e ∈ es.toList := by simpa using he
            rw [hes] at this
            cases this
          have eP : Pairs (mixKind X.prog X.w) es.toList [] := by
            rw [hes]
            exact Pairs.nil
          have ds : h'.DictOf (mixKind X.prog X.w) a [] := ⟨o', es, ep, g1, g2, g3, ek, eP, List.nodup_nil⟩
          exact ⟨v0, _, d_write (t' := tk) I (by rw [ha]; exact True.intro) hs he (dk_new (Nat.zero_le _) hd .nil ds), rv, q2 v0 ev hne⟩
      · exact ⟨v0, _, d_write (t' := tk) I (by rw [ha]; exact True.intro) hs he (dn_ok hl hd hr dd'), rv, q1 v0 ev hne⟩
variable {o e : Expr} {es : List Expr} {to : TE} {t : TA} {apos cpos : Pos}
theorem pe_dpop (hu : X.A.units + 16 < cLine) (ho : PE X o to) (ha : PA X (e :: es) t)
    (hbase : attributeBase o "pop" X.env (eval o X.env) = eval o X.env := by rfl)
    (hfew : ((backTo cpos (starEach (e :: es) X.env)).all (fun x => !x.1) && (backToKw cpos (keywordEach [] X.env)).all (fun x => x.1.isSome)
      && decide ((e :: es).length + ([] : List Keyword).length + (if ([] : List Keyword).isEmpty then 0 else 1) < 30)) = true := by rfl)
    (hline : (apos.endLine == cpos.line) = true := by rfl) (hs : starEach (e :: es) X.env = (false, eval e X.env) :: starEach es X.env := by rfl) (hplain : (backTo cpos (starEach es X.env)).any (·.1) = false := by rfl) :
    PE X (.Call (.Attribute o "pop" apos) (e :: es) [] cpos) (tDPop X.prog X.w X.K to t) := by
  refine ⟨fun pins s σ H Q I h => ?_⟩
  refine wpAny_Call_method_late hbase hfew hline rfl (thn (ho.run pins s σ H _ I h) fun v s1 ⟨x, H1, I1, r1, ⟨a, ex, hk⟩, q1⟩ => ?_)
  subst ex
  obtain rfl : v = Value.ref a := r1
  have ty : s1.TypeIs (.ref a) "dict" ∧ ∀ b, Value.ref a = .ref b → ∃ o, s1.heap.get? b = some o ∧ o.dict = none := by
    rcases hk with ha0 | ⟨ps, ha0, al⟩
    · obtain ⟨hd, dd⟩ := dn_empty I1 (.inl ha0)
      refine ⟨dd.typeIs, fun b e => ?_⟩
      cases e
      obtain ⟨o, es, ep, h1, h2, _⟩ := dd
      exact ⟨o, h1, h2.2.1⟩
    · obtain ⟨z, hd, xs, rel, dd⟩ := dn_of I1 (.inl ha0) al
      refine ⟨dd.typeIs, fun b e => ?_⟩
      cases e
      obtain ⟨o, es, ep, h1, h2, _⟩ := dd
      exact ⟨o, h1, h2.2.1⟩
  refine ⟨"dict", "dict.pop", PySem.F.plainAttrs_dict, PySem.F.slot_dict_pop, PySem.F.type_dict_pop, ty.1, ty.2, ?_⟩
  have hA := ha.run cpos pins s1 σ H1 _ I1 q1
  rw [hs] at hA ⊢
  refine Calls.callWith_builtin (by show (false || (backTo cpos (starEach es X.env)).any (·.1)) = false; rw [hplain] <;> rfl) (Calls.evalArgs_plain ?_)
  exact thn hA fun us s2 ⟨vs, H2, I2, r2, q2⟩ => mt_dpop hu pins s2 σ H2 (.ref a) vs (.ref a) us Q I2 rfl r2 q2
end
def dpopD (l : List (D × D)) (k : D) : List (D × D) := l.filter fun p => !kEq p.1 k
def popK (ds : List D) (k : D → RS) : RS := match ds with
  | [x, .non] => k x
  | _ => .no
def fDPop (K i : Nat) (p : FV) (a : FL) : FS := fun ρ S => (p ρ S).bindS ρ fun js d S1 => dctK d fun l => if tupK l = true ∧ K = js.length + 1 then (a ρ S1).bindR ρ fun ds S2 => popK ds fun k => if keyF k = true ∧ isTupD k = true then slotPut K 1 i js (.dct (dpopD l k)) S2 ρ else .no else .no
section
variable {X : Cx} {T : Th} {g : G} {H : Hp}
theorem drop_same {kk : NestedKey} {k : D} (hk : nk k = some kk) : ∀ {ps : List (NestedKey × Addr × V)} {l : List (D × D)}, ps.map (fun p => some p.1) = l.map (fun p => nk p.1) → ShrK T g H l (ps.map fun p => (V.ref p.2.1, p.2.2)) →
    (dropN ps kk).map (fun p => some p.1) = (dpopD l k).map (fun p => nk p.1) ∧ ShrK T g H (dpopD l k) ((dropN ps kk).map fun p => (V.ref p.2.1, p.2.2)) ∧ ((valN ps kk).isSome = l.any fun p => kEq p.1 k)
  | [], [], _, h => ⟨rfl, h, rfl⟩
  | [], _ :: _, e, _ => by cases e
  | _ :: _, [], e, _ => by cases e
  | p :: ps, d :: l, e, h => by
    rw [List.map_cons, List.map_cons] at e
    injection e with e1 e2
    have h : ShrK T g H (d :: l) ((V.ref p.2.1, p.2.2) :: ps.map fun p => (V.ref p.2.1, p.2.2)) := h
    obtain ⟨dk, dv⟩ := d
    simp only [ShrK] at h
    obtain ⟨u, v, ws, e3, s1, s2, s3⟩ := h
    injection e3 with e3 e4
    cases e3
    subst e4
    obtain ⟨i1, i2, i3⟩ := drop_same hk e2 s3
    have ke : kEq dk k = decide (p.1 = kk) := by
      unfold kEq
      rw [← e1, hk]
    by_cases c : p.1 = kk
    · have z1 : dropN (p :: ps) kk = dropN ps kk := List.filter_cons_of_neg (by simp [c])
      have z2 : dpopD ((dk, dv) :: l) k = dpopD l k := List.filter_cons_of_neg (by rw [show kEq (dk, dv).1 k = true by rw [ke, decide_eq_true c]]; decide)
      rw [z1, z2]
      refine ⟨i1, i2, ?_⟩
      rw [List.any_cons, show kEq (dk, dv).1 k = true by rw [ke, decide_eq_true c], Bool.true_or]
      simp [valN, List.find?_cons, c]
    · have z1 : dropN (p :: ps) kk = p :: dropN ps kk := List.filter_cons_of_pos (by simp [c])
      have z2 : dpopD ((dk, dv) :: l) k = (dk, dv) :: dpopD l k := List.filter_cons_of_pos (by rw [show kEq (dk, dv).1 k = false by rw [ke, decide_eq_false c]]; decide)
      rw [z1, z2]
      refine ⟨?_, ?_, ?_⟩
      · rw [List.map_cons, List.map_cons, i1, e1]
      · show ShrK T g H ((dk, dv) :: dpopD l k) ((V.ref p.2.1, p.2.2) :: (dropN ps kk).map fun p => (V.ref p.2.1, p.2.2))
        simp only [ShrK]
        exact ⟨_, _, _, rfl, s1, s2, i2⟩
      · rw [List.any_cons, show kEq (dk, dv).1 k = false by rw [ke, decide_eq_false c], Bool.false_or, ← i3]
        simp [valN, List.find?_cons, c]
theorem dpop_no {l : List (D × D)} {k : D} (h : (l.any fun p => kEq p.1 k) = false) : dpopD l k = l := by
  unfold dpopD
  rw [List.filter_eq_self]
  intro p hp
  rw [List.any_eq_false] at h
  have := h p hp
  simpa using this
theorem dk_tup {ks : List (Key × V)} {l : List (D × D)} (s : ShrK T g H l (ks.map fun p => (kV p.1, p.2))) (ht : tupK l = true) : ks = [] ∧ l = [] := by
  cases l with
  | nil =>
    simp only [ShrK] at s
    exact ⟨by simpa using s, rfl⟩
  | cons d l =>
    exfalso
    obtain ⟨k, d⟩ := d
    simp only [ShrK] at s
    obtain ⟨u, v, ws, e, s1, _⟩ := s
    cases ks with
    | nil => cases e
    | cons a ks =>
      injection e with e1 e2
      cases e1
      have ek := shr_kV s1
      unfold tupK at ht
      rw [List.all_cons, Bool.and_eq_true] at ht
      have h1 := ht.1
      rw [ek] at h1
      cases hq : a.1 <;> rw [hq] at h1 <;> simp [keyD] at h1
theorem own1_dct {F : Addr → Prop} {l : List (D × D)} {v : V} (h : Own T g H 1 F (.dct l) v) : ∃ p kvs, v = .ref p ∧ F p ∧ DRep T H p l kvs ∧ ShrK T g H l kvs := by
  simp only [Own] at h
  obtain ⟨p, kvs, e, hF, hD, hn, Gs, g1, g2, g3⟩ := h
  refine ⟨p, kvs, e, hF, hD, .of hn fun j d w a b => ⟨(g3 j d w a b).1, ?_⟩⟩
  have h := (g3 j d w a b).2
  obtain ⟨d1, d2⟩ := d
  cases d2 <;> exact h
theorem own1_dct' {F : Addr → Prop} {l : List (D × D)} {p : Addr} {kvs : List (V × V)} (hF : F p) (hD : DRep T H p l kvs) (s : ShrK T g H l kvs) : Own T g H 1 F (.dct l) (.ref p) := by
  simp only [Own]
  refine ⟨p, kvs, rfl, hF, hD, s.length, fun _ _ => False, fun _ _ z => z.elim, fun _ _ _ z => z.elim, fun j d w a b => ?_⟩
  obtain ⟨w', e, s1, s2⟩ := s.get a
  rw [b] at e
  cases e
  exact ⟨s1, s2⟩
theorem nk_all {ps : List (NestedKey × Addr × V)} : ∀ {l : List (D × D)}, ps.map (fun p => some p.1) = l.map (fun p => nk p.1) → ShrK T g H l (ps.map fun p => (V.ref p.2.1, p.2.2)) → ∀ q ∈ ps, NK T.K H q.1 (.ref q.2.1) := by
  induction ps with
  | nil => exact fun _ _ q hq => nomatch hq
  | cons p ps ih =>
    intro l e h q hq
    cases l with
    | nil => cases e
    | cons d l =>
      obtain ⟨dk, dv⟩ := d
      rw [List.map_cons, List.map_cons] at e
      injection e with e1 e2
      have h : ShrK T g H ((dk, dv) :: l) ((V.ref p.2.1, p.2.2) :: ps.map fun p => (V.ref p.2.1, p.2.2)) := h
      simp only [ShrK] at h
      obtain ⟨u, v, ws, e3, s1, s2, s3⟩ := h
      injection e3 with e3 e4
      cases e3
      subst e4
      rcases List.mem_cons.mp hq with rfl | hq
      · exact nk_shr _ _ _ e1.symm s1
      · exact ih e2 s3 q hq
end
section
variable {X : Cx} {T : Th} {Γ : List Md} {J : Jd} {i K : Nat}
theorem popK_get {g : G} {H : Hp} {ds : List D} {k : D → RS} {D : Ends} (h : GoodS T J Γ g H (popK ds k) D) : ∃ x, ds = [x, .non] ∧ GoodS T J Γ g H (k x) D := by
  unfold popK at h
  split at h
  · exact ⟨_, rfl, h⟩
  · exact h.elim
theorem xs_dpop {st : Stmt} {o : Expr} {es : List Expr} {P : FV} {A : FL} (hP : X.prog = T.pr) (hw : X.w = T.w) (hK : X.K = T.K) (hx : J.ΓX Γ) (hm : ownK K (Γ.getD i .s)) (ho : XPV X T J.W Γ i o P) (ha : XCL X T J.W Γ es A)
    (he : PE X o (tPV T J.W Γ i P) → PA X es (tCL T J.W Γ A) → PS X st (tDrop (tDPop X.prog X.w X.K (tPV T J.W Γ i P) (tCL T J.W Γ A)))) : XS X T J Γ Γ st (fDPop K i P A) := ps_imp (he ho ha) fun D σ H ⟨g, ρ, S, R, hg⟩ => by
  refine ⟨g, ρ, S, R, ?_⟩
  unfold fDPop at hg
  cases ep : P ρ S with
  | no => rw [ep] at hg; exact hg
  | exc y S1 => rw [ep] at hg; exact fun c dd g' H' R' f' e => hg Γ c dd σ g' H' hx R' (f'.frs R.dOB) e
  | ok js d S1 =>
    rw [ep] at hg
    intro es v H1 e1 pl
    subst es
    obtain ⟨l, rfl, hg2⟩ := dctK_get (show GoodS T J Γ g H (dctK d _) D from hg)
    clear hg
    have hg := hg2
    split at hg
    · rename_i hd
      have R1 := R.ex e1
      have f1 : FrS g H g H1 := (FrE.ex e1).frs R.dOB
      have typ : ∃ a, v = .ref a ∧ (H1 a = some (.dK []) ∨ ∃ ps, H1 a = some (dN X.prog X.w a ps) ∧ ∀ p ∈ ps, NK X.K H1 p.1 (.ref p.2.1) ∧ p.1.depth ≤ 8) := by
        obtain ⟨F', q1, q2, q3⟩ := putv_core (J := J) (k := 0) (De := D) hm R1 f1 pl (by omega)
        obtain ⟨p, kvs, rfl, hF, hD, sk⟩ := own1_dct q2
        refine ⟨p, rfl, ?_⟩
        rcases hD with ⟨ks, h1, rfl⟩ | ⟨ps, h1, rfl, h3, h4, h5⟩
        · obtain ⟨rfl, _⟩ := dk_tup sk hd.1
          exact .inl h1
        · refine .inr ⟨ps, by rw [hP, hw]; exact h1, fun q hq => ⟨by rw [hK]; exact nk_all h3 sk q hq, h5 q hq⟩⟩
      refine ⟨typ, g, ρ, S1, R1, ?_⟩
      obtain ⟨a0, ev, _⟩ := typ
      subst ev
      cases ea : A ρ S1 with
      | no => rw [ea] at hg; exact hg.elim
      | exc y S2 => rw [ea] at hg; exact fun c dd g' H' R' f' e => hg Γ c dd σ g' H' hx R' (((FrE.ex e1).trans f').frs R.dOB) e
      | ok ds S2 =>
        rw [ea] at hg
        intro es ws H2 e2 sw
        subst es
        obtain ⟨k, rfl, hg2⟩ := popK_get (show GoodS T J Γ g H (popK ds _) D from hg)
        clear hg
        have hg := hg2
        split at hg
        · rename_i hc
          simp only [ShrL] at sw
          obtain ⟨y, ws1, rfl, sy, z, ws2, rfl, sz, rfl⟩ := sw
          have ez : z = .non := shr_non.mp sz
          subst ez
          rcases shr_key hc.1 sy with ⟨q, e3, _⟩ | ⟨kl, kk, b, e3, e4, e5, e6, e7⟩
          · rw [e3] at hc
            cases q <;> cases hc.2
          · subst e6
            have R2 := R1.ex e2
            have f2 : FrS g H g H2 := (FrE.ex (e1.trans e2)).frs R.dOB
            obtain ⟨F', q1, q2, q3⟩ := putv_core (J := J) (k := 0) (De := D) hm R2 f2 (pl.ex e2) (by omega)
            obtain ⟨p, kvs, ep2, hF, hD, sk⟩ := own1_dct q2
            obtain rfl : p = a0 := by
              injection ep2 with h
              exact h.symm
            have same : ∀ ob, H2 p = some ob → upd H2 p ob = H2 := fun ob h => by
              funext c
              by_cases hc : c = p
              · rw [hc, upd_same, h]
              · rw [upd_ne hc]
            refine ⟨p, kk, b, .non, rfl, rfl, by rw [hK]; exact e7, e5, ?_⟩
            rcases hD with ⟨ks, h1, rfl⟩ | ⟨ps, h1, rfl, h3, h4, h5⟩
            · obtain ⟨rfl, rfl⟩ := dk_tup sk hd.1
              refine .inl ⟨h1, ?_⟩
              have := q3 p (.dK []) F' (.dct []) hF (fun _ => ⟨nofun, fun _ => nofun⟩) (fun a z => z) (fun st => own1_dct' hF (.inl ⟨[], upd_same, rfl⟩) (sk.stay st)) hg
              rwa [same _ h1] at this
            · obtain ⟨d1, d2, d3⟩ := drop_same e4 h3 sk
              refine .inr ⟨ps, by rw [hP, hw]; exact h1, fun q hq => ⟨by rw [hK]; exact nk_all h3 sk q hq, h5 q hq⟩, fun hn => ?_, fun v0 hv hne => ?_, fun v0 hv hne => ?_⟩
              · rw [hn] at d3
                have e0 : dpopD l k = l := dpop_no d3.symm
                rw [e0] at hg
                have := q3 p (dN T.pr T.w p ps) F' (.dct l) hF (fun _ => ⟨nofun, fun _ => nofun⟩) (fun a z => z) (fun st => own1_dct' hF (.inr ⟨ps, upd_same, rfl, h3, h4, h5⟩) (sk.stay st)) hg
                rwa [same _ h1] at this
              · rw [hP, hw]
                exact q3 p (dN T.pr T.w p (dropN ps kk)) F' (.dct (dpopD l k)) hF (fun _ => ⟨nofun, fun _ => nofun⟩) (fun a z => z) (fun st => own1_dct' hF (.inr ⟨dropN ps kk, upd_same, rfl, d1, hne, fun q hq => h5 q (List.mem_filter.mp hq).1⟩) (d2.stay st)) hg
              · rw [hne] at d1 d2
                have el : dpopD l k = [] := by
                  cases h : dpopD l k with
                  | nil => rfl
                  | cons _ _ => rw [h] at d1; cases d1
                rw [el] at hg
                exact q3 p (.dK []) F' (.dct []) hF (fun _ => ⟨nofun, fun _ => nofun⟩) (fun a z => z) (fun st => own1_dct' hF (.inl ⟨[], upd_same, rfl⟩) (by simp [ShrK])) hg
        · exact hg.elim
    · exact hg.elim
end
end Q

set_option maxHeartbeats 2000000
namespace Q
open PySem PySem.Spec PyProof.Rows L2
def GoodEPF (T : Th) (W : WX) (Γ : List Md) (k : Nat) (σ : L2.St) (g : G) (H : Hp) : REP → VK → Prop
  | .ok d ρ' S', Q => ∀ v g' H' Fo, Rel T (g'.plusF ρ'.length Fo) Γ ρ' S' σ H' → FrS g H g' H' → (∀ a, Fo a → ¬ g'.U a ∧ (g.U a ∨ H a = none)) → Own T (g'.plusF ρ'.length Fo) H' k Fo d v → Q v H'
  | .exc x ρ' S', _ => ∀ c dd g' H', Rel T g' Γ ρ' S' σ H' → FrS g H g' H' → ExcR T g' H' x c dd → W c dd σ H'
  | .no, _ => False
def tEPF (T : Th) (W : WX) (Γ : List Md) (k : Nat) (F : FEP) : TE := fun σ H Q => ∃ g ρ S, Rel T g Γ ρ S σ H ∧ GoodEPF T W Γ k σ g H (F ρ S) Q
abbrev XEPF (X : Cx) (T : Th) (W : WX) (Γ : List Md) (k : Nat) (e : Expr) (F : FEP) : Prop := PE X e (tEPF T W Γ k F)
def eEPF (A : FE) : FEP := fun ρ S => match A ρ S with
  | .ok d S1 => .ok d ρ S1
  | .exc x S1 => .exc x ρ S1
  | .no => .no
section
variable {X : Cx} {T : Th} {W : WX} {Γ : List Md} {ks : List AK}
theorem xepf_of {k : Nat} {e : Expr} {A : FE} (ha : XF X T W Γ k e A) : XEPF X T W Γ k e (eEPF A) := pe_imp ha fun σ H Q ⟨g, ρ, S, R, hg⟩ => by
  refine ⟨g, ρ, S, R, ?_⟩
  unfold eEPF at hg
  cases ea : A ρ S with
  | no => rw [ea] at hg; exact hg
  | exc x S1 => rw [ea] at hg; exact fun c dd g' H' R' f' e => hg c dd g' H' R' (f'.frs R.dOB) e
  | ok d S1 =>
    rw [ea] at hg
    exact fun v g' H' Fo R' f' hF ho => hg v g' H' Fo R' (f'.frs R.dOB) (fun a z => ⟨(hF a z).1, (hF a z).2.imp (fun b => .inr (.inr b)) id⟩) ho
theorem call_freshP {g1 g' : G} {ρ : Env} {S1 S2 : Store} {σ : L2.St} {H1 H' : Hp} {Fo : Addr → Prop} {outs : Env} {ds : List D} {vs : List V} (R1 : Rel T g1 Γ ρ S1 σ H1) (s : ArgP T g1 H1 ρ σ ks ds vs) (hl : ks.length ≤ 1000) (hown : ownA Γ ks) (R' : Rel T (g'.plus Fo) (ks.map mdA) outs S2 (vs.map some) H') (f' : FrS (g1.lendTo ks vs) H1 g' H')
    (ho : ∀ a, Fo a → ¬ (g1.lendTo ks vs).O a ∧ ((g1.lendTo ks vs).U a ∨ H1 a = none)) : Rel T ((g1.backP g' ks).plusF (putOuts ks outs ρ).length Fo) Γ (putOuts ks outs ρ) S2 σ H' ∧ (∀ a, Fo a → ¬ (g1.backP g' ks).U a ∧ (g1.U a ∨ H1 a = none)) := by
  obtain ⟨R2, fs, hU⟩ := call_backP R1 s hl hown R' f'
  have out : ∀ a, Fo a → ¬ (g1.backP g' ks).U a ∧ (g1.U a ∨ H1 a = none) := fun a z => by
    have ho' := (ho a z).1
    refine ⟨fun u => ?_, (ho a z).2.imp lendTo_U.mp id⟩
    rcases u with u | ⟨i, ⟨j, _, u⟩ | ⟨e1, u⟩⟩ | u
    · exact ho' (.inl u)
    · exact R'.dFO j a u (.inr z)
    · exact ho' (.inr ⟨i, e1, u⟩)
    · exact R'.dOB a (.inr z) u
  refine ⟨?_, out⟩
  obtain ⟨l1, l2⟩ := s.len
  have eO : ∀ a, g'.O a ↔ (g1.O a ∨ ∃ i, (∀ j, lentA ks j ≠ some i) ∧ g1.F i a) := fun a => by rw [f'.O]; exact Iff.rfl
  have hZ : ((g1.backP g' ks).plusF (putOuts ks outs ρ).length Fo).Z = (g'.plus Fo).Z := by
    funext k
    show g1.P (1000000 + k) = g'.P (1000000 + k)
    rw [f'.P]
    show _ = if 1000000 + k < ks.length then vs.getD (1000000 + k) .non else g1.P (1000000 + k)
    rw [if_neg (by omega)]
  have hU2 : ∀ a, ((g1.backP g' ks).plusF (putOuts ks outs ρ).length Fo).U a → (g'.plus Fo).U a := fun a u => by
    rcases G.plusF_U.mp u with u | u
    · exact hU a u
    · exact G.plus_U.mpr (.inr u)
  have st2 : Stay (g'.plus Fo) H' ((g1.backP g' ks).plusF (putOuts ks outs ρ).length Fo) H' := stay_iff hU2 rfl rfl hZ
  have st : Stay g1 H1 ((g1.backP g' ks).plusF (putOuts ks outs ρ).length Fo) H' := ⟨fun a o h hu => fs.stay.keep a o h hu, fun a u => by
    rcases G.plusF_U.mp u with u | u
    · exact fs.stay.own a u
    · exact (out a u).2, fs.stay.N, fs.stay.μ, fs.stay.Z⟩
  have own1 : ∀ a, g'.U a → g1.U a ∨ H1 a = none := fun a h => (f'.own a h).imp lendTo_U.mp id
  have stb : Stay g1.bare H1 ((g1.backP g' ks).plusF (putOuts ks outs ρ).length Fo).bare H' := by
    refine ⟨fun a o e h => ?_, fun a h => ?_, f'.N, f'.μ, fs.Z⟩
    · refine f'.keep a o e ?_
      by_cases q : g1.O a
      · exact .inr (.inl q)
      · refine .inl fun u => h ?_
        rcases lendTo_U.mp u with u | u | u
        · exact absurd u q
        · exact .inr (.inl u)
        · exact .inr (.inr u)
    · have noO : ∀ a, g'.U a → ¬ g'.O a → g1.bare.U a ∨ H1 a = none := fun a u n => by
        rcases own1 a u with u | u
        · refine .inl ?_
          rcases u with u | u | u
          · exact absurd ((eO a).mpr (.inl u)) n
          · exact .inr (.inl u)
          · exact .inr (.inr u)
        · exact .inr u
      have noO2 : ∀ a, Fo a → g1.bare.U a ∨ H1 a = none := fun a z => by
        rcases (ho a z).2 with u | u
        · refine .inl ?_
          rcases lendTo_U.mp u with u | u | u
          · exact absurd (.inl u) (ho a z).1
          · exact .inr (.inl u)
          · exact .inr (.inr u)
        · exact .inr u
      rcases h with h | ⟨i, (⟨j, _, h⟩ | ⟨_, h⟩) | ⟨_, h⟩⟩ | h
      · exact h.elim
      · exact noO a (.inr (.inl ⟨j, h⟩)) fun z => R'.dFO j a h (.inl z)
      · exact .inl (.inr (.inl ⟨i, h⟩))
      · exact noO2 a h
      · exact noO a (.inr (.inr h)) fun z => R'.dOB a (.inl z) h
  have ol : outs.length = ks.length := by
    have := R'.len
    rw [List.length_map] at this
    omega
  have fn : ∀ i a, (g1.backP g' ks).F i a → Fo a → False := fun i a h z => (out a z).1 (.inr (.inl ⟨i, h⟩))
  refine ⟨R2.len, fun i d e => ?_, fun i j a h h' => ?_, fun i a h u => ?_, fun i a h u => ?_, fun a h => R2.dOB a h, fun a h => R'.dom a (hU2 a h), R'.st.keep st2 (fun _ _ _ h => h) rfl rfl rfl fun _ _ => rfl, fun a h => R'.nt a (hU2 a h)⟩
  · rcases putOuts_get ks outs ρ ol i d e with ⟨j, h1, h2⟩ | ⟨h1, h2⟩
    · obtain ⟨k, hk⟩ := lentA_get h1
      obtain ⟨d0, v0, a1, a2, a3, a4⟩ := s.get hk
      obtain ⟨v, b1, b2⟩ := R'.slot j d h2
      rw [List.getElem?_map, a2] at b1
      cases b1
      refine ⟨v0, a4, ?_⟩
      rw [mdA_get hk] at b2
      have b2 : v0 = _ ∧ Own T (g'.plus Fo) H' k (g'.F j) d v0 := b2
      have own := Own.wide _ _ (((g1.backP g' ks).plusF (putOuts ks outs ρ).length Fo).F i) _ _ (fun a z => .inl (.inl ⟨j, h1, z⟩)) (Own.keepF st2 _ _ _ _ (fun _ _ _ q => q) b2.2)
      rcases hown j i k hk with e | e
      · rw [e]; exact own
      · rw [e]
        refine ⟨?_, own⟩
        obtain ⟨w, c1, c2⟩ := R1.slot i d0 a3
        rw [a4] at c1
        cases c1
        rw [e] at c2
        exact c2.1
    · obtain ⟨v, b1, b2⟩ := R1.slot i d h2
      refine ⟨v, b1, ?_⟩
      have kF : ∀ a o, g1.F i a → H1 a = some o → H' a = some o := fun a o z q => f'.keep a o q (.inr (.inr ⟨i, h1, z⟩))
      have wF : ∀ a, g1.F i a → ((g1.backP g' ks).plusF (putOuts ks outs ρ).length Fo).F i a := fun a z => .inl (.inr ⟨h1, z⟩)
      cases hm : Γ.getD i .s <;> rw [hm] at b2 <;> simp only [RepM] at b2 ⊢
      · exact b2.stay st
      · exact Own.wide _ _ _ _ _ wF (Own.keepF st _ _ _ _ kF b2)
      · exact Own.keepF st _ _ _ _ (fun a o z q => f'.keep a o q (.inr (.inl z))) b2
      · exact ⟨b2.1, Own.wide _ _ _ _ _ wF (Own.keepF st _ _ _ _ kF b2.2)⟩
      · exact b2
      · exact b2.stay stb
      · exact ⟨b2.1, (st).keep _ _ b2.2.1 b2.2.2, (st).off b2.2.1 b2.2.2⟩
  · rcases h with h | ⟨e1, h⟩ <;> rcases h' with h' | ⟨e2, h'⟩
    · exact R2.dF i j a h h'
    · exact (fn i a h h').elim
    · exact (fn j a h' h).elim
    · rw [e1, e2]
  · rcases h with h | ⟨_, h⟩
    · exact R2.dFO i a h u
    · exact (out a h).1 (.inl u)
  · rcases h with h | ⟨_, h⟩
    · exact R2.dFB i a h u
    · exact (out a h).1 (.inr (.inr u))
theorem xpf_call {k n : Nat} {f : Addr} {fd : FuncData} {ps : List Str} {sg : Sig} {Φ : FF} {e : Expr} {es : List Expr} {A : FL} (F : FnOk X.prog X.w X.K X.mg X.base (L2.CX X.prog X.w) k f fd ps (spD T n sg Φ)) (hm : sg.ms = ks.map mdA) (hl : ks.length ≤ 1000) (hown : ownA Γ ks) (hd : (lentsOf ks).Nodup) (hA : ∀ ρ S ds S1, A ρ S = .ok ds S1 → ds.length = n)
    (ha : XPA X T W Γ ks es A) (he : PA X es (tPA T W Γ ks A) → PE X e (tCallS (spD T n sg Φ) (WE W) (tPA T W Γ ks A))) : XEPF X T W Γ sg.kr e (eCallP Φ ks A) := pe_imp (he ha) fun σ H Q ⟨g, ρ, S, R, hg⟩ => by
  refine ⟨g, ρ, S, R, ?_⟩
  unfold eCallP at hg
  cases ea : A ρ S with
  | exc x S1 => rw [ea] at hg; exact fun c dd g' H' R' f' ex => hg c dd g' H' R' (f'.frs R.dOB) ex
  | no => rw [ea] at hg; exact hg
  | ok ds S1 =>
    rw [ea] at hg
    intro vs g1 H1 R1 f1 s1
    have hg : GoodEPF T W Γ sg.kr σ g H (match Φ ds S1 with | .ok d outs S2 => .ok d (putOuts ks outs ρ) S2 | .exc x outs S2 => .exc x (putOuts ks outs ρ) S2 | .no => .no) Q := hg
    have fr1 := f1.frs R.dOB
    refine ⟨by rw [s1.len.2, ← s1.len.1]; exact hA ρ S ds S1 ea, g1.lendTo ks vs, ds, S1, by rw [hm]; exact rel_lend R1 s1 hl hown (onceA_of hd), ?_⟩
    cases ef : Φ ds S1 with
    | no => rw [ef] at hg; exact hg
    | ok d outs S2 =>
      rw [ef] at hg
      intro v g' H' Fo R' f' nf ho hw
      rw [hm] at R'
      obtain ⟨R2, f2, hU⟩ := call_backP R1 s1 hl hown R' f'
      obtain ⟨R3, out⟩ := call_freshP R1 s1 hl hown R' f' ho
      refine hg v (g1.backP g' ks) H' Fo R3 (fr1.trans f2) (fun a z => ⟨(out a z).1, ?_⟩) ?_
      · rcases (out a z).2 with u | u
        · exact fr1.own a u
        · refine .inr ?_
          cases q : H a with
          | none => rfl
          | some o =>
            obtain ⟨o', q2⟩ := fr1.dom a o q
            rw [u] at q2
            cases q2
      · have hZ : ((g1.backP g' ks).plusF (putOuts ks outs ρ).length Fo).Z = (g'.plus Fo).Z := by
          have : (g1.backP g' ks).Z = g'.Z := by rw [f2.Z, f'.Z, lendTo_Z hl]
          exact this
        have st2 : Stay (g'.plus Fo) H' ((g1.backP g' ks).plusF (putOuts ks outs ρ).length Fo) H' := stay_iff (fun a u => by
          rcases G.plusF_U.mp u with u | u
          · exact hU a u
          · exact G.plus_U.mpr (.inr u)) rfl rfl hZ
        exact Own.keepF st2 _ _ _ _ (fun _ _ _ q => q) hw
    | exc x outs S2 =>
      rw [ef] at hg
      intro c dd g' H' R' f' nf ex
      rw [hm] at R'
      obtain ⟨R2, f2, hU⟩ := call_backP R1 s1 hl hown (plus_none R') f'
      refine hg c dd (g1.backP g' ks) H' R2 (fr1.trans f2) ?_
      obtain ⟨e0, e1, e2⟩ := ex
      refine ⟨e0, e1, e2.imp id fun ⟨d, fs, h1, h2, h3, h4, h5⟩ => ⟨d, fs, h1, h2, h3, h4, ?_⟩⟩
      have hZ : (g1.backP g' ks).Z = g'.Z := by
        rw [f2.Z, f'.Z, lendTo_Z hl]
      have st : Stay g' H' (g1.backP g' ks) H' := ⟨fun _ _ h _ => h, fun a h => .inl (by
        rcases hU a h with (h | h) | h | h
        · exact .inl h
        · exact h.elim
        · exact .inr (.inl h)
        · exact .inr (.inr h)), Nat.le_refl _, fun _ _ => rfl, hZ⟩
      exact ⟨ShrL.stay st _ _ h5.1, st.off h3 h5.2⟩
end
def appFK (m i : Nat) (d : D) (ρ1 : Env) (S1 : Store) : RS := match ρ1[i]? with
  | some (some (.lst l)) => if l.length < 1000000 then .nx (ρ1.set i (some (.lst (l ++ [d])))) S1 else .no
  | _ => .no
def fAppFP (m i : Nat) (A : FEP) : FS := fun ρ S => match ρ[i]? with
  | some (some (.lst _)) => (A ρ S).bindS fun d ρ1 S1 => appFK m i d ρ1 S1
  | _ => .no
section
variable {X : Cx} {T : Th} {Γ : List Md} {J : Jd} {i m : Nat}
theorem xs_appFP {st : Stmt} {e : Expr} {A : FEP} (hK : X.K = T.K) (hx : J.ΓX Γ) (hm : Γ.getD i .s = .o (m + 1)) (ha : XEPF X T J.W Γ m e A)
    (he : PE X e (tEPF T J.W Γ m A) → PS X st (tDrop (tBM X.K "list" rAppend (tVar i) (tCons (tEPF T J.W Γ m A) tNil)))) : XS X T J Γ Γ st (fAppFP m i A) := ps_imp (he ha) fun D σ H ⟨g, ρ, S, R, hg⟩ => by
  unfold fAppFP at hg
  cases el : ρ[i]? with
  | none => rw [el] at hg; exact hg.elim
  | some o =>
    rw [el] at hg
    match o, hg, el with
    | some (.lst l0), hg, el =>
      obtain ⟨v0, h1, h2⟩ := R.slot i _ el
      rw [hm] at h2
      have h2 : Own T g H (m + 1) (g.F i) (.lst l0) v0 := h2
      simp only [Own] at h2
      obtain ⟨p, vs, rfl, hF, hH, _⟩ := h2
      refine ⟨.ref p, h1, .inl ⟨rfl, _, SqL.of hH⟩, g, ρ, S, R, ?_⟩
      have hg : GoodS T J Γ g H ((A ρ S).bindS fun d ρ1 S1 => appFK m i d ρ1 S1) D := hg
      cases ea : A ρ S with
      | no => rw [ea] at hg; exact hg
      | exc x ρ1 S1 => rw [ea] at hg; exact fun c dd g' H' R f e => hg Γ c dd σ g' H' hx R f e
      | ok d ρ1 S1 =>
        rw [ea] at hg
        intro w g1 H1 Fo R1 f1 hFo how
        have hg : GoodS T J Γ g H (appFK m i d ρ1 S1) D := hg
        unfold appFK at hg
        cases el1 : ρ1[i]? with
        | none => rw [el1] at hg; exact hg.elim
        | some o1 =>
          rw [el1] at hg
          match o1, hg, el1 with
          | some (.lst l), hg, el1 =>
            have hg : GoodS T J Γ g H (if l.length < 1000000 then RS.nx (ρ1.set i (some (.lst (l ++ [d])))) S1 else .no) D := hg
            split at hg
            · rename_i hlen
              have hil : i < ρ1.length := (List.getElem?_eq_some_iff.mp el1).1
              obtain ⟨v1, b1, b2⟩ := R1.slot i _ el1
              rw [h1] at b1
              cases b1
              rw [hm] at b2
              have b2 : Own T (g1.plusF ρ1.length Fo) H1 (m + 1) ((g1.plusF ρ1.length Fo).F i) (.lst l) (.ref p) := b2
              simp only [Own] at b2
              obtain ⟨p', vs1, ep, hF1, hH1, hl, Gs, q1, q2, q3⟩ := b2
              cases ep
              have eF : ∀ a, (g1.plusF ρ1.length Fo).F i a → g1.F i a := fun a z => z.elim id fun z => absurd z.1 (by omega)
              have nF : ∀ a, Fo a → ¬ (g1.plusF ρ1.length Fo).F i a := fun a z q => (hFo a z).1 (.inr (.inl ⟨i, eF a q⟩))
              have np : ∀ a, Fo a → a ≠ p := fun a z q => nF a z (by rw [q]; exact hF1)
              refine ⟨p, vs1, w, rfl, rfl, hH1, by rw [← hl]; exact sz_lt6 hlen, ?_⟩
              have Rg0 := R1.give (i := i) (j := ρ1.length) (by omega) hm
              rw [List.set_eq_of_length_le (Nat.le_refl _)] at Rg0
              have Rg := Rg0.past (Nat.le_refl _)
              have pi : ((g1.plusF ρ1.length Fo).give i ρ1.length).F i p := .inl ⟨rfl, .inl hF1⟩
              have R4 := Rg.write (i := i) (p := p) (o := .lst (vs1 ++ [w])) (d := .lst (l ++ [d])) (v := .ref p) pi (fun _ => ⟨nofun, fun _ => nofun⟩) h1 fun st => by
                rw [hm]
                have st1 : Stay (g1.plusF ρ1.length Fo) H1 ((g1.plusF ρ1.length Fo).give i ρ1.length) (upd H1 p (.lst (vs1 ++ [w]))) := ⟨fun a u h hu => st.keep a u h (fun z => hu (G.give_U.mp z)), fun a z => (st.own a z).imp G.give_U.mp id, st.N, st.μ, st.Z⟩
                have kp : ∀ a u, a ≠ p → H1 a = some u → upd H1 p (.lst (vs1 ++ [w])) a = some u := fun a u ha h => by rw [upd_ne ha]; exact h
                show Own T _ _ (m + 1) _ (.lst (l ++ [d])) (.ref p)
                simp only [Own]
                refine ⟨p, _, rfl, pi, upd_same, by simp [hl], fun q a => Gs q a ∧ q < l.length ∨ q = l.length ∧ Fo a, fun q a z => ?_, fun q r a z z' => ?_, fun q d' w' a b => ?_⟩
                · rcases z with z | z
                  · exact ⟨.inl ⟨rfl, .inl (q1 q a z.1).1⟩, (q1 q a z.1).2⟩
                  · exact ⟨.inl ⟨rfl, .inr (.inr ⟨rfl, z.2⟩)⟩, np a z.2⟩
                · rcases z with z | z <;> rcases z' with z' | z'
                  · exact q2 q r a z.1 z'.1
                  · exact absurd (q1 q a z.1).1 (nF a z'.2)
                  · exact absurd (q1 r a z'.1).1 (nF a z.2)
                  · rw [z.1, z'.1]
                · by_cases hq : q < l.length
                  · rw [List.getElem?_append_left hq] at a
                    rw [List.getElem?_append_left (by omega)] at b
                    exact Own.wide _ _ _ _ _ (fun a z => .inl ⟨z, hq⟩) (Own.keepF st1 _ _ _ _ (fun a u z h => kp a u (q1 q a z).2 h) (q3 q d' w' a b))
                  · have hq2 : q = l.length := by
                      have := (List.getElem?_eq_some_iff.mp a).1
                      simp at this
                      omega
                    subst hq2
                    rw [List.getElem?_append_right (Nat.le_refl _), Nat.sub_self] at a
                    rw [List.getElem?_append_right (by omega), hl, Nat.sub_self] at b
                    cases a
                    cases b
                    exact Own.wide _ _ _ _ _ (fun a z => .inr ⟨rfl, z⟩) (Own.keepF st1 _ _ _ _ (fun a u z h => kp a u (np a z) h) how)
              have f4 : FrS g H ((g1.plusF ρ1.length Fo).give i ρ1.length) H1 := ⟨f1.keep, fun a z => by
                rcases G.plusF_U.mp (G.give_U.mp z) with z | z
                · exact f1.own a z
                · exact (hFo a z).2, f1.O, f1.P, f1.N, f1.μ, f1.dom⟩
              exact hg σ _ _ R4 (f4.trans (Rg.wrote pi))
            · exact hg.elim
end
end Q

set_option maxHeartbeats 2000000
namespace Q
open PySem PySem.Spec PyProof.Rows L2
def pIxV (K : Nat) (p : FV) (e : FE) : FV := fun ρ S => match p ρ S with
  | .ok js d S1 => (match e ρ S1 with | .ok k S2 => pKeyK K js S2 (posOf d k) | .exc y S2 => .exc y S2 | .no => .no)
  | .exc y S1 => .exc y S1
  | .no => .no
section
variable {X : Cx} {T : Th} {W : WX} {Γ : List Md} {i K : Nat}
theorem xpv_ix {o e c : Expr} {P : FV} {A : FE} (hK : X.K = T.K) (hm : ownK K (Γ.getD i .s)) (ho : XPV X T W Γ i o P) (hc : XC X T W Γ c A)
    (he : PE X o (tPV T W Γ i P) → PE X c (tC1 T W Γ A) → PE X e (tOp (rIxA X.K) (tPV T W Γ i P) (tC1 T W Γ A))) : XPV X T W Γ i e (pIxV K P A) := pe_imp (he ho hc) fun σ H Q ⟨g, ρ, S, R, hg⟩ => by
  refine ⟨g, ρ, S, R, ?_⟩
  unfold pIxV at hg
  cases ep : P ρ S with
  | no => rw [ep] at hg; exact hg.elim
  | exc y S1 => rw [ep] at hg; exact hg
  | ok js d S1 =>
    rw [ep] at hg
    intro es v H1 e1 pl
    subst es
    refine ⟨g, ρ, S1, R.ex e1, ?_⟩
    replace hg : GoodPV T W Γ i ρ σ g S1 H1 (match A ρ S1 with | .ok k S2 => pKeyK K js S2 (posOf d k) | .exc y S2 => .exc y S2 | .no => .no) Q := goodPV_ex e1 hg
    cases ea : A ρ S1 with
    | no => rw [ea] at hg; exact hg.elim
    | exc y S2 => rw [ea] at hg; exact hg
    | ok k S2 =>
      rw [ea] at hg
      intro es w H2 e2 s2
      subst es
      replace hg : GoodPV T W Γ i ρ σ g S2 H1 (pKeyK K js S2 (posOf d k)) Q := hg
      cases epos : posOf d k with
      | none => rw [epos] at hg; exact hg.elim
      | some jd =>
        obtain ⟨j, d1⟩ := jd
        rw [epos] at hg
        unfold pKeyK at hg
        dsimp only at hg
        split at hg
        · rename_i hd
          have R2 := (R.ex e1).ex e2
          have pl2 := pl.ex e2
          obtain ⟨d0, v0, F', k1, k2, k3, k4, k5⟩ := own_atV R2 hm pl2 (Nat.le_of_succ_le hd)
          have hk : K - js.length = (K - js.length - 1) + 1 := by omega
          rw [hk] at k4
          unfold posOf at epos
          split at epos
          · rename_i l i0
            obtain ⟨j', e3, e4⟩ := Option.bind_eq_some_iff.mp epos
            obtain ⟨d1', e5, e6⟩ := Option.map_eq_some_iff.mp e4
            cases e6
            simp only [Own] at k4
            obtain ⟨p, vs, rfl, hF, hH, hl, _⟩ := k4
            have hj : j < l.length := (List.getElem?_eq_some_iff.mp e5).1
            obtain ⟨u, hu⟩ : ∃ u, vs[j]? = some u := ⟨vs[j], List.getElem?_eq_getElem (by omega)⟩
            rw [shr_int.mp s2]
            refine .inl ⟨p, vs, i0, u, rfl, rfl, .of hH, ?_, ?_⟩
            · unfold atI
              rw [← hl, e3]
              exact hu
            · refine hg rfl u H2 e2 ?_
              obtain ⟨d0', v0', p1, p2, p3⟩ := pl2
              exact ⟨d0', v0', p1, p2, Focus.snocL p3 hH e5 hu⟩
          · cases epos
        · exact hg.elim
end
end Q

set_option maxHeartbeats 2000000
namespace Q
open PySem PySem.Spec PyProof.Rows L2
section
variable {X : Cx} {T : Th} {W : WX} {Γ Γ' : List Md} {J : Jd}
theorem Rel.forget {g : G} {ρ : Env} {S : Store} {σ : L2.St} {H : Hp} {j : Nat} (R : Rel T g Γ ρ S σ H) : Rel T g (Γ.set j .s) (ρ.set j none) S σ H := by
  refine ⟨by rw [List.length_set]; exact R.len, fun i d e => ?_, R.dF, R.dFO, R.dFB, R.dOB, R.dom, R.st, R.nt⟩
  by_cases hj : j = i
  · subst hj
    by_cases hl : j < ρ.length
    · rw [List.getElem?_set_self hl] at e; cases e
    · rw [List.getElem?_eq_none (by rw [List.length_set]; omega)] at e; cases e
  · rw [List.getElem?_set_ne hj] at e
    rw [getD_set_ne hj]
    exact R.slot i d e
def fForget (j : Nat) (F : FS) : FS := fun ρ S => F (ρ.set j none) S
theorem xs_forget {st : Stmt} {j : Nat} {F : FS} (h : XS X T J (Γ.set j .s) Γ' st F) : XS X T J Γ Γ' st (fForget j F) := ps_imp h fun D σ H ⟨g, ρ, S, R, hg⟩ => ⟨g, _, S, R.forget, hg⟩
theorem Rel.lendK {K : Nat} {g : G} {ρ : Env} {S : Store} {σ : L2.St} {H : Hp} {i : Nat} {v : V} {d : D} (R : Rel T g Γ ρ S σ H) (hn : noRB Γ = true) (hm : Γ.getD i .s = .o K) (hd : ρ[i]? = some (some d)) (hv : σ[i]? = some (some v)) : Rel T (g.lend [i]) (Γ.set i (.e v)) ρ S σ H := by
  refine R.shift rfl rfl rfl rfl (fun a h => G.lend_U.mp h) (fun i j a h h' => R.dF i j a h.2 h'.2) (fun j a h z => ?_) (fun a h => ?_) (fun j a h => .inl ⟨j, h.2⟩) R.len fun st j d' e => ?_
  · rcases z with z | ⟨j', hj, z⟩
    · exact R.dFO j a h.2 z
    · have := R.dF j j' a h.2 z
      subst this
      exact h.1 hj
  · rcases h with h | ⟨j, _, h⟩
    · exact .inl h
    · exact .inr ⟨j, h⟩
  · obtain ⟨w, h1, h2⟩ := R.slot j d' e
    refine ⟨w, h1, ?_⟩
    by_cases hj : i = j
    · subst hj
      rw [hv] at h1
      have e2 : v = w := Option.some.inj (Option.some.inj h1)
      by_cases hl : i < Γ.length
      · rw [List.getD_eq_getElem?_getD, List.getElem?_set_self hl]
        exact e2.symm
      · rw [List.getD_eq_getElem?_getD, List.getElem?_eq_none (by omega)] at hm
        cases hm
    · rw [getD_set_ne hj]
      exact RepM.less (H' := H) (noRB_get hn j) (noRB_l hn j) h2 st (fun a z => ⟨fun q => hj (List.mem_singleton.mp q).symm, z⟩) rfl
theorem Rel.backK {K : Nat} {g g4 : G} {ρ ρ4 : Env} {S S4 : Store} {σ σ4 : L2.St} {H H4 : Hp} {i : Nat} {v : V} {d d0 : D} (R : Rel T g Γ ρ S σ H) (hn : noRB Γ = true) (hm : Γ.getD i .s = .o K) (hd : ρ[i]? = some (some d)) (hv : σ[i]? = some (some v))
    (R4 : Rel T g4 (Γ.set i (.e v)) ρ4 S4 σ4 H4) (f : FrS (g.lend [i]) H g4 H4) (h0 : ρ4[i]? = some (some d0)) :
    ∃ g5, Rel T g5 Γ (ρ4.set i (some d)) S4 σ4 H4 ∧ FrS g H g5 H4 := by
  have hil : i < Γ.length := by
    by_cases hl : i < Γ.length
    · exact hl
    · rw [List.getD_eq_getElem?_getD, List.getElem?_eq_none (by omega)] at hm
      cases hm
  have lo : ∀ a, g.O a → g4.O a := fun a z => by rw [f.O]; exact .inl z
  have lf : ∀ a, g.F i a → g4.O a := fun a z => by rw [f.O]; exact .inr ⟨i, List.mem_singleton.mpr rfl, z⟩
  have f5 : FrS g H { g4 with O := g.O, F := fun j a => g4.F j a ∨ (j = i ∧ g.F i a) } H4 := by
    refine ⟨fun a o e hu => f.keep a o e (hu.imp (fun z w => z (G.lend_U.mp w)) .inl), fun a u => ?_, rfl, f.P, f.N, f.μ, f.dom⟩
    rcases u with u | ⟨j, u | ⟨_, u⟩⟩ | u
    · exact .inl (.inl u)
    · exact (f.own a (.inr (.inl ⟨j, u⟩))).imp G.lend_U.mp id
    · exact .inl (.inr (.inl ⟨i, u⟩))
    · exact (f.own a (.inr (.inr u))).imp G.lend_U.mp id
  refine ⟨_, ?_, f5⟩
  refine R4.shift rfl rfl rfl rfl (fun a u => ?_) (fun j k a h h' => ?_) (fun j a h z => ?_) (fun a z => .inl (lo a z)) (fun j a h => ?_) (by rw [List.length_set, R4.len]) fun st j d' e => ?_
  · rcases u with u | ⟨j, u | ⟨_, u⟩⟩ | u
    · exact .inl (lo a u)
    · exact .inr (.inl ⟨j, u⟩)
    · exact .inl (lf a u)
    · exact .inr (.inr u)
  · rcases h with h | ⟨ej, h⟩ <;> rcases h' with h' | ⟨ek, h'⟩
    · exact R4.dF j k a h h'
    · exact absurd (lf a h') (R4.dFO j a h)
    · exact absurd (lf a h) (R4.dFO k a h')
    · exact ej.trans ek.symm
  · rcases h with h | ⟨_, h⟩
    · exact R4.dFO j a h (lo a z)
    · exact R.dFO i a h z
  · rcases h with h | ⟨_, h⟩
    · exact .inl ⟨j, h⟩
    · exact .inr (lf a h)
  · by_cases hj : i = j
    · subst hj
      obtain ⟨w, h1, h2⟩ := R4.slot i d0 h0
      rw [List.getD_eq_getElem?_getD, List.getElem?_set_self hil] at h2
      have h2 : w = v := h2
      subst h2
      have hl2 : i < ρ4.length := by
        by_cases hl : i < ρ4.length
        · exact hl
        · rw [List.getElem?_eq_none (by omega)] at h0
          cases h0
      rw [List.getElem?_set_self hl2] at e
      cases e
      refine ⟨_, h1, ?_⟩
      rw [hm]
      obtain ⟨w2, q1, q2⟩ := R.slot i d hd
      rw [hv] at q1
      cases q1
      rw [hm] at q2
      exact Own.wide K _ _ d _ (fun a z => .inr ⟨rfl, z⟩) (Own.keepF f5.stay K (g.F i) d _ (fun a o z q => f.keep a o q (.inr (.inr ⟨i, List.mem_singleton.mpr rfl, z⟩))) q2)
    · rw [List.getElem?_set_ne hj] at e
      obtain ⟨w, h1, h2⟩ := R4.slot j d' e
      rw [getD_set_ne hj] at h2
      exact ⟨w, h1, RepM.less (H' := H4) (noRB_get hn j) (noRB_l hn j) h2 st (fun a z => .inl z) rfl⟩
def outR2 (i i0 : Nat) (l : List D) : RS → RS
  | .nx ρ' S' => (match ρ'[i]? with
    | some (some _) => .nx ((ρ'.set i0 none).set i (some (.lst l))) S'
    | _ => .no)
  | .rt d ρ' S' => .rt d (ρ'.set i0 none) S'
  | .exc x ρ' S' => .exc x (ρ'.set i0 none) S'
  | _ => .no
def fForR2 (i i0 : Nat) (B : FS) : FS := fun ρ S => match ρ[i]? with
  | some (some (.lst l)) => outR2 i i0 l (forL (tfName i0) B l ρ S)
  | _ => .no
def Jd.lent2 (J : Jd) (i0 : Nat) (Γe : List Md) : Jd := { J with Γl := Γe, ΓR := fun G => J.ΓR (G.set i0 .s) ∧ noRB (G.set i0 .s) = true, ΓX := fun G => J.ΓX (G.set i0 .s) ∧ noRB (G.set i0 .s) = true }
theorem goodS_lent2 {K : Nat} {g : G} {ρ : Env} {S : Store} {σ : L2.St} {H : Hp} {i i0 : Nat} {v : V} {l : List D} {r : RS} {D : Ends} (R : Rel T g Γ ρ S σ H) (hn : noRB Γ = true) (hm : Γ.getD i .s = .o K) (hi : i0 ≠ i) (hΓ : ((Γ.set i (.e v)).set i0 .l).set i0 .s = Γ.set i (.e v)) (hd : ρ[i]? = some (some (.lst l))) (hv : σ[i]? = some (some v))
    (h : GoodS T J Γ g H (outR2 i i0 l r) D) : GoodS T (J.lent2 i0 ((Γ.set i (.e v)).set i0 .l)) ((Γ.set i (.e v)).set i0 .l) (g.lend [i]) H r D := by
  cases r with
  | nx ρ' S' =>
    intro σ' g' H' R' f
    simp only [outR2] at h
    split at h
    · rename_i d0 e0
      have R1 := R'.forget (j := i0)
      rw [hΓ] at R1
      obtain ⟨g5, R5, f5⟩ := R.backK hn hm hd hv R1 f (d0 := d0) (by rw [List.getElem?_set_ne hi]; exact e0)
      exact h σ' g5 H' R5 f5
    · exact h.elim
  | bk ρ' S' => exact h.elim
  | ct ρ' S' => exact h.elim
  | rt d ρ' S' =>
    intro Γ'' w σ' g' H' Fo hR R' f hFo hO
    have lo : ∀ a, g.O a → g'.O a := fun a z => by rw [f.O]; exact .inl z
    have R2 : Rel T (G.plus { g' with O := g.O } Fo) (Γ''.set i0 .s) (ρ'.set i0 none) S' σ' H' := (R'.forget (j := i0)).lessO hR.2 (O := fun a => g.O a ∨ Fo a) fun a z => z.imp (lo a) id
    refine h (Γ''.set i0 .s) w σ' { g' with O := g.O } H' Fo hR.1 R2 (frs_unlend f) (fun a z => ?_) ?_
    · obtain ⟨z1, z2⟩ := hFo a z
      exact ⟨fun q => z1 (.inl q), z2.imp G.lend_U.mp id⟩
    · have st : Stay (g'.plus Fo) H' (G.plus { g' with O := g.O } Fo) H' := ⟨fun _ _ q _ => q, fun a u => .inl ?_, Nat.le_refl _, fun _ _ => rfl, rfl⟩
      · exact Own.keepF st J.kr Fo d w (fun _ _ _ q => q) hO
      rcases u with (u | u) | u | u
      · exact .inl (.inl (lo a u))
      · exact .inl (.inr u)
      · exact .inr (.inl u)
      · exact .inr (.inr u)
  | exc x ρ' S' =>
    intro Γ'' c dd σ' g' H' hX R' f e
    have lo : ∀ a, g.O a → g'.O a := fun a z => by rw [f.O]; exact .inl z
    refine h (Γ''.set i0 .s) c dd σ' { g' with O := g.O } H' hX.1 ((R'.forget (j := i0)).lessO hX.2 lo) (frs_unlend f) ?_
    have st : Stay g' H' { g' with O := g.O } H' := ⟨fun _ _ q _ => q, fun a u => .inl (u.imp (lo a) id), Nat.le_refl _, fun _ _ => rfl, rfl⟩
    obtain ⟨q1, q2, q3⟩ := e
    exact ⟨q1, q2, q3.imp id fun ⟨d, fs, r1, r2, r3, r4, r5⟩ => ⟨d, fs, r1, r2, r3, r4, ShrL.stay st _ _ r5.1, st.off r3 r5.2⟩⟩
  | no => exact h.elim
theorem xs_forR2 {tg it : Expr} {body : List Stmt} {B : FS} {pos : Pos} {i i0 : Nat} (hK : X.K = T.K) (hn : noRB Γ = true) (hm : Γ.getD i .s = .o 2) (hi : i0 ≠ i) (hi0 : i0 < Γ.length) (hm0 : ∀ v, (Γ.set i (.e v)).getD i0 .s = .s) (hΓ : ∀ v, ((Γ.set i (.e v)).set i0 .l).set i0 .s = Γ.set i (.e v)) (hp : PassesOwn (model X.prog X.w) X.A X.env X.xe) (hc : X.calm = true) (hit : PE X it (tVar i)) (hg : PG X tg (gName i0))
    (hb : ∀ v, XB X T (J.lent2 i0 ((Γ.set i (.e v)).set i0 .l)) ((Γ.set i (.e v)).set i0 .l) ((Γ.set i (.e v)).set i0 .l) body B) (hs : ∀ x, foldedSetIterable it X.env x = pure x := by intro _; rfl) : XS X T J Γ Γ (.For tg it body [] pos) (fForR2 i i0 B) := ⟨fun pins s σ H D I ⟨g, ρ, S, R, h⟩ => by
  unfold fForR2 at h
  cases e : ρ[i]? with
  | none => simp only [e] at h; exact h.elim
  | some o =>
    cases o with
    | none => simp only [e] at h; exact h.elim
    | some d =>
      cases d <;> simp only [e] at h <;> try exact h.elim
      rename_i l
      obtain ⟨v, hv, h2⟩ := R.slot i _ e
      rw [hm] at h2
      have h2 : Own T g H 2 (g.F i) (.lst l) v := h2
      unfold Own at h2
      obtain ⟨p, vs, rfl, hF, hH, hl, Gs, hG, _, h3⟩ := h2
      have Re := (R.lendK hn hm e hv).weak (i := i0) (by rw [List.length_set]; exact hi0) (.inl (hm0 _))
      have h' := goodS_lent2 (v := .ref p) R hn hm hi (hΓ _) e hv h
      have lp : ∀ a, g.F i a → (g.lend [i]).O a := fun a z => .inr ⟨i, List.mem_singleton.mpr rfl, z⟩
      generalize hr : forL (tfName i0) B l ρ S = r at h'
      clear h
      generalize hΓ1 : (Γ.set i (.e (.ref p))).set i0 .l = Γ1 at h' Re
      have e11 : Γ1.set i0 .l = Γ1 := by rw [← hΓ1, List.set_set]
      have hi1 : i0 < Γ1.length := by rw [← hΓ1, List.length_set, List.length_set]; exact hi0
      have hb1 := hb (.ref p)
      rw [hΓ1] at hb1
      refine (ps_for (tb := tS T (J.lent2 i0 Γ1) Γ1 Γ1 B) hp hc (pi_of hit itr_list) hg hb1 hs).run pins s σ H D I ⟨.ref p, hv, p, rfl, ⟨vs, .of hH⟩, ?_⟩
      refine ⟨fun k m σ' H' => ∃ g' ρ' S', Rel T g' Γ1 ρ' S' σ' H' ∧ FrS (g.lend [i]) H g' H' ∧ m = l.length - k ∧ k ≤ l.length ∧ forL (tfName i0) B (l.drop k) ρ' S' = r, ⟨l.length, g.lend [i], ρ, S, Re, .refl _ _, by simp, Nat.zero_le _, by rw [List.drop_zero]; exact hr⟩, fun k m σ' H' ⟨g', ρ', S', R', f', em, hi', er⟩ => ?_⟩
      have hH' : H' p = some (.lst vs) := f'.keep p _ hH (.inr (lp p hF))
      have sq : SqL X.K H' p vs := .of hH'
      have y : Stay g H g' H' := ⟨fun a o q hu => f'.stay.keep a o q fun z => hu (G.lend_U.mp z), fun a u => (f'.own a u).imp G.lend_U.mp id, f'.N, f'.μ, f'.stay.Z⟩
      have h2 := GoodS.then h' f'
      by_cases hlt : k < l.length
      · obtain ⟨d, hd⟩ : ∃ d, l[k]? = some d := ⟨l[k], List.getElem?_eq_getElem hlt⟩
        obtain ⟨x, w1⟩ : ∃ x, vs[k]? = some x := ⟨vs[k], List.getElem?_eq_getElem (by omega)⟩
        have w2 : Shr T g'.bare H' d x := by
          have o1 := h3 k d x hd w1
          have kp : ∀ a o, Gs k a → H a = some o → H' a = some o := fun a o z q => f'.keep a o q (.inr (lp a (hG k a z).1))
          have o2 := Own.keepF y _ _ _ _ kp o1
          have nO : ∀ a, Gs k a → g'.O a := fun a z => by rw [f'.O]; exact lp a (hG k a z).1
          have sb : Stay g' H' g'.bare H' := ⟨fun _ _ q _ => q, fun a u => .inl ?_, Nat.le_refl _, fun _ _ => rfl, rfl⟩
          refine shr_of_own2 sb _ _ _ _ (fun a z u => ?_) o2
          · rcases u with u | ⟨j, u⟩ | u
            · exact u.elim
            · exact R'.dFO j a u (nO a z)
            · exact R'.dOB a (nO a z) u
          rcases u with u | u | u
          · exact u.elim
          · exact .inr (.inl u)
          · exact .inr (.inr u)
        refine .inr ⟨⟨vs, x, sq, w1⟩, fun σ2 H2 => ∃ m', m' < m ∧ ∃ g' ρ' S', Rel T g' Γ1 ρ' S' σ2 H2 ∧ FrS (g.lend [i]) H g' H2 ∧ m' = l.length - (k + 1) ∧ k + 1 ≤ l.length ∧ forL (tfName i0) B (l.drop (k + 1)) ρ' S' = r, fun σ2 H2 ⟨m', l, w⟩ => ⟨m', l, w⟩, fun x' H2 ⟨e1, e2⟩ => ?_⟩
        subst e1
        have e3 := e2 vs sq
        rw [w1] at e3
        cases e3
        have ed : l.drop k = d :: l.drop (k + 1) := by
          rw [List.drop_eq_getElem_cons hlt]
          rw [List.getElem?_eq_getElem hlt] at hd
          rw [Option.some.inj hd]
        rw [ed] at er
        rw [forL] at er
        split at er
        · rename_i e1
          cases e1
        · rename_i ρ1 e1
          cases e1
          have R3 := R'.setL hi1 w2
          rw [e11] at R3
          refine ⟨g'.drop i0, ρ'.set i0 (some d), S', R3, ?_⟩
          have f3 : FrS g' H2 (g'.drop i0) H2 := .drop
          have h3 := GoodS.then h2 f3
          have nxt : ∀ {ρ2 : Env} {S2 : Store}, forL (tfName i0) B (l.drop (k + 1)) ρ2 S2 = r → ∀ σ4 g4 H4, Rel T g4 Γ1 ρ2 S2 σ4 H4 → FrS (g'.drop i0) H2 g4 H4 → ∃ m', m' < m ∧ ∃ g' ρ' S', Rel T g' Γ1 ρ' S' σ4 H4 ∧ FrS (g.lend [i]) H g' H4 ∧ m' = l.length - (k + 1) ∧ k + 1 ≤ l.length ∧ forL (tfName i0) B (l.drop (k + 1)) ρ' S' = r :=
            fun {ρ2 S2} e2 σ4 g4 H4 R4 f4 => ⟨l.length - (k + 1), by omega, g4, ρ2, S2, R4, (f'.trans f3).trans f4, rfl, hlt, e2⟩
          split at er
          · rename_i eb; rw [eb]; exact nxt er
          · rename_i eb; rw [eb]; exact nxt er
          · rename_i eb
            rw [eb]
            rw [← er] at h3
            exact h3
          · rename_i n1 n2 n3
            rw [← er] at h3
            cases eb : B (ρ'.set i0 (some d)) S' with
            | nx a b => exact absurd eb (n1 a b)
            | ct a b => exact absurd eb (n2 a b)
            | bk a b => exact absurd eb (n3 a b)
            | rt d a b => rw [eb] at h3; exact h3
            | exc x a b => rw [eb] at h3; exact h3
            | no => rw [eb] at h3; exact h3
      · have e1 : k = l.length := by omega
        subst e1
        refine .inl ⟨⟨vs, sq, by rw [← hl]; exact Nat.le_refl _⟩, ?_⟩
        rw [List.drop_length] at er
        rw [← er] at h2
        exact h2 σ' g' H' R' (.refl _ _)⟩
end
end Q

namespace K69
open PySem PySem.Spec PyProof.Rows L2 Q
def fmL (c : Nat) (f : Str) : Nat :=
  if c = 0 ∧ f = "my_flows" then 2 else
  if c = 0 ∧ f = "my_marks" then 1 else
  if c = 0 ∧ f = "my_skies" then 1 else
  if c = 0 ∧ f = "my_stoves" then 1 else
  0
noncomputable def m_is_bound : FS := (fRet (eAnd (eUn (hIsi "int") (eVar 0)) (eAnd (eNot (eUn (hIsi "bool") (eVar 0))) (eChain hLe hLe (eC (.int 0)) (eVar 0) (eVar 1)))))
noncomputable def f_is_bound : FF := fBody 2 2 (ΓS 2) m_is_bound
noncomputable def m_Hold____init__ : FS := (fSeq (fIf (eOr (eNot (eCall f_is_bound (lCons (eVar 1) (lCons (eC (.int 4)) lNil)))) (eOr (eNot (eCall f_is_bound (lCons (eVar 2) (lCons (eC (.int 30)) lNil)))) (eNot (eCall f_is_bound (lCons (eVar 3) (lCons (eC (.int 30)) lNil)))))) fNo
    fPass)
    (fSeq (fFld fmL [0] 0 "most" (eVar 0) (eVar 1))
    (fSeq (fFld fmL [0] 0 "cap" (eVar 0) (eVar 2))
    (fSeq (fFld fmL [0] 0 "load" (eVar 0) (eVar 3))
    (fSeq (fFld fmL [0] 1 "my_marks" (eVar 0) (eC (.lst [])))
    (fSeq (fFld fmL [0] 2 "my_flows" (eVar 0) (eC (.lst [])))
    (fSeq (fFld fmL [0] 1 "my_skies" (eVar 0) (eC (.lst [])))
    (fFld fmL [0] 1 "my_stoves" (eVar 0) (eC (.lst []))))))))))
noncomputable def f_Hold____init__ : FF := fBody 4 4 (ΓS 4) m_Hold____init__
noncomputable def m_Hold__many : FS := (fRet (eFlat (eL hLen (lCons (eFldV [0] "my_marks" (eVar 0)) lNil))))
noncomputable def f_Hold__many : FF := fBody 1 1 (ΓS 1) m_Hold__many
noncomputable def m_under : FS := (fRet (eOp hLt (eOp hMul (eOp hIx (eVar 0) (eC (.int 0))) (eOp hIx (eVar 1) (eC (.int 1)))) (eOp hMul (eOp hIx (eVar 1) (eC (.int 0))) (eOp hIx (eVar 0) (eC (.int 1))))))
noncomputable def f_under : FF := fBody 2 2 (ΓS 2) m_under
noncomputable def m_Hold__ask_room : FS := (fIf (eOr (eOp hLt (eVar 1) (eC (.int 0))) (eOp hGe (eVar 1) (eFlat (eL hLen (lCons (eFldV [0] "my_marks" (eVar 0)) lNil))))) fNo
    fPass)
noncomputable def f_Hold__ask_room : FF := fBody 2 2 (ΓS 2) m_Hold__ask_room
noncomputable def c_divisor_1 : FE := (eOp hNe (eVar 3) (eC (.int 0)))
theorem u_c_divisor_1 (ρ : Q.Env) (S : Store) : c_divisor_1 ρ S = ((eOp hNe (eVar 3) (eC (.int 0)))) ρ S := rfl
noncomputable def b_divisor_2 : FS := (fSeq (fSet 4 (eOp hMod (eVar 2) (eVar 3)))
    (fSeq (fSet 2 (eVar 3))
    (fSet 3 (eVar 4))))
theorem u_b_divisor_2 (ρ : Q.Env) (S : Store) : b_divisor_2 ρ S = ((fSeq (fSet 4 (eOp hMod (eVar 2) (eVar 3)))
    (fSeq (fSet 2 (eVar 3))
    (fSet 3 (eVar 4))))) ρ S := rfl
noncomputable def m_divisor : FS := (fSeq (fSet 2 (eL hAbs (lCons (eVar 0) lNil)))
    (fSeq (fSet 3 (eL hAbs (lCons (eVar 1) lNil)))
    (fSeq (fWhile c_divisor_1 b_divisor_2)
    (fRet (eVar 2)))))
noncomputable def f_divisor : FF := fBody 5 2 (ΓS 2) m_divisor
noncomputable def m_fraction : FS := (fSeq (fIf (eOp hEq (eVar 1) (eC (.int 0))) fNo
    fPass)
    (fSeq (fSet 2 (eCall f_divisor (lCons (eVar 0) (lCons (eVar 1) lNil))))
    (fSeq (fIf (eOp hLt (eVar 1) (eC (.int 0))) (fSet 2 (eUn hNeg (eVar 2)))
    fPass)
    (fRet (eTup (lCons (eOp hDiv (eVar 0) (eVar 2)) (lCons (eOp hDiv (eVar 1) (eVar 2)) lNil)))))))
noncomputable def f_fraction : FF := fBody 3 2 (ΓS 2) m_fraction
noncomputable def m_minus : FS := (fRet (eCall f_fraction (lCons (eOp hSub (eOp hMul (eOp hIx (eVar 0) (eC (.int 0))) (eOp hIx (eVar 1) (eC (.int 1)))) (eOp hMul (eOp hIx (eVar 1) (eC (.int 0))) (eOp hIx (eVar 0) (eC (.int 1))))) (lCons (eOp hMul (eOp hIx (eVar 0) (eC (.int 1))) (eOp hIx (eVar 1) (eC (.int 1)))) lNil))))
noncomputable def f_minus : FF := fBody 2 2 (ΓS 2) m_minus
noncomputable def m_plus : FS := (fRet (eCall f_fraction (lCons (eOp hAdd (eOp hMul (eOp hIx (eVar 0) (eC (.int 0))) (eOp hIx (eVar 1) (eC (.int 1)))) (eOp hMul (eOp hIx (eVar 1) (eC (.int 0))) (eOp hIx (eVar 0) (eC (.int 1))))) (lCons (eOp hMul (eOp hIx (eVar 0) (eC (.int 1))) (eOp hIx (eVar 1) (eC (.int 1)))) lNil))))
noncomputable def f_plus : FF := fBody 2 2 (ΓS 2) m_plus
noncomputable def b_Hold__taken_share_1 : FS := (fSet 2 (eCall0 f_plus (lCons (eVar 2) (lCons (eVar 3) lNil))))
theorem u_b_Hold__taken_share_1 (ρ : Q.Env) (S : Store) : b_Hold__taken_share_1 ρ S = ((fSet 2 (eCall0 f_plus (lCons (eVar 2) (lCons (eVar 3) lNil))))) ρ S := rfl
noncomputable def m_Hold__taken_share : FS := (fSeq (fSet 2 (eOp hIx (eAt fmL (pIx fmL (pFld [0] "my_skies" (eVar 0)) (eVar 1))) (eC (.int 0))))
    (fSeq (fForP fmL (pIx fmL (pFld [0] "my_flows" (eVar 0)) (eVar 1)) (tfName 3) b_Hold__taken_share_1)
    (fRet (eVar 2))))
noncomputable def f_Hold__taken_share : FF := fBody 4 2 (ΓS 2) m_Hold__taken_share
noncomputable def m_Hold__share : FS := (fSeq (fDrop (eMeth "ask_room" [(0, f_Hold__ask_room)] [] (eVar 0) (lCons (eVar 1) lNil)))
    (fSeq (fDrop (eMeth "ask_room" [(0, f_Hold__ask_room)] [] (eVar 0) (lCons (eVar 2) lNil)))
    (fSeq (fIf (eOp hEq (eVar 1) (eVar 2)) (fRet (eCall f_minus (lCons (eC (.tup [.int 1, .int 1])) (lCons (eMeth "taken_share" [(0, f_Hold__taken_share)] [] (eVar 0) (lCons (eVar 1) lNil)) lNil))))
    fPass)
    (fRet (eAt fmL (pIx fmL (pIx fmL (pFld [0] "my_flows" (eVar 0)) (eVar 1)) (eVar 2)))))))
noncomputable def f_Hold__share : FF := fBody 3 3 (ΓS 3) m_Hold__share
noncomputable def m_is_touching : FS := (fRet (eOr (eCall f_under (lCons (eC (.tup [.int 0, .int 1])) (lCons (eMeth "share" [(0, f_Hold__share)] [] (eVar 0) (lCons (eVar 1) (lCons (eVar 2) lNil))) lNil))) (eCall f_under (lCons (eC (.tup [.int 0, .int 1])) (lCons (eMeth "share" [(0, f_Hold__share)] [] (eVar 0) (lCons (eVar 2) (lCons (eVar 1) lNil))) lNil)))))
noncomputable def f_is_touching : FF := fBody 3 3 (ΓS 3) m_is_touching
noncomputable def b_part_by_1 : FS := (fIf (eCall f_is_touching (lCons (eVar 0) (lCons (eOp hIxO (eVar 3) (eVar 4)) (lCons (eVar 5) lNil)))) (fSeq (fMut 3 mAppend (lCons (eVar 5) lNil))
    (fMut 2 mRemove (lCons (eVar 5) lNil)))
    fPass)
theorem u_b_part_by_1 (ρ : Q.Env) (S : Store) : b_part_by_1 ρ S = ((fIf (eCall f_is_touching (lCons (eVar 0) (lCons (eOp hIxO (eVar 3) (eVar 4)) (lCons (eVar 5) lNil)))) (fSeq (fMut 3 mAppend (lCons (eVar 5) lNil))
    (fMut 2 mRemove (lCons (eVar 5) lNil)))
    fPass)) ρ S := rfl
noncomputable def c_part_by_2 : FE := (eOp hLt (eVar 4) (eFlat (eL hLen (lCons (eVar 3) lNil))))
theorem u_c_part_by_2 (ρ : Q.Env) (S : Store) : c_part_by_2 ρ S = ((eOp hLt (eVar 4) (eFlat (eL hLen (lCons (eVar 3) lNil))))) ρ S := rfl
noncomputable def b_part_by_3 : FS := (fSeq (fFor (iSeq (eUn hListO (eVar 2))) (tfName 5) b_part_by_1)
    (fSet 4 (eOp hAdd (eVar 4) (eC (.int 1)))))
theorem u_b_part_by_3 (ρ : Q.Env) (S : Store) : b_part_by_3 ρ S = ((fSeq (fFor (iSeq (eUn hListO (eVar 2))) (tfName 5) b_part_by_1)
    (fSet 4 (eOp hAdd (eVar 4) (eC (.int 1)))))) ρ S := rfl
noncomputable def m_part_by : FS := (fSeq (fSet 3 (eLst (lCons (eVar 1) lNil)))
    (fSeq (fSet 4 (eC (.int 0)))
    (fSeq (fWhile c_part_by_2 b_part_by_3)
    (fRet (eUn hSort (eVar 3))))))
noncomputable def f_part_by : FF := fBody 6 3 [.s, .s, .p 1] m_part_by
noncomputable def c_parts_of_1 : FE := (eUn hTruO (eVar 1))
theorem u_c_parts_of_1 (ρ : Q.Env) (S : Store) : c_parts_of_1 ρ S = ((eUn hTruO (eVar 1))) ρ S := rfl
noncomputable def b_parts_of_2 : FS := (fSeq (fMutSet 3 1 mPop0 (lCons (eC (.int 0)) lNil))
    (fAppFP 1 2 (eCallP f_part_by [none, none, some (1, 1)] (lCons (eVar 0) (lCons (eVar 3) (lCons (eVar 1) lNil))))))
theorem u_b_parts_of_2 (ρ : Q.Env) (S : Store) : b_parts_of_2 ρ S = ((fSeq (fMutSet 3 1 mPop0 (lCons (eC (.int 0)) lNil))
    (fAppFP 1 2 (eCallP f_part_by [none, none, some (1, 1)] (lCons (eVar 0) (lCons (eVar 3) (lCons (eVar 1) lNil))))))) ρ S := rfl
noncomputable def m_parts_of : FS := (fSeq (fSet 1 (eUn hListR (eMeth "many" [(0, f_Hold__many)] [] (eVar 0) lNil)))
    (fSeq (fSet 2 (eLift (eLst lNil)))
    (fSeq (fWhile c_parts_of_1 b_parts_of_2)
    (fRet (eVar 2)))))
noncomputable def f_parts_of : FF := fBody 4 1 [.s] m_parts_of
noncomputable def c__law_parts_1 : FE := (eOr (eOp (hInD false) (eTup (lCons (eVar 8) (lCons (eVar 7) lNil))) (eVar 1)) (eOp (hInD false) (eTup (lCons (eVar 7) (lCons (eVar 8) lNil))) (eVar 1)))
theorem u_c__law_parts_1 (ρ : Q.Env) (S : Store) : c__law_parts_1 ρ S = ((eOr (eOp (hInD false) (eTup (lCons (eVar 8) (lCons (eVar 7) lNil))) (eVar 1)) (eOp (hInD false) (eTup (lCons (eVar 7) (lCons (eVar 8) lNil))) (eVar 1)))) ρ S := rfl
noncomputable def e__law_parts_2 : FE := (eVar 8)
noncomputable def c__law_parts_3 : FE := (eAnd (eOp (hIn true) (eVar 7) (eVar 4)) (eOp hNe (eLc (iSeq (eVar 4)) [8] (tfName 8) c__law_parts_1 e__law_parts_2) (eLst lNil)))
theorem u_c__law_parts_3 (ρ : Q.Env) (S : Store) : c__law_parts_3 ρ S = ((eAnd (eOp (hIn true) (eVar 7) (eVar 4)) (eOp hNe (eLc (iSeq (eVar 4)) [8] (tfName 8) c__law_parts_1 e__law_parts_2) (eLst lNil)))) ρ S := rfl
noncomputable def e__law_parts_4 : FE := (eVar 7)
noncomputable def c__law_parts_5 : FE := (eTru (eVar 5))
theorem u_c__law_parts_5 (ρ : Q.Env) (S : Store) : c__law_parts_5 ρ S = ((eTru (eVar 5))) ρ S := rfl
noncomputable def b__law_parts_6 : FS := (fSeq (fSet 6 (eLc (iSeq (eVar 2)) [7] (tfName 7) c__law_parts_3 e__law_parts_4))
    (fSeq (fSet 4 (eOp hAdd (eVar 4) (eVar 6)))
    (fSet 5 (eOp hNe (eVar 6) (eLst lNil)))))
theorem u_b__law_parts_6 (ρ : Q.Env) (S : Store) : b__law_parts_6 ρ S = ((fSeq (fSet 6 (eLc (iSeq (eVar 2)) [7] (tfName 7) c__law_parts_3 e__law_parts_4))
    (fSeq (fSet 4 (eOp hAdd (eVar 4) (eVar 6)))
    (fSet 5 (eOp hNe (eVar 6) (eLst lNil)))))) ρ S := rfl
noncomputable def c__law_parts_7 : FE := (eOp (hIn true) (eVar 7) (eVar 4))
theorem u_c__law_parts_7 (ρ : Q.Env) (S : Store) : c__law_parts_7 ρ S = ((eOp (hIn true) (eVar 7) (eVar 4))) ρ S := rfl
noncomputable def e__law_parts_8 : FE := (eVar 7)
noncomputable def c__law_parts_9 : FE := (eOp hNe (eVar 2) (eLst lNil))
theorem u_c__law_parts_9 (ρ : Q.Env) (S : Store) : c__law_parts_9 ρ S = ((eOp hNe (eVar 2) (eLst lNil))) ρ S := rfl
noncomputable def b__law_parts_10 : FS := (fSeq (fSet 4 (eLst (lCons (eOp hIx (eVar 2) (eC (.int 0))) lNil)))
    (fSeq (fSet 5 (eC (.bl true)))
    (fSeq (fWhile c__law_parts_5 b__law_parts_6)
    (fSeq (fMut 3 mAppend (lCons (eUn hSort (eVar 4)) lNil))
    (fSet 2 (eLc (iSeq (eVar 2)) [7] (tfName 7) c__law_parts_7 e__law_parts_8))))))
theorem u_b__law_parts_10 (ρ : Q.Env) (S : Store) : b__law_parts_10 ρ S = ((fSeq (fSet 4 (eLst (lCons (eOp hIx (eVar 2) (eC (.int 0))) lNil)))
    (fSeq (fSet 5 (eC (.bl true)))
    (fSeq (fWhile c__law_parts_5 b__law_parts_6)
    (fSeq (fMut 3 mAppend (lCons (eUn hSort (eVar 4)) lNil))
    (fSet 2 (eLc (iSeq (eVar 2)) [7] (tfName 7) c__law_parts_7 e__law_parts_8))))))) ρ S := rfl
noncomputable def m__law_parts : FS := (fSeq (fSet 2 (eUn hListR (eVar 0)))
    (fSeq (fSet 3 (eLst lNil))
    (fSeq (fWhile c__law_parts_9 b__law_parts_10)
    (fRet (eVar 3)))))
noncomputable def f__law_parts : FF := fBody 9 2 [.s, .l] m__law_parts
noncomputable def c__law_right_1 : FE := (eUn (hIsi "bool") (eVar 5))
theorem u_c__law_right_1 (ρ : Q.Env) (S : Store) : c__law_right_1 ρ S = ((eUn (hIsi "bool") (eVar 5))) ρ S := rfl
noncomputable def e__law_right_2 : FE := (eVar 5)
noncomputable def b__law_right_3 : FS := (fIf (eOr (eNot (eFlat (eUn (hIsi "list") (eVar 4)))) (eOp hNe (eLc (iSeqW (eVar 4)) [5] (tfName 5) c__law_right_1 e__law_right_2) (eLst lNil))) (fRet (eC (.bl false)))
    fPass)
theorem u_b__law_right_3 (ρ : Q.Env) (S : Store) : b__law_right_3 ρ S = ((fIf (eOr (eNot (eFlat (eUn (hIsi "list") (eVar 4)))) (eOp hNe (eLc (iSeqW (eVar 4)) [5] (tfName 5) c__law_right_1 e__law_right_2) (eLst lNil))) (fRet (eC (.bl false)))
    fPass)) ρ S := rfl
noncomputable def m__law_right : FS := (fSeq (fSet 2 (eCall f_parts_of (lCons (eVar 0) lNil)))
    (fSeq (fSet 3 (eCall f__law_parts (lCons (eMeth "many" [(0, f_Hold__many)] [] (eVar 0) lNil) (lCons (eVar 1) lNil))))
    (fSeq (fIf (eOr (eNot (eFlat (eUn (hIsi "list") (eVar 2)))) (eOp hNe (eVar 2) (eVar 3))) (fRet (eC (.bl false)))
    fPass)
    (fSeq (fForget 1 (fForR2 2 4 b__law_right_3))
    (fSeq (fVMut 2 2 (pIxV 2 (pVar 2) (eC (.int 0))) mAppend (lCons (eC (.int 7)) lNil))
    (fSeq (fAppFP 1 2 (eEPF (eLst (lCons (eC (.int 9)) lNil))))
    (fRet (eOp hEq (eCall f_parts_of (lCons (eVar 0) lNil)) (eVar 3)))))))))
noncomputable def f__law_right : FF := fBody 6 2 [.s, .l] m__law_right
noncomputable def b_do_rise_1 : FS := (fIf (eNot (eCall f_under (lCons (eOp hIx (eVar 0) (eVar 1)) (lCons (eOp hIx (eVar 0) (eOp hAdd (eVar 1) (eC (.int 1)))) lNil)))) (fRet (eC (.bl false)))
    fPass)
theorem u_b_do_rise_1 (ρ : Q.Env) (S : Store) : b_do_rise_1 ρ S = ((fIf (eNot (eCall f_under (lCons (eOp hIx (eVar 0) (eVar 1)) (lCons (eOp hIx (eVar 0) (eOp hAdd (eVar 1) (eC (.int 1)))) lNil)))) (fRet (eC (.bl false)))
    fPass)) ρ S := rfl
noncomputable def m_do_rise : FS := (fSeq (fIf (eOr (eOp hLt (eL hLen (lCons (eVar 0) lNil)) (eC (.int 2))) (eOp hGt (eL hLen (lCons (eVar 0) lNil)) (eC (.int 7)))) (fRet (eC (.bl false)))
    fPass)
    (fSeq (fFor (iRange1 (lCons (eOp hSub (eL hLen (lCons (eVar 0) lNil)) (eC (.int 1))) lNil)) (tfName 1) b_do_rise_1)
    (fRet (eC (.bl true)))))
noncomputable def f_do_rise : FF := fBody 2 1 (ΓS 1) m_do_rise
noncomputable def b_Hold__put_room_1 : FS := (fSet 2 (eOp hMul (eVar 2) (eOp hSub (eFlat (eL hLen (lCons (eVar 3) lNil))) (eC (.int 1)))))
theorem u_b_Hold__put_room_1 (ρ : Q.Env) (S : Store) : b_Hold__put_room_1 ρ S = ((fSet 2 (eOp hMul (eVar 2) (eOp hSub (eFlat (eL hLen (lCons (eVar 3) lNil))) (eC (.int 1)))))) ρ S := rfl
noncomputable def m_Hold__put_room : FS := (fSeq (fIf (eOp hEq (eFlat (eL hLen (lCons (eFldV [0] "my_marks" (eVar 0)) lNil))) (eC (.int 4))) fNo
    fPass)
    (fSeq (fIf (eNot (eCall f_do_rise (lCons (eVar 1) lNil))) fNo
    fPass)
    (fSeq (fSet 2 (eOp hSub (eL hLen (lCons (eVar 1) lNil)) (eC (.int 1))))
    (fSeq (fForP fmL (pFld [0] "my_marks" (eVar 0)) (tfName 3) b_Hold__put_room_1)
    (fSeq (fIf (eOp hGt (eVar 2) (eC (.int 400))) fNo
    fPass)
    (fSeq (fForApp fmL (pFld [0] "my_flows" (eVar 0)) 4 (.tup [.int 0, .int 1]))
    (fSeq (fPMut fmL (pFld [0] "my_marks" (eVar 0)) mAppend (lCons (eUn hList (eVar 1)) lNil))
    (fSeq (fPApp fmL (pFld [0] "my_flows" (eVar 0)) (eOp hRep (eLst (lCons (eC (.tup [.int 0, .int 1])) lNil)) (eFlat (eL hLen (lCons (eFldV [0] "my_marks" (eVar 0)) lNil)))))
    (fSeq (fPMut fmL (pFld [0] "my_skies" (eVar 0)) mAppend (lCons (eTup (lCons (eC (.tup [.int 0, .int 1])) (lCons (eC (.tup [.int 0, .int 1])) (lCons (eC (.tup [.int 0, .int 1])) lNil)))) lNil))
    (fSeq (fPMut fmL (pFld [0] "my_stoves" (eVar 0)) mAppend (lCons (eC .non) lNil))
    (fRet (eOp hSub (eFlat (eL hLen (lCons (eFldV [0] "my_marks" (eVar 0)) lNil))) (eC (.int 1))))))))))))))
noncomputable def f_Hold__put_room : FF := fBody 5 2 (ΓS 2) m_Hold__put_room
noncomputable def m__law_cell_at : FS := (fSeq (fIf (eOp hLt (eVar 1) (eL hLen (lCons (eVar 0) lNil))) (fRet (eOp hIx (eVar 0) (eVar 1)))
    fPass)
    (fRet (eC (.int 0))))
noncomputable def f__law_cell_at : FF := fBody 2 2 (ΓS 2) m__law_cell_at
noncomputable def m_Hold__put_flow : FS := (fSeq (fDrop (eMeth "ask_room" [(0, f_Hold__ask_room)] [] (eVar 0) (lCons (eVar 1) lNil)))
    (fSeq (fDrop (eMeth "ask_room" [(0, f_Hold__ask_room)] [] (eVar 0) (lCons (eVar 2) lNil)))
    (fSeq (fIf (eOp hEq (eVar 1) (eVar 2)) fNo
    fPass)
    (fSeq (fSet 4 (eCall f_plus (lCons (eCall f_minus (lCons (eMeth "taken_share" [(0, f_Hold__taken_share)] [] (eVar 0) (lCons (eVar 1) lNil)) (lCons (eAt fmL (pIx fmL (pIx fmL (pFld [0] "my_flows" (eVar 0)) (eVar 1)) (eVar 2))) lNil))) (lCons (eVar 3) lNil))))
    (fSeq (fIf (eOr (eCall f_under (lCons (eVar 3) (lCons (eC (.tup [.int 0, .int 1])) lNil))) (eCall f_under (lCons (eC (.tup [.int 1, .int 1])) (lCons (eVar 4) lNil)))) fNo
    fPass)
    (fPSet fmL (pIx fmL (pFld [0] "my_flows" (eVar 0)) (eVar 1)) (eVar 2) (eVar 3)))))))
noncomputable def f_Hold__put_flow : FF := fBody 5 4 (ΓS 4) m_Hold__put_flow
noncomputable def c__law_part_1 : FE := (eOp hGt (eVar 3) (eC (.int 0)))
theorem u_c__law_part_1 (ρ : Q.Env) (S : Store) : c__law_part_1 ρ S = ((eOp hGt (eVar 3) (eC (.int 0)))) ρ S := rfl
noncomputable def b__law_part_2 : FS := (fSeq (fSet 4 (eOp hMod (eVar 2) (eVar 3)))
    (fSeq (fSet 2 (eVar 3))
    (fSet 3 (eVar 4))))
theorem u_b__law_part_2 (ρ : Q.Env) (S : Store) : b__law_part_2 ρ S = ((fSeq (fSet 4 (eOp hMod (eVar 2) (eVar 3)))
    (fSeq (fSet 2 (eVar 3))
    (fSet 3 (eVar 4))))) ρ S := rfl
noncomputable def m__law_part : FS := (fSeq (fSet 2 (eL hAbs (lCons (eVar 0) lNil)))
    (fSeq (fSet 3 (eVar 1))
    (fSeq (fWhile c__law_part_1 b__law_part_2)
    (fRet (eTup (lCons (eOp hDiv (eVar 0) (eVar 2)) (lCons (eOp hDiv (eVar 1) (eVar 2)) lNil)))))))
noncomputable def f__law_part : FF := fBody 5 2 (ΓS 2) m__law_part
noncomputable def m__law_share : FS := (fSeq (fSet 1 (eOp hAdd (eC (.int 4)) (eOp hMod (eOp hDiv (eVar 0) (eC (.int 16))) (eOp hSub (eOp hPow (eC (.int 10)) (eC (.int 30))) (eC (.int 4))))))
    (fRet (eCall f__law_part (lCons (eOp hAdd (eC (.int 1)) (eOp hMod (eOp hMod (eOp hDiv (eVar 0) (eC (.int 16))) (eOp hPow (eC (.int 10)) (eC (.int 29)))) (eOp hDiv (eVar 1) (eC (.int 4))))) (lCons (eVar 1) lNil)))))
noncomputable def f__law_share : FF := fBody 2 1 (ΓS 1) m__law_share
noncomputable def b_law_1 : FS := (fDrop (eMeth "put_room" [(0, f_Hold__put_room)] [] (eVar 1) (lCons (eLst (lCons (eTup (lCons (eVar 3) (lCons (eC (.int 1)) lNil))) (lCons (eTup (lCons (eOp hAdd (eVar 3) (eC (.int 1))) (lCons (eC (.int 1)) lNil))) lNil))) lNil)))
theorem u_b_law_1 (ρ : Q.Env) (S : Store) : b_law_1 ρ S = ((fDrop (eMeth "put_room" [(0, f_Hold__put_room)] [] (eVar 1) (lCons (eLst (lCons (eTup (lCons (eVar 3) (lCons (eC (.int 1)) lNil))) (lCons (eTup (lCons (eOp hAdd (eVar 3) (eC (.int 1))) (lCons (eC (.int 1)) lNil))) lNil))) lNil)))) ρ S := rfl
noncomputable def b_law_2 : FS := (fSeq (fSet 5 (eOp hAdd (eCall f__law_cell_at (lCons (eVar 0) (lCons (eOp hAdd (eC (.int 1)) (eVar 3)) lNil))) (eOp hMul (eOp hMul (eC (.int 48271)) (eVar 3)) (eVar 3))))
    (fSeq (fSet 6 (eOp hMod (eVar 5) (eVar 2)))
    (fSeq (fSet 7 (eOp hMod (eOp hDiv (eVar 5) (eC (.int 4))) (eVar 2)))
    (fIf (eOp hNe (eVar 6) (eVar 7)) (fSeq (fIf (eOp hEq (eOp hMod (eOp hDiv (eVar 5) (eC (.int 97))) (eC (.int 3))) (eC (.int 0))) (fSeq (fDrop (eMeth "put_flow" [(0, f_Hold__put_flow)] [] (eVar 1) (lCons (eVar 6) (lCons (eVar 7) (lCons (eTup (lCons (eC (.int 0)) (lCons (eC (.int 1)) lNil))) lNil)))))
    (fDPop 1 4 (pVar 4) (lCons (eTup (lCons (eVar 6) (lCons (eVar 7) lNil))) (lCons (eC .non) lNil))))
    (fSeq (fDrop (eMeth "put_flow" [(0, f_Hold__put_flow)] [] (eVar 1) (lCons (eVar 6) (lCons (eVar 7) (lCons (eCall f__law_share (lCons (eVar 5) lNil)) lNil)))))
    (fVPut 1 4 (pVar 4) (eTup (lCons (eVar 6) (lCons (eVar 7) lNil))) (eC (.bl true)))))
    (fIf (eAnd (eOp hEq (eOp hMod (eOp hDiv (eVar 5) (eC (.int 291))) (eC (.int 3))) (eC (.int 0))) (eNot (eCall f__law_right (lCons (eVar 1) (lCons (eVar 4) lNil))))) (fRet (eC (.bl false)))
    fPass))
    fPass))))
theorem u_b_law_2 (ρ : Q.Env) (S : Store) : b_law_2 ρ S = ((fSeq (fSet 5 (eOp hAdd (eCall f__law_cell_at (lCons (eVar 0) (lCons (eOp hAdd (eC (.int 1)) (eVar 3)) lNil))) (eOp hMul (eOp hMul (eC (.int 48271)) (eVar 3)) (eVar 3))))
    (fSeq (fSet 6 (eOp hMod (eVar 5) (eVar 2)))
    (fSeq (fSet 7 (eOp hMod (eOp hDiv (eVar 5) (eC (.int 4))) (eVar 2)))
    (fIf (eOp hNe (eVar 6) (eVar 7)) (fSeq (fIf (eOp hEq (eOp hMod (eOp hDiv (eVar 5) (eC (.int 97))) (eC (.int 3))) (eC (.int 0))) (fSeq (fDrop (eMeth "put_flow" [(0, f_Hold__put_flow)] [] (eVar 1) (lCons (eVar 6) (lCons (eVar 7) (lCons (eTup (lCons (eC (.int 0)) (lCons (eC (.int 1)) lNil))) lNil)))))
    (fDPop 1 4 (pVar 4) (lCons (eTup (lCons (eVar 6) (lCons (eVar 7) lNil))) (lCons (eC .non) lNil))))
    (fSeq (fDrop (eMeth "put_flow" [(0, f_Hold__put_flow)] [] (eVar 1) (lCons (eVar 6) (lCons (eVar 7) (lCons (eCall f__law_share (lCons (eVar 5) lNil)) lNil)))))
    (fVPut 1 4 (pVar 4) (eTup (lCons (eVar 6) (lCons (eVar 7) lNil))) (eC (.bl true)))))
    (fIf (eAnd (eOp hEq (eOp hMod (eOp hDiv (eVar 5) (eC (.int 291))) (eC (.int 3))) (eC (.int 0))) (eNot (eCall f__law_right (lCons (eVar 1) (lCons (eVar 4) lNil))))) (fRet (eC (.bl false)))
    fPass))
    fPass))))) ρ S := rfl
noncomputable def m_law : FS := (fSeq (fSet 1 (eMake 0 f_Hold____init__ [.int (4), .int (0), .int (0)] lNil))
    (fSeq (fSet 2 (eOp hAdd (eC (.int 1)) (eOp hMod (eCall f__law_cell_at (lCons (eVar 0) (lCons (eC (.int 0)) lNil))) (eC (.int 4)))))
    (fSeq (fFor (iRange1 (lCons (eVar 2) lNil)) (tfName 3) b_law_1)
    (fSeq (fSet 4 (eC (.dct [])))
    (fSeq (fFor (iRange1 (lCons (eOp hAdd (eC (.int 4)) (eOp hMod (eOp hDiv (eCall f__law_cell_at (lCons (eVar 0) (lCons (eC (.int 0)) lNil))) (eC (.int 4))) (eC (.int 21)))) lNil)) (tfName 3) b_law_2)
    (fRet (eCall f__law_right (lCons (eVar 1) (lCons (eVar 4) lNil)))))))))
noncomputable def f_law : FF := fBody 8 1 (ΓS 1) m_law
end K69

namespace Q
open PySem PySem.Spec PyProof.Rows L2
theorem wrt_of {K : PySem.W.Frag} {x : Str} {vs : List He.Dv} (h : He.tupB K x vs = true) : WrT K (He.ga K x) (vs.map (He.Dv.v K)) := by
  unfold He.tupB at h
  cases q : K.lookup (He.ga K x) with
  | none =>
    rw [q] at h
    cases h
  | some o =>
    obtain ⟨oc, od, dt, osl⟩ := o
    rw [q] at h
    cases oc with
    | type c =>
      cases dt with
      | seq its n =>
        obtain ⟨h1, h2⟩ := He.ba (show (decide (c = "tuple") && (decide (its.size ≤ sizeLine) && He.relAll (vs.map (He.Dv.v K)) its.toList)) = true from h)
        obtain ⟨h3, h4⟩ := He.ba h2
        exact ⟨_, its, n, q, congrArg Value.type (of_decide_eq_true h1), rfl, of_decide_eq_true h3, He.relAll_ok h4⟩
      | _ => cases h
    | _ => cases dt <;> cases h
end Q

namespace K69
open PySem PySem.Spec PyProof.Rows L2 Q
abbrev N_is_bound : List Str := ["thing", "most"]
theorem sc_is_bound : FnScope N_is_bound ["thing", "most"] (defScope s_is_bound) := ⟨rfl, rfl, rfl, by decide +kernel, rfl, by decide +kernel, by decide +kernel⟩
abbrev N_Hold____init__ : List Str := ["self", "most", "cap", "load"]
theorem sc_Hold____init__ : FnScope N_Hold____init__ ["self", "most", "cap", "load"] (defScope s_Hold____init__) := ⟨rfl, rfl, rfl, by decide +kernel, rfl, by decide +kernel, by decide +kernel⟩
abbrev N_Hold__many : List Str := ["self"]
theorem sc_Hold__many : FnScope N_Hold__many ["self"] (defScope s_Hold__many) := ⟨rfl, rfl, rfl, by decide +kernel, rfl, by decide +kernel, by decide +kernel⟩
abbrev N_under : List Str := ["one", "other"]
theorem sc_under : FnScope N_under ["one", "other"] (defScope s_under) := ⟨rfl, rfl, rfl, by decide +kernel, rfl, by decide +kernel, by decide +kernel⟩
abbrev N_Hold__ask_room : List Str := ["self", "room"]
theorem sc_Hold__ask_room : FnScope N_Hold__ask_room ["self", "room"] (defScope s_Hold__ask_room) := ⟨rfl, rfl, rfl, by decide +kernel, rfl, by decide +kernel, by decide +kernel⟩
abbrev N_divisor : List Str := ["one", "other", "high", "low", "rest"]
theorem sc_divisor : FnScope N_divisor ["one", "other"] (defScope s_divisor) := ⟨rfl, rfl, rfl, by decide +kernel, rfl, by decide +kernel, by decide +kernel⟩
abbrev N_fraction : List Str := ["top", "bottom", "shared"]
theorem sc_fraction : FnScope N_fraction ["top", "bottom"] (defScope s_fraction) := ⟨rfl, rfl, rfl, by decide +kernel, rfl, by decide +kernel, by decide +kernel⟩
abbrev N_minus : List Str := ["one", "other"]
theorem sc_minus : FnScope N_minus ["one", "other"] (defScope s_minus) := ⟨rfl, rfl, rfl, by decide +kernel, rfl, by decide +kernel, by decide +kernel⟩
abbrev N_plus : List Str := ["one", "other"]
theorem sc_plus : FnScope N_plus ["one", "other"] (defScope s_plus) := ⟨rfl, rfl, rfl, by decide +kernel, rfl, by decide +kernel, by decide +kernel⟩
abbrev N_Hold__taken_share : List Str := ["self", "room", "whole", "one"]
theorem sc_Hold__taken_share : FnScope N_Hold__taken_share ["self", "room"] (defScope s_Hold__taken_share) := ⟨rfl, rfl, rfl, by decide +kernel, rfl, by decide +kernel, by decide +kernel⟩
abbrev N_Hold__share : List Str := ["self", "into", "of"]
theorem sc_Hold__share : FnScope N_Hold__share ["self", "into", "of"] (defScope s_Hold__share) := ⟨rfl, rfl, rfl, by decide +kernel, rfl, by decide +kernel, by decide +kernel⟩
abbrev N_is_touching : List Str := ["hold", "one", "other"]
theorem sc_is_touching : FnScope N_is_touching ["hold", "one", "other"] (defScope s_is_touching) := ⟨rfl, rfl, rfl, by decide +kernel, rfl, by decide +kernel, by decide +kernel⟩
abbrev N_part_by : List Str := ["hold", "first", "left", "part", "at", "one"]
theorem sc_part_by : FnScope N_part_by ["hold", "first", "left"] (defScope s_part_by) := ⟨rfl, rfl, rfl, by decide +kernel, rfl, by decide +kernel, by decide +kernel⟩
abbrev N_parts_of : List Str := ["hold", "left", "found", "first"]
theorem sc_parts_of : FnScope N_parts_of ["hold"] (defScope s_parts_of) := ⟨rfl, rfl, rfl, by decide +kernel, rfl, by decide +kernel, by decide +kernel⟩
abbrev N__law_parts : List Str := ["_law_many", "_law_takes", "_law_left", "_law_found", "_law_part_here", "_law_grown", "_law_more", "_law_j", "_law_i"]
theorem sc__law_parts : FnScope N__law_parts ["_law_many", "_law_takes"] (defScope s__law_parts) := ⟨rfl, rfl, rfl, by decide +kernel, rfl, by decide +kernel, by decide +kernel⟩
abbrev N__law_right : List Str := ["_law_hold", "_law_takes", "_law_found", "_law_due", "_law_part_here", "_law_one"]
theorem sc__law_right : FnScope N__law_right ["_law_hold", "_law_takes"] (defScope s__law_right) := ⟨rfl, rfl, rfl, by decide +kernel, rfl, by decide +kernel, by decide +kernel⟩
abbrev N_do_rise : List Str := ["marks", "k"]
theorem sc_do_rise : FnScope N_do_rise ["marks"] (defScope s_do_rise) := ⟨rfl, rfl, rfl, by decide +kernel, rfl, by decide +kernel, by decide +kernel⟩
abbrev N_Hold__put_room : List Str := ["self", "marks", "many", "one", "row"]
theorem sc_Hold__put_room : FnScope N_Hold__put_room ["self", "marks"] (defScope s_Hold__put_room) := ⟨rfl, rfl, rfl, by decide +kernel, rfl, by decide +kernel, by decide +kernel⟩
abbrev N__law_cell_at : List Str := ["_law_script", "_law_k"]
theorem sc__law_cell_at : FnScope N__law_cell_at ["_law_script", "_law_k"] (defScope s__law_cell_at) := ⟨rfl, rfl, rfl, by decide +kernel, rfl, by decide +kernel, by decide +kernel⟩
abbrev N_Hold__put_flow : List Str := ["self", "into", "of", "share", "whole"]
theorem sc_Hold__put_flow : FnScope N_Hold__put_flow ["self", "into", "of", "share"] (defScope s_Hold__put_flow) := ⟨rfl, rfl, rfl, by decide +kernel, rfl, by decide +kernel, by decide +kernel⟩
abbrev N__law_part : List Str := ["_law_top", "_law_bottom", "_law_one", "_law_other", "_law_rest"]
theorem sc__law_part : FnScope N__law_part ["_law_top", "_law_bottom"] (defScope s__law_part) := ⟨rfl, rfl, rfl, by decide +kernel, rfl, by decide +kernel, by decide +kernel⟩
abbrev N__law_share : List Str := ["_law_cell", "_law_bottom"]
theorem sc__law_share : FnScope N__law_share ["_law_cell"] (defScope s__law_share) := ⟨rfl, rfl, rfl, by decide +kernel, rfl, by decide +kernel, by decide +kernel⟩
abbrev N_law : List Str := ["_law_script", "_law_hold", "_law_many", "_law_k", "_law_takes", "_law_cell", "_law_one", "_law_other"]
theorem sc_law : FnScope N_law ["_law_script"] (defScope s_law) := ⟨rfl, rfl, rfl, by decide +kernel, rfl, by decide +kernel, by decide +kernel⟩
set_option maxHeartbeats 0 in
structure Facts (K : PySem.W.Frag) (mg : Str → Option Value) where
  a_is_bound : Addr
  d_is_bound : FuncData
  a_Hold____init__ : Addr
  d_Hold____init__ : FuncData
  a_Hold__many : Addr
  d_Hold__many : FuncData
  a_under : Addr
  d_under : FuncData
  a_Hold__ask_room : Addr
  d_Hold__ask_room : FuncData
  a_divisor : Addr
  d_divisor : FuncData
  a_fraction : Addr
  d_fraction : FuncData
  a_minus : Addr
  d_minus : FuncData
  a_plus : Addr
  d_plus : FuncData
  a_Hold__taken_share : Addr
  d_Hold__taken_share : FuncData
  a_Hold__share : Addr
  d_Hold__share : FuncData
  a_is_touching : Addr
  d_is_touching : FuncData
  a_part_by : Addr
  d_part_by : FuncData
  a_parts_of : Addr
  d_parts_of : FuncData
  a__law_parts : Addr
  d__law_parts : FuncData
  a__law_right : Addr
  d__law_right : FuncData
  a_do_rise : Addr
  d_do_rise : FuncData
  a_Hold__put_room : Addr
  d_Hold__put_room : FuncData
  a__law_cell_at : Addr
  d__law_cell_at : FuncData
  a_Hold__put_flow : Addr
  d_Hold__put_flow : FuncData
  a__law_part : Addr
  d__law_part : FuncData
  a__law_share : Addr
  d__law_share : FuncData
  a_law : Addr
  d_law : FuncData
  c_Hold : Addr
  av_NOUGHT_holds : Addr
  av_NOUGHT_parts : Addr
  av_ONE : Addr
  F_is_bound : Fun K "is_bound" "is_bound" s_is_bound a_is_bound d_is_bound
  b_is_bound : Binds K d_is_bound ["thing", "most"] []
  g_is_bound : mg "is_bound" = some (.ref a_is_bound)
  F_Hold____init__ : FunD K "__init__" "Hold.__init__" (defArgs s_Hold____init__) (defBody s_Hold____init__) (defScope s_Hold____init__) [.int (4), .int (0), .int (0)] [] a_Hold____init__ d_Hold____init__
  bd_Hold____init___1 : BindsD K d_Hold____init__ ["self", "most", "cap", "load"] [.int (4), .int (0), .int (0)]
  F_Hold__many : Fun K "many" "Hold.many" s_Hold__many a_Hold__many d_Hold__many
  b_Hold__many : Binds K d_Hold__many ["self"] []
  bd_Hold__many_1 : BindsD K d_Hold__many ["self"] []
  F_under : Fun K "under" "under" s_under a_under d_under
  b_under : Binds K d_under ["one", "other"] []
  g_under : mg "under" = some (.ref a_under)
  F_Hold__ask_room : Fun K "ask_room" "Hold.ask_room" s_Hold__ask_room a_Hold__ask_room d_Hold__ask_room
  b_Hold__ask_room : Binds K d_Hold__ask_room ["self", "room"] []
  bd_Hold__ask_room_2 : BindsD K d_Hold__ask_room ["self", "room"] []
  F_divisor : Fun K "divisor" "divisor" s_divisor a_divisor d_divisor
  b_divisor : Binds K d_divisor ["one", "other"] []
  g_divisor : mg "divisor" = some (.ref a_divisor)
  F_fraction : Fun K "fraction" "fraction" s_fraction a_fraction d_fraction
  b_fraction : Binds K d_fraction ["top", "bottom"] []
  g_fraction : mg "fraction" = some (.ref a_fraction)
  F_minus : Fun K "minus" "minus" s_minus a_minus d_minus
  b_minus : Binds K d_minus ["one", "other"] []
  g_minus : mg "minus" = some (.ref a_minus)
  F_plus : Fun K "plus" "plus" s_plus a_plus d_plus
  b_plus : Binds K d_plus ["one", "other"] []
  g_plus : mg "plus" = some (.ref a_plus)
  F_Hold__taken_share : Fun K "taken_share" "Hold.taken_share" s_Hold__taken_share a_Hold__taken_share d_Hold__taken_share
  b_Hold__taken_share : Binds K d_Hold__taken_share ["self", "room"] []
  bd_Hold__taken_share_2 : BindsD K d_Hold__taken_share ["self", "room"] []
  F_Hold__share : Fun K "share" "Hold.share" s_Hold__share a_Hold__share d_Hold__share
  b_Hold__share : Binds K d_Hold__share ["self", "into", "of"] []
  bd_Hold__share_3 : BindsD K d_Hold__share ["self", "into", "of"] []
  F_is_touching : Fun K "is_touching" "is_touching" s_is_touching a_is_touching d_is_touching
  b_is_touching : Binds K d_is_touching ["hold", "one", "other"] []
  g_is_touching : mg "is_touching" = some (.ref a_is_touching)
  F_part_by : Fun K "part_by" "part_by" s_part_by a_part_by d_part_by
  b_part_by : Binds K d_part_by ["hold", "first", "left"] []
  g_part_by : mg "part_by" = some (.ref a_part_by)
  F_parts_of : Fun K "parts_of" "parts_of" s_parts_of a_parts_of d_parts_of
  b_parts_of : Binds K d_parts_of ["hold"] []
  g_parts_of : mg "parts_of" = some (.ref a_parts_of)
  F__law_parts : Fun K "_law_parts" "_law_parts" s__law_parts a__law_parts d__law_parts
  b__law_parts : Binds K d__law_parts ["_law_many", "_law_takes"] []
  g__law_parts : mg "_law_parts" = some (.ref a__law_parts)
  F__law_right : Fun K "_law_right" "_law_right" s__law_right a__law_right d__law_right
  b__law_right : Binds K d__law_right ["_law_hold", "_law_takes"] []
  g__law_right : mg "_law_right" = some (.ref a__law_right)
  F_do_rise : Fun K "do_rise" "do_rise" s_do_rise a_do_rise d_do_rise
  b_do_rise : Binds K d_do_rise ["marks"] []
  g_do_rise : mg "do_rise" = some (.ref a_do_rise)
  F_Hold__put_room : Fun K "put_room" "Hold.put_room" s_Hold__put_room a_Hold__put_room d_Hold__put_room
  b_Hold__put_room : Binds K d_Hold__put_room ["self", "marks"] []
  bd_Hold__put_room_2 : BindsD K d_Hold__put_room ["self", "marks"] []
  F__law_cell_at : Fun K "_law_cell_at" "_law_cell_at" s__law_cell_at a__law_cell_at d__law_cell_at
  b__law_cell_at : Binds K d__law_cell_at ["_law_script", "_law_k"] []
  g__law_cell_at : mg "_law_cell_at" = some (.ref a__law_cell_at)
  F_Hold__put_flow : Fun K "put_flow" "Hold.put_flow" s_Hold__put_flow a_Hold__put_flow d_Hold__put_flow
  b_Hold__put_flow : Binds K d_Hold__put_flow ["self", "into", "of", "share"] []
  bd_Hold__put_flow_4 : BindsD K d_Hold__put_flow ["self", "into", "of", "share"] []
  F__law_part : Fun K "_law_part" "_law_part" s__law_part a__law_part d__law_part
  b__law_part : Binds K d__law_part ["_law_top", "_law_bottom"] []
  g__law_part : mg "_law_part" = some (.ref a__law_part)
  F__law_share : Fun K "_law_share" "_law_share" s__law_share a__law_share d__law_share
  b__law_share : Binds K d__law_share ["_law_cell"] []
  g__law_share : mg "_law_share" = some (.ref a__law_share)
  F_law : Fun K "law" "law" s_law a_law d_law
  b_law : Binds K d_law ["_law_script"] []
  g_law : mg "law" = some (.ref a_law)
  gv_NOUGHT_holds : mg "NOUGHT_holds" = some (.ref av_NOUGHT_holds)
  wv_NOUGHT_holds : WrT K av_NOUGHT_holds [.int 0, .int 1]
  gv_NOUGHT_parts : mg "NOUGHT_parts" = some (.ref av_NOUGHT_parts)
  wv_NOUGHT_parts : WrT K av_NOUGHT_parts [.int 0, .int 1]
  gv_ONE : mg "ONE" = some (.ref av_ONE)
  wv_ONE : WrT K av_ONE [.int 1, .int 1]
  z_abs : mg "abs" = none
  z_bool : mg "bool" = none
  z_int : mg "int" = none
  z_isinstance : mg "isinstance" = none
  z_len : mg "len" = none
  z_list : mg "list" = none
  z_range : mg "range" = none
  z_sorted : mg "sorted" = none
  gc_Hold : mg "Hold" = some (.ref c_Hold)
  cl_Hold : Cls K c_Hold
  n_Hold_cap : NoAttr K c_Hold "cap"
  n_Hold_load : NoAttr K c_Hold "load"
  n_Hold_most : NoAttr K c_Hold "most"
  n_Hold_my_flows : NoAttr K c_Hold "my_flows"
  n_Hold_my_marks : NoAttr K c_Hold "my_marks"
  n_Hold_my_skies : NoAttr K c_Hold "my_skies"
  n_Hold_my_stoves : NoAttr K c_Hold "my_stoves"
  M_Hold___init__ : Meth K c_Hold "__init__" a_Hold____init__
  M_Hold_ask_room : Meth K c_Hold "ask_room" a_Hold__ask_room
  M_Hold_many : Meth K c_Hold "many" a_Hold__many
  M_Hold_put_flow : Meth K c_Hold "put_flow" a_Hold__put_flow
  M_Hold_put_room : Meth K c_Hold "put_room" a_Hold__put_room
  M_Hold_share : Meth K c_Hold "share" a_Hold__share
  M_Hold_taken_share : Meth K c_Hold "taken_share" a_Hold__taken_share
  mk_Hold : Mk K c_Hold a_Hold____init__
section
variable {P : Program} {w : World} {K : PySem.W.Frag} {mg : Str → Option Value} {base : Heap}
def th (P : Program) (w : World) (Fx : Facts K mg) : Th := ⟨K, P, w, fun k => match k with
  | 0 => Fx.c_Hold
  | _ => 0, 0, fmL, [], fun _ => default⟩
variable (Fx : Facts K mg)
theorem Facts.fld_cap : FldOk K (th P w Fx) [0] "cap" := (fldok_cons ⟨Fx.cl_Hold, Fx.n_Hold_cap⟩ fldok_nil)
theorem Facts.fld_load : FldOk K (th P w Fx) [0] "load" := (fldok_cons ⟨Fx.cl_Hold, Fx.n_Hold_load⟩ fldok_nil)
theorem Facts.fld_most : FldOk K (th P w Fx) [0] "most" := (fldok_cons ⟨Fx.cl_Hold, Fx.n_Hold_most⟩ fldok_nil)
theorem Facts.fld_my_flows : FldOk K (th P w Fx) [0] "my_flows" := (fldok_cons ⟨Fx.cl_Hold, Fx.n_Hold_my_flows⟩ fldok_nil)
theorem Facts.fld_my_marks : FldOk K (th P w Fx) [0] "my_marks" := (fldok_cons ⟨Fx.cl_Hold, Fx.n_Hold_my_marks⟩ fldok_nil)
theorem Facts.fld_my_skies : FldOk K (th P w Fx) [0] "my_skies" := (fldok_cons ⟨Fx.cl_Hold, Fx.n_Hold_my_skies⟩ fldok_nil)
theorem Facts.fld_my_stoves : FldOk K (th P w Fx) [0] "my_stoves" := (fldok_cons ⟨Fx.cl_Hold, Fx.n_Hold_my_stoves⟩ fldok_nil)
theorem ok_is_bound : FnOk P w K mg base (L2.CX P w) 1 Fx.a_is_bound Fx.d_is_bound ["thing", "most"] (spD (th P w Fx) 2 (sgS 2) f_is_bound) :=
  fn_okSR (N := N_is_bound) (B := m_is_bound) (Γ' := (ΓS 2)) (okRule_fun Fx.F_is_bound) sc_is_bound rfl (by decide) fun cdv A outer s H E hr =>
    (xb_one (xs_ret gp_s gp_s rfl (xe_and (xe_isi (n := "int") rfl (xv (pv 0)) (fun h => pe_callB call_isi (by rfl) Fx.z_isinstance PyProof.Rows.boot_isinstance (pa_cons h (pa_cons (pe_bltn (v := .ty "int") (by rfl) Fx.z_int (by decide +kernel) rfl) pa_nil)))) (xe_and (xe_not (xe_isi (n := "bool") rfl (xv (pv 0)) (fun h => pe_callB call_isi (by rfl) Fx.z_isinstance PyProof.Rows.boot_isinstance (pa_cons h (pa_cons (pe_bltn (v := .ty "bool") (by rfl) Fx.z_bool (by decide +kernel) rfl) pa_nil))))) (xe_and1 (xe_chain ok_le ok_le xe_int (xv (pv 0)) (xv (pv 1)) (fun h h2 h3 => pe_chain op_le op_le h h2 h3))))) (fun h => ps_ret h)))
theorem ok_Hold____init__ : FnOk P w K mg base (L2.CX P w) 2 Fx.a_Hold____init__ Fx.d_Hold____init__ ["self", "most", "cap", "load"] (spD (th P w Fx) 4 (sgS 4) f_Hold____init__) :=
  fn_okSR (N := N_Hold____init__) (B := m_Hold____init__) (Γ' := (ΓS 4)) (okRule_funD Fx.F_Hold____init__) sc_Hold____init__ rfl (by decide) fun cdv A outer s H E hr =>
    (xb_cons (xs_if gp_s (PW.pt (xw_or (xt_not (xt_val (xe_callS (ok_is_bound Fx) rfl (la1 (la1 la0)) (xl_cons (xv (pv 1)) (xl_cons xe_int xl_nil (fun h h2 => pa_cons h h2)) (fun h h2 => pa_cons h h2)) (fun h => pe_callS (ok_is_bound Fx) (hr.mono (by decide)) (by rfl) Fx.g_is_bound Fx.F_is_bound.kp Fx.b_is_bound (fun σ => passAt (takes_of rfl rfl rfl rfl) σ) h)) (fun h => .inl (pt_val h)))) (xw_or (xt_not (xt_val (xe_callS (ok_is_bound Fx) rfl (la1 (la1 la0)) (xl_cons (xv (pv 2)) (xl_cons xe_int xl_nil (fun h h2 => pa_cons h h2)) (fun h h2 => pa_cons h h2)) (fun h => pe_callS (ok_is_bound Fx) (hr.mono (by decide)) (by rfl) Fx.g_is_bound Fx.F_is_bound.kp Fx.b_is_bound (fun σ => passAt (takes_of rfl rfl rfl rfl) σ) h)) (fun h => .inl (pt_val h)))) (xw_or1 (xt_not (xt_val (xe_callS (ok_is_bound Fx) rfl (la1 (la1 la0)) (xl_cons (xv (pv 3)) (xl_cons xe_int xl_nil (fun h h2 => pa_cons h h2)) (fun h h2 => pa_cons h h2)) (fun h => pe_callS (ok_is_bound Fx) (hr.mono (by decide)) (by rfl) Fx.g_is_bound Fx.F_is_bound.kp Fx.b_is_bound (fun σ => passAt (takes_of rfl rfl rfl rfl) σ) h)) (fun h => .inl (pt_val h)))))))) (xb_one (xs_no ps_never))
    xb_nil)
    (xb_cons (xs_fldS rfl Fx.fld_most gp_s (xc_var (pv 0) rep_s) (xv (pv 1)) (fun ho hv => ps_fld ho hv rfl))
    (xb_cons (xs_fldS rfl Fx.fld_cap gp_s (xc_var (pv 0) rep_s) (xv (pv 2)) (fun ho hv => ps_fld ho hv rfl))
    (xb_cons (xs_fldS rfl Fx.fld_load gp_s (xc_var (pv 0) rep_s) (xv (pv 3)) (fun ho hv => ps_fld ho hv rfl))
    (xb_cons (xs_fldF (k := 1) rfl Fx.fld_my_marks gp_s (xc_var (pv 0) rep_s) (xf_ofNC xnc_nil) (fun ho hv => ps_fld ho hv rfl))
    (xb_cons (xs_fldF (k := 2) rfl Fx.fld_my_flows gp_s (xc_var (pv 0) rep_s) (xf_ofNC xnc_nil) (fun ho hv => ps_fld ho hv rfl))
    (xb_cons (xs_fldF (k := 1) rfl Fx.fld_my_skies gp_s (xc_var (pv 0) rep_s) (xf_ofNC xnc_nil) (fun ho hv => ps_fld ho hv rfl))
    (xb_one (xs_fldF (k := 1) rfl Fx.fld_my_stoves gp_s (xc_var (pv 0) rep_s) (xf_ofNC xnc_nil) (fun ho hv => ps_fld ho hv rfl))))))))))
theorem ok_Hold__many : FnOk P w K mg base (L2.CX P w) 1 Fx.a_Hold__many Fx.d_Hold__many ["self"] (spD (th P w Fx) 1 (sgS 1) f_Hold__many) :=
  fn_okSR (N := N_Hold__many) (B := m_Hold__many) (Γ' := (ΓS 1)) (okRule_fun Fx.F_Hold__many) sc_Hold__many rfl (by decide) fun cdv A outer s H E hr =>
    (xb_one (xs_ret gp_s gp_s rfl (xe_ofC (xc_flat (xv_L ok_len (xvl_cons (xv_fld Fx.fld_my_marks (xc_var (pv 0) rep_s) (fun h => pe_fld h rfl)) xvl_nil (fun h h2 => pa_cons h h2)) (fun h => pe_callB call_lenA (by rfl) Fx.z_len PySem.boot_len h)))) (fun h => ps_ret h)))
theorem ok_under : FnOk P w K mg base (L2.CX P w) 1 Fx.a_under Fx.d_under ["one", "other"] (spD (th P w Fx) 2 (sgS 2) f_under) :=
  fn_okSR (N := N_under) (B := m_under) (Γ' := (ΓS 2)) (okRule_fun Fx.F_under) sc_under rfl (by decide) fun cdv A outer s H E hr =>
    (xb_one (xs_ret gp_s gp_s rfl (xe_op ok_lt (xe_op ok_mul (xe_op ok_ix (xv (pv 0)) xe_int (fun h h2 => pe_ix ix_A h h2 (fun _ _ => rfl))) (xe_op ok_ix (xv (pv 1)) xe_int (fun h h2 => pe_ix ix_A h h2 (fun _ _ => rfl))) (fun h h2 => pe_op op_mulA h h2)) (xe_op ok_mul (xe_op ok_ix (xv (pv 1)) xe_int (fun h h2 => pe_ix ix_A h h2 (fun _ _ => rfl))) (xe_op ok_ix (xv (pv 0)) xe_int (fun h h2 => pe_ix ix_A h h2 (fun _ _ => rfl))) (fun h h2 => pe_op op_mulA h h2)) (fun h h2 => pe_cmpR op_lt h h2 (nomark _))) (fun h => ps_ret h)))
theorem ok_Hold__ask_room : FnOk P w K mg base (L2.CX P w) 1 Fx.a_Hold__ask_room Fx.d_Hold__ask_room ["self", "room"] (spD (th P w Fx) 2 (sgS 2) f_Hold__ask_room) :=
  fn_okSR (N := N_Hold__ask_room) (B := m_Hold__ask_room) (Γ' := (ΓS 2)) (okRule_fun Fx.F_Hold__ask_room) sc_Hold__ask_room rfl (by decide) fun cdv A outer s H E hr =>
    (xb_one (xs_if gp_s (PW.pt (xw_or (xt_op ok_lt (xv (pv 1)) xe_int (fun h h2 => pt_cmpR op_lt h h2 (nomark _))) (xw_or1 (xt_op ok_ge (xv (pv 1)) (xe_ofC (xc_flat (xv_L ok_len (xvl_cons (xv_fld Fx.fld_my_marks (xc_var (pv 0) rep_s) (fun h => pe_fld h rfl)) xvl_nil (fun h h2 => pa_cons h h2)) (fun h => pe_callB call_lenA (by rfl) Fx.z_len PySem.boot_len h)))) (fun h h2 => pt_cmpR op_ge h h2 (nomark _)))))) (xb_one (xs_no ps_never))
    xb_nil))
theorem ok_divisor : FnOk P w K mg base (L2.CX P w) 1 Fx.a_divisor Fx.d_divisor ["one", "other"] (spD (th P w Fx) 2 (sgS 2) f_divisor) :=
  fn_okSR (N := N_divisor) (B := m_divisor) (Γ' := (ΓS 5)) (okRule_fun Fx.F_divisor) sc_divisor rfl (by decide) fun cdv A outer s H E hr =>
    (xb_cons (xs_set (i := 2) gp_s (xe_L ok_abs (xl_cons (xv (pv 0)) xl_nil (fun h h2 => pa_cons h h2)) (fun h => pe_callB call_abs (by rfl) Fx.z_abs PyProof.Rows.boot_abs h)) (fun h => ps_set (i := 2) (sc_divisor).nd rfl (Or.inl rfl) h) set_rep)
    (xb_cons (xs_set (i := 3) gp_s (xe_L ok_abs (xl_cons (xv (pv 1)) xl_nil (fun h h2 => pa_cons h h2)) (fun h => pe_callB call_abs (by rfl) Fx.z_abs PyProof.Rows.boot_abs h)) (fun h => ps_set (i := 3) (sc_divisor).nd rfl (Or.inl rfl) h) set_rep)
    (xb_cons (xs_while gp_s (passes_of rfl) (xt_op ok_ne (xv (pv 3)) xe_int (fun h h2 => pt_cmpR (op_neD hr.units) h h2 (nomark _))) (xb_cons (xs_set (i := 4) gp_s (xe_op ok_mod (xv (pv 2)) (xv (pv 3)) (fun h h2 => pe_op op_mod h h2)) (fun h => ps_set (i := 4) (sc_divisor).nd rfl (Or.inl rfl) h) set_rep)
    (xb_cons (xs_set (i := 2) gp_s (xv (pv 3)) (fun h => ps_set (i := 2) (sc_divisor).nd rfl (Or.inl rfl) h) set_rep)
    (xb_one (xs_set (i := 3) gp_s (xv (pv 4)) (fun h => ps_set (i := 3) (sc_divisor).nd rfl (Or.inl rfl) h) set_rep)))))
    (xb_one (xs_ret gp_s gp_s rfl (xv (pv 2)) (fun h => ps_ret h))))))
theorem ok_fraction : FnOk P w K mg base (L2.CX P w) 2 Fx.a_fraction Fx.d_fraction ["top", "bottom"] (spD (th P w Fx) 2 (sgS 2) f_fraction) :=
  fn_okSR (N := N_fraction) (B := m_fraction) (Γ' := (ΓS 3)) (okRule_fun Fx.F_fraction) sc_fraction rfl (by decide) fun cdv A outer s H E hr =>
    (xb_cons (xs_if gp_s (xt_op ok_eq (xv (pv 1)) xe_int (fun h h2 => pt_cmpR (op_eqD hr.units) h h2 (nomark _))) (xb_one (xs_no ps_never))
    xb_nil)
    (xb_cons (xs_set (i := 2) gp_s (xe_callS (ok_divisor Fx) rfl (la1 (la1 la0)) (xl_cons (xv (pv 0)) (xl_cons (xv (pv 1)) xl_nil (fun h h2 => pa_cons h h2)) (fun h h2 => pa_cons h h2)) (fun h => pe_callS (ok_divisor Fx) (hr.mono (by decide)) (by rfl) Fx.g_divisor Fx.F_divisor.kp Fx.b_divisor (fun σ => passAt (takes_of rfl rfl rfl rfl) σ) h)) (fun h => ps_set (i := 2) (sc_fraction).nd rfl (Or.inl rfl) h) set_rep)
    (xb_cons (xs_if gp_s (xt_op ok_lt (xv (pv 1)) xe_int (fun h h2 => pt_cmpR op_lt h h2 (nomark _))) (xb_one (xs_set (i := 2) gp_s (xe_un ok_neg (xv (pv 2)) (fun h => pe_un un_neg h)) (fun h => ps_set (i := 2) (sc_fraction).nd rfl (Or.inl rfl) h) set_rep))
    xb_nil)
    (xb_one (xs_ret gp_s gp_s rfl (xe_tup (xl_cons (xe_op ok_div (xv (pv 0)) (xv (pv 2)) (fun h h2 => pe_op op_fdivA h h2)) (xl_cons (xe_op ok_div (xv (pv 1)) (xv (pv 2)) (fun h h2 => pe_op op_fdivA h h2)) xl_nil (fun h h2 => pa_cons h h2)) (fun h h2 => pa_cons h h2))) (fun h => ps_ret h))))))
theorem ok_minus : FnOk P w K mg base (L2.CX P w) 3 Fx.a_minus Fx.d_minus ["one", "other"] (spD (th P w Fx) 2 (sgS 2) f_minus) :=
  fn_okSR (N := N_minus) (B := m_minus) (Γ' := (ΓS 2)) (okRule_fun Fx.F_minus) sc_minus rfl (by decide) fun cdv A outer s H E hr =>
    (xb_one (xs_ret gp_s gp_s rfl (xe_callS (ok_fraction Fx) rfl (la1 (la1 la0)) (xl_cons (xe_op ok_sub (xe_op ok_mul (xe_op ok_ix (xv (pv 0)) xe_int (fun h h2 => pe_ix ix_A h h2 (fun _ _ => rfl))) (xe_op ok_ix (xv (pv 1)) xe_int (fun h h2 => pe_ix ix_A h h2 (fun _ _ => rfl))) (fun h h2 => pe_op op_mulA h h2)) (xe_op ok_mul (xe_op ok_ix (xv (pv 1)) xe_int (fun h h2 => pe_ix ix_A h h2 (fun _ _ => rfl))) (xe_op ok_ix (xv (pv 0)) xe_int (fun h h2 => pe_ix ix_A h h2 (fun _ _ => rfl))) (fun h h2 => pe_op op_mulA h h2)) (fun h h2 => pe_op op_sub h h2)) (xl_cons (xe_op ok_mul (xe_op ok_ix (xv (pv 0)) xe_int (fun h h2 => pe_ix ix_A h h2 (fun _ _ => rfl))) (xe_op ok_ix (xv (pv 1)) xe_int (fun h h2 => pe_ix ix_A h h2 (fun _ _ => rfl))) (fun h h2 => pe_op op_mulA h h2)) xl_nil (fun h h2 => pa_cons h h2)) (fun h h2 => pa_cons h h2)) (fun h => pe_callS (ok_fraction Fx) (hr.mono (by decide)) (by rfl) Fx.g_fraction Fx.F_fraction.kp Fx.b_fraction (fun σ => passAt (takes_of rfl rfl rfl rfl) σ) h)) (fun h => ps_ret h)))
theorem ok_plus : FnOk P w K mg base (L2.CX P w) 3 Fx.a_plus Fx.d_plus ["one", "other"] (spD (th P w Fx) 2 (sgS 2) f_plus) :=
  fn_okSR (N := N_plus) (B := m_plus) (Γ' := (ΓS 2)) (okRule_fun Fx.F_plus) sc_plus rfl (by decide) fun cdv A outer s H E hr =>
    (xb_one (xs_ret gp_s gp_s rfl (xe_callS (ok_fraction Fx) rfl (la1 (la1 la0)) (xl_cons (xe_op ok_add (xe_op ok_mul (xe_op ok_ix (xv (pv 0)) xe_int (fun h h2 => pe_ix ix_A h h2 (fun _ _ => rfl))) (xe_op ok_ix (xv (pv 1)) xe_int (fun h h2 => pe_ix ix_A h h2 (fun _ _ => rfl))) (fun h h2 => pe_op op_mulA h h2)) (xe_op ok_mul (xe_op ok_ix (xv (pv 1)) xe_int (fun h h2 => pe_ix ix_A h h2 (fun _ _ => rfl))) (xe_op ok_ix (xv (pv 0)) xe_int (fun h h2 => pe_ix ix_A h h2 (fun _ _ => rfl))) (fun h h2 => pe_op op_mulA h h2)) (fun h h2 => pe_op op_addA h h2)) (xl_cons (xe_op ok_mul (xe_op ok_ix (xv (pv 0)) xe_int (fun h h2 => pe_ix ix_A h h2 (fun _ _ => rfl))) (xe_op ok_ix (xv (pv 1)) xe_int (fun h h2 => pe_ix ix_A h h2 (fun _ _ => rfl))) (fun h h2 => pe_op op_mulA h h2)) xl_nil (fun h h2 => pa_cons h h2)) (fun h h2 => pa_cons h h2)) (fun h => pe_callS (ok_fraction Fx) (hr.mono (by decide)) (by rfl) Fx.g_fraction Fx.F_fraction.kp Fx.b_fraction (fun σ => passAt (takes_of rfl rfl rfl rfl) σ) h)) (fun h => ps_ret h)))
theorem ok_Hold__taken_share : FnOk P w K mg base (L2.CX P w) 4 Fx.a_Hold__taken_share Fx.d_Hold__taken_share ["self", "room"] (spD (th P w Fx) 2 (sgS 2) f_Hold__taken_share) :=
  fn_okSR (N := N_Hold__taken_share) (B := m_Hold__taken_share) (Γ' := (ΓS 4)) (okRule_fun Fx.F_Hold__taken_share) sc_Hold__taken_share rfl (by decide) fun cdv A outer s H E hr =>
    (xb_cons (xs_set (i := 2) gp_s (xe_op ok_ix (xe_ofC (xc_at rfl (xp_ix rfl rfl (xp_fld Fx.fld_my_skies (xc_var (pv 0) rep_s) (fun h => pe_fld h rfl)) (xc_var (pv 1) rep_s) (fun h h2 => pe_ix ix_A h h2 (fun _ _ => rfl))))) xe_int (fun h h2 => pe_ix ix_A h h2 (fun _ _ => rfl))) (fun h => ps_set (i := 2) (sc_Hold__taken_share).nd rfl (Or.inl rfl) h) set_rep)
    (xb_cons (xs_forP (is := [3]) rfl rfl gp_s (passes_of rfl) rfl (xp_ix rfl rfl (xp_fld Fx.fld_my_flows (xc_var (pv 0) rep_s) (fun h => pe_fld h rfl)) (xc_var (pv 1) rep_s) (fun h h2 => pe_ix ix_A h h2 (fun _ _ => rfl))) (pg_name (i := 3) (sc_Hold__taken_share).nd rfl (Or.inl rfl)) (tg_name set_rep) (xbc_one (xsc_set (i := 2) gp_s (xc_call0 (ok_plus Fx) (fun i => by left; exact rep_s) (la1 (la1 la0)) (xcl_cons (xc_var (pv 2) rep_s) (xcl_cons (xc_var (pv 3) rep_s) xcl_nil (fun h h2 => pa_cons h h2)) (fun h h2 => pa_cons h h2)) (fun h => pe_callS (ok_plus Fx) (hr.mono (by decide)) (by rfl) Fx.g_plus Fx.F_plus.kp Fx.b_plus (fun σ => passAt (takes_of rfl rfl rfl rfl) σ) h)) (fun h => ps_set (i := 2) (sc_Hold__taken_share).nd rfl (Or.inl rfl) h) set_rep)) (fun ho => pi_list ho))
    (xb_one (xs_ret gp_s gp_s rfl (xv (pv 2)) (fun h => ps_ret h)))))
theorem ok_Hold__share : FnOk P w K mg base (L2.CX P w) 6 Fx.a_Hold__share Fx.d_Hold__share ["self", "into", "of"] (spD (th P w Fx) 3 (sgS 3) f_Hold__share) :=
  fn_okSR (N := N_Hold__share) (B := m_Hold__share) (Γ' := (ΓS 3)) (okRule_fun Fx.F_Hold__share) sc_Hold__share rfl (by decide) fun cdv A outer s H E hr =>
    (xb_cons (xs_drop gp_s (xe_of (xf_meth (bs := [false]) (dvs := []) (fun _ _ => .nil) sgS_rows (la1 la0) rfl (tbl_cons ⟨Fx.cl_Hold, _, Fx.M_Hold_ask_room, def1_ofD (ok_Hold__ask_room Fx) (hr.mono (by decide)) Fx.bd_Hold__ask_room_2⟩ tbl_nil) (xv (pv 0)) (xm_s (xv (pv 1)) xm_nil (fun h h2 => pa_cons h h2)) (fun ho M h => pe_methD ho M (fun σ => passAt (takes_of rfl rfl rfl rfl) σ) h))) (fun h => ps_expr h))
    (xb_cons (xs_drop gp_s (xe_of (xf_meth (bs := [false]) (dvs := []) (fun _ _ => .nil) sgS_rows (la1 la0) rfl (tbl_cons ⟨Fx.cl_Hold, _, Fx.M_Hold_ask_room, def1_ofD (ok_Hold__ask_room Fx) (hr.mono (by decide)) Fx.bd_Hold__ask_room_2⟩ tbl_nil) (xv (pv 0)) (xm_s (xv (pv 2)) xm_nil (fun h h2 => pa_cons h h2)) (fun ho M h => pe_methD ho M (fun σ => passAt (takes_of rfl rfl rfl rfl) σ) h))) (fun h => ps_expr h))
    (xb_cons (xs_if gp_s (xt_op ok_eq (xv (pv 1)) (xv (pv 2)) (fun h h2 => pt_cmpR (op_eqD hr.units) h h2 (nomark _))) (xb_one (xs_ret gp_s gp_s rfl (xe_callS (ok_minus Fx) rfl (la1 (la1 la0)) (xl_cons (xe_c (pe_glob (v := .ref Fx.av_ONE) (by rfl) Fx.gv_ONE rfl) (fun _ _ => shr_wrt (ns := [1, 1]) Fx.wv_ONE)) (xl_cons (xe_of (xf_meth (bs := [false]) (dvs := []) (fun _ _ => .nil) sgS_rows (la1 la0) rfl (tbl_cons ⟨Fx.cl_Hold, _, Fx.M_Hold_taken_share, def1_ofD (ok_Hold__taken_share Fx) (hr.mono (by decide)) Fx.bd_Hold__taken_share_2⟩ tbl_nil) (xv (pv 0)) (xm_s (xv (pv 1)) xm_nil (fun h h2 => pa_cons h h2)) (fun ho M h => pe_methD ho M (fun σ => passAt (takes_of rfl rfl rfl rfl) σ) h))) xl_nil (fun h h2 => pa_cons h h2)) (fun h h2 => pa_cons h h2)) (fun h => pe_callS (ok_minus Fx) (hr.mono (by decide)) (by rfl) Fx.g_minus Fx.F_minus.kp Fx.b_minus (fun σ => passAt (takes_of rfl rfl rfl rfl) σ) h)) (fun h => ps_ret h)))
    xb_nil)
    (xb_one (xs_ret gp_s gp_s rfl (xe_ofC (xc_at rfl (xp_ix rfl rfl (xp_ix rfl rfl (xp_fld Fx.fld_my_flows (xc_var (pv 0) rep_s) (fun h => pe_fld h rfl)) (xc_var (pv 1) rep_s) (fun h h2 => pe_ix ix_A h h2 (fun _ _ => rfl))) (xc_var (pv 2) rep_s) (fun h h2 => pe_ix ix_A h h2 (fun _ _ => rfl))))) (fun h => ps_ret h))))))
theorem ok_is_touching : FnOk P w K mg base (L2.CX P w) 8 Fx.a_is_touching Fx.d_is_touching ["hold", "one", "other"] (spD (th P w Fx) 3 (sgS 3) f_is_touching) :=
  fn_okSR (N := N_is_touching) (B := m_is_touching) (Γ' := (ΓS 3)) (okRule_fun Fx.F_is_touching) sc_is_touching rfl (by decide) fun cdv A outer s H E hr =>
    (xb_one (xs_ret gp_s gp_s rfl (xe_or (xe_callS (ok_under Fx) rfl (la1 (la1 la0)) (xl_cons (xe_c (pe_glob (v := .ref Fx.av_NOUGHT_parts) (by rfl) Fx.gv_NOUGHT_parts rfl) (fun _ _ => shr_wrt (ns := [0, 1]) Fx.wv_NOUGHT_parts)) (xl_cons (xe_of (xf_meth (bs := [false, false]) (dvs := []) (fun _ _ => .nil) sgS_rows (la1 (la1 la0)) rfl (tbl_cons ⟨Fx.cl_Hold, _, Fx.M_Hold_share, def1_ofD (ok_Hold__share Fx) (hr.mono (by decide)) Fx.bd_Hold__share_3⟩ tbl_nil) (xv (pv 0)) (xm_s (xv (pv 1)) (xm_s (xv (pv 2)) xm_nil (fun h h2 => pa_cons h h2)) (fun h h2 => pa_cons h h2)) (fun ho M h => pe_methD ho M (fun σ => passAt (takes_of rfl rfl rfl rfl) σ) h))) xl_nil (fun h h2 => pa_cons h h2)) (fun h h2 => pa_cons h h2)) (fun h => pe_callS (ok_under Fx) (hr.mono (by decide)) (by rfl) Fx.g_under Fx.F_under.kp Fx.b_under (fun σ => passAt (takes_of rfl rfl rfl rfl) σ) h)) (xe_and1 (xe_callS (ok_under Fx) rfl (la1 (la1 la0)) (xl_cons (xe_c (pe_glob (v := .ref Fx.av_NOUGHT_parts) (by rfl) Fx.gv_NOUGHT_parts rfl) (fun _ _ => shr_wrt (ns := [0, 1]) Fx.wv_NOUGHT_parts)) (xl_cons (xe_of (xf_meth (bs := [false, false]) (dvs := []) (fun _ _ => .nil) sgS_rows (la1 (la1 la0)) rfl (tbl_cons ⟨Fx.cl_Hold, _, Fx.M_Hold_share, def1_ofD (ok_Hold__share Fx) (hr.mono (by decide)) Fx.bd_Hold__share_3⟩ tbl_nil) (xv (pv 0)) (xm_s (xv (pv 2)) (xm_s (xv (pv 1)) xm_nil (fun h h2 => pa_cons h h2)) (fun h h2 => pa_cons h h2)) (fun ho M h => pe_methD ho M (fun σ => passAt (takes_of rfl rfl rfl rfl) σ) h))) xl_nil (fun h h2 => pa_cons h h2)) (fun h h2 => pa_cons h h2)) (fun h => pe_callS (ok_under Fx) (hr.mono (by decide)) (by rfl) Fx.g_under Fx.F_under.kp Fx.b_under (fun σ => passAt (takes_of rfl rfl rfl rfl) σ) h)))) (fun h => ps_ret h)))
theorem ok_part_by : FnOk P w K mg base (L2.CX P w) 9 Fx.a_part_by Fx.d_part_by ["hold", "first", "left"] (spD (th P w Fx) 3 ⟨[.s, .s, .p 1], 1⟩ f_part_by) :=
  fn_okPR (N := N_part_by) (B := m_part_by) (Γ0 := [.s, .s, .p 1, .s, .s, .s]) (Γ' := [.s, .s, .p 1, .s, .s, .s]) (okRule_fun Fx.F_part_by) sc_part_by rfl (by decide) rfl rfl fun cdv A outer s H E hr =>
    (xb_cons (xs_own (Γ' := [.s, .s, .p 1, .o 1, .s, .s]) (i := 3) (k := 1) (gp_p rfl) (by decide) (xf_lst (xl_cons (xe_var (pv 1) rfl) xl_nil (fun h h2 => pa_cons h h2))) (fun h => ps_set (i := 3) (sc_part_by).nd rfl (Or.inl rfl) h) rfl)
    (xb_cons (xs_set (Γ' := [.s, .s, .p 1, .o 1, .s, .s]) (i := 4) (gp_p rfl) xe_int (fun h => ps_set (i := 4) (sc_part_by).nd rfl (Or.inl rfl) h) rfl)
    (xb_cons (xs_while (gp_p rfl) (passes_of rfl) (xt_op ok_lt (xe_var (pv 4) rfl) (xe_flat (xq_L ok_len (xql_cons (xq_varO (pv 3) rfl) xql_nil (fun h h2 => pa_cons h h2)) (fun h => pe_callB call_lenA (by rfl) Fx.z_len PySem.boot_len h))) (fun h h2 => pt_cmpR op_lt h h2 (nomark _))) (xb_cons (xs_for (is := [5]) (gp_p rfl) (passes_of rfl) rfl (xi_seq rfl (xe_of (k := 1) (xf_listO (i := 2) rfl True.intro (pv 2) (fun h => pe_callTy call_list_of (by rfl) Fx.z_list PyProof.Rows.boot_list (pa_cons h pa_nil))))) (pg_name (i := 5) (sc_part_by).nd rfl (Or.inl rfl)) (tg_name rfl) (xb_one (xs_if (gp_p rfl) (xt_val (xe_callS (ok_is_touching Fx) rfl (la1 (la1 (la1 la0))) (xl_cons (xe_var (pv 0) rfl) (xl_cons (xe_ofC (xc_oix (i := 3) trivial (pv 3) (xc_var (pv 4) rfl) (fun h h2 => pe_ix ix_A h h2 (fun _ _ => rfl)))) (xl_cons (xe_var (pv 5) rfl) xl_nil (fun h h2 => pa_cons h h2)) (fun h h2 => pa_cons h h2)) (fun h h2 => pa_cons h h2)) (fun h => pe_callS (ok_is_touching Fx) (hr.mono (by decide)) (by rfl) Fx.g_is_touching Fx.F_is_touching.kp Fx.b_is_touching (fun σ => passAt (takes_of rfl rfl rfl rfl) σ) h)) (fun h => .inl (pt_val h))) (xb_cons (xs_mut (i := 3) rfl (gp_p rfl) trivial ok_append (xl_cons (xe_var (pv 5) rfl) xl_nil (fun h h2 => pa_cons h h2)) (fun h => ps_expr (pe_bm PySem.F.plainAttrs_list PySem.F.slot_list_append PySem.F.type_list_append mt_append (pv 3) h)))
    (xb_one (xs_mut (i := 2) rfl (gp_p rfl) trivial ok_remove (xl_cons (xe_var (pv 5) rfl) xl_nil (fun h h2 => pa_cons h h2)) (fun h => ps_expr (pe_bm PySem.F.plainAttrs_list PySem.F.slot_list_remove PySem.F.type_list_remove mt_remove (pv 2) h)))))
    xb_nil)))
    (xb_one (xs_set (Γ' := [.s, .s, .p 1, .o 1, .s, .s]) (i := 4) (gp_p rfl) (xe_op ok_add (xe_var (pv 4) rfl) xe_int (fun h h2 => pe_op op_addA h h2)) (fun h => ps_set (i := 4) (sc_part_by).nd rfl (Or.inl rfl) h) rfl))))
    (xb_frz (i := 3) (k := 1) (Γ1 := [.s, .s, .p 1, .s, .s, .s]) rfl rfl (xb_one (xs_retF (gp_p rfl) (gp_p rfl) (xf_sort rfl (xe_var (pv 3) rfl) (fun h => pe_callB cr_sortedI (by rfl) Fx.z_sorted PyProof.Rows.boot_sorted (pa_cons h pa_nil))) (fun h => ps_ret h)))))))
theorem ok_parts_of : FnOk P w K mg base (L2.CX P w) 10 Fx.a_parts_of Fx.d_parts_of ["hold"] (spD (th P w Fx) 1 ⟨[.s], 2⟩ f_parts_of) :=
  fn_okGR (N := N_parts_of) (B := m_parts_of) (Γ0 := (ΓS 4)) (Γ' := (ΓS 4)) (okRule_fun Fx.F_parts_of) sc_parts_of rfl (by decide) rfl rfl fun cdv A outer s H E hr =>
    (xb_cons (xs_own (Γ' := [.s, .o 1, .s, .s]) (i := 1) (k := 1) (gp_n rfl) (by decide) (xf_lrange (xe_of (xf_meth (bs := []) (dvs := []) (fun _ _ => .nil) sgS_rows la0 rfl (tbl_cons ⟨Fx.cl_Hold, _, Fx.M_Hold_many, def1_ofD (ok_Hold__many Fx) (hr.mono (by decide)) Fx.bd_Hold__many_1⟩ tbl_nil) (xv (pv 0)) xm_nil (fun ho M h => pe_meth_nil (pe_methD0 ho M (fun σ => passAt (takes_of rfl rfl rfl rfl) σ))))) (fun h => pe_listRg rfl (by rfl) Fx.z_list (prg_1 (by rfl) Fx.z_range h))) (fun h => ps_set (i := 1) (sc_parts_of).nd rfl (Or.inl rfl) h) rfl)
    (xb_cons (xs_own (Γ' := [.s, .o 1, .o 2, .s]) (i := 2) (k := 2) (gp_n rfl) (by decide) (xf_lift (k := 0) (k' := 1) (xf_lst xl_nil)) (fun h => ps_set (i := 2) (sc_parts_of).nd rfl (Or.inl rfl) h) rfl)
    (xb_cons (xs_while (gp_n rfl) (passes_of rfl) (xt_truO (i := 1) rfl True.intro (pv 1)) (xb_cons (xs_mutset (Γ' := [.s, .o 1, .o 2, .s]) (i := 1) (j := 3) rfl (gp_n rfl) trivial ok_pop0 (xl_cons xe_int xl_nil (fun h h2 => pa_cons h h2)) (fun h => ps_set (i := 3) (sc_parts_of).nd rfl (Or.inl rfl) (pe_bm PySem.F.plainAttrs_list PySem.F.slot_list_pop PySem.F.type_list_pop mt_popAt (pv 1) h)) rfl)
    (xb_one (xs_appFP (m := 1) (i := 2) rfl (gp_n rfl) rfl (xpf_call (sg := ⟨[.s, .s, .p 1], 1⟩) (ks := [none, none, some (1, 1)]) (ok_part_by Fx) rfl (by decide) (ownA_of (ownr_s (ownr_s (ownr_p (.inl rfl) ownr_nil)))) (by decide) (la1 (la1 (la1 la0))) (xpa_s (xe_var (pv 0) rfl) (xpa_s (xe_var (pv 3) rfl) (xpa_p (pv 1) xpa_nil (fun h h2 => pa_cons h h2)) (fun h h2 => pa_cons h h2)) (fun h h2 => pa_cons h h2)) (fun h => pe_callS (ok_part_by Fx) (hr.mono (by decide)) (by rfl) Fx.g_part_by Fx.F_part_by.kp Fx.b_part_by (fun σ => passAt (takes_of rfl rfl rfl rfl) σ) h)) (fun h => ps_expr (pe_bm PySem.F.plainAttrs_list PySem.F.slot_list_append PySem.F.type_list_append mt_append (pv 2) (pa_cons h pa_nil)))))))
    (xb_frz (i := 1) (k := 1) (Γ1 := [.s, .s, .o 2, .s]) rfl rfl (xb_one (xs_retV (i := 2) (fun _ => (gp_n rfl)) (by decide) rfl rfl (ps_ret (pv 2))))))))
theorem ok__law_parts : FnOk P w K mg base (L2.CX P w) 1 Fx.a__law_parts Fx.d__law_parts ["_law_many", "_law_takes"] (spD (th P w Fx) 2 ⟨[.s, .l], 0⟩ f__law_parts) :=
  fn_okGR (N := N__law_parts) (B := m__law_parts) (Γ0 := [.s, .l, .s, .s, .s, .s, .s, .s, .s]) (Γ' := (ΓS 9)) (okRule_fun Fx.F__law_parts) sc__law_parts rfl (by decide) rfl rfl fun cdv A outer s H E hr =>
    (xb_cons (xs_set (Γ' := [.s, .l, .s, .s, .s, .s, .s, .s, .s]) (i := 2) (gp_n rfl) (xe_of (xf_lrange (xe_var (pv 0) rfl) (fun h => pe_listRg rfl (by rfl) Fx.z_list (prg_1 (by rfl) Fx.z_range h)))) (fun h => ps_set (i := 2) (sc__law_parts).nd rfl (Or.inl rfl) h) rfl)
    (xb_cons (xs_own (Γ' := [.s, .l, .s, .o 1, .s, .s, .s, .s, .s]) (i := 3) (k := 1) (gp_n rfl) (by decide) (xf_lst xl_nil) (fun h => ps_set (i := 3) (sc__law_parts).nd rfl (Or.inl rfl) h) rfl)
    (xb_cons (xs_while (gp_n rfl) (passes_of rfl) (xt_op ok_ne (xe_var (pv 2) rfl) (xe_lst xl_nil) (fun h h2 => pt_cmpR (op_neD hr.units) h h2 (nomark _))) (xb_cons (xs_set (Γ' := [.s, .l, .s, .o 1, .s, .s, .s, .s, .s]) (i := 4) (gp_n rfl) (xe_lst (xl_cons (xe_op ok_ix (xe_var (pv 2) rfl) xe_int (fun h h2 => pe_ix ix_A h h2 (fun _ _ => rfl))) xl_nil (fun h h2 => pa_cons h h2))) (fun h => ps_set (i := 4) (sc__law_parts).nd rfl (Or.inr rfl) h) rfl)
    (xb_cons (xs_set (Γ' := [.s, .l, .s, .o 1, .s, .s, .s, .s, .s]) (i := 5) (gp_n rfl) xe_bl (fun h => ps_set (i := 5) (sc__law_parts).nd rfl (Or.inl rfl) h) rfl)
    (xb_cons (xs_while (gp_n rfl) (passes_of rfl) (xt_tru (xe_var (pv 5) rfl) rfl) (xb_cons (xs_setP (Γ' := [.s, .l, .s, .o 1, .s, .s, .s, .s, .s]) (i := 6) (gp_n rfl) (ps_lcS (ps_lcX (is := [7]) (by decide) (tg_name rfl) (ps_setLc (own := [("_law_j", 7)]) (i := 6) rfl (sc__law_parts).nd rfl rfl (by rfl) (xif_of (xi_seq rfl (xe_var (pv 2) rfl))) (blkOk_by (own := [("_law_j", 7)]) (N := N__law_parts) (sc := defScope s__law_parts) (by decide +kernel)) (fun _ _ _ _ _ => (pg_name (i := 7) (sc__law_parts).nd rfl (Or.inr rfl))) (fun _ _ _ _ _ => (xts_one (PW.pt (xw_and (xt_op ok_in1 (xe_var (pv 7) rfl) (xe_var (pv 4) rfl) (fun h h2 => pt_cmpR op_notinA h h2 (by rfl))) (xw_and1 (xt_op ok_ne (xe_lc (own := [("_law_i", 8)]) (is := [8]) rfl (sc__law_parts).nd (xif_of (xi_seq rfl (xe_var (pv 4) rfl))) (blkOk_by (own := [("_law_i", 8)]) (by kernel_rfl)) (by decide) (fun _ _ _ _ _ => (pg_name (i := 8) (sc__law_parts).nd rfl (Or.inl rfl))) (tg_name rfl) (fun _ _ _ _ _ => (xts_one (PW.pt (xw_or (xt_qop ok_inD (xq_of (xe_tup (xl_cons (xe_var (pv 8) rfl) (xl_cons (xe_var (pv 7) rfl) xl_nil (fun h h2 => pa_cons h h2)) (fun h h2 => pa_cons h h2)))) (xq_varL (pv 1) rfl) (fun h h2 => pt_cmpR (op_inAD (room16 hr)) h h2 (by rfl))) (xw_or1 (xt_qop ok_inD (xq_of (xe_tup (xl_cons (xe_var (pv 7) rfl) (xl_cons (xe_var (pv 8) rfl) xl_nil (fun h h2 => pa_cons h h2)) (fun h h2 => pa_cons h h2)))) (xq_varL (pv 1) rfl) (fun h h2 => pt_cmpR (op_inAD (room16 hr)) h h2 (by rfl)))))))) (fun _ _ _ _ _ => (xe_var (pv 8) rfl))) (xe_lst xl_nil) (fun h h2 => pt_cmpR (op_neD hr.units) h h2 (nomark _)))))))) (fun _ _ _ _ _ => (xe_var (pv 7) rfl))))) rfl)
    (xb_cons (xs_set (Γ' := [.s, .l, .s, .o 1, .s, .s, .s, .s, .s]) (i := 4) (gp_n rfl) (xe_op ok_add (xe_var (pv 4) rfl) (xe_var (pv 6) rfl) (fun h h2 => pe_op op_addA h h2)) (fun h => ps_set (i := 4) (sc__law_parts).nd rfl (Or.inr rfl) h) rfl)
    (xb_one (xs_set (Γ' := [.s, .l, .s, .o 1, .s, .s, .s, .s, .s]) (i := 5) (gp_n rfl) (xe_op ok_ne (xe_var (pv 6) rfl) (xe_lst xl_nil) (fun h h2 => pe_cmpR (op_neD hr.units) h h2 (nomark _))) (fun h => ps_set (i := 5) (sc__law_parts).nd rfl (Or.inl rfl) h) rfl)))))
    (xb_cons (xs_mut (i := 3) rfl (gp_n rfl) trivial ok_append (xl_cons (xe_un ok_sort (xe_var (pv 4) rfl) (fun h => pe_callB cr_sortedI (by rfl) Fx.z_sorted PyProof.Rows.boot_sorted (pa_cons h pa_nil))) xl_nil (fun h h2 => pa_cons h h2)) (fun h => ps_expr (pe_bm PySem.F.plainAttrs_list PySem.F.slot_list_append PySem.F.type_list_append mt_append (pv 3) h)))
    (xb_one (xs_setP (Γ' := [.s, .l, .s, .o 1, .s, .s, .s, .s, .s]) (i := 2) (gp_n rfl) (ps_lcS (ps_lcX (is := [7]) (by decide) (tg_name rfl) (ps_setLc (own := [("_law_j", 7)]) (i := 2) rfl (sc__law_parts).nd rfl rfl (by rfl) (xif_of (xi_seq rfl (xe_var (pv 2) rfl))) (blkOk_by (own := [("_law_j", 7)]) (N := N__law_parts) (sc := defScope s__law_parts) (by decide +kernel)) (fun _ _ _ _ _ => (pg_name (i := 7) (sc__law_parts).nd rfl (Or.inl rfl))) (fun _ _ _ _ _ => (xts_one (xt_op ok_in1 (xe_var (pv 7) rfl) (xe_var (pv 4) rfl) (fun h h2 => pt_cmpR op_notinA h h2 (by rfl))))) (fun _ _ _ _ _ => (xe_var (pv 7) rfl))))) rfl)))))))
    (xb_frz (i := 3) (k := 1) (Γ1 := [.s, .l, .s, .s, .s, .s, .s, .s, .s]) rfl rfl (xb_one (xs_ret (gp_n rfl) (gp_n rfl) rfl (xe_var (pv 3) rfl) (fun h => ps_ret h)))))))
theorem ok__law_right : FnOk P w K mg base (L2.CX P w) 11 Fx.a__law_right Fx.d__law_right ["_law_hold", "_law_takes"] (spD (th P w Fx) 2 ⟨[.s, .l], 0⟩ f__law_right) :=
  fn_okGR (N := N__law_right) (B := m__law_right) (Γ0 := [.s, .l, .s, .s, .s, .s]) (Γ' := (ΓS 6)) (okRule_fun Fx.F__law_right) sc__law_right rfl (by decide) rfl rfl fun cdv A outer s H E hr =>
    (xb_cons (xs_own (Γ' := [.s, .l, .o 2, .s, .s, .s]) (i := 2) (k := 2) (gp_n rfl) (by decide) (xf_callM (sg := ⟨[.s], 2⟩) (bs := [false]) (ok_parts_of Fx) (mdOf_rows rfl) (la1 la0) (xm_s (xe_var (pv 0) rfl) xm_nil (fun h h2 => pa_cons h h2)) (fun h => pe_callS (ok_parts_of Fx) (hr.mono (by decide)) (by rfl) Fx.g_parts_of Fx.F_parts_of.kp Fx.b_parts_of (fun σ => passAt (takes_of rfl rfl rfl rfl) σ) h)) (fun h => ps_set (i := 2) (sc__law_right).nd rfl (Or.inl rfl) h) rfl)
    (xb_cons (xs_set (Γ' := [.s, .l, .o 2, .s, .s, .s]) (i := 3) (gp_n rfl) (xe_of (xf_callM (sg := ⟨[.s, .l], 0⟩) (bs := [false, true]) (ok__law_parts Fx) (mdOf_rows rfl) (la1 (la1 la0)) (xm_s (xe_of (xf_meth (bs := []) (dvs := []) (fun _ _ => .nil) sgS_rows la0 rfl (tbl_cons ⟨Fx.cl_Hold, _, Fx.M_Hold_many, def1_ofD (ok_Hold__many Fx) (hr.mono (by decide)) Fx.bd_Hold__many_1⟩ tbl_nil) (xe_var (pv 0) rfl) xm_nil (fun ho M h => pe_meth_nil (pe_methD0 ho M (fun σ => passAt (takes_of rfl rfl rfl rfl) σ))))) (xm_l (xq_varL (pv 1) rfl) xm_nil (fun h h2 => pa_cons h h2)) (fun h h2 => pa_cons h h2)) (fun h => pe_callS (ok__law_parts Fx) (hr.mono (by decide)) (by rfl) Fx.g__law_parts Fx.F__law_parts.kp Fx.b__law_parts (fun σ => passAt (takes_of rfl rfl rfl rfl) σ) h))) (fun h => ps_set (i := 3) (sc__law_right).nd rfl (Or.inl rfl) h) rfl)
    (xb_cons (xs_if (gp_n rfl) (PW.pt (xw_or (xt_not (xt_val (xe_flat (xq_isi (n := "list") rfl (xq_varO (pv 2) rfl) (fun h => pe_callB call_isi (by rfl) Fx.z_isinstance PyProof.Rows.boot_isinstance (pa_cons h (pa_cons (pe_bltn (v := .ty "list") (by rfl) Fx.z_list (by decide +kernel) rfl) pa_nil))))) (fun h => .inl (pt_val h)))) (xw_or1 (xt_qop ok_ne (xq_varO (pv 2) rfl) (xq_of (xe_var (pv 3) rfl)) (fun h h2 => pt_cmpR (op_neD hr.units) h h2 (nomark _)))))) (xb_frz (i := 2) (k := 2) (Γ1 := [.s, .l, .s, .s, .s, .s]) rfl rfl (xb_one (xs_ret (gp_n rfl) (gp_n rfl) rfl xe_bl (fun h => ps_ret h))))
    xb_nil)
    (xb_cons (xs_forget (j := 1) (xs_forR2 (i := 2) (i0 := 4) rfl rfl rfl (by decide) (by decide) (fun v => rfl) (fun v => rfl) (passes_of rfl) rfl (pv 2) (pg_name (i := 4) (sc__law_right).nd rfl (Or.inl rfl)) (fun v => (xb_one (xs_if ⟨(gp_n rfl), rfl⟩ (PW.pt (xw_or (xt_not (xt_val (xe_flat (xq_isi (n := "list") rfl (xq_varL (pv 4) rfl) (fun h => pe_callB call_isi (by rfl) Fx.z_isinstance PyProof.Rows.boot_isinstance (pa_cons h (pa_cons (pe_bltn (v := .ty "list") (by rfl) Fx.z_list (by decide +kernel) rfl) pa_nil))))) (fun h => .inl (pt_val h)))) (xw_or1 (xt_op ok_ne (xe_lc (own := [("_law_one", 5)]) (is := [5]) rfl (sc__law_right).nd (xif_seqW rfl (xw_varL (pv 4) rfl)) (blkOk_by (own := [("_law_one", 5)]) (N := N__law_right) (sc := defScope s__law_right) (by decide +kernel)) (by decide) (fun _ _ _ _ _ => (pg_name (i := 5) (sc__law_right).nd rfl (Or.inl rfl))) (tg_name rfl) (fun _ _ _ _ _ => (xts_one (xt_val (xe_isi (n := "bool") rfl (xe_var (pv 5) rfl) (fun h => pe_callB call_isi (by rfl) Fx.z_isinstance PyProof.Rows.boot_isinstance (pa_cons h (pa_cons (pe_bltn (v := .ty "bool") (by rfl) Fx.z_bool (by decide +kernel) rfl) pa_nil)))) (fun h => .inl (pt_val h))))) (fun _ _ _ _ _ => (xe_var (pv 5) rfl))) (xe_lst xl_nil) (fun h h2 => pt_cmpR (op_neD hr.units) h h2 (nomark _)))))) (xb_one (xs_ret ⟨(gp_n rfl), rfl⟩ ⟨(gp_n rfl), rfl⟩ rfl xe_bl (fun h => ps_ret h)))
    xb_nil)))))
    (xb_cons (xs_vmut (K := 2) (i := 2) rfl (gp_n rfl) (.inl rfl) ok_append (xpv_ix rfl (.inl rfl) (xpv_var (K := 2) (pv 2) (.inl rfl)) xc_int (fun h h2 => pe_ix ix_A h h2 (fun _ _ => rfl))) (xcl_cons xc_int xcl_nil (fun h h2 => pa_cons h h2)) (fun ho h => ps_expr (pe_bm PySem.F.plainAttrs_list PySem.F.slot_list_append PySem.F.type_list_append mt_append ho h)))
    (xb_cons (xs_appFP (m := 1) (i := 2) rfl (gp_n rfl) rfl (xepf_of (xf_lst (xl_cons xe_int xl_nil (fun h h2 => pa_cons h h2)))) (fun h => ps_expr (pe_bm PySem.F.plainAttrs_list PySem.F.slot_list_append PySem.F.type_list_append mt_append (pv 2) (pa_cons h pa_nil))))
    (xb_frz (i := 2) (k := 2) (Γ1 := (ΓS 6)) rfl rfl (xb_one (xs_ret (gp_n rfl) (gp_n rfl) rfl (xe_op ok_eq (xe_of (xf_callM (sg := ⟨[.s], 2⟩) (bs := [false]) (ok_parts_of Fx) (mdOf_rows rfl) (la1 la0) (xm_s (xv (pv 0)) xm_nil (fun h h2 => pa_cons h h2)) (fun h => pe_callS (ok_parts_of Fx) (hr.mono (by decide)) (by rfl) Fx.g_parts_of Fx.F_parts_of.kp Fx.b_parts_of (fun σ => passAt (takes_of rfl rfl rfl rfl) σ) h))) (xv (pv 3)) (fun h h2 => pe_cmpR (op_eqD hr.units) h h2 (nomark _))) (fun h => ps_ret h))))))))))
theorem ok_do_rise : FnOk P w K mg base (L2.CX P w) 2 Fx.a_do_rise Fx.d_do_rise ["marks"] (spD (th P w Fx) 1 (sgS 1) f_do_rise) :=
  fn_okSR (N := N_do_rise) (B := m_do_rise) (Γ' := (ΓS 2)) (okRule_fun Fx.F_do_rise) sc_do_rise rfl (by decide) fun cdv A outer s H E hr =>
    (xb_cons (xs_if gp_s (PW.pt (xw_or (xt_op ok_lt (xe_L ok_len (xl_cons (xv (pv 0)) xl_nil (fun h h2 => pa_cons h h2)) (fun h => pe_callB call_lenA (by rfl) Fx.z_len PySem.boot_len h)) xe_int (fun h h2 => pt_cmpR op_lt h h2 (nomark _))) (xw_or1 (xt_op ok_gt (xe_L ok_len (xl_cons (xv (pv 0)) xl_nil (fun h h2 => pa_cons h h2)) (fun h => pe_callB call_lenA (by rfl) Fx.z_len PySem.boot_len h)) xe_int (fun h h2 => pt_cmpR op_gt h h2 (nomark _)))))) (xb_one (xs_ret gp_s gp_s rfl xe_bl (fun h => ps_ret h)))
    xb_nil)
    (xb_cons (xs_for (is := [1]) gp_s (passes_of rfl) rfl (xi_range1 (xl_cons (xe_op ok_sub (xe_L ok_len (xl_cons (xv (pv 0)) xl_nil (fun h h2 => pa_cons h h2)) (fun h => pe_callB call_lenA (by rfl) Fx.z_len PySem.boot_len h)) xe_int (fun h h2 => pe_op op_sub h h2)) xl_nil (fun h h2 => pa_cons h h2)) (fun h => pi_range1 (by rfl) Fx.z_range h)) (pg_name (i := 1) (sc_do_rise).nd rfl (Or.inl rfl)) (tg_name set_rep) (xb_one (xs_if gp_s (xt_not (xt_val (xe_callS (ok_under Fx) rfl (la1 (la1 la0)) (xl_cons (xe_op ok_ix (xv (pv 0)) (xv (pv 1)) (fun h h2 => pe_ix ix_A h h2 (fun _ _ => rfl))) (xl_cons (xe_op ok_ix (xv (pv 0)) (xe_op ok_add (xv (pv 1)) xe_int (fun h h2 => pe_op op_addA h h2)) (fun h h2 => pe_ix ix_A h h2 (fun _ _ => rfl))) xl_nil (fun h h2 => pa_cons h h2)) (fun h h2 => pa_cons h h2)) (fun h => pe_callS (ok_under Fx) (hr.mono (by decide)) (by rfl) Fx.g_under Fx.F_under.kp Fx.b_under (fun σ => passAt (takes_of rfl rfl rfl rfl) σ) h)) (fun h => .inl (pt_val h)))) (xb_one (xs_ret gp_s gp_s rfl xe_bl (fun h => ps_ret h)))
    xb_nil)))
    (xb_one (xs_ret gp_s gp_s rfl xe_bl (fun h => ps_ret h)))))
theorem ok_Hold__put_room : FnOk P w K mg base (L2.CX P w) 3 Fx.a_Hold__put_room Fx.d_Hold__put_room ["self", "marks"] (spD (th P w Fx) 2 (sgS 2) f_Hold__put_room) :=
  fn_okSR (N := N_Hold__put_room) (B := m_Hold__put_room) (Γ' := (ΓS 5)) (okRule_fun Fx.F_Hold__put_room) sc_Hold__put_room rfl (by decide) fun cdv A outer s H E hr =>
    (xb_cons (xs_if gp_s (xt_op ok_eq (xe_ofC (xc_flat (xv_L ok_len (xvl_cons (xv_fld Fx.fld_my_marks (xc_var (pv 0) rep_s) (fun h => pe_fld h rfl)) xvl_nil (fun h h2 => pa_cons h h2)) (fun h => pe_callB call_lenA (by rfl) Fx.z_len PySem.boot_len h)))) xe_int (fun h h2 => pt_cmpR (op_eqD hr.units) h h2 (nomark _))) (xb_one (xs_no ps_never))
    xb_nil)
    (xb_cons (xs_if gp_s (xt_not (xt_val (xe_callS (ok_do_rise Fx) rfl (la1 la0) (xl_cons (xv (pv 1)) xl_nil (fun h h2 => pa_cons h h2)) (fun h => pe_callS (ok_do_rise Fx) (hr.mono (by decide)) (by rfl) Fx.g_do_rise Fx.F_do_rise.kp Fx.b_do_rise (fun σ => passAt (takes_of rfl rfl rfl rfl) σ) h)) (fun h => .inl (pt_val h)))) (xb_one (xs_no ps_never))
    xb_nil)
    (xb_cons (xs_set (i := 2) gp_s (xe_op ok_sub (xe_L ok_len (xl_cons (xv (pv 1)) xl_nil (fun h h2 => pa_cons h h2)) (fun h => pe_callB call_lenA (by rfl) Fx.z_len PySem.boot_len h)) xe_int (fun h h2 => pe_op op_sub h h2)) (fun h => ps_set (i := 2) (sc_Hold__put_room).nd rfl (Or.inl rfl) h) set_rep)
    (xb_cons (xs_forP (is := [3]) rfl rfl gp_s (passes_of rfl) rfl (xp_fld Fx.fld_my_marks (xc_var (pv 0) rep_s) (fun h => pe_fld h rfl)) (pg_name (i := 3) (sc_Hold__put_room).nd rfl (Or.inl rfl)) (tg_name set_rep) (xbc_one (xsc_set (i := 2) gp_s (xc_op ok_mul (xc_var (pv 2) rep_s) (xc_op ok_sub (xc_flat (xv_L ok_len (xvl_cons (xv_var (pv 3) (fun v h => by rw [rep_s] at h; cases h)) xvl_nil (fun h h2 => pa_cons h h2)) (fun h => pe_callB call_lenA (by rfl) Fx.z_len PySem.boot_len h))) xc_int (fun h h2 => pe_op op_sub h h2)) (fun h h2 => pe_op op_mulA h h2)) (fun h => ps_set (i := 2) (sc_Hold__put_room).nd rfl (Or.inl rfl) h) set_rep)) (fun ho => pi_list ho))
    (xb_cons (xs_if gp_s (xt_op ok_gt (xv (pv 2)) xe_int (fun h h2 => pt_cmpR op_gt h h2 (nomark _))) (xb_one (xs_no ps_never))
    xb_nil)
    (xb_cons (xs_forApp (i := 4) rfl rfl gp_s (fun _ _ => shr_wrt (ns := [0, 1]) Fx.wv_NOUGHT_holds) (xp_fld Fx.fld_my_flows (xc_var (pv 0) rep_s) (fun h => pe_fld h rfl)) (fun ho => ps_for (passes_of rfl) rfl (pi_list ho) (pg_name (i := 4) (sc_Hold__put_room).nd rfl (Or.inl rfl)) (pss_one (ps_expr (pe_bm PySem.F.plainAttrs_list PySem.F.slot_list_append PySem.F.type_list_append mt_append (pv 4) (pa_cons (pe_glob (v := .ref Fx.av_NOUGHT_holds) (by rfl) Fx.gv_NOUGHT_holds rfl) pa_nil))))))
    (xb_cons (xs_pmut rfl rfl gp_s ok_append (xp_fld Fx.fld_my_marks (xc_var (pv 0) rep_s) (fun h => pe_fld h rfl)) (xcl_cons (xc_un ok_list (xc_var (pv 1) rep_s) (fun h => pe_callTy call_list_of (by rfl) Fx.z_list PyProof.Rows.boot_list (pa_cons h pa_nil))) xcl_nil (fun h h2 => pa_cons h h2)) (fun ho h => ps_expr (pe_bm PySem.F.plainAttrs_list PySem.F.slot_list_append PySem.F.type_list_append mt_append ho h)))
    (xb_cons (xs_papp rfl rfl gp_s (xp_fld Fx.fld_my_flows (xc_var (pv 0) rep_s) (fun h => pe_fld h rfl)) (xnc_rep (xc_lst (xcl_cons (xc_of (pe_glob (v := .ref Fx.av_NOUGHT_holds) (by rfl) Fx.gv_NOUGHT_holds rfl) (fun _ _ => shr_wrt (ns := [0, 1]) Fx.wv_NOUGHT_holds)) xcl_nil (fun h h2 => pa_cons h h2))) (xc_flat (xv_L ok_len (xvl_cons (xv_fld Fx.fld_my_marks (xc_var (pv 0) rep_s) (fun h => pe_fld h rfl)) xvl_nil (fun h h2 => pa_cons h h2)) (fun h => pe_callB call_lenA (by rfl) Fx.z_len PySem.boot_len h))) (fun h h2 => pe_op op_rep h h2)) (fun ho h => ps_expr (pe_bm PySem.F.plainAttrs_list PySem.F.slot_list_append PySem.F.type_list_append mt_append ho (pa_cons h pa_nil))))
    (xb_cons (xs_pmut rfl rfl gp_s ok_append (xp_fld Fx.fld_my_skies (xc_var (pv 0) rep_s) (fun h => pe_fld h rfl)) (xcl_cons (xc_tup (xcl_cons (xc_of (pe_glob (v := .ref Fx.av_NOUGHT_holds) (by rfl) Fx.gv_NOUGHT_holds rfl) (fun _ _ => shr_wrt (ns := [0, 1]) Fx.wv_NOUGHT_holds)) (xcl_cons (xc_of (pe_glob (v := .ref Fx.av_NOUGHT_holds) (by rfl) Fx.gv_NOUGHT_holds rfl) (fun _ _ => shr_wrt (ns := [0, 1]) Fx.wv_NOUGHT_holds)) (xcl_cons (xc_of (pe_glob (v := .ref Fx.av_NOUGHT_holds) (by rfl) Fx.gv_NOUGHT_holds rfl) (fun _ _ => shr_wrt (ns := [0, 1]) Fx.wv_NOUGHT_holds)) xcl_nil (fun h h2 => pa_cons h h2)) (fun h h2 => pa_cons h h2)) (fun h h2 => pa_cons h h2))) xcl_nil (fun h h2 => pa_cons h h2)) (fun ho h => ps_expr (pe_bm PySem.F.plainAttrs_list PySem.F.slot_list_append PySem.F.type_list_append mt_append ho h)))
    (xb_cons (xs_pmut rfl rfl gp_s ok_append (xp_fld Fx.fld_my_stoves (xc_var (pv 0) rep_s) (fun h => pe_fld h rfl)) (xcl_cons xc_non xcl_nil (fun h h2 => pa_cons h h2)) (fun ho h => ps_expr (pe_bm PySem.F.plainAttrs_list PySem.F.slot_list_append PySem.F.type_list_append mt_append ho h)))
    (xb_one (xs_ret gp_s gp_s rfl (xe_op ok_sub (xe_ofC (xc_flat (xv_L ok_len (xvl_cons (xv_fld Fx.fld_my_marks (xc_var (pv 0) rep_s) (fun h => pe_fld h rfl)) xvl_nil (fun h h2 => pa_cons h h2)) (fun h => pe_callB call_lenA (by rfl) Fx.z_len PySem.boot_len h)))) xe_int (fun h h2 => pe_op op_sub h h2)) (fun h => ps_ret h)))))))))))))
theorem ok__law_cell_at : FnOk P w K mg base (L2.CX P w) 1 Fx.a__law_cell_at Fx.d__law_cell_at ["_law_script", "_law_k"] (spD (th P w Fx) 2 (sgS 2) f__law_cell_at) :=
  fn_okSR (N := N__law_cell_at) (B := m__law_cell_at) (Γ' := (ΓS 2)) (okRule_fun Fx.F__law_cell_at) sc__law_cell_at rfl (by decide) fun cdv A outer s H E hr =>
    (xb_cons (xs_if gp_s (xt_op ok_lt (xv (pv 1)) (xe_L ok_len (xl_cons (xv (pv 0)) xl_nil (fun h h2 => pa_cons h h2)) (fun h => pe_callB call_lenA (by rfl) Fx.z_len PySem.boot_len h)) (fun h h2 => pt_cmpR op_lt h h2 (nomark _))) (xb_one (xs_ret gp_s gp_s rfl (xe_op ok_ix (xv (pv 0)) (xv (pv 1)) (fun h h2 => pe_ix ix_A h h2 (fun _ _ => rfl))) (fun h => ps_ret h)))
    xb_nil)
    (xb_one (xs_ret gp_s gp_s rfl xe_int (fun h => ps_ret h))))
theorem ok_Hold__put_flow : FnOk P w K mg base (L2.CX P w) 6 Fx.a_Hold__put_flow Fx.d_Hold__put_flow ["self", "into", "of", "share"] (spD (th P w Fx) 4 (sgS 4) f_Hold__put_flow) :=
  fn_okSR (N := N_Hold__put_flow) (B := m_Hold__put_flow) (Γ' := (ΓS 5)) (okRule_fun Fx.F_Hold__put_flow) sc_Hold__put_flow rfl (by decide) fun cdv A outer s H E hr =>
    (xb_cons (xs_drop gp_s (xe_of (xf_meth (bs := [false]) (dvs := []) (fun _ _ => .nil) sgS_rows (la1 la0) rfl (tbl_cons ⟨Fx.cl_Hold, _, Fx.M_Hold_ask_room, def1_ofD (ok_Hold__ask_room Fx) (hr.mono (by decide)) Fx.bd_Hold__ask_room_2⟩ tbl_nil) (xv (pv 0)) (xm_s (xv (pv 1)) xm_nil (fun h h2 => pa_cons h h2)) (fun ho M h => pe_methD ho M (fun σ => passAt (takes_of rfl rfl rfl rfl) σ) h))) (fun h => ps_expr h))
    (xb_cons (xs_drop gp_s (xe_of (xf_meth (bs := [false]) (dvs := []) (fun _ _ => .nil) sgS_rows (la1 la0) rfl (tbl_cons ⟨Fx.cl_Hold, _, Fx.M_Hold_ask_room, def1_ofD (ok_Hold__ask_room Fx) (hr.mono (by decide)) Fx.bd_Hold__ask_room_2⟩ tbl_nil) (xv (pv 0)) (xm_s (xv (pv 2)) xm_nil (fun h h2 => pa_cons h h2)) (fun ho M h => pe_methD ho M (fun σ => passAt (takes_of rfl rfl rfl rfl) σ) h))) (fun h => ps_expr h))
    (xb_cons (xs_if gp_s (xt_op ok_eq (xv (pv 1)) (xv (pv 2)) (fun h h2 => pt_cmpR (op_eqD hr.units) h h2 (nomark _))) (xb_one (xs_no ps_never))
    xb_nil)
    (xb_cons (xs_set (i := 4) gp_s (xe_callS (ok_plus Fx) rfl (la1 (la1 la0)) (xl_cons (xe_callS (ok_minus Fx) rfl (la1 (la1 la0)) (xl_cons (xe_of (xf_meth (bs := [false]) (dvs := []) (fun _ _ => .nil) sgS_rows (la1 la0) rfl (tbl_cons ⟨Fx.cl_Hold, _, Fx.M_Hold_taken_share, def1_ofD (ok_Hold__taken_share Fx) (hr.mono (by decide)) Fx.bd_Hold__taken_share_2⟩ tbl_nil) (xv (pv 0)) (xm_s (xv (pv 1)) xm_nil (fun h h2 => pa_cons h h2)) (fun ho M h => pe_methD ho M (fun σ => passAt (takes_of rfl rfl rfl rfl) σ) h))) (xl_cons (xe_ofC (xc_at rfl (xp_ix rfl rfl (xp_ix rfl rfl (xp_fld Fx.fld_my_flows (xc_var (pv 0) rep_s) (fun h => pe_fld h rfl)) (xc_var (pv 1) rep_s) (fun h h2 => pe_ix ix_A h h2 (fun _ _ => rfl))) (xc_var (pv 2) rep_s) (fun h h2 => pe_ix ix_A h h2 (fun _ _ => rfl))))) xl_nil (fun h h2 => pa_cons h h2)) (fun h h2 => pa_cons h h2)) (fun h => pe_callS (ok_minus Fx) (hr.mono (by decide)) (by rfl) Fx.g_minus Fx.F_minus.kp Fx.b_minus (fun σ => passAt (takes_of rfl rfl rfl rfl) σ) h)) (xl_cons (xv (pv 3)) xl_nil (fun h h2 => pa_cons h h2)) (fun h h2 => pa_cons h h2)) (fun h => pe_callS (ok_plus Fx) (hr.mono (by decide)) (by rfl) Fx.g_plus Fx.F_plus.kp Fx.b_plus (fun σ => passAt (takes_of rfl rfl rfl rfl) σ) h)) (fun h => ps_set (i := 4) (sc_Hold__put_flow).nd rfl (Or.inl rfl) h) set_rep)
    (xb_cons (xs_if gp_s (PW.pt (xw_or (xt_val (xe_callS (ok_under Fx) rfl (la1 (la1 la0)) (xl_cons (xv (pv 3)) (xl_cons (xe_c (pe_glob (v := .ref Fx.av_NOUGHT_holds) (by rfl) Fx.gv_NOUGHT_holds rfl) (fun _ _ => shr_wrt (ns := [0, 1]) Fx.wv_NOUGHT_holds)) xl_nil (fun h h2 => pa_cons h h2)) (fun h h2 => pa_cons h h2)) (fun h => pe_callS (ok_under Fx) (hr.mono (by decide)) (by rfl) Fx.g_under Fx.F_under.kp Fx.b_under (fun σ => passAt (takes_of rfl rfl rfl rfl) σ) h)) (fun h => .inl (pt_val h))) (xw_or1 (xt_val (xe_callS (ok_under Fx) rfl (la1 (la1 la0)) (xl_cons (xe_c (pe_glob (v := .ref Fx.av_ONE) (by rfl) Fx.gv_ONE rfl) (fun _ _ => shr_wrt (ns := [1, 1]) Fx.wv_ONE)) (xl_cons (xv (pv 4)) xl_nil (fun h h2 => pa_cons h h2)) (fun h h2 => pa_cons h h2)) (fun h => pe_callS (ok_under Fx) (hr.mono (by decide)) (by rfl) Fx.g_under Fx.F_under.kp Fx.b_under (fun σ => passAt (takes_of rfl rfl rfl rfl) σ) h)) (fun h => .inl (pt_val h)))))) (xb_one (xs_no ps_never))
    xb_nil)
    (xb_one (xs_pset rfl gp_s (xp_ix rfl rfl (xp_fld Fx.fld_my_flows (xc_var (pv 0) rep_s) (fun h => pe_fld h rfl)) (xc_var (pv 1) rep_s) (fun h h2 => pe_ix ix_A h h2 (fun _ _ => rfl))) (xc_var (pv 2) rep_s) (xv (pv 3)) (fun hv ho hi => ps_asg hv (pg_sub ho hi set_list)))))))))
theorem ok__law_part : FnOk P w K mg base (L2.CX P w) 1 Fx.a__law_part Fx.d__law_part ["_law_top", "_law_bottom"] (spD (th P w Fx) 2 (sgS 2) f__law_part) :=
  fn_okSR (N := N__law_part) (B := m__law_part) (Γ' := (ΓS 5)) (okRule_fun Fx.F__law_part) sc__law_part rfl (by decide) fun cdv A outer s H E hr =>
    (xb_cons (xs_set (i := 2) gp_s (xe_L ok_abs (xl_cons (xv (pv 0)) xl_nil (fun h h2 => pa_cons h h2)) (fun h => pe_callB call_abs (by rfl) Fx.z_abs PyProof.Rows.boot_abs h)) (fun h => ps_set (i := 2) (sc__law_part).nd rfl (Or.inl rfl) h) set_rep)
    (xb_cons (xs_set (i := 3) gp_s (xv (pv 1)) (fun h => ps_set (i := 3) (sc__law_part).nd rfl (Or.inl rfl) h) set_rep)
    (xb_cons (xs_while gp_s (passes_of rfl) (xt_op ok_gt (xv (pv 3)) xe_int (fun h h2 => pt_cmpR op_gt h h2 (nomark _))) (xb_cons (xs_set (i := 4) gp_s (xe_op ok_mod (xv (pv 2)) (xv (pv 3)) (fun h h2 => pe_op op_mod h h2)) (fun h => ps_set (i := 4) (sc__law_part).nd rfl (Or.inl rfl) h) set_rep)
    (xb_cons (xs_set (i := 2) gp_s (xv (pv 3)) (fun h => ps_set (i := 2) (sc__law_part).nd rfl (Or.inl rfl) h) set_rep)
    (xb_one (xs_set (i := 3) gp_s (xv (pv 4)) (fun h => ps_set (i := 3) (sc__law_part).nd rfl (Or.inl rfl) h) set_rep)))))
    (xb_one (xs_ret gp_s gp_s rfl (xe_tup (xl_cons (xe_op ok_div (xv (pv 0)) (xv (pv 2)) (fun h h2 => pe_op op_fdivA h h2)) (xl_cons (xe_op ok_div (xv (pv 1)) (xv (pv 2)) (fun h h2 => pe_op op_fdivA h h2)) xl_nil (fun h h2 => pa_cons h h2)) (fun h h2 => pa_cons h h2))) (fun h => ps_ret h))))))
theorem ok__law_share : FnOk P w K mg base (L2.CX P w) 2 Fx.a__law_share Fx.d__law_share ["_law_cell"] (spD (th P w Fx) 1 (sgS 1) f__law_share) :=
  fn_okSR (N := N__law_share) (B := m__law_share) (Γ' := (ΓS 2)) (okRule_fun Fx.F__law_share) sc__law_share rfl (by decide) fun cdv A outer s H E hr =>
    (xb_cons (xs_set (i := 1) gp_s (xe_op ok_add xe_int (xe_op ok_mod (xe_op ok_div (xv (pv 0)) xe_int (fun h h2 => pe_op op_fdivA h h2)) (xe_op ok_sub (xe_op ok_pow xe_int xe_int (fun h h2 => pe_op op_pow h h2)) xe_int (fun h h2 => pe_op op_sub h h2)) (fun h h2 => pe_op op_mod h h2)) (fun h h2 => pe_op op_addA h h2)) (fun h => ps_set (i := 1) (sc__law_share).nd rfl (Or.inl rfl) h) set_rep)
    (xb_one (xs_ret gp_s gp_s rfl (xe_callS (ok__law_part Fx) rfl (la1 (la1 la0)) (xl_cons (xe_op ok_add xe_int (xe_op ok_mod (xe_op ok_mod (xe_op ok_div (xv (pv 0)) xe_int (fun h h2 => pe_op op_fdivA h h2)) (xe_op ok_pow xe_int xe_int (fun h h2 => pe_op op_pow h h2)) (fun h h2 => pe_op op_mod h h2)) (xe_op ok_div (xv (pv 1)) xe_int (fun h h2 => pe_op op_fdivA h h2)) (fun h h2 => pe_op op_mod h h2)) (fun h h2 => pe_op op_addA h h2)) (xl_cons (xv (pv 1)) xl_nil (fun h h2 => pa_cons h h2)) (fun h h2 => pa_cons h h2)) (fun h => pe_callS (ok__law_part Fx) (hr.mono (by decide)) (by rfl) Fx.g__law_part Fx.F__law_part.kp Fx.b__law_part (fun σ => passAt (takes_of rfl rfl rfl rfl) σ) h)) (fun h => ps_ret h))))
theorem ok_law : FnOk P w K mg base (L2.CX P w) 12 Fx.a_law Fx.d_law ["_law_script"] (spD (th P w Fx) 1 (sgS 1) f_law) :=
  fn_okSR (N := N_law) (B := m_law) (Γ' := (ΓS 8)) (okRule_fun Fx.F_law) sc_law rfl (by decide) fun cdv A outer s H E hr =>
    (xb_cons (xs_set (i := 1) gp_s (xe_make (c := 0) (bs := [false, false, false]) (dvs := [.int (4), .int (0), .int (0)]) (fun _ _ => (.cons (shr_int.mpr rfl) (.cons (shr_int.mpr rfl) (.cons (shr_int.mpr rfl) .nil)))) sgS_rows la0 rfl xm_nil (fun h => pe_make_nil (pe_makeD0 Fx.mk_Hold (def1_ofD (ok_Hold____init__ Fx) (hr.mono (by decide)) Fx.bd_Hold____init___1) (by rfl) Fx.gc_Hold (fun σ => passAt (takes_of rfl rfl rfl rfl) σ)))) (fun h => ps_set (i := 1) (sc_law).nd rfl (Or.inl rfl) h) set_rep)
    (xb_cons (xs_set (i := 2) gp_s (xe_op ok_add xe_int (xe_op ok_mod (xe_callS (ok__law_cell_at Fx) rfl (la1 (la1 la0)) (xl_cons (xv (pv 0)) (xl_cons xe_int xl_nil (fun h h2 => pa_cons h h2)) (fun h h2 => pa_cons h h2)) (fun h => pe_callS (ok__law_cell_at Fx) (hr.mono (by decide)) (by rfl) Fx.g__law_cell_at Fx.F__law_cell_at.kp Fx.b__law_cell_at (fun σ => passAt (takes_of rfl rfl rfl rfl) σ) h)) xe_int (fun h h2 => pe_op op_mod h h2)) (fun h h2 => pe_op op_addA h h2)) (fun h => ps_set (i := 2) (sc_law).nd rfl (Or.inl rfl) h) set_rep)
    (xb_cons (xs_for (is := [3]) gp_s (passes_of rfl) rfl (xi_range1 (xl_cons (xv (pv 2)) xl_nil (fun h h2 => pa_cons h h2)) (fun h => pi_range1 (by rfl) Fx.z_range h)) (pg_name (i := 3) (sc_law).nd rfl (Or.inl rfl)) (tg_name set_rep) (xb_one (xs_drop gp_s (xe_of (xf_meth (bs := [false]) (dvs := []) (fun _ _ => .nil) sgS_rows (la1 la0) rfl (tbl_cons ⟨Fx.cl_Hold, _, Fx.M_Hold_put_room, def1_ofD (ok_Hold__put_room Fx) (hr.mono (by decide)) Fx.bd_Hold__put_room_2⟩ tbl_nil) (xv (pv 1)) (xm_s (xe_lst (xl_cons (xe_tup (xl_cons (xv (pv 3)) (xl_cons xe_int xl_nil (fun h h2 => pa_cons h h2)) (fun h h2 => pa_cons h h2))) (xl_cons (xe_tup (xl_cons (xe_op ok_add (xv (pv 3)) xe_int (fun h h2 => pe_op op_addA h h2)) (xl_cons xe_int xl_nil (fun h h2 => pa_cons h h2)) (fun h h2 => pa_cons h h2))) xl_nil (fun h h2 => pa_cons h h2)) (fun h h2 => pa_cons h h2))) xm_nil (fun h h2 => pa_cons h h2)) (fun ho M h => pe_methD ho M (fun σ => passAt (takes_of rfl rfl rfl rfl) σ) h))) (fun h => ps_expr h))))
    (xb_cons (xs_own (Γ' := [.s, .s, .s, .s, .o 1, .s, .s, .s]) (i := 4) (k := 1) gp_s (by decide) xf_dnil (fun h => ps_set (i := 4) (sc_law).nd rfl (Or.inl rfl) h) rfl)
    (xb_cons (xs_for (is := [3]) gp_s (passes_of rfl) rfl (xi_range1 (xl_cons (xe_op ok_add xe_int (xe_op ok_mod (xe_op ok_div (xe_callS (ok__law_cell_at Fx) rfl (la1 (la1 la0)) (xl_cons (xe_var (pv 0) rfl) (xl_cons xe_int xl_nil (fun h h2 => pa_cons h h2)) (fun h h2 => pa_cons h h2)) (fun h => pe_callS (ok__law_cell_at Fx) (hr.mono (by decide)) (by rfl) Fx.g__law_cell_at Fx.F__law_cell_at.kp Fx.b__law_cell_at (fun σ => passAt (takes_of rfl rfl rfl rfl) σ) h)) xe_int (fun h h2 => pe_op op_fdivA h h2)) xe_int (fun h h2 => pe_op op_mod h h2)) (fun h h2 => pe_op op_addA h h2)) xl_nil (fun h h2 => pa_cons h h2)) (fun h => pi_range1 (by rfl) Fx.z_range h)) (pg_name (i := 3) (sc_law).nd rfl (Or.inl rfl)) (tg_name rfl) (xb_cons (xs_set (Γ' := [.s, .s, .s, .s, .o 1, .s, .s, .s]) (i := 5) gp_s (xe_op ok_add (xe_callS (ok__law_cell_at Fx) rfl (la1 (la1 la0)) (xl_cons (xe_var (pv 0) rfl) (xl_cons (xe_op ok_add xe_int (xe_var (pv 3) rfl) (fun h h2 => pe_op op_addA h h2)) xl_nil (fun h h2 => pa_cons h h2)) (fun h h2 => pa_cons h h2)) (fun h => pe_callS (ok__law_cell_at Fx) (hr.mono (by decide)) (by rfl) Fx.g__law_cell_at Fx.F__law_cell_at.kp Fx.b__law_cell_at (fun σ => passAt (takes_of rfl rfl rfl rfl) σ) h)) (xe_op ok_mul (xe_op ok_mul xe_int (xe_var (pv 3) rfl) (fun h h2 => pe_op op_mulA h h2)) (xe_var (pv 3) rfl) (fun h h2 => pe_op op_mulA h h2)) (fun h h2 => pe_op op_addA h h2)) (fun h => ps_set (i := 5) (sc_law).nd rfl (Or.inl rfl) h) rfl)
    (xb_cons (xs_set (Γ' := [.s, .s, .s, .s, .o 1, .s, .s, .s]) (i := 6) gp_s (xe_op ok_mod (xe_var (pv 5) rfl) (xe_var (pv 2) rfl) (fun h h2 => pe_op op_mod h h2)) (fun h => ps_set (i := 6) (sc_law).nd rfl (Or.inl rfl) h) rfl)
    (xb_cons (xs_set (Γ' := [.s, .s, .s, .s, .o 1, .s, .s, .s]) (i := 7) gp_s (xe_op ok_mod (xe_op ok_div (xe_var (pv 5) rfl) xe_int (fun h h2 => pe_op op_fdivA h h2)) (xe_var (pv 2) rfl) (fun h h2 => pe_op op_mod h h2)) (fun h => ps_set (i := 7) (sc_law).nd rfl (Or.inl rfl) h) rfl)
    (xb_one (xs_if gp_s (xt_op ok_ne (xe_var (pv 6) rfl) (xe_var (pv 7) rfl) (fun h h2 => pt_cmpR (op_neD hr.units) h h2 (nomark _))) (xb_cons (xs_if gp_s (xt_op ok_eq (xe_op ok_mod (xe_op ok_div (xe_var (pv 5) rfl) xe_int (fun h h2 => pe_op op_fdivA h h2)) xe_int (fun h h2 => pe_op op_mod h h2)) xe_int (fun h h2 => pt_cmpR (op_eqD hr.units) h h2 (nomark _))) (xb_cons (xs_drop gp_s (xe_of (xf_meth (bs := [false, false, false]) (dvs := []) (fun _ _ => .nil) sgS_rows (la1 (la1 (la1 la0))) rfl (tbl_cons ⟨Fx.cl_Hold, _, Fx.M_Hold_put_flow, def1_ofD (ok_Hold__put_flow Fx) (hr.mono (by decide)) Fx.bd_Hold__put_flow_4⟩ tbl_nil) (xe_var (pv 1) rfl) (xm_s (xe_var (pv 6) rfl) (xm_s (xe_var (pv 7) rfl) (xm_s (xe_tup (xl_cons xe_int (xl_cons xe_int xl_nil (fun h h2 => pa_cons h h2)) (fun h h2 => pa_cons h h2))) xm_nil (fun h h2 => pa_cons h h2)) (fun h h2 => pa_cons h h2)) (fun h h2 => pa_cons h h2)) (fun ho M h => pe_methD ho M (fun σ => passAt (takes_of rfl rfl rfl rfl) σ) h))) (fun h => ps_expr h))
    (xb_one (xs_dpop (K := 1) (i := 4) rfl rfl rfl gp_s (.inl rfl) (xpv_var (K := 1) (pv 4) (.inl rfl)) (xcl_cons (xc_tup (xcl_cons (xc_var (pv 6) rfl) (xcl_cons (xc_var (pv 7) rfl) xcl_nil (fun h h2 => pa_cons h h2)) (fun h h2 => pa_cons h h2))) (xcl_cons xc_non xcl_nil (fun h h2 => pa_cons h h2)) (fun h h2 => pa_cons h h2)) (fun ho ha => ps_expr (pe_dpop (room16 hr) ho ha)))))
    (xb_cons (xs_drop gp_s (xe_of (xf_meth (bs := [false, false, false]) (dvs := []) (fun _ _ => .nil) sgS_rows (la1 (la1 (la1 la0))) rfl (tbl_cons ⟨Fx.cl_Hold, _, Fx.M_Hold_put_flow, def1_ofD (ok_Hold__put_flow Fx) (hr.mono (by decide)) Fx.bd_Hold__put_flow_4⟩ tbl_nil) (xe_var (pv 1) rfl) (xm_s (xe_var (pv 6) rfl) (xm_s (xe_var (pv 7) rfl) (xm_s (xe_callS (ok__law_share Fx) rfl (la1 la0) (xl_cons (xe_var (pv 5) rfl) xl_nil (fun h h2 => pa_cons h h2)) (fun h => pe_callS (ok__law_share Fx) (hr.mono (by decide)) (by rfl) Fx.g__law_share Fx.F__law_share.kp Fx.b__law_share (fun σ => passAt (takes_of rfl rfl rfl rfl) σ) h)) xm_nil (fun h h2 => pa_cons h h2)) (fun h h2 => pa_cons h h2)) (fun h h2 => pa_cons h h2)) (fun ho M h => pe_methD ho M (fun σ => passAt (takes_of rfl rfl rfl rfl) σ) h))) (fun h => ps_expr h))
    (xb_one (xs_vput (K := 1) (i := 4) rfl rfl rfl gp_s (.inl rfl) (xpv_var (K := 1) (pv 4) (.inl rfl)) (xc_tup (xcl_cons (xc_var (pv 6) rfl) (xcl_cons (xc_var (pv 7) rfl) xcl_nil (fun h h2 => pa_cons h h2)) (fun h h2 => pa_cons h h2))) xe_bl (fun hv ho hi => ps_nput (room16 hr) ho hi hv (by rfl))))))
    (xb_one (xs_if gp_s (PW.pt (xw_and (xt_op ok_eq (xe_op ok_mod (xe_op ok_div (xe_var (pv 5) rfl) xe_int (fun h h2 => pe_op op_fdivA h h2)) xe_int (fun h h2 => pe_op op_mod h h2)) xe_int (fun h h2 => pt_cmpR (op_eqD hr.units) h h2 (nomark _))) (xw_and1 (xt_not (xt_val (xe_of (xf_callM (sg := ⟨[.s, .l], 0⟩) (bs := [false, true]) (ok__law_right Fx) (mdOf_rows rfl) (la1 (la1 la0)) (xm_s (xe_var (pv 1) rfl) (xm_l (xq_varO (pv 4) rfl) xm_nil (fun h h2 => pa_cons h h2)) (fun h h2 => pa_cons h h2)) (fun h => pe_callS (ok__law_right Fx) (hr.mono (by decide)) (by rfl) Fx.g__law_right Fx.F__law_right.kp Fx.b__law_right (fun σ => passAt (takes_of rfl rfl rfl rfl) σ) h))) (fun h => .inl (pt_val h))))))) (xb_frz (i := 4) (k := 1) (Γ1 := (ΓS 8)) rfl rfl (xb_one (xs_ret gp_s gp_s rfl xe_bl (fun h => ps_ret h))))
    xb_nil)))
    xb_nil))))))
    (xb_frz (i := 4) (k := 1) (Γ1 := (ΓS 8)) rfl rfl (xb_one (xs_ret gp_s gp_s rfl (xe_of (xf_callM (sg := ⟨[.s, .l], 0⟩) (bs := [false, true]) (ok__law_right Fx) (mdOf_rows rfl) (la1 (la1 la0)) (xm_s (xv (pv 1)) (xm_l (xq_of (xv (pv 4))) xm_nil (fun h h2 => pa_cons h h2)) (fun h h2 => pa_cons h h2)) (fun h => pe_callS (ok__law_right Fx) (hr.mono (by decide)) (by rfl) Fx.g__law_right Fx.F__law_right.kp Fx.b__law_right (fun σ => passAt (takes_of rfl rfl rfl rfl) σ) h))) (fun h => ps_ret h)))))))))
end
set_option maxHeartbeats 0 in
theorem facts_mk {K : PySem.W.Frag} {h : Heap} {mg : Str → Option Value} (X : K.In h) (G : h.Ns mainGlobals mg)
    (hg0 : cg0 K)
    (hg1 : cg1 K)
    (hg2 : cg2 K)
    {d1 : FuncData} (F1 : Fun K "is_bound" "is_bound" s_is_bound (fA1 K) d1)
    {d2 : FuncData} (F2 : FunD K "__init__" "Hold.__init__" (defArgs s_Hold____init__) (defBody s_Hold____init__) (defScope s_Hold____init__) [.int (4), .int (0), .int (0)] [] (fA2 K) d2)
    {d3 : FuncData} (F3 : Fun K "many" "Hold.many" s_Hold__many (fA3 K) d3)
    {d4 : FuncData} (F4 : Fun K "under" "under" s_under (fA4 K) d4)
    {d5 : FuncData} (F5 : Fun K "ask_room" "Hold.ask_room" s_Hold__ask_room (fA5 K) d5)
    {d6 : FuncData} (F6 : Fun K "divisor" "divisor" s_divisor (fA6 K) d6)
    {d7 : FuncData} (F7 : Fun K "fraction" "fraction" s_fraction (fA7 K) d7)
    {d8 : FuncData} (F8 : Fun K "minus" "minus" s_minus (fA8 K) d8)
    {d9 : FuncData} (F9 : Fun K "plus" "plus" s_plus (fA9 K) d9)
    {d10 : FuncData} (F10 : Fun K "taken_share" "Hold.taken_share" s_Hold__taken_share (fA10 K) d10)
    {d11 : FuncData} (F11 : Fun K "share" "Hold.share" s_Hold__share (fA11 K) d11)
    {d12 : FuncData} (F12 : Fun K "is_touching" "is_touching" s_is_touching (fA12 K) d12)
    {d13 : FuncData} (F13 : Fun K "part_by" "part_by" s_part_by (fA13 K) d13)
    {d14 : FuncData} (F14 : Fun K "parts_of" "parts_of" s_parts_of (fA14 K) d14)
    {d15 : FuncData} (F15 : Fun K "_law_parts" "_law_parts" s__law_parts (fA15 K) d15)
    {d16 : FuncData} (F16 : Fun K "_law_right" "_law_right" s__law_right (fA16 K) d16)
    {d17 : FuncData} (F17 : Fun K "do_rise" "do_rise" s_do_rise (fA17 K) d17)
    {d18 : FuncData} (F18 : Fun K "put_room" "Hold.put_room" s_Hold__put_room (fA18 K) d18)
    {d19 : FuncData} (F19 : Fun K "_law_cell_at" "_law_cell_at" s__law_cell_at (fA19 K) d19)
    {d20 : FuncData} (F20 : Fun K "put_flow" "Hold.put_flow" s_Hold__put_flow (fA20 K) d20)
    {d21 : FuncData} (F21 : Fun K "_law_part" "_law_part" s__law_part (fA21 K) d21)
    {d22 : FuncData} (F22 : Fun K "_law_share" "_law_share" s__law_share (fA22 K) d22)
    {d23 : FuncData} (F23 : Fun K "law" "law" s_law (fA23 K) d23)
    : ∃ Fx : Facts K mg, Fx.a_law = fA23 K ∧ ∀ (s : Shared) (v : Value), BindsTo s Fx.d_law ⟨[v], []⟩ [("_law_script", v)] := by
  obtain ⟨ac_Hold, a1, at_Hold___init__, if2, at_Hold_many, if3, a4, at_Hold_ask_room, if5, a6, a7, a8, a9, at_Hold_taken_share, if10, at_Hold_share, if11, a12, a13, a14⟩ := hg0
  obtain ⟨a15, a16, a17, at_Hold_put_room, if18, a19, at_Hold_put_flow, if20, a21, a22, a23, nv_NOUGHT_holds, qv_NOUGHT_holds, nv_NOUGHT_parts, qv_NOUGHT_parts, nv_ONE, qv_ONE, z_abs, z_bool, z_int⟩ := hg1
  obtain ⟨z_isinstance, z_len, z_list, z_range, z_sorted, pg_Hold, hd_Hold, po_Hold, sa_Hold, mm_Hold, kc_Hold, n_Hold_cap, n_Hold_load, n_Hold_most, n_Hold_my_flows, n_Hold_my_marks, n_Hold_my_skies, n_Hold_my_stoves⟩ := hg2
  have b1 := F1.binds (ps := ["thing", "most"]) fun _ _ _ _ _ _ us hl => match us, hl with | [_, _], _ => rfl
  have bd2_1 : BindsD K _ ["self", "most", "cap", "load"] [.int (4), .int (0), .int (0)] := F2.binds1 (ps := ["self", "most", "cap", "load"]) 1 0 (by simp) rfl fun _ _ _ _ _ _ _ us its h1 h2 => match us, its, h1, h2 with | [_], [_, _, _], _, _ => ⟨_, rfl, rfl⟩
  have b3 := F3.binds (ps := ["self"]) fun _ _ _ _ _ _ us hl => match us, hl with | [_], _ => rfl
  have b4 := F4.binds (ps := ["one", "other"]) fun _ _ _ _ _ _ us hl => match us, hl with | [_, _], _ => rfl
  have b5 := F5.binds (ps := ["self", "room"]) fun _ _ _ _ _ _ us hl => match us, hl with | [_, _], _ => rfl
  have b6 := F6.binds (ps := ["one", "other"]) fun _ _ _ _ _ _ us hl => match us, hl with | [_, _], _ => rfl
  have b7 := F7.binds (ps := ["top", "bottom"]) fun _ _ _ _ _ _ us hl => match us, hl with | [_, _], _ => rfl
  have b8 := F8.binds (ps := ["one", "other"]) fun _ _ _ _ _ _ us hl => match us, hl with | [_, _], _ => rfl
  have b9 := F9.binds (ps := ["one", "other"]) fun _ _ _ _ _ _ us hl => match us, hl with | [_, _], _ => rfl
  have b10 := F10.binds (ps := ["self", "room"]) fun _ _ _ _ _ _ us hl => match us, hl with | [_, _], _ => rfl
  have b11 := F11.binds (ps := ["self", "into", "of"]) fun _ _ _ _ _ _ us hl => match us, hl with | [_, _, _], _ => rfl
  have b12 := F12.binds (ps := ["hold", "one", "other"]) fun _ _ _ _ _ _ us hl => match us, hl with | [_, _, _], _ => rfl
  have b13 := F13.binds (ps := ["hold", "first", "left"]) fun _ _ _ _ _ _ us hl => match us, hl with | [_, _, _], _ => rfl
  have b14 := F14.binds (ps := ["hold"]) fun _ _ _ _ _ _ us hl => match us, hl with | [_], _ => rfl
  have b15 := F15.binds (ps := ["_law_many", "_law_takes"]) fun _ _ _ _ _ _ us hl => match us, hl with | [_, _], _ => rfl
  have b16 := F16.binds (ps := ["_law_hold", "_law_takes"]) fun _ _ _ _ _ _ us hl => match us, hl with | [_, _], _ => rfl
  have b17 := F17.binds (ps := ["marks"]) fun _ _ _ _ _ _ us hl => match us, hl with | [_], _ => rfl
  have b18 := F18.binds (ps := ["self", "marks"]) fun _ _ _ _ _ _ us hl => match us, hl with | [_, _], _ => rfl
  have b19 := F19.binds (ps := ["_law_script", "_law_k"]) fun _ _ _ _ _ _ us hl => match us, hl with | [_, _], _ => rfl
  have b20 := F20.binds (ps := ["self", "into", "of", "share"]) fun _ _ _ _ _ _ us hl => match us, hl with | [_, _, _, _], _ => rfl
  have b21 := F21.binds (ps := ["_law_top", "_law_bottom"]) fun _ _ _ _ _ _ us hl => match us, hl with | [_, _], _ => rfl
  have b22 := F22.binds (ps := ["_law_cell"]) fun _ _ _ _ _ _ us hl => match us, hl with | [_], _ => rfl
  have b23 := F23.binds (ps := ["_law_script"]) fun _ _ _ _ _ _ us hl => match us, hl with | [_], _ => rfl
  have hbl : ∀ (s : Shared) (v : Value), BindsTo s d23 ⟨[v], []⟩ [("_law_script", v)] := by
    intro s v
    obtain ⟨_, _, _, _, _, _, _, _, _, e, _, _⟩ := F23.ex
    rw [e]
    exact .of_eq rfl
  exact ⟨{
    a_is_bound := fA1 K,
    d_is_bound := d1,
    a_Hold____init__ := fA2 K,
    d_Hold____init__ := d2,
    a_Hold__many := fA3 K,
    d_Hold__many := d3,
    a_under := fA4 K,
    d_under := d4,
    a_Hold__ask_room := fA5 K,
    d_Hold__ask_room := d5,
    a_divisor := fA6 K,
    d_divisor := d6,
    a_fraction := fA7 K,
    d_fraction := d7,
    a_minus := fA8 K,
    d_minus := d8,
    a_plus := fA9 K,
    d_plus := d9,
    a_Hold__taken_share := fA10 K,
    d_Hold__taken_share := d10,
    a_Hold__share := fA11 K,
    d_Hold__share := d11,
    a_is_touching := fA12 K,
    d_is_touching := d12,
    a_part_by := fA13 K,
    d_part_by := d13,
    a_parts_of := fA14 K,
    d_parts_of := d14,
    a__law_parts := fA15 K,
    d__law_parts := d15,
    a__law_right := fA16 K,
    d__law_right := d16,
    a_do_rise := fA17 K,
    d_do_rise := d17,
    a_Hold__put_room := fA18 K,
    d_Hold__put_room := d18,
    a__law_cell_at := fA19 K,
    d__law_cell_at := d19,
    a_Hold__put_flow := fA20 K,
    d_Hold__put_flow := d20,
    a__law_part := fA21 K,
    d__law_part := d21,
    a__law_share := fA22 K,
    d__law_share := d22,
    a_law := fA23 K,
    d_law := d23,
    av_NOUGHT_holds := He.ga K "NOUGHT_holds",
    wv_NOUGHT_holds := wrt_of qv_NOUGHT_holds,
    gv_NOUGHT_holds := PySem.W.mg_of X G nv_NOUGHT_holds,
    av_NOUGHT_parts := He.ga K "NOUGHT_parts",
    wv_NOUGHT_parts := wrt_of qv_NOUGHT_parts,
    gv_NOUGHT_parts := PySem.W.mg_of X G nv_NOUGHT_parts,
    av_ONE := He.ga K "ONE",
    wv_ONE := wrt_of qv_ONE,
    gv_ONE := PySem.W.mg_of X G nv_ONE,
    c_Hold := cA_Hold K,
    F_is_bound := F1,
    b_is_bound := b1,
    g_is_bound := PySem.W.mg_of X G a1,
    F_Hold____init__ := F2,
    bd_Hold____init___1 := bd2_1,
    F_Hold__many := F3,
    b_Hold__many := b3,
    bd_Hold__many_1 := ⟨[], .nil, b3⟩,
    F_under := F4,
    b_under := b4,
    g_under := PySem.W.mg_of X G a4,
    F_Hold__ask_room := F5,
    b_Hold__ask_room := b5,
    bd_Hold__ask_room_2 := ⟨[], .nil, b5⟩,
    F_divisor := F6,
    b_divisor := b6,
    g_divisor := PySem.W.mg_of X G a6,
    F_fraction := F7,
    b_fraction := b7,
    g_fraction := PySem.W.mg_of X G a7,
    F_minus := F8,
    b_minus := b8,
    g_minus := PySem.W.mg_of X G a8,
    F_plus := F9,
    b_plus := b9,
    g_plus := PySem.W.mg_of X G a9,
    F_Hold__taken_share := F10,
    b_Hold__taken_share := b10,
    bd_Hold__taken_share_2 := ⟨[], .nil, b10⟩,
    F_Hold__share := F11,
    b_Hold__share := b11,
    bd_Hold__share_3 := ⟨[], .nil, b11⟩,
    F_is_touching := F12,
    b_is_touching := b12,
    g_is_touching := PySem.W.mg_of X G a12,
    F_part_by := F13,
    b_part_by := b13,
    g_part_by := PySem.W.mg_of X G a13,
    F_parts_of := F14,
    b_parts_of := b14,
    g_parts_of := PySem.W.mg_of X G a14,
    F__law_parts := F15,
    b__law_parts := b15,
    g__law_parts := PySem.W.mg_of X G a15,
    F__law_right := F16,
    b__law_right := b16,
    g__law_right := PySem.W.mg_of X G a16,
    F_do_rise := F17,
    b_do_rise := b17,
    g_do_rise := PySem.W.mg_of X G a17,
    F_Hold__put_room := F18,
    b_Hold__put_room := b18,
    bd_Hold__put_room_2 := ⟨[], .nil, b18⟩,
    F__law_cell_at := F19,
    b__law_cell_at := b19,
    g__law_cell_at := PySem.W.mg_of X G a19,
    F_Hold__put_flow := F20,
    b_Hold__put_flow := b20,
    bd_Hold__put_flow_4 := ⟨[], .nil, b20⟩,
    F__law_part := F21,
    b__law_part := b21,
    g__law_part := PySem.W.mg_of X G a21,
    F__law_share := F22,
    b__law_share := b22,
    g__law_share := PySem.W.mg_of X G a22,
    F_law := F23,
    b_law := b23,
    g_law := PySem.W.mg_of X G a23,
    cl_Hold := ⟨pg_Hold, hd_Hold, po_Hold, sa_Hold⟩,
    n_Hold_cap := n_Hold_cap,
    n_Hold_load := n_Hold_load,
    n_Hold_most := n_Hold_most,
    n_Hold_my_flows := n_Hold_my_flows,
    n_Hold_my_marks := n_Hold_my_marks,
    n_Hold_my_skies := n_Hold_my_skies,
    n_Hold_my_stoves := n_Hold_my_stoves,
    M_Hold___init__ := ⟨at_Hold___init__, if2, F2.kp⟩,
    M_Hold_ask_room := ⟨at_Hold_ask_room, if5, F5.kp⟩,
    M_Hold_many := ⟨at_Hold_many, if3, F3.kp⟩,
    M_Hold_put_flow := ⟨at_Hold_put_flow, if20, F20.kp⟩,
    M_Hold_put_room := ⟨at_Hold_put_room, if18, F18.kp⟩,
    M_Hold_share := ⟨at_Hold_share, if11, F11.kp⟩,
    M_Hold_taken_share := ⟨at_Hold_taken_share, if10, F10.kp⟩,
    mk_Hold := ⟨mm_Hold, at_Hold___init__, if2, kc_Hold⟩,
    z_abs := PySem.W.mg_none_of X G z_abs,
    z_bool := PySem.W.mg_none_of X G z_bool,
    z_int := PySem.W.mg_none_of X G z_int,
    z_isinstance := PySem.W.mg_none_of X G z_isinstance,
    z_len := PySem.W.mg_none_of X G z_len,
    z_list := PySem.W.mg_none_of X G z_list,
    z_range := PySem.W.mg_none_of X G z_range,
    z_sorted := PySem.W.mg_none_of X G z_sorted,
    gc_Hold := PySem.W.mg_of X G ac_Hold }, rfl, hbl⟩
end K69

namespace Q
open PySem PySem.Spec PyProof.Rows L2
def frac (a b : Int) : Int × Int := if b < 0 then (a.fdiv (-(Int.gcd a b)), b.fdiv (-(Int.gcd a b))) else (a / Int.gcd a b, b / Int.gcd a b)
theorem gcd_lt {a b : Int} (hb : b ≠ 0) {n : Nat} (h : b.natAbs < 2 ^ n) : ((Int.gcd a b : Nat) : Int).natAbs < 2 ^ n := by
  rw [Int.natAbs_natCast]
  exact Nat.lt_of_le_of_lt (Nat.le_of_dvd (by omega) (Nat.gcd_dvd_right _ _)) h
theorem gcd_pos {a b : Int} (hb : b ≠ 0) : 0 < Int.gcd a b := Nat.gcd_pos_of_pos_right _ (by omega)
theorem frac_neg {a b : Int} (hn : b < 0) : frac a b = (-(a / Int.gcd a b), -(b / Int.gcd a b)) := by
  have g0 := gcd_pos (a := a) (b := b) (by omega)
  have d1 : (Int.gcd a b : Int) ∣ a := Int.gcd_dvd_left ..
  have d2 : (Int.gcd a b : Int) ∣ b := Int.gcd_dvd_right ..
  obtain ⟨x, hx⟩ := d1
  obtain ⟨y, hy⟩ := d2
  unfold frac
  rw [if_pos hn]
  generalize (Int.gcd a b : Nat) = d at *
  have hd : (d : Int) ≠ 0 := by omega
  have k : ∀ z x : Int, z = d * x → z.fdiv (-(d : Int)) = -x ∧ z / d = x := fun z x e => by
    subst e
    constructor
    · rw [show (d : Int) * x = (-x) * (-(d : Int)) by rw [Int.neg_mul_neg, Int.mul_comm]]
      exact Int.mul_fdiv_cancel _ (by omega)
    · exact Int.mul_ediv_cancel_left _ hd
  rw [(k a x hx).1, (k b y hy).1, (k a x hx).2, (k b y hy).2]
theorem frac_ok {a b : Int} (hb : b ≠ 0) : 0 < (frac a b).2 ∧ (frac a b).1 * b = a * (frac a b).2 ∧ Int.gcd (frac a b).1 (frac a b).2 = 1 ∧ (frac a b).1.natAbs ≤ a.natAbs ∧ (frac a b).2.natAbs ≤ b.natAbs := by
  have g0 := gcd_pos (a := a) hb
  have d1 : (Int.gcd a b : Int) ∣ a := Int.gcd_dvd_left ..
  have d2 : (Int.gcd a b : Int) ∣ b := Int.gcd_dvd_right ..
  have e1 : (a / (Int.gcd a b : Int)) * Int.gcd a b = a := Int.ediv_mul_cancel d1
  have e2 : (b / (Int.gcd a b : Int)) * Int.gcd a b = b := Int.ediv_mul_cancel d2
  have cg : Int.gcd (a / Int.gcd a b) (b / Int.gcd a b) = 1 := Int.gcd_ediv_gcd_ediv_gcd g0
  have n1 : (a / (Int.gcd a b : Int)).natAbs ≤ a.natAbs := by
    conv => rhs; rw [← e1]
    rw [Int.natAbs_mul, Int.natAbs_natCast]
    exact Nat.le_mul_of_pos_right _ g0
  have n2 : (b / (Int.gcd a b : Int)).natAbs ≤ b.natAbs := by
    conv => rhs; rw [← e2]
    rw [Int.natAbs_mul, Int.natAbs_natCast]
    exact Nat.le_mul_of_pos_right _ g0
  generalize hx : a / (Int.gcd a b : Int) = x at *
  generalize hy : b / (Int.gcd a b : Int) = y at *
  have gp : (0 : Int) < Int.gcd a b := by omega
  have cross : x * b = a * y := by
    calc x * b = x * (y * (Int.gcd a b : Int)) := by rw [e2]
      _ = (x * (Int.gcd a b : Int)) * y := by rw [Int.mul_comm y, ← Int.mul_assoc]
      _ = a * y := by rw [e1]
  by_cases hn : b < 0
  · rw [frac_neg hn, hx, hy]
    refine ⟨?_, ?_, ?_, by rw [Int.natAbs_neg]; exact n1, by rw [Int.natAbs_neg]; exact n2⟩
    · show 0 < -y
      have : y < 0 := by
        rcases Int.lt_trichotomy y 0 with h | h | h
        · exact h
        · rw [h, Int.zero_mul] at e2; omega
        · have := Int.mul_pos h gp; omega
      omega
    · show -x * b = a * -y
      rw [Int.neg_mul, Int.mul_neg, cross]
    · show Int.gcd (-x) (-y) = 1
      rw [Int.neg_gcd, Int.gcd_neg]; exact cg
  · have ef : frac a b = (x, y) := by unfold frac; rw [if_neg hn, hx, hy]
    rw [ef]
    refine ⟨?_, ?_, cg, n1, n2⟩
    · show 0 < y
      rcases Int.lt_trichotomy y 0 with h | h | h
      · have := Int.mul_neg_of_neg_of_pos h gp; omega
      · rw [h, Int.zero_mul] at e2; omega
      · exact h
    · exact cross

def rD (q : Rat) : D := .tup [.int q.num, .int q.den]
def rI (a b : Int) : Rat := (a : Rat) / (b : Rat)
theorem intc {b : Int} (h : b ≠ 0) : (b : Rat) ≠ 0 := by simpa using h
theorem rI_eq {a b x y : Int} (hb : b ≠ 0) (hy : y ≠ 0) (e : x * b = a * y) : rI x y = rI a b := by
  have h1 := intc hb
  have h2 := intc hy
  have e1 : (x : Rat) * b = a * y := by rw [← Rat.intCast_mul, ← Rat.intCast_mul, e]
  unfold rI
  grind
theorem rI_mul {a b : Int} (hb : b ≠ 0) : rI a b * b = a := by
  have h1 := intc hb
  unfold rI
  grind
theorem rat_rI (q : Rat) : rI q.num q.den = q := by
  unfold rI
  rw [← Rat.divInt_eq_div, Rat.num_divInt_den]
theorem den_pos (q : Rat) : (0 : Int) < q.den := by have := q.den_pos; omega
theorem rI_low {x y : Int} (hy : 0 < y) (g : Int.gcd x y = 1) : (rI x y).num = x ∧ ((rI x y).den : Int) = y := by
  have c : x.natAbs.Coprime y.toNat := by
    have : y.toNat = y.natAbs := by omega
    rw [this]
    exact g
  have hz : y.toNat ≠ 0 := by omega
  have e : (⟨x, y.toNat, hz, c⟩ : Rat) = rI x y := by
    rw [Rat.mk_eq_divInt, Rat.divInt_eq_div, Int.toNat_of_nonneg (by omega)]
    rfl
  rw [← e]
  exact ⟨rfl, Int.toNat_of_nonneg (by omega)⟩
theorem frac_rI {a b : Int} (hb : b ≠ 0) : D.tup [.int (frac a b).1, .int (frac a b).2] = rD (rI a b) := by
  obtain ⟨q1, q2, q3, _, _⟩ := frac_ok (a := a) hb
  have e := rI_eq hb (by omega) q2
  obtain ⟨h1, h2⟩ := rI_low q1 q3
  unfold rD
  rw [← e, h1, h2]
def rb (n : Nat) (q : Rat) : Prop := q.num.natAbs < 2 ^ n ∧ q.den < 2 ^ n
theorem bd_mul {a b : Int} {m n : Nat} (ha : a.natAbs < 2 ^ m) (hb : b.natAbs < 2 ^ n) : (a * b).natAbs < 2 ^ (m + n) := by
  rw [Int.natAbs_mul, Nat.pow_add]
  exact Nat.mul_lt_mul'' ha hb
theorem bd_mono {a m n : Nat} (ha : a < 2 ^ m) (h : m ≤ n) : a < 2 ^ n := Nat.lt_of_lt_of_le ha (Nat.pow_le_pow_right (by decide) h)
theorem bd_add {a b : Int} {m : Nat} (ha : a.natAbs < 2 ^ m) (hb : b.natAbs < 2 ^ m) : (a + b).natAbs < 2 ^ (m + 1) := by
  rw [Nat.pow_succ]; omega
theorem bd_sub {a b : Int} {m : Nat} (ha : a.natAbs < 2 ^ m) (hb : b.natAbs < 2 ^ m) : (a - b).natAbs < 2 ^ (m + 1) := by
  rw [Nat.pow_succ]; omega
theorem rb_rI {a b : Int} {n : Nat} (hb : b ≠ 0) (h1 : a.natAbs < 2 ^ n) (h2 : b.natAbs < 2 ^ n) : rb n (rI a b) := by
  obtain ⟨q1, q2, q3, q4, q5⟩ := frac_ok (a := a) hb
  have e := rI_eq hb (by omega) q2
  obtain ⟨k1, k2⟩ := rI_low q1 q3
  rw [← e]
  constructor
  · rw [k1]; omega
  · have : ((rI (frac a b).1 (frac a b).2).den : Int).natAbs < 2 ^ n := by rw [k2]; omega
    rwa [Int.natAbs_natCast] at this
theorem rb_mono {m n : Nat} {q : Rat} (h : rb m q) (k : m ≤ n) : rb n q := ⟨bd_mono h.1 k, bd_mono h.2 k⟩
theorem rb.den {n : Nat} {q : Rat} (h : rb n q) : ((q.den : Nat) : Int).natAbs < 2 ^ n := by rw [Int.natAbs_natCast]; exact h.2
theorem add_rI (p q : Rat) : rI (p.num * q.den + q.num * p.den) (p.den * q.den) = p + q := by
  have h1 := intc (show ((p.den : Nat) : Int) ≠ 0 by have := den_pos p; omega)
  have h2 := intc (show ((q.den : Nat) : Int) ≠ 0 by have := den_pos q; omega)
  have e1 := rat_rI p
  have e2 := rat_rI q
  unfold rI at *
  rw [Rat.intCast_add, Rat.intCast_mul, Rat.intCast_mul, Rat.intCast_mul]
  grind
theorem sub_rI (p q : Rat) : rI (p.num * q.den - q.num * p.den) (p.den * q.den) = p - q := by
  have h1 := intc (show ((p.den : Nat) : Int) ≠ 0 by have := den_pos p; omega)
  have h2 := intc (show ((q.den : Nat) : Int) ≠ 0 by have := den_pos q; omega)
  have e1 := rat_rI p
  have e2 := rat_rI q
  unfold rI at *
  rw [Rat.intCast_sub, Rat.intCast_mul, Rat.intCast_mul, Rat.intCast_mul]
  grind
theorem den2 (p q : Rat) : (p.den : Int) * q.den ≠ 0 := Int.mul_ne_zero (by have := den_pos p; omega) (by have := den_pos q; omega)
theorem rb_add {m n : Nat} {p q : Rat} (hp : rb m p) (hq : rb n q) : rb (m + n + 1) (p + q) := by
  rw [← add_rI]
  refine rb_rI (den2 p q) (bd_add (bd_mul hp.1 hq.den) ?_) (bd_mono (bd_mul hp.den hq.den) (by omega))
  rw [Nat.add_comm m n]
  exact bd_mul hq.1 hp.den
theorem rb_sub {m n : Nat} {p q : Rat} (hp : rb m p) (hq : rb n q) : rb (m + n + 1) (p - q) := by
  rw [← sub_rI]
  refine rb_rI (den2 p q) (bd_sub (bd_mul hp.1 hq.den) ?_) (bd_mono (bd_mul hp.den hq.den) (by omega))
  rw [Nat.add_comm m n]
  exact bd_mul hq.1 hp.den
theorem rb_0 : rb 1 0 := ⟨by decide, by decide⟩
theorem rb_1 : rb 1 1 := ⟨by decide, by decide⟩
theorem rD_0 : D.tup [.int 0, .int 1] = rD 0 := rfl
theorem rD_1 : D.tup [.int 1, .int 1] = rD 1 := rfl
theorem hIx_rD0 (q : Rat) : hIx (rD q) (.int 0) = some (.int q.num) := hIxT0
theorem hIx_rD1 (q : Rat) : hIx (rD q) (.int 1) = some (.int q.den) := hIxT1
theorem lt_rat (p q : Rat) : (p.num * q.den < q.num * p.den) = (p < q) := propext (Rat.lt_iff p q).symm
def sumQ (f : Nat → Rat) : Nat → Rat
  | 0 => 0
  | n + 1 => sumQ f n + f n
theorem rb_sumQ {f : Nat → Rat} {m : Nat} : ∀ {n}, (∀ j, j < n → rb m (f j)) → rb ((m + 1) * (n + 1)) (sumQ f n)
  | 0, _ => rb_mono rb_0 (by omega)
  | n + 1, h => rb_mono (rb_add (rb_sumQ (n := n) (fun j hj => h j (by omega))) (h n (by omega))) (by simp only [Nat.mul_add, Nat.add_mul]; omega)
end Q

namespace Q
open PySem PySem.Spec PyProof.Rows L2
section
variable {fm : Nat → Str → Nat} {c n i : Nat} {f : Str} {ρ : Env} {S : Store} {l m : List D} {x d : D} {r q : Nat}
theorem ev_fldV {cs : List Nat} {a : FE} : eFldV cs f a ρ S = (a ρ S).bind fun x S1 => fldV cs f x S1 := rfl
theorem ev_fld {cs : List Nat} {a : FE} : eFld fm cs f a ρ S = (a ρ S).bind fun x S1 => fldK fm cs f x S1 := rfl
theorem ev_meth {m : Str} {tbl : List (Nat × FF)} {dd : List D} {a : FE} {as : FL} : eMeth m tbl dd a as ρ S = (a ρ S).bind fun x S1 => methK m tbl dd x S1 (fun S2 => as ρ S2) := rfl
theorem ixN_nat {k r : Nat} (h : r < k) : ixN k (r : Int) = some r := by
  unfold ixN
  rw [if_pos (by omega)]
  simp
  exact h
theorem posOf_nat (h : l[r]? = some d) : posOf (.lst l) (.int r) = some (r, d) := by
  have hr := (List.getElem?_eq_some_iff.mp h).1
  show (ixN l.length (r : Int)).bind _ = _
  rw [ixN_nat hr]
  show (l[r]?).map _ = _
  rw [h]
  rfl
theorem deep_of {k : Nat} (hg : getF S n f = some (c, x)) : deep fm S n f k = decide (k ≤ fm c f) := by
  unfold deep
  rw [hg]
theorem pFld_at (ho : ρ[i]? = some (some (.obj n))) (hg : getF S n f = some (c, x)) : pFld [c] f (eVar i) ρ S = .ok n f [] x S := by
  unfold pFld eVar
  rw [ho]
  show pFldK [c] f (.obj n) S = _
  show (match getF S n f with
    | some (c', d) => if c' ∈ [c] then RP.ok n f [] d S else .no
    | none => .no) = _
  rw [hg]
  exact if_pos (List.mem_singleton.mpr rfl)
theorem pIx_at {p : FP} {js : List Nat} {e : FE} {l : List D} (hp : p ρ S = .ok n f js (.lst l) S) (he : e ρ S = .ok (.int r) S) (hg : getF S n f = some (c, x)) (hl : l[r]? = some d) (hf : js.length + 1 ≤ fm c f) : pIx fm p e ρ S = .ok n f (js ++ [r]) d S := by
  unfold pIx
  rw [hp]
  show (match e ρ S with
    | .ok k S2 => pIxK fm n f js S2 (posOf (.lst l) k)
    | .exc y S2 => .exc y S2
    | .no => .no) = _
  rw [he]
  show pIxK fm n f js S (posOf (.lst l) (.int r)) = _
  rw [posOf_nat hl]
  show (if deep fm S n f (js.length + 1) = true then RP.ok n f (js ++ [r]) d S else .no) = _
  rw [deep_of hg, decide_eq_true hf]
  rfl
theorem eAt_at {p : FP} {js : List Nat} (hp : p ρ S = .ok n f js d S) (hg : getF S n f = some (c, x)) (hf : fm c f = js.length) : eAt fm p ρ S = .ok d S := by
  unfold eAt
  rw [hp]
  show (if deep fm S n f js.length = true ∧ deep fm S n f (js.length + 1) = false then RE.ok d S else .no) = _
  rw [deep_of hg, deep_of hg, hf]
  exact if_pos ⟨by simp, by simp⟩
theorem at1 {e : FE} (ho : ρ[i]? = some (some (.obj n))) (hg : getF S n f = some (c, .lst l)) (he : e ρ S = .ok (.int r) S) (hl : l[r]? = some d) (hf : fm c f = 1) : eAt fm (pIx fm (pFld [c] f (eVar i)) e) ρ S = .ok d S :=
  eAt_at (pIx_at (pFld_at ho hg) he hg hl (by rw [hf]; exact Nat.le_refl _)) hg hf
theorem at2 {e e2 : FE} (ho : ρ[i]? = some (some (.obj n))) (hg : getF S n f = some (c, .lst l)) (he : e ρ S = .ok (.int r) S) (hl : l[r]? = some (.lst m)) (he2 : e2 ρ S = .ok (.int q) S) (hm : m[q]? = some d) (hf : fm c f = 2) : eAt fm (pIx fm (pIx fm (pFld [c] f (eVar i)) e) e2) ρ S = .ok d S :=
  eAt_at (pIx_at (pIx_at (pFld_at ho hg) he hg hl (by rw [hf]; decide)) he2 hg hm (by show 2 ≤ fm c f; omega)) hg hf
theorem plPut_at {k : Nat} {js : List Nat} {y : D} (hg : getF S n f = some (c, x)) (hf : fm c f = js.length + k) : plPut fm k n f js y S ρ = .nx ρ (setF S n f (setAt js x y)) := by
  unfold plPut
  rw [hg]
  exact if_pos hf
theorem pset2 {e e2 v : FE} (hv : v ρ S = .ok x S) (ho : ρ[i]? = some (some (.obj n))) (hg : getF S n f = some (c, .lst l)) (he : e ρ S = .ok (.int r) S) (hl : l[r]? = some (.lst m)) (he2 : e2 ρ S = .ok (.int q) S) (hm : q < m.length) (hf : fm c f = 2) : fPSet fm (pIx fm (pFld [c] f (eVar i)) e) e2 v ρ S = .nx ρ (setF S n f (.lst (l.set r (.lst (m.set q x))))) := by
  unfold fPSet
  rw [hv]
  show (pIx fm (pFld [c] f (eVar i)) e ρ S).bindS ρ _ = _
  rw [pIx_at (pFld_at ho hg) he hg hl (by rw [hf]; decide)]
  show (e2 ρ S).bindS ρ _ = _
  rw [he2]
  show optK (posOf (.lst m) (.int q)) _ = _
  rw [posOf_nat (List.getElem?_eq_getElem hm)]
  show plPut fm 1 n f [r] (.lst (m.set q x)) S ρ = _
  rw [plPut_at hg hf]
  show RS.nx ρ (setF S n f (match l[r]? with
    | some d => .lst (l.set r (setAt [] d (.lst (m.set q x))))
    | none => .lst l)) = _
  rw [hl]
  rfl
theorem pmut1 {v : FE} (hv : v ρ S = .ok x S) (ho : ρ[i]? = some (some (.obj n))) (hg : getF S n f = some (c, .lst l)) (hl : l.length < 1000000) (hf : fm c f = 1) : fPMut fm (pFld [c] f (eVar i)) mAppend (lCons v lNil) ρ S = .nx ρ (setF S n f (.lst (l ++ [x]))) := by
  unfold fPMut
  rw [pFld_at ho hg]
  show (if deep fm S n f (0 + 1) = true then _ else RS.no) = _
  rw [deep_of hg, hf]
  show (lCons v lNil ρ S).bindR ρ _ = _
  unfold lCons
  rw [hv]
  show optK (mAppend l [x]) _ = _
  rw [mAppend_lt hl]
  show plPut fm 1 n f [] (.lst (l ++ [x])) S ρ = _
  rw [plPut_at hg hf]
  rfl
theorem papp {v : FE} (hv : v ρ S = .ok x S) (ho : ρ[i]? = some (some (.obj n))) (hg : getF S n f = some (c, .lst l)) (hl : l.length < 1000000) (hf : fm c f = 2) : fPApp fm (pFld [c] f (eVar i)) v ρ S = .nx ρ (setF S n f (.lst (l ++ [x]))) := by
  unfold fPApp
  rw [pFld_at ho hg]
  show (if deep fm S n f (0 + 2) = true ∧ l.length < 1000000 then _ else RS.no) = _
  rw [deep_of hg, hf, if_pos ⟨rfl, hl⟩, hv]
  show plPut fm 2 n f [] (.lst (l ++ [x])) S ρ = _
  rw [plPut_at hg hf]
  rfl
theorem forp1 {tf : D → Env → Option Env} {b : FS} (ho : ρ[i]? = some (some (.obj n))) (hg : getF S n f = some (c, .lst l)) (hf : fm c f = 1) : fForP fm (pFld [c] f (eVar i)) tf b ρ S = forC tf b l ρ S := by
  unfold fForP
  rw [pFld_at ho hg]
  show (if deep fm S n f (0 + 1) = true ∧ deep fm S n f (0 + 2) = false then forC tf b l ρ S else RS.no) = _
  rw [deep_of hg, deep_of hg, hf]
  exact if_pos ⟨rfl, rfl⟩
theorem forp2 {tf : D → Env → Option Env} {b : FS} {e : FE} (ho : ρ[i]? = some (some (.obj n))) (hg : getF S n f = some (c, .lst l)) (he : e ρ S = .ok (.int r) S) (hl : l[r]? = some (.lst m)) (hf : fm c f = 2) : fForP fm (pIx fm (pFld [c] f (eVar i)) e) tf b ρ S = forC tf b m ρ S := by
  unfold fForP
  rw [pIx_at (pFld_at ho hg) he hg hl (by rw [hf]; decide)]
  show (if deep fm S n f (1 + 1) = true ∧ deep fm S n f (1 + 2) = false then forC tf b m ρ S else RS.no) = _
  rw [deep_of hg, deep_of hg, hf]
  exact if_pos ⟨rfl, rfl⟩
theorem forapp {j : Nat} (ho : ρ[i]? = some (some (.obj n))) (hg : getF S n f = some (c, .lst l)) (hs : l.all shortL = true) (hj : j < ρ.length) (hf : fm c f = 2) : fForApp fm (pFld [c] f (eVar i)) j x ρ S = .nx (if l.isEmpty = true then ρ else ρ.set j none) (setF S n f (.lst (l.map (appD x)))) := by
  unfold fForApp
  rw [pFld_at ho hg]
  show (if ([] : List Nat) = [] ∧ deep fm S n f 2 = true ∧ deep fm S n f 3 = false ∧ l.all shortL = true ∧ j < ρ.length then _ else RS.no) = _
  rw [deep_of hg, deep_of hg, hf]
  exact if_pos ⟨rfl, rfl, rfl, hs, hj⟩
end
theorem ev_chain {h h' : D → D → Option D} {a b c : FE} {ρ : Env} {S : Store} : eChain h h' a b c ρ S = (a ρ S).bind fun x S1 => (b ρ S1).bind fun y S2 => (RE.of S2 (h x y)).bind fun z S3 => condE z ((c ρ S3).bind fun w S4 => .of S4 (h' y w)) (.ok (.bl false) S3) := rfl
theorem fldPut_at {fm : Nat → Str → Nat} {c n k : Nat} {f : Str} {d : D} {ρ : Env} {S : Store} {fs : List (Str × D)} (ho : S[n]? = some ⟨c, fs⟩) (hf : fm c f = k) (hl : fs.length < 1000) : fldPut fm [c] k f (.obj n) d ρ S = .nx ρ (S.set n ⟨c, putD f d fs⟩) := by
  show (match S[n]? with
    | some ob => if ob.cls ∈ [c] ∧ fm ob.cls f = k ∧ ob.fs.length < 1000 then RS.nx ρ (S.set n ⟨ob.cls, putD f d ob.fs⟩) else .no
    | none => .no) = _
  rw [ho]
  exact if_pos ⟨List.mem_singleton.mpr rfl, hf, hl⟩
theorem fFld_at {fm : Nat → Str → Nat} {c n k i : Nat} {f : Str} {d : D} {e : FE} {ρ : Env} {S : Store} {fs : List (Str × D)} (he : e ρ S = .ok d S) (hi : ρ[i]? = some (some (.obj n))) (ho : S[n]? = some ⟨c, fs⟩) (hf : fm c f = k) (hl : fs.length < 1000) : fFld fm [c] k f (eVar i) e ρ S = .nx ρ (S.set n ⟨c, putD f d fs⟩) := by
  unfold fFld
  rw [he]
  show (eVar i ρ S).bindS ρ _ = _
  unfold eVar
  rw [hi]
  exact fldPut_at ho hf hl
theorem eMake_at {c : Nat} {Φ : FF} {dd : List D} {as : FL} {ρ : Env} {S S1 S2 : Store} {ds : List D} {o : Env} (ha : as ρ S = .ok ds S1) (hf : Φ (.obj S1.length :: (ds ++ dd)) (S1 ++ [⟨c, []⟩]) = .ok .non o S2) : eMake c Φ dd as ρ S = .ok (.obj S1.length) S2 := by
  unfold eMake
  rw [ha]
  show makeR S1.length (Φ (.obj S1.length :: (ds ++ dd)) (S1 ++ [⟨c, []⟩])) = _
  rw [hf]
  rfl
theorem last_get {S : Store} {o : Ob} : (S ++ [o])[S.length]? = some o := by simp
theorem last_set {S : Store} {o p : Ob} : (S ++ [o]).set S.length p = S ++ [p] := by simp
theorem rfe_ok {d : D} {o : Env} {S : Store} : RFE (.ok d o S) = .ok d S := rfl
theorem call0_ok {Φ : FF} {as : FL} {ρ : Env} {S S1 : Store} {ds : List D} {d : D} {o : Env} (ha : as ρ S = .ok ds S1) (hn : noObjL ds = true) (hf : Φ ds [] = .ok d o []) : eCall0 Φ as ρ S = .ok d S1 := by
  unfold eCall0
  rw [ha]
  show (if noObjL ds = true then (match Φ ds [] with
    | .ok d _ [] => RE.ok d S1
    | _ => .no) else .no) = _
  rw [if_pos hn, hf]
def tbl {α : Type} (m : Nat) (f : Nat → α) : List α := (List.range m).map f
theorem tbl_len {α : Type} {m : Nat} {f : Nat → α} : (tbl m f).length = m := by unfold tbl; simp
theorem tbl_get {α : Type} {m r : Nat} {f : Nat → α} (h : r < m) : (tbl m f)[r]? = some (f r) := by
  unfold tbl
  rw [List.getElem?_map, List.getElem?_range h]
  rfl
theorem tbl_succ {α : Type} {m : Nat} {f : Nat → α} : tbl (m + 1) f = tbl m f ++ [f m] := by
  unfold tbl
  rw [List.range_succ, List.map_append]
  rfl
theorem tbl_congr {α : Type} {m : Nat} {f g : Nat → α} (h : ∀ j, j < m → f j = g j) : tbl m f = tbl m g := by
  unfold tbl
  exact List.map_congr_left fun j hj => h j (List.mem_range.mp hj)
theorem tbl_set {α : Type} {m r : Nat} {f : Nat → α} {x : α} : (tbl m f).set r x = tbl m fun i => if i = r then x else f i := by
  refine List.ext_getElem? fun i => ?_
  rw [List.getElem?_set]
  by_cases hi : i < m
  · rw [tbl_get hi, tbl_get hi, tbl_len]
    by_cases e : r = i
    · subst e; rw [if_pos rfl, if_pos hi, if_pos rfl]
    · rw [if_neg e, if_neg (Ne.symm e)]
  · rw [List.getElem?_eq_none (l := tbl m f) (by rw [tbl_len]; omega), List.getElem?_eq_none (l := tbl m _) (by rw [tbl_len]; omega), tbl_len]
    by_cases e : r = i
    · subst e; rw [if_pos rfl, if_neg hi]
    · rw [if_neg e]
theorem tbl_map {α β : Type} {m : Nat} {f : Nat → α} {g : α → β} : (tbl m f).map g = tbl m fun i => g (f i) := by
  unfold tbl
  rw [List.map_map]
  rfl
theorem tbl_mem {α : Type} {m : Nat} {f : Nat → α} {x : α} : x ∈ tbl m f ↔ ∃ i, i < m ∧ f i = x := by
  unfold tbl
  simp
theorem tbl_zero {α : Type} {f : Nat → α} : tbl 0 f = [] := rfl
theorem tbl_const {α : Type} {m : Nat} {x : α} : tbl m (fun _ => x) = List.replicate m x := by
  refine List.ext_getElem? fun i => ?_
  by_cases hi : i < m
  · rw [tbl_get hi, List.getElem?_replicate, if_pos hi]
  · rw [List.getElem?_eq_none (l := tbl m _) (by rw [tbl_len]; omega), List.getElem?_replicate, if_neg hi]
theorem foldl_tbl {g : Nat → Rat} {x : Rat} : ∀ m, (tbl m g).foldl (· + ·) x = x + sumQ g m
  | 0 => by rw [tbl_zero]; simp only [List.foldl, sumQ]; grind
  | m + 1 => by
    rw [tbl_succ, List.foldl_append, foldl_tbl m]
    simp only [List.foldl, sumQ]
    grind
structure Hs where
  most : Int
  cap : Int
  load : Int
  many : Nat
  marks : Nat → List Rat
  flow : Nat → Nat → Rat
  sky : Nat → Rat × Rat × Rat
  stove : Nat → Option (Rat × Int × Int × Int)
def rsD (m : List Rat) : D := .lst (m.map rD)
def skyD (s : Rat × Rat × Rat) : D := .tup [rD s.1, rD s.2.1, rD s.2.2]
def stoveD : Option (Rat × Int × Int × Int) → D
  | none => .non
  | some (h, w, s, f) => .tup [rD h, .int w, .int s, .int f]
def Hs.flows (h : Hs) : D := .lst (tbl h.many fun i => .lst (tbl h.many fun j => rD (h.flow i j)))
def Hs.fs (h : Hs) : List (Str × D) := [("most", .int h.most), ("cap", .int h.cap), ("load", .int h.load), ("my_marks", .lst (tbl h.many fun i => rsD (h.marks i))), ("my_flows", h.flows), ("my_skies", .lst (tbl h.many fun i => skyD (h.sky i))), ("my_stoves", .lst (tbl h.many fun i => stoveD (h.stove i)))]
def Hs.ob (h : Hs) (c : Nat) : Ob := ⟨c, h.fs⟩
def At (S : Store) (n c : Nat) (h : Hs) : Prop := S[n]? = some (h.ob c)
def Hs.taken (h : Hs) (r : Nat) : Rat := (h.sky r).1 + sumQ (h.flow r) h.many
structure Hs.Wf (h : Hs) (k : Nat) : Prop where
  m4 : h.many ≤ 4
  bf : ∀ i j, i < h.many → j < h.many → rb k (h.flow i j)
  bs : ∀ i, i < h.many → rb k (h.sky i).1
def Hs.add (h : Hs) (ms : List Rat) : Hs := { h with many := h.many + 1, marks := fun i => if i = h.many then ms else h.marks i, flow := fun i j => if i = h.many ∨ j = h.many then 0 else h.flow i j, sky := fun i => if i = h.many then (0, 0, 0) else h.sky i, stove := fun i => if i = h.many then none else h.stove i }
def Hs.setFlow (h : Hs) (r q : Nat) (s : Rat) : Hs := { h with flow := fun i j => if i = r then (if j = q then s else h.flow i j) else h.flow i j }
def Hs.none (a b c : Int) : Hs := ⟨a, b, c, 0, fun _ => [], fun _ _ => 0, fun _ => (0, 0, 0), fun _ => .none⟩
section
variable {S : Store} {n c : Nat} {h : Hs} {fm : Nat → Str → Nat}
theorem At.lt (a : At S n c h) : n < S.length := (List.getElem?_eq_some_iff.mp a).1
theorem At.set {h' : Hs} (a : At S n c h) : At (S.set n (h'.ob c)) n c h' := by
  show (S.set n (h'.ob c))[n]? = _
  rw [List.getElem?_set_self a.lt]
theorem At.marks (a : At S n c h) : getF S n "my_marks" = some (c, .lst (tbl h.many fun i => rsD (h.marks i))) := by
  unfold getF; rw [a]; rfl
theorem At.flows (a : At S n c h) : getF S n "my_flows" = some (c, .lst (tbl h.many fun i => .lst (tbl h.many fun j => rD (h.flow i j)))) := by
  unfold getF; rw [a]; rfl
theorem At.skies (a : At S n c h) : getF S n "my_skies" = some (c, .lst (tbl h.many fun i => skyD (h.sky i))) := by
  unfold getF; rw [a]; rfl
theorem At.most (a : At S n c h) : getF S n "most" = some (c, .int h.most) := by
  unfold getF; rw [a]; rfl
theorem At.cap (a : At S n c h) : getF S n "cap" = some (c, .int h.cap) := by
  unfold getF; rw [a]; rfl
theorem At.load (a : At S n c h) : getF S n "load" = some (c, .int h.load) := by
  unfold getF; rw [a]; rfl
theorem fldV_of {f : Str} {x : D} (hg : getF S n f = some (c, x)) : fldV [c] f (.obj n) S = .ok x S := by
  show (match getF S n f with
    | some (c', d) => if c' ∈ [c] then RE.ok d S else .no
    | none => .no) = _
  rw [hg]
  exact if_pos (List.mem_singleton.mpr rfl)
theorem setF_of {f : Str} {d : D} {o : Ob} (ho : S[n]? = some o) : setF S n f d = S.set n ⟨o.cls, putD f d o.fs⟩ := by
  unfold setF
  rw [ho]
theorem At.putF (a : At S n c h) {f : Str} {d : D} (h' : Hs) (e : putD f d h.fs = h'.fs) : setF S n f d = S.set n (h'.ob c) := by
  rw [setF_of a]
  show S.set n ⟨c, putD f d h.fs⟩ = _
  rw [e]
  rfl
theorem At.put_flow (a : At S n c h) (r q : Nat) (s : Rat) : setF S n "my_flows" (.lst ((tbl h.many fun i => D.lst (tbl h.many fun j => rD (h.flow i j))).set r (.lst ((tbl h.many fun j => rD (h.flow r j)).set q (rD s))))) = S.set n ((h.setFlow r q s).ob c) := by
  refine a.putF _ ?_
  rw [tbl_set, tbl_set]
  show (h.fs.set 4 ("my_flows", .lst (tbl h.many fun i => if i = r then .lst (tbl h.many fun j => if j = q then rD s else rD (h.flow r j)) else .lst (tbl h.many fun j => rD (h.flow i j))))) = _
  rw [tbl_congr (g := fun i => .lst (tbl h.many fun j => rD (if i = r then (if j = q then s else h.flow i j) else h.flow i j))) (fun i _ => by
    split
    · rename_i e
      subst e
      rw [tbl_congr (g := fun j => rD (if j = q then s else h.flow i j)) (fun j _ => by split <;> rfl)]
    · rfl)]
  rfl
def raw (a b c mk fl sk st : D) : List (Str × D) := [("most", a), ("cap", b), ("load", c), ("my_marks", mk), ("my_flows", fl), ("my_skies", sk), ("my_stoves", st)]
section
variable {a b e mk fl sk st : D}
theorem raw_marks (o : S[n]? = some ⟨c, raw a b e mk fl sk st⟩) : getF S n "my_marks" = some (c, mk) := by unfold getF; rw [o]; rfl
theorem raw_flows (o : S[n]? = some ⟨c, raw a b e mk fl sk st⟩) : getF S n "my_flows" = some (c, fl) := by unfold getF; rw [o]; rfl
theorem raw_skies (o : S[n]? = some ⟨c, raw a b e mk fl sk st⟩) : getF S n "my_skies" = some (c, sk) := by unfold getF; rw [o]; rfl
theorem raw_stoves (o : S[n]? = some ⟨c, raw a b e mk fl sk st⟩) : getF S n "my_stoves" = some (c, st) := by unfold getF; rw [o]; rfl
theorem raw_setMarks (o : S[n]? = some ⟨c, raw a b e mk fl sk st⟩) (d : D) : setF S n "my_marks" d = S.set n ⟨c, raw a b e d fl sk st⟩ := by rw [setF_of o]; rfl
theorem raw_setFlows (o : S[n]? = some ⟨c, raw a b e mk fl sk st⟩) (d : D) : setF S n "my_flows" d = S.set n ⟨c, raw a b e mk d sk st⟩ := by rw [setF_of o]; rfl
theorem raw_setSkies (o : S[n]? = some ⟨c, raw a b e mk fl sk st⟩) (d : D) : setF S n "my_skies" d = S.set n ⟨c, raw a b e mk fl d st⟩ := by rw [setF_of o]; rfl
theorem raw_setStoves (o : S[n]? = some ⟨c, raw a b e mk fl sk st⟩) (d : D) : setF S n "my_stoves" d = S.set n ⟨c, raw a b e mk fl sk d⟩ := by rw [setF_of o]; rfl
end
theorem set_get {o p : Ob} (h : S[n]? = some o) : (S.set n p)[n]? = some p := by
  rw [List.getElem?_set_self (List.getElem?_eq_some_iff.mp h).1]
theorem get_of_set {o p : Ob} {S1 : Store} (e : S.set n p = S1) (h : S[n]? = some o) : S1[n]? = some p := by rw [← e]; exact set_get h
theorem rep_one {d : D} {k : Nat} : rep [d] k = tbl k fun _ => d := by
  rw [tbl_const]
  unfold rep
  induction k with
  | zero => rfl
  | succ k ih => rw [List.replicate_succ, List.flatten_cons, ih]; rfl
theorem hRep_one {d : D} {k : Nat} (h : k ≤ 1000) : hRep (.lst [d]) (.int k) = some (.lst (tbl k fun _ => d)) := by
  show (if 0 ≤ (k : Int) ∧ (k : Int) ≤ 1000000 ∧ 1 * (k : Int).toNat ≤ 1000000 then some (D.lst (rep [d] (k : Int).toNat)) else none) = _
  rw [if_pos ⟨by omega, by omega, by omega⟩, Int.toNat_natCast, rep_one]
theorem add_flows {ms : List Rat} : D.lst ((tbl h.many fun i => D.lst (tbl h.many fun j => rD (h.flow i j))).map (appD (rD 0)) ++ [.lst (tbl (h.many + 1) fun _ => rD 0)]) = (h.add ms).flows := by
  unfold Hs.flows
  show _ = D.lst (tbl (h.many + 1) fun i => .lst (tbl (h.many + 1) fun j => rD ((h.add ms).flow i j)))
  rw [tbl_map, tbl_succ (m := h.many) (f := fun i => D.lst (tbl (h.many + 1) fun j => rD ((h.add ms).flow i j)))]
  congr 2
  · refine tbl_congr fun i hi => ?_
    show D.lst (_ ++ [rD 0]) = _
    rw [tbl_succ, tbl_congr (f := fun j => rD ((h.add ms).flow i j)) (g := fun j => rD (h.flow i j)) (fun j hj => by
      show rD (if i = h.many ∨ j = h.many then 0 else h.flow i j) = _
      rw [if_neg (by omega)]), show (h.add ms).flow i h.many = 0 from if_pos (.inr rfl)]
  · refine congrArg (fun z => [D.lst z]) (tbl_congr fun j hj => ?_)
    rw [show (h.add ms).flow h.many j = 0 from if_pos (.inl rfl)]
theorem add_marks {ms : List Rat} : D.lst ((tbl h.many fun i => rsD (h.marks i)) ++ [rsD ms]) = .lst (tbl (h.add ms).many fun i => rsD ((h.add ms).marks i)) := by
  show _ = D.lst (tbl (h.many + 1) _)
  rw [tbl_succ, tbl_congr (f := fun i => rsD ((h.add ms).marks i)) (g := fun i => rsD (h.marks i)) (fun i hi => by
    show rsD (if i = h.many then ms else h.marks i) = _
    rw [if_neg (by omega)]), show (h.add ms).marks h.many = ms from if_pos rfl]
theorem add_skies {ms : List Rat} : D.lst ((tbl h.many fun i => skyD (h.sky i)) ++ [skyD (0, 0, 0)]) = .lst (tbl (h.add ms).many fun i => skyD ((h.add ms).sky i)) := by
  show _ = D.lst (tbl (h.many + 1) _)
  rw [tbl_succ, tbl_congr (f := fun i => skyD ((h.add ms).sky i)) (g := fun i => skyD (h.sky i)) (fun i hi => by
    show skyD (if i = h.many then (0, 0, 0) else h.sky i) = _
    rw [if_neg (by omega)]), show (h.add ms).sky h.many = (0, 0, 0) from if_pos rfl]
theorem add_stoves {ms : List Rat} : D.lst ((tbl h.many fun i => stoveD (h.stove i)) ++ [.non]) = .lst (tbl (h.add ms).many fun i => stoveD ((h.add ms).stove i)) := by
  show _ = D.lst (tbl (h.many + 1) _)
  rw [tbl_succ, tbl_congr (f := fun i => stoveD ((h.add ms).stove i)) (g := fun i => stoveD (h.stove i)) (fun i hi => by
    show stoveD (if i = h.many then .none else h.stove i) = _
    rw [if_neg (by omega)]), show (h.add ms).stove h.many = .none from if_pos rfl]
  rfl
theorem methK_H {m : Str} {Φ : FF} {dd ds : List D} {S2 : Store} {k : Store → RL} (a : At S n c h) (hm : (h.fs.lookup m).isNone = true) (hk : k S = .ok ds S2) : methK m [(c, Φ)] dd (.obj n) S k = RFE (Φ (.obj n :: (ds ++ dd)) S2) := by
  show (match S[n]? with
    | some ob => if (ob.fs.lookup m).isNone = true then (match ([(c, Φ)] : List (Nat × FF)).lookup ob.cls with
      | some Φ => (match k S with
        | .ok ds S2 => RFE (Φ (.obj n :: (ds ++ dd)) S2)
        | .exc y S2 => .exc y S2
        | .no => .no)
      | none => .no) else .no
    | none => .no) = _
  rw [a]
  show (if (h.fs.lookup m).isNone = true then (match ([(c, Φ)] : List (Nat × FF)).lookup c with
      | some Φ => (match k S with
        | .ok ds S2 => RFE (Φ (.obj n :: (ds ++ dd)) S2)
        | .exc y S2 => .exc y S2
        | .no => .no)
      | none => .no) else .no) = _
  rw [if_pos hm]
  simp only [List.lookup, BEq.rfl]
  rw [hk]
end
end Q

namespace Q
open PySem PySem.Spec PyProof.Rows L2
theorem hTru_of {b : Bool} : hTru (.bl b) = some (.bl b) := rfl
theorem rangeL_tbl (m : Nat) : rangeL 0 (m : Int) = tbl m fun j => .int j := by
  unfold rangeL tbl
  rw [show ((m : Int) - 0).toNat = m by omega]
  exact List.map_congr_left fun j _ => by rw [Int.zero_add]
theorem forL_list {α : Type} {v : Nat} {b : FS} (f : α → D) (I : Nat → Env → Store → Prop) {l : List α} {ρ : Env} {S : Store} (h0 : I 0 ρ S) (turn : ∀ i (hi : i < l.length), ∀ ρ S, I i ρ S → ∃ ρ2 S2, b (ρ.set v (some (f l[i]))) S = .nx ρ2 S2 ∧ I (i + 1) ρ2 S2) :
    ∃ ρ' S', forL (tfName v) b (l.map f) ρ S = .nx ρ' S' ∧ I l.length ρ' S' := by
  obtain ⟨ρ', S', e, h⟩ := forL_all (tf := tfName v) (b := b) I (ds := l.map f) h0 (fun i d ρ S hd h => by
    rw [List.getElem?_map] at hd
    obtain ⟨x, e1, e2⟩ := Option.map_eq_some_iff.mp hd
    obtain ⟨hi, e3⟩ := List.getElem?_eq_some_iff.mp e1
    subst e3 e2
    exact ⟨_, rfl, .inl (turn i hi ρ S h)⟩)
  rw [List.length_map] at h
  exact ⟨ρ', S', e, h⟩
def cellAt (ns : List Int) (k : Nat) : Int := ns[k]?.getD 0
theorem hIx_ints {ns : List Int} {k : Nat} (h : k < ns.length) : hIx (.lst (ns.map .int)) (.int k) = some (.int (cellAt ns k)) := hIx_lst (by
  rw [List.getElem?_map, List.getElem?_eq_getElem h]
  unfold cellAt
  rw [List.getElem?_eq_getElem h]
  rfl)
theorem hIx_scrs {ns : List Int} {k : Nat} (h : k < ns.length) : hIx (.scr (ns.map .int)) (.int k) = some (.int (cellAt ns k)) := hIx_scr (by
  rw [List.getElem?_map, List.getElem?_eq_getElem h]
  unfold cellAt
  rw [List.getElem?_eq_getElem h]
  rfl)
theorem cell_none {ns : List Int} {k : Nat} (h : ¬ k < ns.length) : cellAt ns k = 0 := by
  unfold cellAt
  rw [List.getElem?_eq_none (by omega)]
  rfl
def tok (k : Nat) (t : Int × Int) : Prop := t.1.natAbs < 2 ^ k ∧ t.2.natAbs < 2 ^ k ∧ t.2 ≠ 0
theorem rI_zero {w : Int} : rI 0 w = 0 := by
  unfold rI
  simp
  grind
theorem rI_nonneg {a w : Int} (ha : 0 ≤ a) (hw : 0 < w) : 0 ≤ rI a w := by
  have h1 := intc (show w ≠ 0 by omega)
  have h2 : (0 : Rat) ≤ a := by exact_mod_cast ha
  have h3 : (0 : Rat) < w := by exact_mod_cast hw
  unfold rI
  rw [Rat.div_def]
  exact Rat.mul_nonneg h2 (Rat.le_of_lt (Rat.inv_pos.mpr h3))
theorem rI_le {a w c d : Int} (hw : 0 < w) (hd : 0 < d) (h : a * d ≤ c * w) : rI a w ≤ rI c d := by
  have e : rI c d - rI a w = rI (c * w - a * d) (d * w) := by
    have h1 := intc (show w ≠ 0 by omega)
    have h2 := intc (show d ≠ 0 by omega)
    unfold rI
    rw [Rat.intCast_sub, Rat.intCast_mul, Rat.intCast_mul, Rat.intCast_mul]
    grind
  have := rI_nonneg (a := c * w - a * d) (w := d * w) (by omega) (Int.mul_pos hd hw)
  grind
theorem taken_rb {k : Nat} {h : Hs} {r : Nat} (w : h.Wf k) (hr : r < h.many) : rb (k + (k + 1) * 5 + 1) (h.taken r) :=
  rb_mono (rb_add (w.bs r hr) (rb_sumQ (m := k) fun j hj => w.bf r j hr hj)) (by
    have m4 := w.m4
    have := Nat.mul_le_mul_left (k + 1) (show h.many + 1 ≤ 5 by omega)
    omega)
def heatOf : Option (Rat × Int × Int × Int) → Rat
  | none => 0
  | some s => s.1
def Hs.part (h : Hs) (r j : Nat) : Rat := if r = j then 1 - h.taken r else h.flow r j
def Hs.warm (h : Hs) (r : Nat) (air : Nat → Rat) (w : Rat) (b : Bool) : Rat := (h.sky r).1 * w + sumQ (fun j => h.part r j * air j) h.many + (if b = true then heatOf (h.stove r) else 0)
theorem taken_le2 {h : Hs} {r : Nat} (m4 : h.many ≤ 4) (hr : r < h.many) (hs0 : 0 ≤ (h.sky r).1) (hs : (h.sky r).1 ≤ 1) (hf : ∀ j, j < h.many → (if h.many ≤ 3 then (2 : Rat) else 3) * h.flow r j ≤ 1 - (h.sky r).1) (h0 : h.flow r r = 0) : ¬ 1 < h.taken r := by
  unfold Hs.taken
  generalize (h.sky r).1 = s at *
  have k : h.many = 1 ∨ h.many = 2 ∨ h.many = 3 ∨ h.many = 4 := by omega
  have f0 := hf 0
  have f1 := hf 1
  have f2 := hf 2
  have f3 := hf 3
  rcases k with k | k | k | k <;> rw [k] at hr f0 f1 f2 f3 ⊢ <;> simp only [sumQ]
  · have hr : r = 0 := by omega
    subst hr
    grind
  · have hr : r = 0 ∨ r = 1 := by omega
    rw [if_pos (by decide)] at f0 f1
    rcases hr with rfl | rfl <;> grind
  · have hr : r = 0 ∨ r = 1 ∨ r = 2 := by omega
    rw [if_pos (by decide)] at f0 f1 f2
    rcases hr with rfl | rfl | rfl <;> grind
  · have hr : r = 0 ∨ r = 1 ∨ r = 2 ∨ r = 3 := by omega
    rw [if_neg (by decide)] at f0 f1 f2 f3
    rcases hr with rfl | rfl | rfl | rfl <;> grind
end Q

namespace Q
open PySem PySem.Spec PyProof.Rows L2
section
variable {ρ : Env} {S : Store} {K i k : Nat} {js : List Nat} {d x : D} {l : List D}
theorem hMul_sm {a b : Int} (ha : a.natAbs < 2 ^ 220) (hb : b.natAbs < 2 ^ 220) : hMul (.int a) (.int b) = some (.int (a * b)) := hMul_bd ha hb (by decide)
theorem hDiv_sm {a b : Int} (h : 0 < b) (hb : b < 2 ^ 220) : hDiv (.int a) (.int b) = some (.int (a / b)) := hDiv_pos h (by
  have : (2 : Nat) ^ 220 < 2 ^ 8999 := Nat.pow_lt_pow_right (by decide) (by decide)
  omega)
theorem rgK1_ok {n : Int} (h0 : -1000000000000 ≤ n) (h1 : n ≤ 1000000000000) : rgK1 [.int n] S = .ok (rangeL 0 n) S := rgK1_int ⟨h0, h1⟩
theorem rgK2_ok {m n : Int} (h0 : -1000000000000 ≤ m) (h1 : m ≤ 1000000000000) (h2 : -1000000000000 ≤ n) (h3 : n ≤ 1000000000000) : rgK2 [.int m, .int n] S = .ok (rangeL m n) S := rgK2_int ⟨⟨h0, h1⟩, ⟨h2, h3⟩⟩
theorem beq_f {a b : Int} (h : a ≠ b) : (a == b) = false := by simpa using h
theorem beq_t {a b : Int} (h : a = b) : (a == b) = true := by simpa using h
theorem mAppend_ok (h : l.length < 1000000) : mAppend l [x] = some (.non, l ++ [x]) := mAppend_lt h
theorem ev_pvar : pVar i ρ S = (match ρ[i]? with | some (some d) => .ok [] d S | _ => .no) := rfl
theorem ev_pkey {p : FV} {c : Str} : pKey K p c ρ S = (match p ρ S with | .ok js d S1 => pKeyK K js S1 (posT d c) | .exc y S1 => .exc y S1 | .no => .no) := rfl
theorem pKeyK_ok {j : Nat} : pKeyK K js S (some (j, d)) = if js.length + 1 ≤ K then .ok (js ++ [j]) d S else .no := rfl
theorem ev_vmut {p : FV} {h : HM} {a : FL} : fVMut K i p h a ρ S = (p ρ S).bindS ρ fun js d S1 => lstK d fun l => if K = js.length + 1 then (a ρ S1).bindR ρ fun ds S2 => optK (h l ds) fun zl => slotPut K 1 i js (.lst zl.2) S2 ρ else .no := rfl
def vputK (K i : Nat) (js : List Nat) (x k : D) (S : Store) (ρ : Env) (l : List (D × D)) : RS := if (keyF k = true ∧ sortOk l k = true ∧ l.length < 1000000) ∧ js.length + 1 ≤ K ∧ (K - js.length - 1 = 0 ∨ plainV x = true) then slotPut K (K - js.length - 1 + 1) i js (.dct (dput l k x)) S ρ else .no
theorem ev_vput {p : FV} {e v : FE} : fVPut K i p e v ρ S = (v ρ S).bindS ρ fun x S1 => (p ρ S1).bindS ρ fun js d S2 => (e ρ S2).bindS ρ fun k S3 => dctK d fun l => vputK K i js x k S3 ρ l := rfl
def slotK (o : Option (Option D)) (b : Bool) (i : Nat) (js : List Nat) (x : D) (S : Store) (ρ : Env) : RS := match o with
  | some (some d0) => if b = true then .nx (ρ.set i (some (setAt js d0 x))) S else .no
  | _ => .no
theorem slotPut_ok : slotPut K k i js x S ρ = slotK ρ[i]? (K == js.length + k) i js x S ρ := by
  unfold slotPut slotK
  cases ρ[i]? with
  | none => rfl
  | some o => cases o with
    | none => rfl
    | some d => simp only [beq_iff_eq]
theorem slotK_ok {d0 : D} : slotK (some (some d0)) true i js x S ρ = .nx (ρ.set i (some (setAt js d0 x))) S := rfl
theorem rv_ok {k : List Nat → D → Store → RS} : (RV.ok js d S).bindS ρ k = k js d S := rfl
theorem rl_bindR {ds : List D} {k : List D → Store → RS} : (RL.ok ds S).bindR ρ k = k ds S := rfl
theorem lstK_lst {k : List D → RS} : lstK (.lst l) k = k l := rfl
theorem dctK_dct {l : List (D × D)} {k : List (D × D) → RS} : dctK (.dct l) k = k l := rfl
theorem optK_some {α : Type} {a : α} {k : α → RS} : optK (some a) k = k a := rfl
theorem setAt_nil {y : D} : setAt [] d x = x := rfl
theorem hIxD_lst {c : D} : hIxD (.lst l) c = hIx (.lst l) c := rfl
theorem hIxD_tup {c : D} : hIxD (.tup l) c = hIx (.tup l) c := rfl
theorem keyF_str {c : Str} : keyF (.str c) = true := rfl
theorem keyF_pair {a b : Int} : keyF (.tup [.int a, .int b]) = true := by
  unfold keyF
  simp only [nk, nkL, Option.map_some, Option.any_some]
  exact of_decide_eq_true rfl
end
section
variable {ρ : Env} {S : Store}
def call0R (r : RF) (S : Store) : RE := match r with
  | .ok d _ [] => .ok d S
  | _ => .no
def call0K (Φ : FF) (ds : List D) (S : Store) : RE := if noObjL ds = true then call0R (Φ ds []) S else .no
theorem ev_call0 {Φ : FF} {as : FL} : eCall0 Φ as ρ S = (match as ρ S with
    | .ok ds S1 => if noObjL ds = true then (match Φ ds [] with
      | .ok d _ [] => RE.ok d S1
      | _ => .no) else .no
    | .exc y S1 => .exc y S1
    | .no => .no) := rfl
theorem ev_call0' {Φ : FF} {as : FL} : eCall0 Φ as ρ S = (as ρ S).bindE (call0K Φ) := by
  rw [ev_call0]
  cases as ρ S <;> rfl
def call0C (b : Bool) (r : RF) (S : Store) : RE := if b = true then call0R r S else .no
theorem call0K_ok {Φ : FF} {ds : List D} : call0K Φ ds S = call0C (noObjL ds) (Φ ds []) S := rfl
theorem call0C_t {r : RF} : call0C true r S = call0R r S := rfl
theorem call0R_ok {d : D} {o : Env} : call0R (.ok d o []) S = .ok d S := rfl
theorem noObjL_nil : noObjL [] = true := by simp only [noObjL]
theorem noObjL_cons {d : D} {l : List D} : noObjL (d :: l) = (noObj d && noObjL l) := by simp only [noObjL]
theorem noObj_int {i : Int} : noObj (.int i) = true := by simp only [noObj]
theorem noObj_bl {i : Bool} : noObj (.bl i) = true := by simp only [noObj]
theorem noObj_str {i : Str} : noObj (.str i) = true := by simp only [noObj]
theorem noObj_non : noObj .non = true := by simp only [noObj]
theorem noObj_tup {l : List D} : noObj (.tup l) = noObjL l := by simp only [noObj]
theorem noObj_lst {l : List D} : noObj (.lst l) = noObjL l := by simp only [noObj]
theorem noObj_scr {l : List D} : noObj (.scr l) = noObjL l := by simp only [noObj]
theorem noObj_rD {q : Rat} : noObj (rD q) = true := by unfold rD; simp only [noObj, noObjL, Bool.and_self]
theorem noObjL_all {l : List D} (h : ∀ d ∈ l, noObj d = true) : noObjL l = true := by
  induction l with
  | nil => exact noObjL_nil
  | cons d l ih => rw [noObjL_cons, h d (List.mem_cons_self ..), ih fun e he => h e (List.mem_cons_of_mem _ he)]; rfl
theorem noObjL_ints {l : List Int} : noObjL (l.map .int) = true := noObjL_all fun d hd => by
  obtain ⟨i, _, rfl⟩ := List.mem_map.mp hd
  exact noObj_int
theorem noObjL_rats {l : List Rat} : noObjL (l.map rD) = true := noObjL_all fun d hd => by
  obtain ⟨i, _, rfl⟩ := List.mem_map.mp hd
  exact noObj_rD
def dctR (o : Option (List (D × D))) (b : Bool) (S : Store) : RE := match o with
  | some l => if b = true then .ok (.dct l) S else .no
  | none => .no
theorem ev_dct {its : List (Str × Itm)} : eDct its ρ S = dctR (eItms its ρ S) (decide (its.length ≤ 15 ∧ (its.map (·.1)).Nodup)) S := by
  unfold eDct dctR
  cases eItms its ρ S with
  | none => rfl
  | some l => simp only [decide_eq_true_eq]
theorem dctR_ok {l : List (D × D)} {b : Bool} (h : b = true) : dctR (some l) b S = .ok (.dct l) S := if_pos h
def itS (r : RE) (k : Str) (o : Option (List (D × D))) : Option (List (D × D)) := match r with
  | .ok x _ => if plainV x = true then o.map ((.str k, x) :: ·) else none
  | _ => none
theorem itms_nil : eItms [] ρ S = some [] := rfl
theorem itms_l {k : Str} {r : List (Str × Itm)} : eItms ((k, .l) :: r) ρ S = (eItms r ρ S).map ((.str k, .lst []) :: ·) := rfl
theorem itms_d {k : Str} {r : List (Str × Itm)} : eItms ((k, .d) :: r) ρ S = (eItms r ρ S).map ((.str k, .dct []) :: ·) := rfl
theorem itms_s {k : Str} {F : FE} {r : List (Str × Itm)} : eItms ((k, .s F) :: r) ρ S = itS (F ρ S) k (eItms r ρ S) := rfl
theorem itS_ok {x : D} {k : Str} {S1 : Store} {o : Option (List (D × D))} (h : plainV x = true) : itS (.ok x S1) k o = o.map ((.str k, x) :: ·) := if_pos h
end
theorem forL_tbl {v : Nat} {b : FS} {f : Nat → D} (I : Nat → Env → Store → Prop) {m : Nat} {ρ : Env} {S : Store} (h0 : I 0 ρ S) (turn : ∀ i, i < m → ∀ ρ S, I i ρ S → ∃ ρ2 S2, b (ρ.set v (some (f i))) S = .nx ρ2 S2 ∧ I (i + 1) ρ2 S2) :
    ∃ ρ' S', forL (tfName v) b (tbl m f) ρ S = .nx ρ' S' ∧ I m ρ' S' := by
  obtain ⟨ρ', S', e, h⟩ := forL_all (tf := tfName v) (b := b) I (ds := tbl m f) h0 (fun i d ρ S hd h => by
    have hi : i < m := by
      have := (List.getElem?_eq_some_iff.mp hd).1
      rwa [tbl_len] at this
    rw [tbl_get hi] at hd
    cases hd
    exact ⟨_, rfl, .inl (turn i hi ρ S h)⟩)
  rw [tbl_len] at h
  exact ⟨ρ', S', e, h⟩
theorem eLc_fm {α : Type} {it : FL} {vs : List Nat} {v : Nat} {C E : FE} {ρ : Env} {S S1 : Store} (g : α → D) (p : α → Bool) (f : α → D) {l : List α} (hi : it ρ S = .ok (l.map g) S1) (hl : l.length ≤ 1000000)
    (hC : ∀ x ∈ l, C ((wipeE ρ vs).set v (some (g x))) S1 = .ok (.bl (p x)) S1) (hE : ∀ x ∈ l, p x = true → E ((wipeE ρ vs).set v (some (g x))) S1 = .ok (f x) S1) : eLc it vs (tfName v) C E ρ S = .ok (.lst ((l.filter p).map f)) S1 := by
  have k : ∀ (l : List α), (∀ x ∈ l, C ((wipeE ρ vs).set v (some (g x))) S1 = .ok (.bl (p x)) S1) → (∀ x ∈ l, p x = true → E ((wipeE ρ vs).set v (some (g x))) S1 = .ok (f x) S1) → lcL (tfName v) C E (l.map g) (wipeE ρ vs) S1 = .ok ((l.filter p).map f) S1 := by
    intro l
    induction l with
    | nil => intro _ _; rfl
    | cons x l ih =>
      intro h1 h2
      have e2 := ih (fun y hy => h1 y (List.mem_cons_of_mem _ hy)) (fun y hy => h2 y (List.mem_cons_of_mem _ hy))
      have c1 := h1 x (List.mem_cons_self ..)
      rw [List.map_cons, lcL]
      simp only [tfName]
      cases hp : p x with
      | true =>
        rw [hp] at c1
        simp only [c1, h2 x (List.mem_cons_self ..) hp, e2]
        rw [List.filter_cons_of_pos (by rw [hp]), List.map_cons]
      | false =>
        rw [hp] at c1
        simp only [c1, e2]
        rw [List.filter_cons_of_neg (by rw [hp]; decide)]
  unfold eLc
  rw [hi]
  simp only [k l hC hE]
  rw [if_pos (by rw [List.length_map]; exact hl)]
theorem rangeL_map (m : Nat) : rangeL 0 (m : Int) = (List.range m).map fun (k : Nat) => D.int k := rangeL_tbl m
end Q

namespace Q
open PySem PySem.Spec PyProof.Rows L2
structure Td where
  many : Nat
  nb : Nat → Nat
  mv : Nat → Nat → Int
  sky : Nat → Int × Int × Int
  stove : Nat → Option (Int × Int × Int × Int)
  flow : Nat → Nat → Int
  s0 : Int
  s1 : Int
  s2 : Int
  s3 : Int
  b0 : Int
  b1 : Int
  b2 : Int
structure Td.Ok (t : Td) : Prop where
  m1 : 1 ≤ t.many
  m4 : t.many ≤ 4
  nb1 : ∀ r, 1 ≤ t.nb r
  nb6 : ∀ r, t.nb r ≤ 6
  nbp : ∀ n, n < t.many → (tbl n fun r => (t.nb r : Int)).foldl (fun z q => z * q) (t.nb n : Int) ≤ 400
  rise : ∀ r j, t.mv r j < t.mv r (j + 1)
  mlo : ∀ r j, -320 ≤ t.mv r j
  mhi : ∀ r j, t.mv r j ≤ 1600 + 160 * j
  m200 : ∀ r j, j ≤ t.nb r → t.mv r j ≤ 1600
  sk0 : ∀ r, 0 ≤ (t.sky r).1
  sk3 : ∀ r, (t.sky r).1 ≤ 4
  slo : ∀ r, -480 ≤ (t.sky r).2.1
  sle : ∀ r, (t.sky r).2.1 ≤ (t.sky r).2.2
  shi : ∀ r, (t.sky r).2.2 ≤ 1600
  st : ∀ r h w s f, t.stove r = some (h, w, s, f) → (0 ≤ h ∧ h ≤ 800) ∧ (0 ≤ w ∧ w ≤ 9) ∧ (0 ≤ s ∧ s ≤ 3) ∧ (0 ≤ f ∧ f ≤ 3)
  f0 : ∀ r o, 0 ≤ t.flow r o
  f3 : ∀ r o, t.flow r o ≤ 3
  tk : ∀ r o, (t.sky r).1 + (if t.many ≤ 3 then 2 else 3) * t.flow r o ≤ 12
  p0 : 0 < t.s0
  p1 : 0 < t.s1
  p3 : 0 < t.s3
  q0 : t.s0 ≤ 1000000000
  q1 : t.s1 ≤ 8000000000
  q3 : t.s3 ≤ 1000000000
  l2 : -1000000000 ≤ t.s2
  h2 : t.s2 ≤ 1000000000
  b00 : 0 ≤ t.b0
  b04 : t.b0 ≤ 4
  b10 : 0 ≤ t.b1
  b130 : t.b1 ≤ 30
  b20 : 0 ≤ t.b2
  b230 : t.b2 ≤ 30
def Td.marks (t : Td) (r : Nat) : List Int := tbl (t.nb r + 1) (t.mv r)
section
variable {a b c f s g x : D}
end
section
variable {t : Td}
end
def Td.warm (t : Td) (n p : Int) : Rat := rI (n * t.s0 * t.s3 + p * t.s2 * t.s1) (p * t.s1 * t.s3)
def Td.mks (t : Td) (r : Nat) : List Rat := tbl (t.nb r + 1) fun j => t.warm (t.mv r j) 1
def Td.sk (t : Td) (r : Nat) : Rat × Rat × Rat := (rI (t.sky r).1 12, t.warm (t.sky r).2.1 1, t.warm (t.sky r).2.2 1)
def Td.sv (t : Td) (r : Nat) : Option (Rat × Int × Int × Int) := (t.stove r).map fun q => (rI (q.1 * t.s0) t.s1, q.2.1, q.2.2.1, q.2.2.2)
def Td.fl (t : Td) (r o : Nat) : Rat := rI (t.flow r o) 12
section
variable {t : Td} (ok : t.Ok)
include ok
theorem Td.Ok.s30 : t.s0.natAbs < 2 ^ 34 ∧ t.s1.natAbs < 2 ^ 34 ∧ t.s2.natAbs < 2 ^ 34 ∧ t.s3.natAbs < 2 ^ 34 := by
  have h := ok.p0; have h1 := ok.p1; have h3 := ok.p3; have q0 := ok.q0; have q1 := ok.q1; have q3 := ok.q3; have l2 := ok.l2; have h2 := ok.h2
  omega
theorem Td.Ok.den {p : Int} (hp : 0 < p) : 0 < p * t.s1 * t.s3 := Int.mul_pos (Int.mul_pos hp ok.p1) ok.p3
end
def Td.h0 (t : Td) (n : Nat) : Hs := ⟨t.b0, t.b1, t.b2, n, fun i => if i < n then t.mks i else [], fun _ _ => 0, fun _ => (0, 0, 0), fun _ => none⟩
def Td.hj (t : Td) (k o : Nat) : Hs := { t.h0 t.many with flow := fun i j => if (i < k ∧ j < t.many ∨ i = k ∧ j < o) ∧ i ≠ j then t.fl i j else 0, sky := fun i => if i ≤ k then t.sk i else (0, 0, 0), stove := fun i => if i ≤ k then t.sv i else none }
def Td.hk (t : Td) (k : Nat) : Hs := { t.h0 t.many with flow := fun i j => if (i < k ∧ j < t.many) ∧ i ≠ j then t.fl i j else 0, sky := fun i => if i < k then t.sk i else (0, 0, 0), stove := fun i => if i < k then t.sv i else none }
def Td.hs (t : Td) : Hs := t.hk t.many
section
variable {t : Td}
end
section
variable {t : Td} (ok : t.Ok)
include ok
theorem Td.Ok.share_rb {x : Int} (h0 : 0 ≤ x) (h3 : x ≤ 4) : rb 103 (rI x 12) := rb_rI (by decide) (by
  have : (2 : Nat) ^ 103 = 10141204801825835211973625643008 := by decide
  omega) (by decide)
theorem Td.Ok.fl_rb (r o : Nat) : rb 103 (t.fl r o) := ok.share_rb (ok.f0 r o) (Int.le_trans (ok.f3 r o) (by decide))
theorem Td.Ok.sk_rb (r : Nat) : rb 103 (t.sk r).1 := ok.share_rb (ok.sk0 r) (ok.sk3 r)
structure Td.Part (t : Td) (h : Hs) : Prop where
  many : h.many = t.many
  flow : ∀ i j, h.flow i j = 0 ∨ h.flow i j = t.fl i j
  self : ∀ i, h.flow i i = 0
  sky : ∀ i, (h.sky i).1 = 0 ∨ (h.sky i).1 = (t.sk i).1
theorem Td.Part.wf {h : Hs} (g : t.Part h) : h.Wf 103 where
  m4 := by rw [g.many]; exact ok.m4
  bf i j _ _ := by
    rcases g.flow i j with e | e
    · rw [e]; exact rb_mono rb_0 (by decide)
    · rw [e]; exact ok.fl_rb i j
  bs i _ := by
    rcases g.sky i with e | e
    · rw [e]; exact rb_mono rb_0 (by decide)
    · rw [e]; exact ok.sk_rb i
omit ok in
theorem rI_fl {x : Int} {c : Int} : (c : Rat) * rI x 12 = rI (c * x) 12 := by
  unfold rI
  rw [Rat.intCast_mul]
  grind
theorem Td.Part.le {h : Hs} (g : t.Part h) {r : Nat} (hr : r < t.many) : ¬ 1 < h.taken r := by
  have k0 := ok.sk0 r
  have k4 := ok.sk3 r
  obtain ⟨a, ea, a0, a1⟩ : ∃ a : Int, (h.sky r).1 = rI a 12 ∧ 0 ≤ a ∧ a ≤ (t.sky r).1 := by
    rcases g.sky r with e | e
    · exact ⟨0, by rw [e, rI_zero], Int.le_refl _, k0⟩
    · exact ⟨(t.sky r).1, e, k0, Int.le_refl _⟩
  refine taken_le2 (by rw [g.many]; exact ok.m4) (by rw [g.many]; exact hr) (by rw [ea]; exact rI_nonneg a0 (by decide)) (by
    rw [ea, show (1 : Rat) = rI 1 1 from by unfold rI; grind]
    exact rI_le (by decide) (by decide) (by omega)) (fun j _ => ?_) (g.self r)
  have e1 : (1 : Rat) - rI a 12 = rI (12 - a) 12 := by
    have := rI_mul (a := a) (b := 12) (by decide)
    have := rI_mul (a := 12 - a) (b := 12) (by decide)
    rw [Rat.intCast_sub] at this
    grind
  obtain ⟨f, ef, f0, f1⟩ : ∃ f : Int, h.flow r j = rI f 12 ∧ 0 ≤ f ∧ f ≤ t.flow r j := by
    rcases g.flow r j with e | e
    · exact ⟨0, by rw [e, rI_zero], Int.le_refl _, ok.f0 r j⟩
    · exact ⟨t.flow r j, e, ok.f0 r j, Int.le_refl _⟩
  have ht := ok.tk r j
  rw [ea, ef, e1, g.many]
  split
  · rename_i hm
    rw [if_pos hm] at ht
    rw [show (2 : Rat) = ((2 : Int) : Rat) from rfl, rI_fl]
    exact rI_le (by decide) (by decide) (by omega)
  · rename_i hm
    rw [if_neg hm] at ht
    rw [show (3 : Rat) = ((3 : Int) : Rat) from rfl, rI_fl]
    exact rI_le (by decide) (by decide) (by omega)
omit ok
end
theorem methK_o {S : Store} {n c : Nat} {h : Hs} {m : Str} {Φ : FF} {dd : List D} {k : Store → RL} (a : At S n c h) (hm : (h.fs.lookup m).isNone = true) : methK m [(c, Φ)] dd (.obj n) S k = (k S).bindE fun ds S2 => RFE (Φ (.obj n :: (ds ++ dd)) S2) := by
  show (match S[n]? with
    | some ob => if (ob.fs.lookup m).isNone = true then (match ([(c, Φ)] : List (Nat × FF)).lookup ob.cls with
      | some Φ => (match k S with
        | .ok ds S2 => RFE (Φ (.obj n :: (ds ++ dd)) S2)
        | .exc y S2 => .exc y S2
        | .no => .no)
      | none => .no) else .no
    | none => .no) = _
  rw [a]
  show (if (h.fs.lookup m).isNone = true then (match ([(c, Φ)] : List (Nat × FF)).lookup c with
      | some Φ => (match k S with
        | .ok ds S2 => RFE (Φ (.obj n :: (ds ++ dd)) S2)
        | .exc y S2 => .exc y S2
        | .no => .no)
      | none => .no) else .no) = _
  rw [if_pos hm]
  simp only [List.lookup, BEq.rfl]
  cases k S <;> rfl
theorem rfe_exc {x : Exc} {o : Env} {S : Store} : RFE (.exc x o S) = .exc x S := rfl
section
variable {t : Td}
end
end Q

namespace Q
open PySem PySem.Spec PyProof.Rows L2
section
variable {ρ : Env} {S : Store} {K m i j s : Nat} {js : List Nat} {d x : D} {l : List D}
end
end Q

namespace Q
open PySem PySem.Spec PyProof.Rows L2
def Td.mild (t : Td) : Td := { t with mv := fun r j => if t.nb r ≤ j then 200 + ((j : Int) - t.nb r) else if j = 0 then -40 else t.mv r j }
theorem Td.Ok.mild {t : Td} (ok : t.Ok) (h : ∀ r j, -30 ≤ t.mv r j ∧ (j < t.nb r → t.mv r j < 200)) : t.mild.Ok :=
  { ok with
    rise := fun r j => by
      have h1 := h r j
      have h2 := h r (j + 1)
      have h3 := ok.rise r j
      have h4 := ok.nb1 r
      show (if t.nb r ≤ j then 200 + ((j : Int) - t.nb r) else if j = 0 then -40 else t.mv r j) < (if t.nb r ≤ j + 1 then 200 + (((j + 1 : Nat) : Int) - t.nb r) else if j + 1 = 0 then -40 else t.mv r (j + 1))
      by_cases c : t.nb r ≤ j
      · rw [if_pos c, if_pos (by omega)]; omega
      · rw [if_neg c]
        by_cases c1 : t.nb r ≤ j + 1
        · rw [if_pos c1]
          split <;> omega
        · rw [if_neg c1, if_neg (show ¬ (j + 1 = 0) by omega)]
          split <;> omega
    mlo := fun r j => by
      have h1 := h r j
      show -320 ≤ (if t.nb r ≤ j then 200 + ((j : Int) - t.nb r) else if j = 0 then -40 else t.mv r j)
      split
      · omega
      · split <;> omega
    mhi := fun r j => by
      have h1 := h r j
      show (if t.nb r ≤ j then 200 + ((j : Int) - t.nb r) else if j = 0 then -40 else t.mv r j) ≤ _
      split
      · omega
      · split <;> omega
    m200 := fun r j hj => by
      have h1 := h r j
      have hj : j ≤ t.nb r := hj
      show (if t.nb r ≤ j then 200 + ((j : Int) - t.nb r) else if j = 0 then -40 else t.mv r j) ≤ 1600
      split
      · omega
      · split <;> omega }
end Q

namespace Q
open PySem PySem.Spec PyProof.Rows L2
def sumI (f : Nat → Int) : Nat → Int
  | 0 => 0
  | n + 1 => sumI f n + f n
theorem sumI_le {f g : Nat → Int} : ∀ {n}, (∀ j, j < n → f j ≤ g j) → sumI f n ≤ sumI g n
  | 0, _ => Int.le_refl _
  | n + 1, h => by
    simp only [sumI]
    have h1 := sumI_le (n := n) (fun j hj => h j (by omega))
    have h2 := h n (by omega)
    omega
def Td.off (t : Td) (r j : Nat) : Int := if j = r then 0 else t.flow r j
def Td.rest (t : Td) (r : Nat) : Int := 12 - (t.sky r).1 - sumI (t.off r) t.many
def Td.span (t : Td) (r : Nat) (n : Nat → Int) (m : Int) : Int := (t.sky r).1 * m + sumI (fun j => t.off r j * n j) t.many + t.rest r * n r
def heat4 : Option (Int × Int × Int × Int) → Int
  | none => 0
  | some q => q.1
section
variable {t : Td} (ok : t.Ok)
theorem off_self {r : Nat} : t.off r r = 0 := if_pos rfl
include ok
theorem Td.Ok.off0 (r j : Nat) : 0 ≤ t.off r j := by unfold Td.off; split; exact Int.le_refl _; exact ok.f0 r j
theorem Td.Ok.rest0 {r : Nat} (hr : r < t.many) : 0 ≤ t.rest r := by
  have m4 := ok.m4
  have h2 := ok.sk3 r
  have k : t.many = 1 ∨ t.many = 2 ∨ t.many = 3 ∨ t.many = 4 := by omega
  have hs : t.off r r = 0 := off_self
  have g : ∀ j, (t.sky r).1 + (if t.many ≤ 3 then 2 else 3) * t.off r j ≤ 12 := fun j => by
    have := ok.tk r j
    unfold Td.off
    by_cases e : j = r
    · rw [if_pos e, Int.mul_zero]; omega
    · rw [if_neg e]; exact this
  have g0 := g 0; have g1 := g 1; have g2 := g 2; have g3 := g 3
  unfold Td.rest
  rcases k with k | k | k | k <;> rw [k] at hr g0 g1 g2 g3 ⊢ <;> simp only [sumI]
  · have hr : r = 0 := by omega
    subst hr
    omega
  · have hr : r = 0 ∨ r = 1 := by omega
    rw [if_pos (by decide)] at g0 g1
    rcases hr with rfl | rfl <;> omega
  · have hr : r = 0 ∨ r = 1 ∨ r = 2 := by omega
    rw [if_pos (by decide)] at g0 g1 g2
    rcases hr with rfl | rfl | rfl <;> omega
  · have hr : r = 0 ∨ r = 1 ∨ r = 2 ∨ r = 3 := by omega
    rw [if_neg (by decide)] at g0 g1 g2 g3
    rcases hr with rfl | rfl | rfl | rfl <;> omega
theorem Td.Ok.span_le {r : Nat} (hr : r < t.many) {n n' : Nat → Int} {m m' : Int} (hn : ∀ j, j < t.many → n j ≤ n' j) (hm : m ≤ m') : t.span r n m ≤ t.span r n' m' := by
  unfold Td.span
  have h1 := Int.mul_le_mul_of_nonneg_left hm (ok.sk0 r)
  have h2 := sumI_le (f := fun j => t.off r j * n j) (g := fun j => t.off r j * n' j) (n := t.many) (fun j hj => Int.mul_le_mul_of_nonneg_left (hn j hj) (ok.off0 r j))
  have h3 := Int.mul_le_mul_of_nonneg_left (hn r hr) (ok.rest0 hr)
  omega
omit ok
include ok
end
def Td.lo (t : Td) (r : Nat) (bd : Nat → Nat) (b : Bool) : Int := t.span r (fun j => t.mv j (bd j)) (t.sky r).2.1 + (if b = true then 12 * heat4 (t.stove r) else 0)
def Td.hi (t : Td) (r : Nat) (bd : Nat → Nat) (b : Bool) : Int := t.span r (fun j => t.mv j (bd j + 1)) (t.sky r).2.2 + (if b = true then 12 * heat4 (t.stove r) else 0)
section
variable {t : Td} (ok : t.Ok)
include ok
end
end Q

namespace Q
open PySem PySem.Spec PyProof.Rows L2
section
variable {ρ : Env} {S : Store}
theorem ev_callD {Φ : FF} {dd : List D} {as : FL} : eCallD Φ dd as ρ S = (as ρ S).bindE fun ds S1 => RFE (Φ (ds ++ dd) S1) := by
  unfold eCallD
  cases as ρ S <;> rfl
theorem ev_make {c : Nat} {Φ : FF} {dd : List D} {as : FL} : eMake c Φ dd as ρ S = (as ρ S).bindE fun ds S1 => makeR S1.length (Φ (.obj S1.length :: (ds ++ dd)) (S1 ++ [⟨c, []⟩])) := by
  unfold eMake
  cases as ρ S <;> rfl
theorem makeR_ok {n : Nat} {o : Env} : makeR n (.ok .non o S) = .ok (.obj n) S := rfl
theorem makeR_exc {n : Nat} {x : Exc} {o : Env} : makeR n (.exc x o S) = .exc x S := rfl
end
section
variable {t : Td} (ok : t.Ok)
include ok
theorem Td.Ok.bands {n : Nat} (hn : n < t.many) : (tbl n t.mks).foldl (fun z q => z * ((q.length : Int) - 1)) (((t.mks n).length : Int) - 1) ≤ 400 := by
  have e : ∀ r, (((t.mks r).length : Nat) : Int) - 1 = t.nb r := fun r => by
    have : (t.mks r).length = t.nb r + 1 := tbl_len
    omega
  have h := ok.nbp n hn
  have k : ∀ (l : List Nat) (z : Int), (l.map t.mks).foldl (fun z q => z * ((q.length : Int) - 1)) z = (l.map fun r => (t.nb r : Int)).foldl (fun z q => z * q) z := by
    intro l
    induction l with
    | nil => exact fun _ => rfl
    | cons a l ih =>
      intro z
      rw [List.map_cons, List.map_cons, List.foldl_cons, List.foldl_cons, e]
      exact ih _
  rw [e]
  unfold tbl at h ⊢
  rw [k]
  exact h
end
structure Hs.Good (g : Hs) (k : Nat) : Prop where
  k5 : k ≤ 500
  b0 : 0 ≤ g.most ∧ g.most ≤ 4
  b1 : 0 ≤ g.cap ∧ g.cap ≤ 30
  b2 : 0 ≤ g.load ∧ g.load ≤ 30
  m4 : g.many ≤ 4
  l2 : ∀ i, i < g.many → 2 ≤ (g.marks i).length
  l7 : ∀ i, i < g.many → (g.marks i).length ≤ 7
  mb : ∀ i, i < g.many → ∀ q ∈ g.marks i, rb k q
  rise : ∀ i, i < g.many → ∀ j (hj : j + 1 < (g.marks i).length), (g.marks i)[j] < (g.marks i)[j + 1]
  bands : ∀ i, i < g.many → (tbl i g.marks).foldl (fun z q => z * ((q.length : Int) - 1)) (((g.marks i).length : Int) - 1) ≤ 400
  fb : ∀ i j, i < g.many → j < g.many → rb k (g.flow i j)
  f0 : ∀ i j, i < g.many → j < g.many → 0 ≤ g.flow i j
  fs : ∀ i, i < g.many → g.flow i i = 0
  sb : ∀ i, i < g.many → rb k (g.sky i).1
  s0 : ∀ i, i < g.many → 0 ≤ (g.sky i).1
  lb : ∀ i, i < g.many → rb k (g.sky i).2.1
  hb : ∀ i, i < g.many → rb k (g.sky i).2.2
  lh : ∀ i, i < g.many → ¬ (g.sky i).2.2 < (g.sky i).2.1
  t1 : ∀ i, i < g.many → ¬ 1 < g.taken i
  st : ∀ i q w s f, i < g.many → g.stove i = some (q, w, s, f) → rb k q ∧ ¬ q < 0 ∧ (0 ≤ w ∧ w ≤ 9) ∧ (0 ≤ s ∧ s ≤ 3) ∧ (0 ≤ f ∧ f ≤ 3)
theorem Hs.Good.wf {g : Hs} {k : Nat} (G : g.Good k) : g.Wf k := ⟨G.m4, G.fb, G.sb⟩
def Hs.st0 (g : Hs) (n : Nat) : Hs := ⟨g.most, g.cap, g.load, n, fun i => if i < n then g.marks i else [], fun _ _ => 0, fun _ => (0, 0, 0), fun _ => .none⟩
section
variable {g : Hs} {sk st a b k i o c : Nat}
section
variable (G : g.Good k)
include G
end
end
def Hs.like (h : Hs) (u v w : Int) : Hs := { h with most := u, cap := v, load := w }
theorem Hs.Good.like {h : Hs} {k : Nat} (G : h.Good k) {u v w : Int} (hu : 0 ≤ u ∧ u ≤ 4) (hv : 0 ≤ v ∧ v ≤ 30) (hw : 0 ≤ w ∧ w ≤ 30) : (h.like u v w).Good k where
  k5 := G.k5
  b0 := hu
  b1 := hv
  b2 := hw
  m4 := G.m4
  l2 := G.l2
  l7 := G.l7
  mb := G.mb
  rise := G.rise
  bands := G.bands
  fb := G.fb
  f0 := G.f0
  fs := G.fs
  sb := G.sb
  s0 := G.s0
  lb := G.lb
  hb := G.hb
  lh := G.lh
  t1 := G.t1
  st := G.st
theorem At.app {S : Store} {n c : Nat} {h : Hs} (a : At S n c h) (l : List Ob) : At (S ++ l) n c h := by
  have hl := a.lt
  unfold At at a ⊢
  rw [List.getElem?_append_left hl]
  exact a
end Q

namespace Q
open PySem PySem.Spec PyProof.Rows L2
def bitsOf (l : List Nat) : Nat := l.foldl (fun n r => n ||| 2 ^ r) 0
def rms (k n : Nat) : List Nat := (List.range k).filter fun j => n.testBit j
def cntB (n : Nat) : Nat := (rms 61 n).length
structure Stt where
  bd : List Int
  bu : Nat
  wt : List Int
  fl : List Int
  hp : Int
def itD (l : List Int) : D := .tup (l.map .int)
def Stt.d (s : Stt) : D := .tup [itD s.bd, .int s.bu, itD s.wt, itD s.fl, .int s.hp]
def gi (l : List Int) (r : Nat) : Int := l.getD r 0
section
variable {s : Stt} {l : List Int} {r : Nat}
end
section
variable {b c : Bool} {S : Store} {ρ : Env}
end
structure IsSt (h : Hs) (s : Stt) : Prop where
  l0 : s.bd.length = h.many
  l2 : s.wt.length = h.many
  l3 : s.fl.length = h.many
  bu : s.bu < 2 ^ h.many
  mo : (cntB s.bu : Int) ≤ h.most
  h0 : 0 ≤ s.hp
  h1 : s.hp ≤ h.cap
  b0 : ∀ r, r < h.many → 0 ≤ gi s.bd r
  b1 : ∀ r, r < h.many → gi s.bd r + 2 ≤ (h.marks r).length
  n : ∀ r, r < h.many → h.stove r = none → s.bu.testBit r = false ∧ gi s.wt r = 0 ∧ gi s.fl r = 0
  y : ∀ r q, r < h.many → h.stove r = some q → (0 ≤ gi s.wt r ∧ gi s.wt r ≤ q.2.2.1) ∧ (0 ≤ gi s.fl r ∧ gi s.fl r ≤ q.2.2.2) ∧ (gi s.fl r = 0 ∨ s.bu.testBit r = false ∧ gi s.wt r = 0)
def woodAt (h : Hs) (r : Nat) : Int := match h.stove r with
  | none => 0
  | some q => q.2.1
def woodL (h : Hs) (l : List Nat) : Int := l.foldl (fun z r => z + woodAt h r) 0
def woodOf (h : Hs) (n : Nat) : Int := woodL h (rms h.many n)
def okO (h : Hs) (s : Stt) (o : Nat) : Bool := decide (o < 2 ^ h.many) && ((List.range h.many).all fun r => (!o.testBit r || (h.stove r).isSome) && (!decide (0 < gi s.wt r) || (o.testBit r == s.bu.testBit r))) && decide ((cntB o : Int) ≤ h.most) && decide (woodOf h o ≤ s.hp)
structure OkO (h : Hs) (s : Stt) (o : Nat) : Prop where
  lt : o < 2 ^ h.many
  st : ∀ r, r < h.many → o.testBit r = true → (h.stove r).isSome = true
  wt : ∀ r, r < h.many → 0 < gi s.wt r → o.testBit r = s.bu.testBit r
  mo : (cntB o : Int) ≤ h.most
  wd : woodOf h o ≤ s.hp
def ordersL (h : Hs) (s : Stt) : List Nat := (List.range (2 ^ h.many)).filter (okO h s)
def subsL (l : List Nat) : List Nat := l.foldl (fun f r => f ++ f.map (· + 2 ^ r)) [0]
def partsL (k n : Nat) : List Nat := subsL (rms k n)
def failsAt (h : Hs) (r : Nat) : Int := match h.stove r with
  | none => 0
  | some q => q.2.2.2
def stayAt (h : Hs) (r : Nat) : Int := match h.stove r with
  | none => 0
  | some q => q.2.2.1
def mayS (h : Hs) (s : Stt) (o : Nat) : Nat := bitsOf (((rms h.many o).filter fun r => !s.bu.testBit r).filter fun r => decide (gi s.fl r < failsAt h r))
def waitB (h : Hs) (s : Stt) (b : Nat) (r : Nat) : Int := if b.testBit r ≠ s.bu.testBit r then stayAt h r else max 0 (gi s.wt r - 1)
def failB (s : Stt) (b out : Nat) (r : Nat) : Int := if b.testBit r = true then (if out.testBit r = true then 1 else 0) else gi s.fl r + (if out.testBit r = true then 1 else 0)
def heapB (h : Hs) (s : Stt) (b : Nat) : Int := min h.cap (s.hp - woodOf h b + h.load)
def behS (h : Hs) (s : Stt) (o out : Nat) (bd : List Int) : Stt := ⟨bd, o - out, tbl h.many (waitB h s (o - out)), tbl h.many (failB s (o - out) out), heapB h s (o - out)⟩
theorem intsOf_nD : ∀ l : List Nat, intsOf (l.map fun b : Nat => D.int b) = some (l.map fun b : Nat => (b : Int))
  | [] => rfl
  | a :: l => by rw [List.map_cons, List.map_cons, intsOf, intsOf_nD l]; rfl
theorem sort_nat {a b : List Nat} (ha : a.Pairwise (· < ·)) (hb : b.Nodup) (h : ∀ x, x ∈ b ↔ x ∈ a) : hSort (.lst (b.map fun b : Nat => D.int b)) = some (.lst (a.map fun b : Nat => D.int b)) := by
  have p : a.Perm b := (List.perm_ext_iff_of_nodup (ha.imp fun h => Nat.ne_of_lt h) hb).mpr fun x => (h x).symm
  have e := isort_eq (a := a.map fun b : Nat => (b : Int)) (b := b.map fun b : Nat => (b : Int)) (by
    rw [List.pairwise_map]
    exact ha.imp fun h => by omega) (p.map _)
  show Option.map (fun ns => D.lst ((isort ns).map .int)) (intsOf (b.map fun b : Nat => D.int b)) = _
  rw [intsOf_nD, Option.map_some, ← e, List.map_map]
  rfl
end Q

namespace Q
open PySem PySem.Spec PyProof.Rows L2
section
variable (t : Td) (c : Int) (k : Nat)
variable {t c k}
end
end Q

namespace Q
open PySem PySem.Spec PyProof.Rows L2
section
variable {h : Hs} {s : Stt} {w : Nat} (m4 : h.many ≤ 4) (i : IsSt h s)
include m4
include i
variable (h0 : ∀ r, r < h.many → 0 ≤ woodAt h r)
include h0
end
section
variable {h : Hs} {s : Stt} {w : Nat}
end
end Q

namespace Q
open PySem PySem.Spec PyProof.Rows L2
end Q

namespace Q
open PySem PySem.Spec PyProof.Rows L2
theorem hIn_nats {neg : Bool} {o : Nat} {l : List Nat} : hIn neg (.int o) (.lst (l.map fun b : Nat => D.int b)) = some (.bl (if neg then !decide (o ∈ l) else decide (o ∈ l))) := by
  have e : (l.map fun b : Nat => D.int b) = (l.map fun b : Nat => (b : Int)).map .int := by rw [List.map_map]; rfl
  have m : (((o : Nat) : Int) ∈ l.map fun b : Nat => (b : Int)) ↔ o ∈ l := by
    rw [List.mem_map]
    constructor
    · rintro ⟨a, h, z⟩
      have : a = o := by omega
      rwa [this] at h
    · intro h
      exact ⟨o, h, rfl⟩
  rw [e, hIn_ints]
  simp only [m]
theorem flat_len {α β : Type} {l : List α} {f : α → List β} {c : Nat} (h : ∀ x, (f x).length ≤ c) : (l.flatMap f).length ≤ l.length * c := by
  induction l with
  | nil => simp
  | cons a l ih =>
    rw [List.flatMap_cons, List.length_append, List.length_cons, Nat.add_mul, Nat.one_mul]
    have := h a
    omega
def wkFs (m : Nat) (s : D) (k : Int) (e : Bool) : List (Str × D) := [("my_hold", .obj m), ("my_state", s), ("my_turns", .int k), ("my_end", .bl e)]
section
variable {S : Store} {w W m : Nat} {s : D} {k : Int} {e : Bool} (a : S[w]? = some ⟨W, wkFs m s k e⟩)
include a
end
def Td.pT (t : Td) (r : Nat) (lo hi : Int) (b : Nat) : Bool := decide (12 * t.mv r b ≤ hi) && decide (lo ≤ 12 * t.mv r (b + 1))
def Td.tch (t : Td) (r : Nat) (lo hi : Int) : List Nat := (List.range (t.nb r)).filter (t.pT r lo hi)
def Td.ins (t : Td) (r : Nat) (lo hi : Int) : Bool := decide (12 * t.mv r 0 ≤ lo) && decide (hi ≤ 12 * t.mv r (t.nb r))
def rowsB (tc : Nat → List Nat) : Nat → List (List Int)
  | 0 => [[]]
  | n + 1 => (rowsB tc n).flatMap fun row => (tc n).map fun b => row ++ [((b : Nat) : Int)]
theorem tch_mem {t : Td} {r b : Nat} {lo hi : Int} : b ∈ t.tch r lo hi ↔ b < t.nb r ∧ 12 * t.mv r b ≤ hi ∧ lo ≤ 12 * t.mv r (b + 1) := by
  unfold Td.tch Td.pT
  rw [List.mem_filter, List.mem_range, Bool.and_eq_true, decide_eq_true_eq, decide_eq_true_eq]
theorem ins_iff {t : Td} {r : Nat} {lo hi : Int} : t.ins r lo hi = true ↔ 12 * t.mv r 0 ≤ lo ∧ hi ≤ 12 * t.mv r (t.nb r) := by
  unfold Td.ins
  rw [Bool.and_eq_true, decide_eq_true_eq, decide_eq_true_eq]
theorem rowsB_len {tc : Nat → List Nat} (h : ∀ n, (tc n).length ≤ 6) : ∀ n, (rowsB tc n).length ≤ 6 ^ n
  | 0 => Nat.le_refl 1
  | n + 1 => by
    have ih := rowsB_len h n
    show ((rowsB tc n).flatMap fun row => (tc n).map fun b => row ++ [((b : Nat) : Int)]).length ≤ _
    rw [List.length_flatMap]
    have : ((rowsB tc n).map fun row => ((tc n).map fun b => row ++ [((b : Nat) : Int)]).length) = List.replicate (rowsB tc n).length (tc n).length := by
      rw [List.eq_replicate_iff]
      refine ⟨List.length_map _, fun b hb => ?_⟩
      obtain ⟨row, _, rfl⟩ := List.mem_map.mp hb
      rw [List.length_map]
    rw [this, List.sum_replicate_nat, Nat.pow_succ]
    exact Nat.mul_le_mul ih (h n)
theorem rowsB_mem {tc : Nat → List Nat} : ∀ {n : Nat} {row : List Int}, row ∈ rowsB tc n ↔ row.length = n ∧ ∀ r, r < n → ∃ b ∈ tc r, gi row r = ((b : Nat) : Int)
  | 0, row => by
    show row ∈ [[]] ↔ _
    rw [List.mem_singleton, List.length_eq_zero_iff]
    exact ⟨fun h => ⟨h, fun r hr => absurd hr (Nat.not_lt_zero r)⟩, fun h => h.1⟩
  | n + 1, row => by
    show row ∈ (rowsB tc n).flatMap _ ↔ _
    rw [List.mem_flatMap]
    constructor
    · rintro ⟨r0, h0, h1⟩
      obtain ⟨b, hb, rfl⟩ := List.mem_map.mp h1
      obtain ⟨l0, h2⟩ := rowsB_mem.mp h0
      refine ⟨by rw [List.length_append, l0]; rfl, fun r hr => ?_⟩
      unfold gi at h2 ⊢
      by_cases e : r < n
      · obtain ⟨c, hc, h3⟩ := h2 r e
        refine ⟨c, hc, ?_⟩
        rw [← h3, List.getD_eq_getElem?_getD, List.getElem?_append_left (by omega), List.getD_eq_getElem?_getD]
      · have : r = n := by omega
        subst this
        refine ⟨b, hb, ?_⟩
        rw [List.getD_eq_getElem?_getD, List.getElem?_append_right (by omega), l0, Nat.sub_self]
        rfl
    · rintro ⟨l0, h1⟩
      have hne : row ≠ [] := fun z => by rw [z] at l0; cases l0
      obtain ⟨b, hb, h2⟩ := h1 n (by omega)
      have hd : row = row.dropLast ++ [((b : Nat) : Int)] := by
        have e := List.dropLast_concat_getLast hne
        rw [← h2]
        conv => lhs; rw [← e]
        congr 2
        unfold gi
        rw [List.getLast_eq_getElem, List.getD_eq_getElem?_getD, List.getElem?_eq_getElem (by omega), Option.getD_some]
        congr 1
        omega
      refine ⟨row.dropLast, ?_, List.mem_map.mpr ⟨b, hb, hd.symm⟩⟩
      refine rowsB_mem.mpr ⟨by rw [List.length_dropLast]; omega, fun r hr => ?_⟩
      obtain ⟨c, hc, h3⟩ := h1 r (by omega)
      refine ⟨c, hc, ?_⟩
      rw [← h3]
      unfold gi
      conv => rhs; rw [hd]
      rw [List.getD_eq_getElem?_getD, List.getD_eq_getElem?_getD, List.getElem?_append_left (by rw [List.length_dropLast]; omega)]
def Stt.bdN (s : Stt) (j : Nat) : Nat := (gi s.bd j).toNat
def Td.loB (t : Td) (s : Stt) (b r : Nat) : Int := t.lo r s.bdN (b.testBit r)
def Td.hiB (t : Td) (s : Stt) (b r : Nat) : Int := t.hi r s.bdN (b.testBit r)
def Td.tcB (t : Td) (s : Stt) (b r : Nat) : List Nat := t.tch r (t.loB s b r) (t.hiB s b r)
def Td.safe (t : Td) (s : Stt) (b : Nat) : Bool := (List.range t.many).all fun r => t.ins r (t.loB s b r) (t.hiB s b r)
def Td.rowsOf (t : Td) (s : Stt) (b : Nat) : List (List Int) := rowsB (t.tcB s b) t.many
def Td.outL (t : Td) (s : Stt) (o : Nat) (l : List Nat) : List Stt := l.flatMap fun out => (t.rowsOf s (o - out)).map fun row => behS t.hs s o out row
def Td.outs (t : Td) (s : Stt) (o : Nat) : List Stt := t.outL s o (partsL t.many (mayS t.hs s o))
def Td.allSafe (t : Td) (s : Stt) (o : Nat) : Bool := (partsL t.many (mayS t.hs s o)).all fun out => t.safe s (o - out)
section
variable {t : Td} (ok : t.Ok) {s : Stt} (i : IsSt t.hs s)
include ok i
omit ok i
end
end Q

namespace Q
open PySem PySem.Spec PyProof.Rows L2
section
variable {S : Store} {ρ : Env} {i : Nat} {k x c : D} {l : List (D × D)}
end
def Td.withSky (t : Td) (room : Nat) (q : Int × Int × Int) : Td := { t with sky := fun r => if r = room then q else t.sky r }
section
variable {t : Td} (ok : t.Ok) {room : Nat} {q : Int × Int × Int} (h1 : q.1 = (t.sky room).1) (h2 : (t.sky room).2.1 ≤ q.2.1) (h3 : q.2.1 ≤ q.2.2) (h4 : q.2.2 ≤ (t.sky room).2.2)
theorem ws_sky (r : Nat) : (t.withSky room q).sky r = if r = room then q else t.sky r := rfl
include h1 in
theorem ws_1 (r : Nat) : ((t.withSky room q).sky r).1 = (t.sky r).1 := by
  rw [ws_sky]
  split
  · rename_i e; rw [e, h1]
  · rfl
include h2 in
theorem ws_2 (r : Nat) : (t.sky r).2.1 ≤ ((t.withSky room q).sky r).2.1 := by
  rw [ws_sky]
  split
  · rename_i e; rw [e]; exact h2
  · exact Int.le_refl _
include h4 in
theorem ws_3 (r : Nat) : ((t.withSky room q).sky r).2.2 ≤ (t.sky r).2.2 := by
  rw [ws_sky]
  split
  · rename_i e; rw [e]; exact h4
  · exact Int.le_refl _
include ok h1 h2 h3 h4 in
theorem Td.Ok.withSky : (t.withSky room q).Ok :=
  { ok with
    sk0 := fun r => by rw [ws_1 h1]; exact ok.sk0 r
    sk3 := fun r => by rw [ws_1 h1]; exact ok.sk3 r
    tk := fun r o => by rw [ws_1 h1]; exact ok.tk r o
    slo := fun r => Int.le_trans (ok.slo r) (ws_2 h2 r)
    sle := fun r => by
      rw [ws_sky]
      split
      · exact h3
      · exact ok.sle r
    shi := fun r => Int.le_trans (ws_3 h4 r) (ok.shi r) }
include h1 in
theorem ws_span (r : Nat) (n : Nat → Int) (m : Int) : (t.withSky room q).span r n m = t.span r n m := by
  unfold Td.span Td.rest
  rw [ws_1 h1]
  rfl
include ok h1 h2 in
theorem ws_lo {s : Stt} {b r : Nat} (hr : r < t.many) : t.loB s b r ≤ (t.withSky room q).loB s b r := by
  unfold Td.loB Td.lo
  rw [ws_span h1]
  have := ok.span_le hr (n := fun j => t.mv j (s.bdN j)) (n' := fun j => t.mv j (s.bdN j)) (fun _ _ => Int.le_refl _) (ws_2 h2 r)
  exact Int.add_le_add_right this _
include ok h1 h4 in
theorem ws_hi {s : Stt} {b r : Nat} (hr : r < t.many) : (t.withSky room q).hiB s b r ≤ t.hiB s b r := by
  unfold Td.hiB Td.hi
  rw [ws_span h1]
  have := ok.span_le hr (n := fun j => t.mv j (s.bdN j + 1)) (n' := fun j => t.mv j (s.bdN j + 1)) (fun _ _ => Int.le_refl _) (ws_3 h4 r)
  exact Int.add_le_add_right this _
include ok h1 h2 h4 in
theorem ws_safe {s : Stt} {b : Nat} (h : t.safe s b = true) : (t.withSky room q).safe s b = true := by
  unfold Td.safe at h ⊢
  rw [List.all_eq_true] at h ⊢
  intro r hr
  have hr2 : r < t.many := List.mem_range.mp hr
  obtain ⟨a1, a2⟩ := ins_iff.mp (h r hr)
  exact ins_iff.mpr ⟨Int.le_trans a1 (ws_lo ok h1 h2 hr2), Int.le_trans (ws_hi ok h1 h4 hr2) a2⟩
include ok h1 h2 h4 in
theorem ws_rows {s : Stt} {b : Nat} {row : List Int} (h : row ∈ (t.withSky room q).rowsOf s b) : row ∈ t.rowsOf s b := by
  obtain ⟨e1, e2⟩ := rowsB_mem.mp h
  refine rowsB_mem.mpr ⟨e1, fun r hr => ?_⟩
  obtain ⟨c, hc, e⟩ := e2 r hr
  obtain ⟨b1, b2, b3⟩ := tch_mem.mp hc
  exact ⟨c, tch_mem.mpr ⟨b1, Int.le_trans b2 (ws_hi ok h1 h4 hr), Int.le_trans (ws_lo ok h1 h2 hr) b3⟩, e⟩
include ok h1 h2 h4 in
theorem ws_all {s : Stt} {o : Nat} (h : t.allSafe s o = true) : (t.withSky room q).allSafe s o = true := by
  unfold Td.allSafe at h ⊢
  rw [List.all_eq_true] at h ⊢
  exact fun out ho => ws_safe ok h1 h2 h4 (h out ho)
include ok h1 h2 h4 in
theorem ws_outs {s x : Stt} {o : Nat} (h : x ∈ (t.withSky room q).outs s o) : x ∈ t.outs s o := by
  unfold Td.outs Td.outL at h ⊢
  rw [List.mem_flatMap] at h ⊢
  obtain ⟨out, a1, a2⟩ := h
  obtain ⟨row, a3, a4⟩ := List.mem_map.mp a2
  exact ⟨out, a1, List.mem_map.mpr ⟨row, ws_rows ok h1 h2 h4 a3, a4⟩⟩
end
end Q

set_option maxHeartbeats 2000000
namespace Q
section
variable {α : Type} (ords : α → List Nat) (led : α → Nat → Option (List α))
def ill : Nat → α → Prop
  | 0, s => ords s = []
  | n + 1, s => ords s = [] ∨ ∀ o ∈ ords s, ∀ l, led s o = some l → ∃ t ∈ l, ill n t
theorem ill_succ {n : Nat} : ∀ {s : α}, ill ords led n s → ill ords led (n + 1) s := by
  induction n with
  | zero => exact fun h => .inl h
  | succ n ih =>
    intro s h
    rcases h with h | h
    · exact .inl h
    · refine .inr fun o ho l hl => ?_
      obtain ⟨t, ht, i⟩ := h o ho l hl
      exact ⟨t, ht, ih i⟩
theorem ill_mono {n m : Nat} {s : α} (h : ill ords led n s) (l : n ≤ m) : ill ords led m s := by
  induction l with
  | refl => exact h
  | step _ ih => exact ill_succ ords led ih
def IsRank (s : α) : Option Nat → Prop
  | some k => ill ords led k s ∧ ∀ n, ill ords led n s → k ≤ n
  | none => ∀ n, ¬ ill ords led n s
def safeO (s : α) : List Nat := (ords s).filter fun o => (led s o).isSome
theorem safeO_mem {s : α} {o : Nat} : o ∈ safeO ords led s ↔ o ∈ ords s ∧ ∃ l, led s o = some l := by
  unfold safeO
  rw [List.mem_filter, Option.isSome_iff_exists]
theorem ill_step {n : Nat} {s : α} (h : ∀ o ∈ safeO ords led s, ∃ l, led s o = some l ∧ ∃ t ∈ l, ill ords led n t) : ill ords led (n + 1) s := by
  refine .inr fun o ho l hl => ?_
  obtain ⟨l', e, t, ht, i⟩ := h o ((safeO_mem ords led).mpr ⟨ho, l, hl⟩)
  rw [hl] at e
  cases e
  exact ⟨t, ht, i⟩
end
section
variable {α : Type} (ords : α → List Nat) (led : α → Nat → Option (List α))
structure GI (K : List α) (m : Nat) (P : List α) (dn : α → Nat → Prop) (row : List α) (f : α → Option Nat) (left : α → List Nat) : Prop where
  nd : row.Nodup
  sub : ∀ s ∈ row, s ∈ K
  lf : ∀ s ∈ K, ∀ o, o ∈ left s ↔ o ∈ safeO ords led s ∧ ¬ dn s o
  ln : ∀ s ∈ K, (left s).Nodup
  mem : ∀ s ∈ K, s ∈ row ↔ left s = []
  fs : ∀ s ∈ K, s ∈ row ↔ (f s).isSome = true
  le : ∀ s ∈ row, ∀ k, f s = some k → k ≤ m + 1
  up : ∀ s ∈ row, ∀ k, f s = some k → ill ords led k s
  low : ∀ s ∈ row, ∀ k, f s = some (k + 1) → safeO ords led s ≠ [] → ∃ o ∈ safeO ords led s, ∀ l, led s o = some l → ∀ t ∈ l, t ∈ row → ∀ j, f t = some j → k ≤ j
  z : ∀ s ∈ row, ords s = [] → f s = some 0
  one : ∀ s ∈ row, ords s ≠ [] → safeO ords led s = [] → f s = some 1
  pos : ∀ s ∈ row, f s = some 0 → ords s = []
  dn1 : ∀ s ∈ K, ∀ o ∈ safeO ords led s, dn s o → ∃ l, led s o = some l ∧ ∃ t ∈ l, t ∈ row ∧ ∃ j, f t = some j ∧ j ≤ m
  dn2 : ∀ s ∈ K, ∀ o ∈ safeO ords led s, ¬ dn s o → ∀ l, led s o = some l → ∀ t ∈ l, t ∉ P
  so : row.Pairwise fun a b => ∀ j k, f a = some j → f b = some k → j ≤ k
  pre : ∃ r, row = P ++ r ∧ ∀ t ∈ r, ∀ j, f t = some j → m ≤ j
variable {ords led}
variable [DecidableEq α]
def upF {γ : Type} (f : α → γ) (s : α) (v : γ) : α → γ := fun x => if x = s then v else f x
omit [DecidableEq α] in
theorem GI.end_ {K P : List α} {m : Nat} {dn : α → Nat → Prop} {row : List α} {f : α → Option Nat} {left : α → List Nat} (g : GI ords led K m P dn row f left) (hP : P = row)
    (cl : ∀ s ∈ K, ∀ o ∈ safeO ords led s, ∀ l, led s o = some l → ∀ t ∈ l, t ∈ K) (hd : ∀ s ∈ K, ∀ o ∈ safeO ords led s, dn s o ↔ ∃ l, led s o = some l ∧ ∃ t ∈ l, t ∈ P) : ∀ s ∈ K, IsRank ords led s (f s) := by
  have key : ∀ n, ∀ s ∈ K, ill ords led n s → s ∈ row ∧ ∃ k, f s = some k ∧ k ≤ n := by
    have all : ∀ s ∈ K, (∀ o ∈ safeO ords led s, dn s o) → s ∈ row := fun s hs h => by
      refine (g.mem s hs).mpr ?_
      rw [List.eq_nil_iff_forall_not_mem]
      intro o ho
      obtain ⟨h1, h2⟩ := (g.lf s hs o).mp ho
      exact h2 (h o h1)
    have val : ∀ s ∈ K, s ∈ row → ∃ k, f s = some k := fun s hs h => Option.isSome_iff_exists.mp ((g.fs s hs).mp h)
    intro n
    induction n with
    | zero =>
      intro s hs h
      have h : ords s = [] := h
      have hr := all s hs fun o ho => by
        have := ((safeO_mem ords led).mp ho).1
        rw [h] at this
        cases this
      exact ⟨hr, 0, g.z s hr h, Nat.le_refl _⟩
    | succ n ih =>
      intro s hs h
      by_cases h0 : ords s = []
      · have hr := all s hs fun o ho => by
          have := ((safeO_mem ords led).mp ho).1
          rw [h0] at this
          cases this
        exact ⟨hr, 0, g.z s hr h0, Nat.zero_le _⟩
      · have h : ∀ o ∈ ords s, ∀ l, led s o = some l → ∃ t ∈ l, ill ords led n t := h.resolve_left h0
        have hit : ∀ o ∈ safeO ords led s, ∃ l, led s o = some l ∧ ∃ t ∈ l, t ∈ row ∧ ∃ k, f t = some k ∧ k ≤ n := fun o ho => by
          obtain ⟨h1, l, hl⟩ := (safeO_mem ords led).mp ho
          obtain ⟨t, ht, i⟩ := h o h1 l hl
          obtain ⟨a, b⟩ := ih t (cl s hs o ho l hl t ht) i
          exact ⟨l, hl, t, ht, a, b⟩
        have hr := all s hs fun o ho => (hd s hs o ho).mpr (by
          obtain ⟨l, hl, t, ht, a, _⟩ := hit o ho
          exact ⟨l, hl, t, ht, by rw [hP]; exact a⟩)
        obtain ⟨k, hk⟩ := val s hs hr
        refine ⟨hr, k, hk, ?_⟩
        cases k with
        | zero => exact Nat.zero_le _
        | succ k =>
          by_cases hs0 : safeO ords led s = []
          · have := g.one s hr h0 hs0
            rw [hk] at this
            cases this
            omega
          · obtain ⟨o, ho, hl⟩ := g.low s hr k hk hs0
            obtain ⟨l, e, t, ht, a, j, hj, hn⟩ := hit o ho
            have := hl l e t ht a j hj
            omega
  intro s hs
  cases e : f s with
  | some k =>
    have hr : s ∈ row := (g.fs s hs).mpr (by rw [e]; rfl)
    refine ⟨g.up s hr k e, fun n h => ?_⟩
    obtain ⟨_, k', hk', hn⟩ := key n s hs h
    rw [e] at hk'
    cases hk'
    exact hn
  | none =>
    intro n h
    obtain ⟨_, k', hk', _⟩ := key n s hs h
    rw [e] at hk'
    cases hk'
theorem GI.dec {K P : List α} {m : Nat} {dn : α → Nat → Prop} {row : List α} {f : α → Option Nat} {left : α → List Nat} (g : GI ords led K m P dn row f left) {s t : α} {o : Nat} {l : List α} (hs : s ∈ K) (hl : led s o = some l) (ht : t ∈ l) (htr : t ∈ row) (hft : f t = some m) (ho : o ∈ left s) (hne : (left s).erase o ≠ []) :
    GI ords led K m P (fun s' o' => dn s' o' ∨ (s' = s ∧ o' = o)) row f (upF left s ((left s).erase o)) := by
  have em : ∀ {s' : α}, s' ≠ s → upF left s ((left s).erase o) s' = left s' := fun h => if_neg h
  have es : upF left s ((left s).erase o) s = (left s).erase o := if_pos rfl
  refine ⟨g.nd, g.sub, fun s' hs' o' => ?_, fun s' hs' => ?_, fun s' hs' => ?_, g.fs, g.le, g.up, g.low, g.z, g.one, g.pos, fun s' hs' o' ho' d => ?_, fun s' hs' o' ho' d => g.dn2 s' hs' o' ho' fun z => d (.inl z), g.so, g.pre⟩
  · by_cases h : s' = s
    · subst h
      rw [es, (g.ln s' hs').mem_erase_iff, g.lf s' hs']
      constructor
      · rintro ⟨h1, h2, h3⟩
        exact ⟨h2, fun z => z.elim h3 fun z => h1 z.2⟩
      · rintro ⟨h1, h2⟩
        exact ⟨fun z => h2 (.inr ⟨rfl, z⟩), h1, fun z => h2 (.inl z)⟩
    · rw [em h, g.lf s' hs']
      constructor
      · rintro ⟨h1, h2⟩
        exact ⟨h1, fun z => z.elim h2 fun z => h z.1⟩
      · rintro ⟨h1, h2⟩
        exact ⟨h1, fun z => h2 (.inl z)⟩
  · by_cases h : s' = s
    · subst h
      rw [es]
      exact (g.ln s' hs').erase o
    · rw [em h]
      exact g.ln s' hs'
  · by_cases h : s' = s
    · subst h
      rw [es, g.mem s' hs']
      constructor
      · intro z
        rw [z] at ho
        cases ho
      · intro z
        exact absurd z hne
    · rw [em h]
      exact g.mem s' hs'
  · rcases d with d | ⟨rfl, rfl⟩
    · exact g.dn1 s' hs' o' ho' d
    · exact ⟨l, hl, t, ht, htr, m, hft, Nat.le_refl _⟩
theorem GI.fin {K P : List α} {m : Nat} {dn : α → Nat → Prop} {row : List α} {f : α → Option Nat} {left : α → List Nat} (g : GI ords led K m P dn row f left) {s t : α} {o : Nat} {l : List α} (hs : s ∈ K) (hl : led s o = some l) (ht : t ∈ l) (htr : t ∈ row) (hft : f t = some m) (ho : o ∈ left s) (hne : (left s).erase o = []) :
    GI ords led K m P (fun s' o' => dn s' o' ∨ (s' = s ∧ o' = o)) (row ++ [s]) (upF f s (some (m + 1))) (upF left s []) := by
  have em : ∀ {s' : α}, s' ≠ s → upF left s [] s' = left s' := fun h => if_neg h
  have es : upF left s [] s = [] := if_pos rfl
  have fm : ∀ {s' : α}, s' ≠ s → upF f s (some (m + 1)) s' = f s' := fun h => if_neg h
  have fe : upF f s (some (m + 1)) s = some (m + 1) := if_pos rfl
  have hsr : s ∉ row := fun z => by
    rw [(g.mem s hs).mp z] at ho
    cases ho
  have hso := ((g.lf s hs o).mp ho)
  have ne : ∀ {x : α}, x ∈ row → x ≠ s := fun h e => hsr (e ▸ h)
  have oth : ∀ o' ∈ safeO ords led s, o' ≠ o → dn s o' := fun o' h1 h2 => by
    by_cases z : dn s o'
    · exact z
    · have : o' ∈ (left s).erase o := (g.ln s hs).mem_erase_iff.mpr ⟨h2, (g.lf s hs o').mpr ⟨h1, z⟩⟩
      rw [hne] at this
      cases this
  have os : ords s ≠ [] := fun z => by
    have := ((safeO_mem ords led).mp hso.1).1
    rw [z] at this
    cases this
  have ss : safeO ords led s ≠ [] := fun z => by
    have := hso.1
    rw [z] at this
    cases this
  refine ⟨?_, fun x hx => ?_, fun s' hs' o' => ?_, fun s' hs' => ?_, fun s' hs' => ?_, fun s' hs' => ?_, fun x hx k hk => ?_, fun x hx k hk => ?_, fun x hx k hk h0 => ?_, fun x hx h0 => ?_, fun x hx h0 h1 => ?_, fun x hx h0 => ?_, fun s' hs' o' ho' d => ?_, fun s' hs' o' ho' d => g.dn2 s' hs' o' ho' fun z => d (.inl z), ?_, ?_⟩
  · rw [List.nodup_append]
    exact ⟨g.nd, by simp, fun a ha b hb e => by rw [List.mem_singleton] at hb; subst hb; subst e; exact hsr ha⟩
  · rcases List.mem_append.mp hx with hx | hx
    · exact g.sub x hx
    · rw [List.mem_singleton.mp hx]; exact hs
  · by_cases h : s' = s
    · subst h
      rw [es]
      constructor
      · intro z; cases z
      · rintro ⟨h1, h2⟩
        by_cases h3 : o' = o
        · exact absurd (.inr ⟨rfl, h3⟩) h2
        · exact absurd (.inl (oth o' h1 h3)) h2
    · rw [em h, g.lf s' hs']
      constructor
      · rintro ⟨h1, h2⟩
        exact ⟨h1, fun z => z.elim h2 fun z => h z.1⟩
      · rintro ⟨h1, h2⟩
        exact ⟨h1, fun z => h2 (.inl z)⟩
  · by_cases h : s' = s
    · subst h; rw [es]; exact List.nodup_nil
    · rw [em h]; exact g.ln s' hs'
  · by_cases h : s' = s
    · subst h
      rw [es]
      exact ⟨fun _ => rfl, fun _ => List.mem_append.mpr (.inr (List.mem_singleton.mpr rfl))⟩
    · rw [em h, ← g.mem s' hs', List.mem_append, List.mem_singleton]
      exact ⟨fun z => z.resolve_right h, .inl⟩
  · by_cases h : s' = s
    · subst h
      rw [fe]
      exact ⟨fun _ => rfl, fun _ => List.mem_append.mpr (.inr (List.mem_singleton.mpr rfl))⟩
    · rw [fm h, ← g.fs s' hs', List.mem_append, List.mem_singleton]
      exact ⟨fun z => z.resolve_right h, .inl⟩
  · rcases List.mem_append.mp hx with hx | hx
    · rw [fm (ne hx)] at hk; exact g.le x hx k hk
    · rw [List.mem_singleton.mp hx, fe] at hk; cases hk; exact Nat.le_refl _
  · rcases List.mem_append.mp hx with hx | hx
    · rw [fm (ne hx)] at hk; exact g.up x hx k hk
    · rw [List.mem_singleton.mp hx] at hk ⊢
      rw [fe] at hk
      cases hk
      refine ill_step ords led fun o' ho' => ?_
      by_cases h3 : o' = o
      · subst h3
        exact ⟨l, hl, t, ht, g.up t htr m hft⟩
      · obtain ⟨l', e, t', ht', htr', j, hj, hjm⟩ := g.dn1 s hs o' ho' (oth o' ho' h3)
        exact ⟨l', e, t', ht', ill_mono ords led (g.up t' htr' j hj) hjm⟩
  · rcases List.mem_append.mp hx with hx | hx
    · rw [fm (ne hx)] at hk
      obtain ⟨o', ho', hall⟩ := g.low x hx k hk h0
      have := g.le x hx _ hk
      refine ⟨o', ho', fun l' e t' ht' htr' j hj => ?_⟩
      by_cases h : t' = s
      · subst h; rw [fe] at hj; cases hj; omega
      · rw [fm h] at hj
        exact hall l' e t' ht' ((List.mem_append.mp htr').resolve_right fun z => h (List.mem_singleton.mp z)) j hj
    · rw [List.mem_singleton.mp hx] at hk h0 ⊢
      rw [fe] at hk
      cases hk
      refine ⟨o, hso.1, fun l' e t' ht' htr' j hj => ?_⟩
      by_cases h : t' = s
      · subst h; rw [fe] at hj; cases hj; omega
      · rw [fm h] at hj
        have htr'' := (List.mem_append.mp htr').resolve_right fun z => h (List.mem_singleton.mp z)
        have hP := g.dn2 s hs o hso.1 hso.2 l' e t' ht'
        obtain ⟨r, er, hr⟩ := g.pre
        rw [er] at htr''
        exact hr t' ((List.mem_append.mp htr'').resolve_left hP) j hj
  · rcases List.mem_append.mp hx with hx | hx
    · rw [fm (ne hx)]; exact g.z x hx h0
    · rw [List.mem_singleton.mp hx] at h0; exact absurd h0 os
  · rcases List.mem_append.mp hx with hx | hx
    · rw [fm (ne hx)]; exact g.one x hx h0 h1
    · rw [List.mem_singleton.mp hx] at h1; exact absurd h1 ss
  · rcases List.mem_append.mp hx with hx | hx
    · rw [fm (ne hx)] at h0; exact g.pos x hx h0
    · rw [List.mem_singleton.mp hx, fe] at h0; cases h0
  · have old : dn s' o' → ∃ l, led s' o' = some l ∧ ∃ t ∈ l, t ∈ row ++ [s] ∧ ∃ j, upF f s (some (m + 1)) t = some j ∧ j ≤ m := fun d => by
      obtain ⟨l', e, t', ht', htr', j, hj, hjm⟩ := g.dn1 s' hs' o' ho' d
      exact ⟨l', e, t', ht', List.mem_append.mpr (.inl htr'), j, by rw [fm (ne htr')]; exact hj, hjm⟩
    rcases d with d | ⟨rfl, rfl⟩
    · exact old d
    · exact ⟨l, hl, t, ht, List.mem_append.mpr (.inl htr), m, by rw [fm (ne htr)]; exact hft, Nat.le_refl _⟩
  · rw [List.pairwise_append]
    refine ⟨?_, by simp, fun a ha b hb j k hj hk => ?_⟩
    · refine List.Pairwise.imp_of_mem (fun {a b} ha hb h j k hj hk => ?_) g.so
      rw [fm (ne ha)] at hj
      rw [fm (ne hb)] at hk
      exact h j k hj hk
    · rw [List.mem_singleton.mp hb, fe] at hk
      rw [fm (ne ha)] at hj
      cases hk
      exact g.le a ha j hj
  · obtain ⟨r, er, hr⟩ := g.pre
    refine ⟨r ++ [s], by rw [er, List.append_assoc], fun x hx j hj => ?_⟩
    rcases List.mem_append.mp hx with hx | hx
    · rw [fm (ne (by rw [er]; exact List.mem_append.mpr (.inr hx)))] at hj; exact hr x hx j hj
    · rw [List.mem_singleton.mp hx, fe] at hj; cases hj; omega
omit [DecidableEq α] in
theorem GI.dn_iff {K P : List α} {m : Nat} {dn dn' : α → Nat → Prop} {row : List α} {f : α → Option Nat} {left : α → List Nat} (g : GI ords led K m P dn row f left) (h : ∀ s ∈ K, ∀ o ∈ safeO ords led s, dn s o ↔ dn' s o) : GI ords led K m P dn' row f left :=
  ⟨g.nd, g.sub, fun s hs o => by
    rw [g.lf s hs]
    constructor
    · rintro ⟨h1, h2⟩; exact ⟨h1, fun z => h2 ((h s hs o h1).mpr z)⟩
    · rintro ⟨h1, h2⟩; exact ⟨h1, fun z => h2 ((h s hs o h1).mp z)⟩, g.ln, g.mem, g.fs, g.le, g.up, g.low, g.z, g.one, g.pos, fun s hs o ho d => g.dn1 s hs o ho ((h s hs o ho).mpr d), fun s hs o ho d => g.dn2 s hs o ho fun z => d ((h s hs o ho).mp z), g.so, g.pre⟩
omit [DecidableEq α] in
theorem GI.next {K P r : List α} {m m' : Nat} {dn : α → Nat → Prop} {row : List α} {f : α → Option Nat} {left : α → List Nat} {t u : α} (g : GI ords led K m P dn row f left) (hr : row = P ++ t :: u :: r) (hu : f u = some m')
    (hd : ∀ s ∈ K, ∀ o ∈ safeO ords led s, ¬ dn s o → ∀ l, led s o = some l → t ∉ l) : GI ords led K m' (P ++ [t]) dn row f left := by
  have hm : m ≤ m' := by
    obtain ⟨r', er, h⟩ := g.pre
    rw [hr] at er
    have er := List.append_cancel_left er
    exact h u (by rw [← er]; simp) m' hu
  refine ⟨g.nd, g.sub, g.lf, g.ln, g.mem, g.fs, fun s hs k hk => Nat.le_trans (g.le s hs k hk) (by omega), g.up, g.low, g.z, g.one, g.pos, fun s hs o ho d => ?_, fun s hs o ho d l hl x hx => ?_, g.so, u :: r, by rw [hr]; simp, fun x hx j hj => ?_⟩
  · obtain ⟨l, e, t', ht', htr, j, hj, hjm⟩ := g.dn1 s hs o ho d
    exact ⟨l, e, t', ht', htr, j, hj, Nat.le_trans hjm hm⟩
  · intro z
    rcases List.mem_append.mp z with z | z
    · exact g.dn2 s hs o ho d l hl x hx z
    · rw [List.mem_singleton.mp z] at hx
      exact hd s hs o ho d l hl hx
  · rcases List.mem_cons.mp hx with rfl | hx
    · rw [hu] at hj; cases hj; exact Nat.le_refl _
    · have so := g.so
      rw [hr, List.pairwise_append] at so
      have so := so.2.1
      rw [List.pairwise_cons] at so
      have so := so.2
      rw [List.pairwise_cons] at so
      exact so.1 x hx m' j hu hj
omit [DecidableEq α] in
theorem GI.last {K P : List α} {m : Nat} {dn : α → Nat → Prop} {row : List α} {f : α → Option Nat} {left : α → List Nat} {t : α} (g : GI ords led K m P dn row f left) (hr : row = P ++ [t])
    (hd : ∀ s ∈ K, ∀ o ∈ safeO ords led s, ¬ dn s o → ∀ l, led s o = some l → t ∉ l) : GI ords led K m (P ++ [t]) dn row f left := by
  refine ⟨g.nd, g.sub, g.lf, g.ln, g.mem, g.fs, g.le, g.up, g.low, g.z, g.one, g.pos, g.dn1, fun s hs o ho d l hl x hx => ?_, g.so, [], by rw [hr]; simp, fun x hx => by cases hx⟩
  intro z
  rcases List.mem_append.mp z with z | z
  · exact g.dn2 s hs o ho d l hl x hx z
  · rw [List.mem_singleton.mp z] at hx
    exact hd s hs o ho d l hl hx
structure RK (α : Type) where
  row : List α
  f : α → Option Nat
  left : α → List Nat
def rkStep (m : Nat) (q : RK α) (p : α × Nat) : RK α := if p.2 ∈ q.left p.1 then (if (q.left p.1).erase p.2 = [] then ⟨q.row ++ [p.1], upF q.f p.1 (some (m + 1)), upF q.left p.1 []⟩ else ⟨q.row, q.f, upF q.left p.1 ((q.left p.1).erase p.2)⟩) else q
theorem GI.step {K P : List α} {m : Nat} {dn : α → Nat → Prop} {q : RK α} (g : GI ords led K m P dn q.row q.f q.left) {s t : α} {o : Nat} {l : List α} (hs : s ∈ K) (ho : o ∈ safeO ords led s) (hl : led s o = some l) (ht : t ∈ l) (htr : t ∈ q.row) (hft : q.f t = some m) :
    GI ords led K m P (fun s' o' => dn s' o' ∨ (s' = s ∧ o' = o)) (rkStep m q (s, o)).row (rkStep m q (s, o)).f (rkStep m q (s, o)).left := by
  unfold rkStep
  by_cases h : o ∈ q.left s
  · rw [if_pos h]
    by_cases h2 : (q.left s).erase o = []
    · rw [if_pos h2]
      exact g.fin hs hl ht htr hft h h2
    · rw [if_neg h2]
      exact g.dec hs hl ht htr hft h h2
  · rw [if_neg h]
    have hd : dn s o := by
      by_cases z : dn s o
      · exact z
      · exact absurd ((g.lf s hs o).mpr ⟨ho, z⟩) h
    exact g.dn_iff fun s' _ o' _ => ⟨.inl, fun z => z.elim id fun ⟨e1, e2⟩ => by rw [e1, e2]; exact hd⟩
theorem rkStep_row {m : Nat} {q : RK α} {p : α × Nat} : ∃ more, (rkStep m q p).row = q.row ++ more := by
  unfold rkStep
  split
  · split
    · exact ⟨_, rfl⟩
    · exact ⟨[], (List.append_nil _).symm⟩
  · exact ⟨[], (List.append_nil _).symm⟩
theorem GI.keepf {K P : List α} {m : Nat} {dn : α → Nat → Prop} {q : RK α} (g : GI ords led K m P dn q.row q.f q.left) {p : α × Nat} (hs : p.1 ∈ K) {x : α} (hx : x ∈ q.row) : (rkStep m q p).f x = q.f x := by
  unfold rkStep
  split
  · rename_i h
    split
    · refine if_neg fun e => ?_
      rw [e] at hx
      rw [(g.mem p.1 hs).mp hx] at h
      cases h
    · rfl
  · rfl
theorem GI.fold {K P : List α} {m : Nat} {t : α} : ∀ (C : List (α × Nat)) {dn : α → Nat → Prop} {q : RK α}, GI ords led K m P dn q.row q.f q.left → (∀ p ∈ C, p.1 ∈ K ∧ p.2 ∈ safeO ords led p.1 ∧ ∃ l, led p.1 p.2 = some l ∧ t ∈ l) → t ∈ q.row → q.f t = some m →
    GI ords led K m P (fun s o => dn s o ∨ (s, o) ∈ C) (C.foldl (rkStep m) q).row (C.foldl (rkStep m) q).f (C.foldl (rkStep m) q).left ∧ (∃ more, (C.foldl (rkStep m) q).row = q.row ++ more) ∧ ∀ x ∈ q.row, (C.foldl (rkStep m) q).f x = q.f x
  | [], dn, q, g, _, _, _ => ⟨g.dn_iff fun _ _ _ _ => ⟨.inl, fun z => z.elim id fun z => by cases z⟩, ⟨[], (List.append_nil _).symm⟩, fun _ _ => rfl⟩
  | p :: C, dn, q, g, h, htr, hft => by
    obtain ⟨h1, h2, l, h3, h4⟩ := h p (List.mem_cons_self ..)
    have g1 := g.step h1 h2 h3 h4 htr hft
    obtain ⟨mo, e1⟩ := rkStep_row (m := m) (q := q) (p := (p.1, p.2))
    have k1 : ∀ {x}, x ∈ q.row → (rkStep m q (p.1, p.2)).f x = q.f x := fun hx => g.keepf (p := (p.1, p.2)) h1 hx
    have r1 : ∀ {x}, x ∈ q.row → x ∈ (rkStep m q (p.1, p.2)).row := fun hx => by rw [e1]; exact List.mem_append.mpr (.inl hx)
    obtain ⟨g2, ⟨mo2, e2⟩, k2⟩ := GI.fold C g1 (fun p hp => h p (List.mem_cons_of_mem _ hp)) (r1 htr) (by rw [k1 htr]; exact hft)
    refine ⟨g2.dn_iff fun s _ o _ => ?_, ⟨mo ++ mo2, ?_⟩, fun x hx => ?_⟩
    · rw [List.mem_cons]
      constructor
      · rintro ((z | ⟨z1, z2⟩) | z)
        · exact .inl z
        · exact .inr (.inl (by rw [z1, z2]))
        · exact .inr (.inr z)
      · rintro (z | z | z)
        · exact .inl (.inl z)
        · exact .inl (.inr ⟨by rw [← z], by rw [← z]⟩)
        · exact .inr z
    · rw [List.foldl_cons]
      show (C.foldl (rkStep m) (rkStep m q (p.1, p.2))).row = _
      rw [e2, e1, List.append_assoc]
    · rw [List.foldl_cons]
      show (C.foldl (rkStep m) (rkStep m q (p.1, p.2))).f x = _
      rw [k2 x (r1 hx), k1 hx]
def dnP (led : α → Nat → Option (List α)) (P : List α) (s : α) (o : Nat) : Prop := ∃ l, led s o = some l ∧ ∃ t ∈ l, t ∈ P
structure LI (ords : α → List Nat) (led : α → Nat → Option (List α)) (K : List α) (at_ : Nat) (q : RK α) : Prop where
  le : at_ ≤ q.row.length
  g : ∃ m, GI ords led K m (q.row.take at_) (dnP led (q.row.take at_)) q.row q.f q.left ∧ ∀ t, q.row[at_]? = some t → q.f t = some m
omit [DecidableEq α] in
theorem nodup_len {l K : List α} (h : l.Nodup) (hs : ∀ x ∈ l, x ∈ K) : l.length ≤ K.length := List.Nodup.length_le_of_subset h fun x hx => hs x hx
theorem LI.turn {K : List α} {n : Nat} {q : RK α} (h : LI ords led K n q) {t : α} (ht : q.row[n]? = some t) {m : Nat} (hm : q.f t = some m) {C : List (α × Nat)} (hC : ∀ s o, (s, o) ∈ C ↔ s ∈ K ∧ o ∈ safeO ords led s ∧ ∃ l, led s o = some l ∧ t ∈ l) : LI ords led K (n + 1) (C.foldl (rkStep m) q) := by
  obtain ⟨m0, g, hf⟩ := h.g
  have := hf t ht
  rw [hm] at this
  cases this
  obtain ⟨hn, et⟩ := List.getElem?_eq_some_iff.mp ht
  have htr : t ∈ q.row := List.mem_of_getElem? ht
  obtain ⟨g2, ⟨mo, e2⟩, k2⟩ := g.fold C (fun p hp => (hC p.1 p.2).mp hp) htr hm
  have er : q.row = q.row.take n ++ t :: q.row.drop (n + 1) := by
    rw [← et, ← List.drop_eq_getElem_cons hn, List.take_append_drop]
  have e3 : (C.foldl (rkStep m) q).row = q.row.take n ++ t :: (q.row.drop (n + 1) ++ mo) := by
    rw [e2]
    conv => lhs; rw [er]
    rw [List.append_assoc, List.cons_append]
  have hlen : (q.row.take n).length = n := by rw [List.length_take]; omega
  have tk : (C.foldl (rkStep m) q).row.take (n + 1) = q.row.take n ++ [t] := by
    rw [e3, List.take_append, hlen, List.take_of_length_le (by omega), show n + 1 - n = 1 by omega]
    rfl
  have g3 := g2.dn_iff (dn' := dnP led (q.row.take n ++ [t])) fun s hs o ho => by
    constructor
    · rintro (⟨l, hl, x, hx, hp⟩ | z)
      · exact ⟨l, hl, x, hx, List.mem_append.mpr (.inl hp)⟩
      · obtain ⟨_, _, l, hl, hx⟩ := (hC s o).mp z
        exact ⟨l, hl, t, hx, List.mem_append.mpr (.inr (List.mem_singleton.mpr rfl))⟩
    · rintro ⟨l, hl, x, hx, hp⟩
      rcases List.mem_append.mp hp with hp | hp
      · exact .inl ⟨l, hl, x, hx, hp⟩
      · rw [List.mem_singleton.mp hp] at hx
        exact .inr ((hC s o).mpr ⟨hs, ho, l, hl, hx⟩)
  have hd : ∀ s ∈ K, ∀ o ∈ safeO ords led s, ¬ dnP led (q.row.take n ++ [t]) s o → ∀ l, led s o = some l → t ∉ l := fun s _ o _ d l hl hx => d ⟨l, hl, t, hx, List.mem_append.mpr (.inr (List.mem_singleton.mpr rfl))⟩
  refine ⟨by rw [e3]; simp [hlen], ?_⟩
  rw [tk]
  cases e4 : q.row.drop (n + 1) ++ mo with
  | nil =>
    rw [e4] at e3
    refine ⟨m, g3.last e3 hd, fun x hx => ?_⟩
    rw [e3, List.getElem?_eq_none (by simp [hlen])] at hx
    cases hx
  | cons u r =>
    rw [e4] at e3
    have hu : u ∈ (C.foldl (rkStep m) q).row := by rw [e3]; simp
    obtain ⟨m', hm'⟩ := Option.isSome_iff_exists.mp ((g3.fs u (g3.sub u hu)).mp hu)
    refine ⟨m', g3.next e3 hm' hd, fun x hx => ?_⟩
    rw [e3, List.getElem?_append_right (by omega), hlen, show n + 1 - n = 1 by omega] at hx
    cases hx
    exact hm'
theorem LI.end_ {K : List α} {q : RK α} (h : LI ords led K q.row.length q) (cl : ∀ s ∈ K, ∀ o ∈ safeO ords led s, ∀ l, led s o = some l → ∀ t ∈ l, t ∈ K) : ∀ s ∈ K, IsRank ords led s (q.f s) := by
  obtain ⟨m, g, _⟩ := h.g
  rw [List.take_length] at g
  exact g.end_ rfl cl fun s _ o _ => Iff.rfl
def zeroL (ords : α → List Nat) (K : List α) : List α := K.filter fun s => ords s = []
def oneL (ords : α → List Nat) (led : α → Nat → Option (List α)) (K : List α) : List α := K.filter fun s => ords s ≠ [] ∧ safeO ords led s = []
def startF (ords : α → List Nat) (led : α → Nat → Option (List α)) (K : List α) (s : α) : Option Nat := if s ∈ zeroL ords K ++ oneL ords led K then some (if ords s = [] then 0 else 1) else none
theorem LI.start {K : List α} (hK : K.Nodup) (ho : ∀ s, (ords s).Nodup) : LI ords led K 0 ⟨zeroL ords K ++ oneL ords led K, startF ords led K, safeO ords led⟩ := by
  have mz : ∀ {s}, s ∈ zeroL ords K ↔ s ∈ K ∧ ords s = [] := fun {s} => by unfold zeroL; rw [List.mem_filter, decide_eq_true_eq]
  have mo : ∀ {s}, s ∈ oneL ords led K ↔ s ∈ K ∧ ords s ≠ [] ∧ safeO ords led s = [] := fun {s} => by unfold oneL; rw [List.mem_filter, decide_eq_true_eq]
  have sz : ∀ {s}, ords s = [] → safeO ords led s = [] := fun h => by unfold safeO; rw [h]; rfl
  have mr : ∀ {s}, s ∈ zeroL ords K ++ oneL ords led K ↔ s ∈ K ∧ safeO ords led s = [] := fun {s} => by
    rw [List.mem_append, mz, mo]
    constructor
    · rintro (⟨a, b⟩ | ⟨a, _, b⟩)
      · exact ⟨a, sz b⟩
      · exact ⟨a, b⟩
    · rintro ⟨a, b⟩
      by_cases h : ords s = []
      · exact .inl ⟨a, h⟩
      · exact .inr ⟨a, h, b⟩
  have fr : ∀ {s}, s ∈ zeroL ords K ++ oneL ords led K → startF ords led K s = some (if ords s = [] then 0 else 1) := fun h => if_pos h
  have base : ∀ m, m ≤ 1 → (∀ s ∈ zeroL ords K ++ oneL ords led K, ∀ j, startF ords led K s = some j → m ≤ j) → GI ords led K m [] (dnP led []) (zeroL ords K ++ oneL ords led K) (startF ords led K) (safeO ords led) := fun m h1 hm => by
    refine ⟨?_, fun s hs => (mr.mp hs).1, fun s hs o => ⟨fun z => ⟨z, fun ⟨l, _, t, _, ht⟩ => by cases ht⟩, fun z => z.1⟩, fun s hs => (ho s).filter _, fun s hs => ?_, fun s hs => ?_, fun s hs k hk => ?_, fun s hs k hk => ?_, fun s hs k hk h0 => absurd (mr.mp hs).2 h0, fun s hs h => ?_, fun s hs h _ => ?_, fun s hs h => ?_, fun s hs o hos d => ?_, fun s hs o hos _ l hl t ht => by simp, ?_, ⟨_, rfl, hm⟩⟩
    · rw [List.nodup_append]
      refine ⟨hK.filter _, hK.filter _, fun a ha b hb e => ?_⟩
      subst e
      exact (mo.mp hb).2.1 (mz.mp ha).2
    · rw [mr]; exact ⟨fun z => z.2, fun z => ⟨hs, z⟩⟩
    · constructor
      · intro z; rw [fr z]; rfl
      · intro z
        unfold startF at z
        split at z
        · assumption
        · cases z
    · rw [fr hs] at hk
      split at hk <;> cases hk <;> omega
    · rw [fr hs] at hk
      split at hk
      · rename_i h; cases hk; exact h
      · cases hk
        refine ill_step ords led fun o hos => ?_
        rw [(mr.mp hs).2] at hos
        cases hos
    · rw [fr hs, if_pos h]
    · rw [fr hs, if_neg h]
    · rw [fr hs] at h
      split at h
      · assumption
      · cases h
    · obtain ⟨l, _, t, _, ht⟩ := d
      cases ht
    · rw [List.pairwise_append]
      have v0 : ∀ {s j}, s ∈ zeroL ords K → startF ords led K s = some j → j = 0 := fun h e => by
        rw [fr (List.mem_append.mpr (.inl h)), if_pos (mz.mp h).2] at e
        cases e; rfl
      have v1 : ∀ {s j}, s ∈ oneL ords led K → startF ords led K s = some j → j = 1 := fun h e => by
        rw [fr (List.mem_append.mpr (.inr h)), if_neg (mo.mp h).2.1] at e
        cases e; rfl
      refine ⟨List.Pairwise.imp_of_mem (fun {a b} ha hb _ j k hj hk => ?_) (hK.filter _), List.Pairwise.imp_of_mem (fun {a b} ha hb _ j k hj hk => ?_) (hK.filter _), fun a ha b hb j k hj hk => ?_⟩
      · rw [v0 ha hj]; exact Nat.zero_le _
      · rw [v1 ha hj, v1 hb hk]; exact Nat.le_refl _
      · rw [v0 ha hj]; exact Nat.zero_le _
  refine ⟨Nat.zero_le _, ?_⟩
  rw [List.take_zero]
  by_cases h : zeroL ords K = []
  · refine ⟨1, base 1 (Nat.le_refl _) (fun s hs j hj => ?_), fun t ht => ?_⟩
    · have hs' := hs
      rw [h, List.nil_append] at hs'
      rw [fr hs, if_neg (mo.mp hs').2.1] at hj
      cases hj; exact Nat.le_refl _
    · have ht' : t ∈ zeroL ords K ++ oneL ords led K := List.mem_of_getElem? ht
      have hs' := ht'
      rw [h, List.nil_append] at hs'
      show startF ords led K t = some 1
      rw [fr ht', if_neg (mo.mp hs').2.1]
  · refine ⟨0, base 0 (Nat.zero_le _) (fun _ _ _ _ => Nat.zero_le _), fun t ht => ?_⟩
    have ht : (zeroL ords K ++ oneL ords led K)[0]? = some t := ht
    cases e : zeroL ords K with
    | nil => exact absurd e h
    | cons a r =>
      rw [e] at ht
      have et : a = t := Option.some.inj ht
      have ha : t ∈ zeroL ords K := by rw [e, et]; exact List.mem_cons_self ..
      show startF ords led K t = some 0
      rw [fr (List.mem_append.mpr (.inl ha)), if_pos (mz.mp ha).2]
end
end Q

set_option maxHeartbeats 2000000
namespace Q
open PySem PySem.Spec PyProof.Rows L2
structure KdOk {α : Type} [DecidableEq α] (kd : α → D) : Prop where
  eq : ∀ a b, kEq (kd a) (kd b) = decide (a = b)
  key : ∀ a, keyF (kd a) = true
  tup : ∀ a, ∃ z, kd a = .tup z
def kvD {α : Type} (kd : α → D) (K : List α) (v : α → D) : List (D × D) := K.map fun a => (kd a, v a)
section
variable {α : Type} [DecidableEq α] {kd : α → D}
omit [DecidableEq α] in
theorem kv_len {K : List α} {v : α → D} : (kvD kd K v).length = K.length := List.length_map ..
omit [DecidableEq α] in
theorem kv_nil {v : α → D} : kvD kd [] v = [] := rfl
end
instance : DecidableEq Stt := fun a b => by
  cases a; cases b
  simp only [Stt.mk.injEq]
  infer_instance
section
variable {S : Store} {ρ : Env} {K m i : Nat} {js : List Nat} {d x k : D} {l : List (D × D)}
def RV.bindV (r : RV) (k : List Nat → D → Store → RV) : RV := match r with
  | .ok js d S => k js d S
  | .exc x S => .exc x S
  | .no => .no
def RE.bindV (r : RE) (k : D → Store → RV) : RV := match r with
  | .ok d S => k d S
  | .exc x S => .exc x S
  | .no => .no
section
variable {α : Type} [DecidableEq α] {kd : α → D}
end
theorem mRemove_n {os : List Nat} {o : Nat} (h : o ∈ os) : mRemove (os.map (fun o : Nat => D.int o)) [(.int (o : Int))] = some (D.non, (os.erase o).map (fun o : Nat => D.int o)) := by
  have e : os.map (fun o : Nat => D.int o) = (os.map Int.ofNat).map D.int := by
    rw [List.map_map]; rfl
  have ei : intsOf ((os.map Int.ofNat).map D.int) = some (os.map Int.ofNat) := intsOf_ints _
  have hm : (Int.ofNat o) ∈ os.map Int.ofNat := List.mem_map.mpr ⟨o, h, rfl⟩
  have hlt := List.idxOf_lt_length_of_mem hm
  show (match intsOf (os.map (fun o : Nat => D.int o)) with | some ns => if ns.idxOf (Int.ofNat o) < ns.length then some (D.non, (ns.eraseIdx (ns.idxOf (Int.ofNat o))).map D.int) else none | none => none) = _
  rw [e, ei]
  dsimp only
  rw [if_pos hlt, ← List.erase_eq_eraseIdx_of_idxOf rfl]
  congr 2
  have : ∀ l : List Nat, (l.map Int.ofNat).erase (Int.ofNat o) = (l.erase o).map Int.ofNat := fun l => by
    induction l with
    | nil => rfl
    | cons a l ih =>
      rw [List.map_cons]
      by_cases ha : a = o
      · subst ha
        rw [List.erase_cons_head, List.erase_cons_head]
      · rw [List.erase_cons_tail (by simpa using fun z => ha (Int.ofNat.inj z)), List.erase_cons_tail (by simpa using ha), ih, List.map_cons]
  rw [this, List.map_map]
  rfl
end
end Q

namespace Q
open PySem PySem.Spec PyProof.Rows L2
section
variable {t : Td} (ok : t.Ok)
include ok
end
end Q

namespace Q
open PySem PySem.Spec PyProof.Rows L2
section
variable {K i : Nat} {js : List Nat} {ρ ρ1 : Env} {S S1 S2 : Store} {x : D}
theorem callP_ok {Φ : FF} {ks : List AK} {as : FL} {ds : List D} {d : D} {outs : Env} (ha : as ρ S = .ok ds S1) (hf : Φ ds S1 = .ok d outs S2) : eCallP Φ ks as ρ S = .ok d (putOuts ks outs ρ) S2 := by
  unfold eCallP
  rw [ha]
  show (match Φ ds S1 with
    | .ok d outs S2 => REP.ok d (putOuts ks outs ρ) S2
    | .exc x outs S2 => .exc x (putOuts ks outs ρ) S2
    | .no => .no) = _
  rw [hf]
end
section
variable {a b c x : D} {S : Store} {ρ : Env} {i : Nat}
end
end Q

set_option maxHeartbeats 2000000
namespace Q
open PySem PySem.Spec PyProof.Rows L2
theorem nodup_take {α : Type} {l : List α} (h : l.Nodup) {i : Nat} (hi : i < l.length) : l[i] ∉ l.take i := fun z => by
  obtain ⟨j, hj, e⟩ := List.getElem_of_mem z
  rw [List.length_take] at hj
  rw [List.getElem_take] at e
  exact (List.pairwise_iff_getElem.mp h) j i (by omega) hi (by omega) e
structure GameOk (ords : Stt → List Nat) (led : Stt → Nat → Option (List Stt)) (K : List Stt) : Prop where
  nd : K.Nodup
  len : K.length ≤ 2000
  on : ∀ s, (ords s).Nodup
  ol : ∀ s, (ords s).length ≤ 16
  ln : ∀ s ∈ K, ∀ o ∈ ords s, ∀ l, led s o = some l → l.Nodup
  cl : ∀ s ∈ K, ∀ o ∈ ords s, ∀ l, led s o = some l → ∀ t ∈ l, t ∈ K
section
variable {ords : Stt → List Nat} {led : Stt → Nat → Option (List Stt)} {K : List Stt} {S : Store} {s : Stt} {o : Nat}
structure Cm (dn : Stt → Nat → Stt → Prop) (c : Stt → List (Stt × Nat)) : Prop where
  mem : ∀ t s o, (s, o) ∈ c t ↔ dn s o t
  nd : ∀ t, (c t).Nodup
theorem Cm.add {dn : Stt → Nat → Stt → Prop} {c : Stt → List (Stt × Nat)} {t : Stt} (h : Cm dn c) (hn : ¬ dn s o t) : Cm (fun s' o' t' => dn s' o' t' ∨ (s' = s ∧ o' = o ∧ t' = t)) (upF c t (c t ++ [(s, o)])) := by
  refine ⟨fun t' s' o' => ?_, fun t' => ?_⟩
  · unfold upF
    by_cases e : t' = t
    · subst e
      rw [if_pos rfl, List.mem_append, h.mem, List.mem_singleton, Prod.mk.injEq]
      constructor
      · rintro (z | ⟨z1, z2⟩)
        · exact .inl z
        · exact .inr ⟨z1, z2, rfl⟩
      · rintro (z | ⟨z1, z2, _⟩)
        · exact .inl z
        · exact .inr ⟨z1, z2⟩
    · rw [if_neg e, h.mem]
      constructor
      · exact .inl
      · rintro (z | ⟨_, _, z⟩)
        · exact z
        · exact absurd z e
  · unfold upF
    by_cases e : t' = t
    · subst e
      rw [if_pos rfl]
      refine List.nodup_append.mpr ⟨h.nd t', by simp, fun a ha b hb z => ?_⟩
      rw [List.mem_singleton] at hb
      subst z hb
      exact hn ((h.mem t' s o).mp ha)
    · rw [if_neg e]
      exact h.nd t'
def allP (ords : Stt → List Nat) (K : List Stt) : List (Stt × Nat) := K.flatMap fun s => (ords s).map fun o => (s, o)
theorem allP_mem : (s, o) ∈ allP ords K ↔ s ∈ K ∧ o ∈ ords s := by
  unfold allP
  simp only [List.mem_flatMap, List.mem_map, Prod.mk.injEq]
  constructor
  · rintro ⟨a, ha, b, hb, rfl, rfl⟩
    exact ⟨ha, hb⟩
  · rintro ⟨h1, h2⟩
    exact ⟨s, h1, o, h2, rfl, rfl⟩
theorem Cm.len {dn : Stt → Nat → Stt → Prop} {c : Stt → List (Stt × Nat)} (h : Cm dn c) (g : GameOk ords led K) (hs : ∀ s o t, dn s o t → s ∈ K ∧ o ∈ ords s) (t : Stt) : (c t).length < 1000000 := by
  have h1 := nodup_len (h.nd t) (K := allP ords K) fun p hp => allP_mem.mpr (hs _ _ _ ((h.mem t p.1 p.2).mp hp))
  have h2 : (allP ords K).length ≤ K.length * 16 := flat_len fun x => by rw [List.length_map]; exact g.ol x
  have := g.len
  omega
end
theorem while_t {c : FE} {b : FS} {ρ ρ2 : Env} {S S2 : Store} (hc : c ρ S = .ok (.bl true) S) (hb : b ρ S = .nx ρ2 S2) : fWhile c b ρ S = fWhile c b ρ2 S2 := by
  rw [fWhile_turn, hc]
  show (match b ρ S with
      | .nx ρ2 S2 => fWhile c b ρ2 S2
      | .ct ρ2 S2 => fWhile c b ρ2 S2
      | .bk ρ2 S2 => .nx ρ2 S2
      | r => r) = _
  rw [hb]
theorem while_f {c : FE} {b : FS} {ρ : Env} {S : Store} (hc : c ρ S = .ok (.bl false) S) : fWhile c b ρ S = .nx ρ S := by
  rw [fWhile_turn, hc]
  rfl
end Q

set_option maxHeartbeats 2000000
namespace Q
open PySem PySem.Spec PyProof.Rows L2
abbrev SpK := Nat × List Int × Bool
def kd3 (p : SpK) : D := .tup [.int p.1, itD p.2.1, .bl p.2.2]
def bdL (l : List Int) (j : Nat) : Nat := (gi l j).toNat
def Td.spv (t : Td) (p : SpK) : D := .tup [rD (t.warm (t.lo p.1 (bdL p.2.1) p.2.2) 12), rD (t.warm (t.hi p.1 (bdL p.2.1) p.2.2) 12)]
def Td.rowsAll (t : Td) : List (List Int) := rowsB (fun r => List.range (t.nb r)) t.many
def Td.spKeys (t : Td) : List SpK := (List.range t.many).flatMap fun r => t.rowsAll.flatMap fun bd => [(r, bd, false), (r, bd, true)]
theorem nb_le {t : Td} (ok : t.Ok) (r : Nat) : t.nb r ≤ 6 := by
  exact ok.nb6 r
theorem rowsAll_len {t : Td} (ok : t.Ok) : t.rowsAll.length ≤ 1296 := by
  have h := rowsB_len (tc := fun r => List.range (t.nb r)) (fun r => by rw [List.length_range]; exact nb_le ok r) t.many
  have : (6 : Nat) ^ t.many ≤ 6 ^ 4 := Nat.pow_le_pow_right (by decide) ok.m4
  unfold Td.rowsAll
  omega
theorem spKeys_len {t : Td} (ok : t.Ok) : t.spKeys.length ≤ 20000 := by
  have h1 : ∀ r : Nat, (t.rowsAll.flatMap fun bd => [(r, bd, false), (r, bd, true)]).length ≤ 2592 := fun r => by
    have := flat_len (l := t.rowsAll) (f := fun bd => [((r, bd, false) : SpK), (r, bd, true)]) (c := 2) (fun _ => Nat.le_refl _)
    have := rowsAll_len ok
    omega
  have h2 := flat_len (l := List.range t.many) (f := fun r => t.rowsAll.flatMap fun bd => [((r, bd, false) : SpK), (r, bd, true)]) (c := 2592) h1
  have := ok.m4
  rw [List.length_range] at h2
  unfold Td.spKeys
  have : t.many * 2592 ≤ 4 * 2592 := Nat.mul_le_mul_right _ ok.m4
  omega
structure SpOk (t : Td) (KS : List SpK) : Prop where
  nd : KS.Nodup
  sub : ∀ p ∈ KS, p ∈ t.spKeys
theorem SpOk.len {t : Td} {KS : List SpK} (h : SpOk t KS) (ok : t.Ok) : KS.length ≤ 20000 := Nat.le_trans (nodup_len h.nd h.sub) (spKeys_len ok)
theorem SpOk.add {t : Td} {KS : List SpK} {p : SpK} (h : SpOk t KS) (hp : p ∈ t.spKeys) (hn : p ∉ KS) : SpOk t (KS ++ [p]) := ⟨List.nodup_append.mpr ⟨h.nd, by simp, fun a ha b hb e => by
  rw [List.mem_singleton] at hb
  subst hb
  subst e
  exact hn ha⟩, fun x hx => (List.mem_append.mp hx).elim (h.sub x) fun z => by rw [List.mem_singleton.mp z]; exact hp⟩
def spOb (c n : Nat) (t : Td) (KS : List SpK) : Ob := ⟨c, [("my_hold", .obj n), ("my_spans", .dct (kvD kd3 KS t.spv))]⟩
structure SpR (c : Nat) (t : Td) (n m : Nat) (S : Store) : Prop where
  ne : m ≠ n
  sp : ∃ KS, SpOk t KS ∧ S[m]? = some (spOb c n t KS)
structure SameB (m : Nat) (S S' : Store) : Prop where
  len : S'.length = S.length
  same : ∀ i, i ≠ m → S'[i]? = S[i]?
theorem SameB.refl (m : Nat) (S : Store) : SameB m S S := ⟨rfl, fun _ _ => rfl⟩
theorem SameB.trans {m : Nat} {S S1 S2 : Store} (a : SameB m S S1) (b : SameB m S1 S2) : SameB m S S2 := ⟨b.len.trans a.len, fun i h => (b.same i h).trans (a.same i h)⟩
theorem SameB.set {m : Nat} {S : Store} {o : Ob} : SameB m S (S.set m o) := ⟨List.length_set, fun i h => List.getElem?_set_ne fun e => h e.symm⟩
end Q

namespace Q
section
variable {α β ι : Type} {Ls : List ι} {ords : α → List Nat} {led : α → Nat → Option (List α)} {ordsP : ι → β → List Nat} {ledP : ι → β → Nat → Option (List β)} {π : ι → α → β} {πo : ι → Nat → Nat} {V : α → Prop}
structure Side (Ls : List ι) (ords : α → List Nat) (led : α → Nat → Option (List α)) (ordsP : ι → β → List Nat) (ledP : ι → β → Nat → Option (List β)) (π : ι → α → β) (πo : ι → Nat → Nat) (V : α → Prop) : Prop where
  a : ∀ s, V s → ∀ o ∈ ords s, ∀ l ∈ Ls, πo l o ∈ ordsP l (π l s)
  b : ∀ s, V s → ∀ op : ι → Nat, (∀ l ∈ Ls, op l ∈ ordsP l (π l s)) → ∃ o ∈ ords s, ∀ l ∈ Ls, πo l o = op l
  c : ∀ s, V s → ∀ o ∈ ords s, ∀ w, led s o = some w → ∀ l ∈ Ls, ∃ w', ledP l (π l s) (πo l o) = some w' ∧ ∀ x ∈ w, π l x ∈ w'
  e : ∀ s, V s → ∀ o ∈ ords s, (∀ l ∈ Ls, ∃ w', ledP l (π l s) (πo l o) = some w') → ∃ w, led s o = some w ∧ ∀ l ∈ Ls, ∀ w', ledP l (π l s) (πo l o) = some w' → ∀ y ∈ w', ∃ x ∈ w, π l x = y
  v : ∀ s, V s → ∀ o ∈ ords s, ∀ w, led s o = some w → ∀ x ∈ w, V x
theorem Side.ill (h : Side Ls ords led ordsP ledP π πo V) : ∀ (n : Nat) (s : α), V s → (ill ords led n s ↔ ∃ l ∈ Ls, Q.ill (ordsP l) (ledP l) n (π l s)) := by
  have none_ : ∀ s, V s → (∀ l ∈ Ls, ordsP l (π l s) ≠ []) → ords s ≠ [] := fun s vs hne z => by
    have hex : ∀ l : ι, ∃ o : Nat, l ∈ Ls → o ∈ ordsP l (π l s) := fun l => by
      by_cases hl : l ∈ Ls
      · obtain ⟨o, ho⟩ := List.exists_mem_of_ne_nil _ (hne l hl)
        exact ⟨o, fun _ => ho⟩
      · exact ⟨0, fun q => absurd q hl⟩
    obtain ⟨o, ho, _⟩ := h.b s vs (fun l => (hex l).choose) fun l hl => (hex l).choose_spec hl
    rw [z] at ho
    exact nomatch ho
  have some_ : ∀ s, V s → ∀ l ∈ Ls, ordsP l (π l s) = [] → ords s = [] := fun s vs l hl z => by
    cases e : ords s with
    | nil => rfl
    | cons o r =>
      have := h.a s vs o (by rw [e]; exact List.mem_cons_self) l hl
      rw [z] at this
      exact nomatch this
  intro n
  induction n with
  | zero =>
    intro s vs
    show ords s = [] ↔ ∃ l ∈ Ls, ordsP l (π l s) = []
    constructor
    · intro z
      apply Classical.byContradiction
      intro hn
      exact none_ s vs (fun l hl q => hn ⟨l, hl, q⟩) z
    · rintro ⟨l, hl, z⟩
      exact some_ s vs l hl z
  | succ n ih =>
    intro s vs
    constructor
    · intro hi
      apply Classical.byContradiction
      intro hn
      have hall : ∀ l ∈ Ls, ordsP l (π l s) ≠ [] ∧ ∃ o ∈ ordsP l (π l s), ∃ w, ledP l (π l s) o = some w ∧ ∀ y ∈ w, ¬ Q.ill (ordsP l) (ledP l) n y := fun l hl => by
        have hnl : ¬ (ordsP l (π l s) = [] ∨ ∀ o ∈ ordsP l (π l s), ∀ w, ledP l (π l s) o = some w → ∃ t ∈ w, Q.ill (ordsP l) (ledP l) n t) := fun z => hn ⟨l, hl, z⟩
        refine ⟨fun z => hnl (.inl z), ?_⟩
        apply Classical.byContradiction
        intro q
        refine hnl (.inr fun o ho w hw => ?_)
        apply Classical.byContradiction
        intro q2
        exact q ⟨o, ho, w, hw, fun y hy hi => q2 ⟨y, hy, hi⟩⟩
      have hex : ∀ l : ι, ∃ o : Nat, l ∈ Ls → o ∈ ordsP l (π l s) ∧ ∃ w, ledP l (π l s) o = some w ∧ ∀ y ∈ w, ¬ Q.ill (ordsP l) (ledP l) n y := fun l => by
        by_cases hl : l ∈ Ls
        · obtain ⟨o, ho, hw⟩ := (hall l hl).2
          exact ⟨o, fun _ => ⟨ho, hw⟩⟩
        · exact ⟨0, fun q => absurd q hl⟩
      obtain ⟨o, ho, eo⟩ := h.b s vs (fun l => (hex l).choose) fun l hl => ((hex l).choose_spec hl).1
      have hw : ∀ l ∈ Ls, ∃ w, ledP l (π l s) (πo l o) = some w ∧ ∀ y ∈ w, ¬ Q.ill (ordsP l) (ledP l) n y := fun l hl => by
        rw [eo l hl]
        exact ((hex l).choose_spec hl).2
      obtain ⟨w, ew, _⟩ := h.e s vs o ho fun l hl => (hw l hl).imp fun w h => h.1
      rcases hi with z | z
      · rw [z] at ho
        exact nomatch ho
      · obtain ⟨x, hx, ix⟩ := z o ho w ew
        obtain ⟨l, hl, il⟩ := (ih x (h.v s vs o ho w ew x hx)).mp ix
        obtain ⟨w', e1, h1⟩ := h.c s vs o ho w ew l hl
        obtain ⟨w2, e2, h2⟩ := hw l hl
        rw [e1] at e2
        cases e2
        exact h2 _ (h1 x hx) il
    · rintro ⟨l, hl, z⟩
      rcases z with z | z
      · exact .inl (some_ s vs l hl z)
      · refine .inr fun o ho w ew => ?_
        have hc := h.c s vs o ho w ew
        obtain ⟨w', e1, h1⟩ := hc l hl
        obtain ⟨y, hy, iy⟩ := z _ (h.a s vs o ho l hl) w' e1
        obtain ⟨w2, ew2, h2⟩ := h.e s vs o ho fun l hl => (hc l hl).imp fun w h => h.1
        rw [ew] at ew2
        cases ew2
        obtain ⟨x, hx, e⟩ := h2 l hl w' e1 y hy
        exact ⟨x, hx, (ih x (h.v s vs o ho w ew x hx)).mpr ⟨l, hl, by rw [e]; exact iy⟩⟩
end
end Q

set_option maxHeartbeats 2000000
namespace Q
open PySem PySem.Spec PyProof.Rows L2
def Td.led (t : Td) (s : Stt) (o : Nat) : Option (List Stt) := if t.allSafe s o = true then some (t.outs s o) else none
def Td.ords (t : Td) (s : Stt) : List Nat := ordersL t.hs s
section
variable {t : Td} (ok : t.Ok) {s : Stt} (i : IsSt t.hs s) {o : Nat} (ao : OkO t.hs s o)
include ok i ao
end
structure MI (t : Td) (init row : List Stt) (n : Nat) : Prop where
  le : n ≤ row.length
  nd : row.Nodup
  is : ∀ s ∈ row, IsSt t.hs s
  ini : ∀ s ∈ init, s ∈ row
  cl : ∀ s ∈ row.take n, ∀ o ∈ t.ords s, ∀ l, t.led s o = some l → ∀ x ∈ l, x ∈ row
end Q

namespace Q
open PySem PySem.Spec PyProof.Rows L2
section
variable {x : Nat → Nat → Nat}
end
end Q

namespace Q
open PySem PySem.Spec PyProof.Rows L2
section
variable (t : Td) (x : Nat → Nat → Nat) (k : Nat)
variable {t x k}
end
end Q

namespace Q
open PySem PySem.Spec PyProof.Rows L2
end Q

namespace Q
open PySem PySem.Spec PyProof.Rows L2
structure Quart (h : Hs) : Prop where
  sk : ∀ i, i < h.many → (h.sky i).1 ≤ rI 1 4
  fl : ∀ i j, i < h.many → j < h.many → h.flow i j ≤ rI 1 4
def prodI : List Int → Int
  | [] => 1
  | x :: r => x * prodI r
theorem prodI_app : ∀ (a : List Int) (x : Int), prodI (a ++ [x]) = prodI a * x
  | [], x => by show x * 1 = 1 * x; rw [Int.mul_one, Int.one_mul]
  | y :: a, x => by
    show y * prodI (a ++ [x]) = y * prodI a * x
    rw [prodI_app a x, Int.mul_assoc]
theorem foldl_prod {α : Type} (f : α → Int) : ∀ (l : List α) (z : Int), l.foldl (fun z q => z * f q) z = z * prodI (l.map f)
  | [], z => by show z = z * 1; rw [Int.mul_one]
  | a :: l, z => by
    rw [List.foldl_cons, foldl_prod f l, List.map_cons]
    show z * f a * prodI (l.map f) = z * (f a * prodI (l.map f))
    rw [Int.mul_assoc]
theorem prod_one {α : Type} {f : α → Int} : ∀ {l : List α}, (∀ x ∈ l, 1 ≤ f x) → 1 ≤ prodI (l.map f)
  | [], _ => Int.le_refl 1
  | a :: l, h => by
    have h1 := h a List.mem_cons_self
    have h2 := prod_one (f := f) (l := l) fun x hx => h x (List.mem_cons_of_mem _ hx)
    show 1 ≤ f a * prodI (l.map f)
    have := Int.mul_le_mul h1 h2 (by decide) (by omega)
    omega
theorem prod_sub {α : Type} {f : α → Int} {a b : List α} (s : a.Sublist b) : (∀ x ∈ b, 1 ≤ f x) → prodI (a.map f) ≤ prodI (b.map f) := by
  induction s with
  | slnil => intro _; exact Int.le_refl _
  | @cons a b x s ih =>
    intro h
    have h1 := h x List.mem_cons_self
    have h2 := ih fun y hy => h y (List.mem_cons_of_mem _ hy)
    have h3 := prod_one (f := f) (l := a) fun y hy => h y (List.mem_cons_of_mem _ (s.subset hy))
    show _ ≤ f x * prodI (b.map f)
    have := Int.mul_le_mul h1 h2 (by omega) (by omega)
    omega
  | @cons_cons a b x s ih =>
    intro h
    have h1 := h x List.mem_cons_self
    have h2 := ih fun y hy => h y (List.mem_cons_of_mem _ hy)
    show f x * prodI (a.map f) ≤ f x * prodI (b.map f)
    exact Int.mul_le_mul_of_nonneg_left h2 (by omega)
section
variable {h : Hs} {l : List Nat}
theorem take_getD : ∀ (l : List Nat) (i : Nat), i ≤ l.length → (List.range i).map (fun j => l.getD j 0) = l.take i := fun l i hi => by
  refine List.ext_getElem (by rw [List.length_map, List.length_range, List.length_take]; omega) fun j h1 h2 => ?_
  rw [List.getElem_map, List.getElem_range, List.getElem_take, List.getD_eq_getElem?_getD, List.getElem?_eq_getElem]
  rfl
end
theorem rb_zero (k : Nat) (h : 1 ≤ k) : rb k 0 := ⟨Nat.lt_of_lt_of_le (by decide : (0 : Rat).num.natAbs < 2 ^ 1) (Nat.pow_le_pow_right (by decide) h), Nat.lt_of_lt_of_le (by decide : (0 : Rat).den < 2 ^ 1) (Nat.pow_le_pow_right (by decide) h)⟩
end Q

namespace Q
open PySem PySem.Spec PyProof.Rows L2
def Td.sub (t : Td) (l : List Nat) : Td := { t with many := l.length, nb := fun i => t.nb (l.getD i 0), mv := fun i => t.mv (l.getD i 0), sky := fun i => t.sky (l.getD i 0), stove := fun i => t.stove (l.getD i 0), flow := fun i j => t.flow (l.getD i 0) (l.getD j 0) }
theorem getD_mem {l : List Nat} {i : Nat} (hi : i < l.length) : l.getD i 0 ∈ l := by
  rw [List.getD_eq_getElem?_getD, List.getElem?_eq_getElem hi]
  exact List.getElem_mem hi
theorem sublist_lt {l : List Nat} {n i : Nat} (s : l.Sublist (List.range n)) (hi : i < l.length) : l.getD i 0 < n := List.mem_range.mp (s.subset (getD_mem hi))
structure Apart (t : Td) (Ls : List (List Nat)) : Prop where
  sub : ∀ l ∈ Ls, l.Sublist (List.range t.many)
  ne : ∀ l ∈ Ls, l ≠ []
  cov : ∀ r, r < t.many → ∃ l ∈ Ls, r ∈ l
  dis : ∀ l ∈ Ls, ∀ l' ∈ Ls, ∀ r, r ∈ l → r ∈ l' → l = l'
  cut : ∀ l ∈ Ls, ∀ r ∈ l, ∀ j, j < t.many → j ∉ l → t.flow r j = 0
  dry : ∀ r h w s f, r < t.many → t.stove r = some (h, w, s, f) → w = 0
  few : (((List.range t.many).filter fun r => (t.stove r).isSome).length : Int) ≤ t.b0
theorem Td.Ok.sub {t : Td} (ok : t.Ok) {l : List Nat} (s : l.Sublist (List.range t.many)) (ne : l ≠ []) : (t.sub l).Ok where
  m1 := List.length_pos_iff.mpr ne
  m4 := by
    have h1 := s.length_le
    rw [List.length_range] at h1
    exact Nat.le_trans h1 ok.m4
  nb1 r := ok.nb1 _
  nb6 r := ok.nb6 _
  nbp n hn := by
    have hn : n < l.length := hn
    have b1 : ∀ r ∈ List.range t.many, 1 ≤ (t.nb r : Int) := fun r _ => by
      have := ok.nb1 r
      omega
    have e1 : (tbl n fun r => ((t.sub l).nb r : Int)).foldl (fun z q => z * q) ((t.sub l).nb n : Int) = prodI ((l.take (n + 1)).map fun r => (t.nb r : Int)) := by
      rw [foldl_prod (fun q : Int => q)]
      have e2 : (tbl n fun r => ((t.sub l).nb r : Int)).map (fun q : Int => q) = (l.take n).map fun r => (t.nb r : Int) := by
        rw [← take_getD l n (by omega)]
        unfold tbl
        rw [List.map_map, List.map_map]
        rfl
      have e3 : l.take (n + 1) = l.take n ++ [l.getD n 0] := by
        rw [List.take_succ, List.getD_eq_getElem?_getD, List.getElem?_eq_getElem hn]
        rfl
      rw [e2, e3, List.map_append, List.map_cons, List.map_nil, prodI_app, Int.mul_comm]
      rfl
    rw [e1]
    have p1 := prod_sub (f := fun r => (t.nb r : Int)) ((List.take_sublist (n + 1) l).trans s) b1
    have hm : 0 < t.many := by have := sublist_lt s hn; omega
    have p2 := ok.nbp (t.many - 1) (by omega)
    rw [foldl_prod (fun q : Int => q)] at p2
    have e4 : prodI ((List.range t.many).map fun r => (t.nb r : Int)) = (t.nb (t.many - 1) : Int) * prodI ((tbl (t.many - 1) fun r => (t.nb r : Int)).map fun q : Int => q) := by
      obtain ⟨m, em⟩ : ∃ m, t.many = m + 1 := ⟨t.many - 1, by omega⟩
      rw [em, List.range_succ, List.map_append, List.map_cons, List.map_nil, prodI_app, Int.mul_comm, Nat.add_sub_cancel]
      unfold tbl
      rw [List.map_map]
      rfl
    rw [e4] at p1
    exact Int.le_trans p1 p2
  rise r j := ok.rise _ j
  mlo r j := ok.mlo _ j
  mhi r j := ok.mhi _ j
  m200 r j h := ok.m200 _ j h
  sk0 r := ok.sk0 _
  sk3 r := ok.sk3 _
  slo r := ok.slo _
  sle r := ok.sle _
  shi r := ok.shi _
  st r := ok.st _
  f0 r o := ok.f0 _ _
  f3 r o := ok.f3 _ _
  tk r o := by
    have h1 := s.length_le
    rw [List.length_range] at h1
    have h2 := ok.tk (l.getD r 0) (l.getD o 0)
    have h3 := ok.f0 (l.getD r 0) (l.getD o 0)
    show (t.sky (l.getD r 0)).1 + (if l.length ≤ 3 then 2 else 3) * t.flow (l.getD r 0) (l.getD o 0) ≤ 12
    generalize t.flow (l.getD r 0) (l.getD o 0) = x at h2 h3
    generalize (t.sky (l.getD r 0)).1 = y at h2
    by_cases c : t.many ≤ 3
    · rw [if_pos c] at h2
      rw [if_pos (by omega)]
      exact h2
    · rw [if_neg c] at h2
      split <;> omega
  p0 := ok.p0
  p1 := ok.p1
  p3 := ok.p3
  q0 := ok.q0
  q1 := ok.q1
  q3 := ok.q3
  l2 := ok.l2
  h2 := ok.h2
  b00 := ok.b00
  b04 := ok.b04
  b10 := ok.b10
  b130 := ok.b130
  b20 := ok.b20
  b230 := ok.b230
section
variable {t : Td} {l : List Nat} (s : l.Sublist (List.range t.many))
include s
end
section
variable {t : Td} {Ls : List (List Nat)} (ap : Apart t Ls)
include ap
end
section
variable {t : Td} {Ls : List (List Nat)} (ap : Apart t Ls) (ok : t.Ok)
include ap ok
end
end Q

namespace Q
open PySem PySem.Spec PyProof.Rows L2
def tcH (h : Hs) (i j : Nat) : Bool := decide (0 < h.flow i j) || decide (0 < h.flow j i)
def pbF (tc : Nat → Nat → Bool) : Nat → Nat → List Nat → List Nat → List Nat × List Nat
  | 0, _, part, left => (part, left)
  | n + 1, k, part, left => match part[k]? with
    | none => (part, left)
    | some p => pbF tc n (k + 1) (part ++ left.filter (tc p)) (left.filter fun x => !tc p x)
def psF (tc : Nat → Nat → Bool) (m : Nat) : Nat → List Nat → List (List Nat)
  | 0, _ => []
  | _ + 1, [] => []
  | n + 1, f :: left => ((List.range m).filter fun x => decide (x ∈ (pbF tc (left.length + 1) 0 [f] left).1)) :: psF tc m n (pbF tc (left.length + 1) 0 [f] left).2
structure PB (tc : Nat → Nat → Bool) (k : Nat) (part left : List Nat) : Prop where
  ndp : part.Nodup
  nd : left.Nodup
  dj : ∀ x ∈ left, x ∉ part
  cl : ∀ i, i < k → ∀ p, part[i]? = some p → ∀ x ∈ left, tc p x = false
theorem filt_len {l : List Nat} {p : Nat → Bool} : (l.filter p).length + (l.filter fun x => !p x).length = l.length := by
  induction l with
  | nil => rfl
  | cons a l ih =>
    rw [List.filter_cons, List.filter_cons]
    cases p a <;> simp only [Bool.not_false, Bool.not_true, if_true, if_false, Bool.false_eq_true, List.length_cons] <;> omega
theorem PB.step {tc : Nat → Nat → Bool} {k p : Nat} {part left : List Nat} (h : PB tc k part left) (hp : part[k]? = some p) : PB tc (k + 1) (part ++ left.filter (tc p)) (left.filter fun x => !tc p x) where
  ndp := List.nodup_append.mpr ⟨h.ndp, h.nd.filter _, fun a ha b hb e => h.dj b (List.mem_filter.mp hb).1 (e ▸ ha)⟩
  nd := h.nd.filter _
  dj x hx z := by
    obtain ⟨h1, h2⟩ := List.mem_filter.mp hx
    rcases List.mem_append.mp z with z | z
    · exact h.dj x h1 z
    · have := (List.mem_filter.mp z).2
      rw [this] at h2
      cases h2
  cl i hi q hq x hx := by
    obtain ⟨h1, h2⟩ := List.mem_filter.mp hx
    have hk := (List.getElem?_eq_some_iff.mp hp).1
    rw [List.getElem?_append_left (by omega)] at hq
    rcases Nat.lt_succ_iff_lt_or_eq.mp hi with z | z
    · exact h.cl i z q hq x h1
    · subst z
      rw [hp] at hq
      cases hq
      simpa using h2
theorem pbF_spec {tc : Nat → Nat → Bool} : ∀ (n k : Nat) (part left : List Nat), PB tc k part left → part.length + left.length ≤ n + k → ∃ k', PB tc k' (pbF tc n k part left).1 (pbF tc n k part left).2 ∧ (pbF tc n k part left).1.length ≤ k' ∧ (∀ x, (x ∈ (pbF tc n k part left).1 ∨ x ∈ (pbF tc n k part left).2) ↔ x ∈ part ∨ x ∈ left) ∧ (∀ x ∈ part, x ∈ (pbF tc n k part left).1) ∧ (pbF tc n k part left).2.length ≤ left.length
  | 0, k, part, left, h, hl => ⟨k, h, by show part.length ≤ k; omega, fun x => Iff.rfl, fun x hx => hx, Nat.le_refl _⟩
  | n + 1, k, part, left, h, hl => by
    unfold pbF
    cases hp : part[k]? with
    | none => exact ⟨k, h, List.getElem?_eq_none_iff.mp hp, fun x => Iff.rfl, fun x hx => hx, Nat.le_refl _⟩
    | some p =>
      have hlen := filt_len (l := left) (p := tc p)
      obtain ⟨k', h1, h2, h3, h4, h5⟩ := pbF_spec n (k + 1) _ _ (h.step hp) (by rw [List.length_append]; omega)
      refine ⟨k', h1, h2, fun x => (h3 x).trans ?_, fun x hx => h4 x (List.mem_append.mpr (.inl hx)), Nat.le_trans h5 (List.length_filter_le _ _)⟩
      rw [List.mem_append, List.mem_filter, List.mem_filter]
      constructor
      · rintro ((z | z) | z)
        · exact .inl z
        · exact .inr z.1
        · exact .inr z.1
      · rintro (z | z)
        · exact .inl (.inl z)
        · cases e : tc p x with
          | true => exact .inl (.inr ⟨z, rfl⟩)
          | false => exact .inr ⟨z, by rw [Bool.not_false]⟩
structure PS_ (tc : Nat → Nat → Bool) (m : Nat) (left : List Nat) (Ls : List (List Nat)) : Prop where
  sub : ∀ l ∈ Ls, l.Sublist (List.range m) ∧ l ≠ [] ∧ ∀ x ∈ l, x ∈ left
  cov : ∀ x ∈ left, ∃ l ∈ Ls, x ∈ l
  dis : ∀ l ∈ Ls, ∀ l' ∈ Ls, ∀ r, r ∈ l → r ∈ l' → l = l'
  cut : ∀ l ∈ Ls, ∀ r ∈ l, ∀ j ∈ left, j ∉ l → tc r j = false
theorem pbF_congr {tc tc' : Nat → Nat → Bool} {m : Nat} (h : ∀ i j, i < m → j < m → tc i j = tc' i j) : ∀ (n k : Nat) (part left : List Nat), (∀ x ∈ part, x < m) → (∀ x ∈ left, x < m) → pbF tc n k part left = pbF tc' n k part left
  | 0, _, _, _, _, _ => rfl
  | n + 1, k, part, left, hp, hl => by
    unfold pbF
    cases e : part[k]? with
    | none => rfl
    | some p =>
      have hpm := hp p (List.mem_of_getElem? e)
      have e1 : left.filter (tc p) = left.filter (tc' p) := List.filter_congr fun x hx => h p x hpm (hl x hx)
      have e2 : (left.filter fun x => !tc p x) = left.filter fun x => !tc' p x := List.filter_congr fun x hx => by rw [h p x hpm (hl x hx)]
      show pbF tc n (k + 1) _ _ = pbF tc' n (k + 1) _ _
      rw [e1, e2]
      refine pbF_congr h n (k + 1) _ _ (fun x hx => ?_) fun x hx => hl x (List.mem_filter.mp hx).1
      rcases List.mem_append.mp hx with z | z
      · exact hp x z
      · exact hl x (List.mem_filter.mp z).1
theorem pbF_lt {tc : Nat → Nat → Bool} {m : Nat} : ∀ (n k : Nat) (part left : List Nat), (∀ x ∈ left, x < m) → ∀ x ∈ (pbF tc n k part left).2, x < m
  | 0, _, _, _, hl => hl
  | n + 1, k, part, left, hl => by
    unfold pbF
    cases e : part[k]? with
    | none => exact hl
    | some p => exact pbF_lt n (k + 1) _ _ fun x hx => hl x (List.mem_filter.mp hx).1
theorem psF_congr {tc tc' : Nat → Nat → Bool} {m : Nat} (h : ∀ i j, i < m → j < m → tc i j = tc' i j) : ∀ (n : Nat) (left : List Nat), (∀ x ∈ left, x < m) → psF tc m n left = psF tc' m n left
  | 0, _, _ => rfl
  | n + 1, [], _ => rfl
  | n + 1, f :: left, hl => by
    unfold psF
    have e := pbF_congr h (left.length + 1) 0 [f] left (fun x hx => by rw [List.mem_singleton.mp hx]; exact hl f List.mem_cons_self) fun x hx => hl x (List.mem_cons_of_mem _ hx)
    rw [e, psF_congr h n _ (pbF_lt _ _ _ _ fun x hx => hl x (List.mem_cons_of_mem _ hx))]
theorem psF_len {tc : Nat → Nat → Bool} {m : Nat} : ∀ (n : Nat) (left : List Nat), (psF tc m n left).length ≤ n
  | 0, _ => Nat.le_refl _
  | n + 1, [] => Nat.zero_le _
  | n + 1, f :: left => by
    unfold psF
    rw [List.length_cons]
    exact Nat.succ_le_succ (psF_len n _)
def partsH (h : Hs) : List (List Nat) := psF (tcH h) h.many h.many (List.range h.many)
end Q

namespace Q
open PySem PySem.Spec PyProof.Rows L2
def growF (tc : Nat → Nat → Bool) (left : List Nat) : Nat → List Nat → Option (List Nat)
  | 0, _ => none
  | n + 1, part =>
    if (left.filter fun j => !decide (j ∈ part) && part.any fun i => tc i j) = [] then some part
    else growF tc left n (part ++ left.filter fun j => !decide (j ∈ part) && part.any fun i => tc i j)
def lpF (tc : Nat → Nat → Bool) : Nat → List Nat → Option (List (List Nat))
  | 0, _ => none
  | _ + 1, [] => some []
  | n + 1, x :: l => match growF tc (x :: l) 6 [x] with
    | none => none
    | some p => (lpF tc n ((x :: l).filter fun j => !decide (j ∈ p))).map (p :: ·)
def bit6 (b : Nat) : Nat → Nat → Bool
  | 0, 1 => b.testBit 0
  | 0, 2 => b.testBit 1
  | 0, 3 => b.testBit 2
  | 1, 2 => b.testBit 3
  | 1, 3 => b.testBit 4
  | 2, 3 => b.testBit 5
  | _, _ => false
def tcOf (b i j : Nat) : Bool := bit6 b i j || bit6 b j i
def enc6 (a b c d e f : Bool) : Nat := a.toNat + 2 * b.toNat + 4 * c.toNat + 8 * d.toNat + 16 * e.toNat + 32 * f.toNat
def rawOk (m : Nat) (raw : List (List Nat)) : Bool := raw.all fun p => decide p.Nodup && p.all fun x => decide (x < m)
def lpOk (m b : Nat) : Bool := match lpF (tcOf b) 6 (List.range m) with
  | none => false
  | some raw => decide (raw.map (fun p => (List.range m).filter fun x => decide (x ∈ p)) = psF (tcOf b) m m (List.range m)) && rawOk m raw && decide (raw.length = (psF (tcOf b) m m (List.range m)).length ∧ raw.length ≠ 0)
theorem lp_all : ((List.range 4).all fun m => (List.range 64).all fun b => lpOk (m + 1) b) = true := by decide +kernel
theorem enc_ok : ∀ a b c d e f : Bool, enc6 a b c d e f < 64 ∧ (bit6 (enc6 a b c d e f) 0 1 = a ∧ bit6 (enc6 a b c d e f) 0 2 = b ∧ bit6 (enc6 a b c d e f) 0 3 = c ∧ bit6 (enc6 a b c d e f) 1 2 = d ∧ bit6 (enc6 a b c d e f) 1 3 = e ∧ bit6 (enc6 a b c d e f) 2 3 = f) := by decide +kernel
theorem tc_code {tc : Nat → Nat → Bool} {m : Nat} (m4 : m ≤ 4) (sym : ∀ i j, i < m → j < m → tc i j = tc j i) (irr : ∀ i, i < m → tc i i = false) : ∃ b, b < 64 ∧ ∀ i j, i < m → j < m → tc i j = tcOf b i j := by
  obtain ⟨h0, h1, h2, h3, h4, h5, h6⟩ := enc_ok (tc 0 1) (tc 0 2) (tc 0 3) (tc 1 2) (tc 1 3) (tc 2 3)
  refine ⟨_, h0, fun i j hi hj => ?_⟩
  have u : ∀ i j, i < j → j < 4 → tcOf (enc6 (tc 0 1) (tc 0 2) (tc 0 3) (tc 1 2) (tc 1 3) (tc 2 3)) i j = tc i j ∧ tcOf (enc6 (tc 0 1) (tc 0 2) (tc 0 3) (tc 1 2) (tc 1 3) (tc 2 3)) j i = tc i j := fun i j hij hj => by
    have : (i = 0 ∧ j = 1) ∨ (i = 0 ∧ j = 2) ∨ (i = 0 ∧ j = 3) ∨ (i = 1 ∧ j = 2) ∨ (i = 1 ∧ j = 3) ∨ (i = 2 ∧ j = 3) := by omega
    rcases this with ⟨rfl, rfl⟩ | ⟨rfl, rfl⟩ | ⟨rfl, rfl⟩ | ⟨rfl, rfl⟩ | ⟨rfl, rfl⟩ | ⟨rfl, rfl⟩ <;> unfold tcOf
    · rw [h1]; simp [bit6]
    · rw [h2]; simp [bit6]
    · rw [h3]; simp [bit6]
    · rw [h4]; simp [bit6]
    · rw [h5]; simp [bit6]
    · rw [h6]; simp [bit6]
  rcases Nat.lt_trichotomy i j with h | h | h
  · exact (u i j h (by omega)).1.symm
  · subst h
    rw [irr i hi]
    have : i = 0 ∨ i = 1 ∨ i = 2 ∨ i = 3 := by omega
    rcases this with rfl | rfl | rfl | rfl <;> simp [tcOf, bit6]
  · rw [sym i j hi hj]
    exact (u j i h (by omega)).2.symm
theorem filter_congr' {l : List Nat} {p q : Nat → Bool} (h : ∀ x ∈ l, p x = q x) : l.filter p = l.filter q := List.filter_congr h
theorem growF_congr {tc tc' : Nat → Nat → Bool} {m : Nat} (h : ∀ i j, i < m → j < m → tc i j = tc' i j) {left : List Nat} (hl : ∀ x ∈ left, x < m) : ∀ (n : Nat) (part : List Nat), (∀ x ∈ part, x < m) → growF tc left n part = growF tc' left n part
  | 0, _, _ => rfl
  | n + 1, part, hp => by
    have e : (left.filter fun j => !decide (j ∈ part) && part.any fun i => tc i j) = left.filter fun j => !decide (j ∈ part) && part.any fun i => tc' i j := filter_congr' fun j hj => by
      congr 1
      rw [Bool.eq_iff_iff, List.any_eq_true, List.any_eq_true]
      exact ⟨fun ⟨i, a, b⟩ => ⟨i, a, by rw [← h i j (hp i a) (hl j hj)]; exact b⟩, fun ⟨i, a, b⟩ => ⟨i, a, by rw [h i j (hp i a) (hl j hj)]; exact b⟩⟩
    unfold growF
    rw [e]
    split
    · rfl
    · refine growF_congr h hl n _ fun x hx => ?_
      rcases List.mem_append.mp hx with z | z
      · exact hp x z
      · exact hl x (List.mem_filter.mp z).1
theorem lpF_congr {tc tc' : Nat → Nat → Bool} {m : Nat} (h : ∀ i j, i < m → j < m → tc i j = tc' i j) : ∀ (n : Nat) (left : List Nat), (∀ x ∈ left, x < m) → lpF tc n left = lpF tc' n left
  | 0, _, _ => rfl
  | _ + 1, [], _ => rfl
  | n + 1, x :: l, hl => by
    unfold lpF
    rw [growF_congr h hl 6 [x] fun y hy => by rw [List.mem_singleton.mp hy]; exact hl x List.mem_cons_self]
    cases growF tc' (x :: l) 6 [x] with
    | none => rfl
    | some p =>
      dsimp only
      rw [lpF_congr h n _ fun y hy => hl y (List.mem_filter.mp hy).1]
theorem lp_parts {tc : Nat → Nat → Bool} {m : Nat} (m1 : 1 ≤ m) (m4 : m ≤ 4) (sym : ∀ i j, i < m → j < m → tc i j = tc j i) (irr : ∀ i, i < m → tc i i = false) :
    ∃ raw, lpF tc 6 (List.range m) = some raw ∧ raw.map (fun p => (List.range m).filter fun x => decide (x ∈ p)) = psF tc m m (List.range m) ∧ (∀ p ∈ raw, p.Nodup ∧ ∀ x ∈ p, x < m) ∧ raw.length ≠ 0 := by
  obtain ⟨b, hb, hc⟩ := tc_code m4 sym irr
  have hr : ∀ x ∈ List.range m, x < m := fun x hx => List.mem_range.mp hx
  have h1 := lp_all
  rw [List.all_eq_true] at h1
  have h2 := h1 (m - 1) (List.mem_range.mpr (by omega))
  rw [List.all_eq_true] at h2
  have h3 := h2 b (List.mem_range.mpr hb)
  rw [show m - 1 + 1 = m by omega] at h3
  unfold lpOk at h3
  rw [lpF_congr hc 6 _ hr, psF_congr hc m _ hr]
  cases e : lpF (tcOf b) 6 (List.range m) with
  | none => rw [e] at h3; cases h3
  | some raw =>
    rw [e] at h3
    simp only [Bool.and_eq_true, decide_eq_true_eq, rawOk, List.all_eq_true] at h3
    exact ⟨raw, rfl, h3.1.1, fun p hp => ⟨(h3.1.2 p hp).1, fun x hx => (h3.1.2 p hp).2 x hx⟩, h3.2.2⟩
def prD (p : Nat × Nat) : D := .tup [.int (p.1 : Int), .int (p.2 : Int)]
def tkD (tk : List (Nat × Nat)) : List (D × D) := tk.map fun p => (prD p, D.bl true)
theorem kEq_pr {p q : Nat × Nat} : kEq (prD p) (prD q) = decide (p = q) := by
  obtain ⟨a, b⟩ := p
  obtain ⟨c, d⟩ := q
  show decide (PySem.NestedKey.tup [.num (a : Int), .num (b : Int)] = .tup [.num (c : Int), .num (d : Int)]) = _
  rw [decide_eq_decide]
  simp
  omega
theorem keyF_pr {p : Nat × Nat} : keyF (prD p) = true := rfl
theorem sortOk_tk {tk : List (Nat × Nat)} {p : Nat × Nat} : sortOk (tkD tk) (prD p) = true := by
  show ((tkD tk).all fun p => match p.1 with
    | .tup _ => true
    | _ => false) = true
  unfold tkD
  rw [List.all_map, List.all_eq_true]
  exact fun _ _ => rfl
theorem tupK_tk {tk : List (Nat × Nat)} : tupK (tkD tk) = true := by
  unfold tupK tkD
  rw [List.all_map, List.all_eq_true]
  exact fun _ _ => rfl
theorem look_tk {tk : List (Nat × Nat)} {p : Nat × Nat} : (dlook (tkD tk) (prD p)).isSome = decide (p ∈ tk) := by
  unfold dlook tkD
  rw [Option.isSome_map, List.find?_map, Option.isSome_map, Bool.eq_iff_iff, List.find?_isSome, decide_eq_true_eq]
  constructor
  · rintro ⟨x, hx, h⟩
    have h : kEq (prD x) (prD p) = true := h
    rw [kEq_pr, decide_eq_true_eq] at h
    exact h ▸ hx
  · intro h
    exact ⟨p, h, by show kEq (prD p) (prD p) = true; rw [kEq_pr, decide_eq_true rfl]⟩
theorem in_tk {tk : List (Nat × Nat)} {p : Nat × Nat} : hInD false (prD p) (.dct (tkD tk)) = some (.bl (decide (p ∈ tk))) := by
  show (if keyF (prD p) = true ∧ sortOk (tkD tk) (prD p) = true then some (D.bl (if false = true then !(dlook (tkD tk) (prD p)).isSome else (dlook (tkD tk) (prD p)).isSome)) else none) = _
  rw [if_pos ⟨keyF_pr, sortOk_tk⟩, if_neg (by decide), look_tk]
theorem pop_tk {tk : List (Nat × Nat)} {p : Nat × Nat} : dpopD (tkD tk) (prD p) = tkD (tk.filter fun q => !decide (q = p)) := by
  unfold dpopD tkD
  rw [List.filter_map]
  congr 1
  refine List.filter_congr fun q _ => ?_
  show (!kEq (prD q) (prD p)) = _
  rw [kEq_pr]
theorem put_tk {tk : List (Nat × Nat)} {p : Nat × Nat} : dput (tkD tk) (prD p) (D.bl true) = tkD (if p ∈ tk then tk else tk ++ [p]) := by
  have ea : ((tkD tk).any fun q => kEq q.1 (prD p)) = decide (p ∈ tk) := by
    rw [Bool.eq_iff_iff, List.any_eq_true, decide_eq_true_eq]
    unfold tkD
    constructor
    · rintro ⟨x, hx, h⟩
      obtain ⟨q, hq, rfl⟩ := List.mem_map.mp hx
      have h : kEq (prD q) (prD p) = true := h
      rw [kEq_pr, decide_eq_true_eq] at h
      exact h ▸ hq
    · intro h
      exact ⟨_, List.mem_map.mpr ⟨p, h, rfl⟩, by show kEq (prD p) (prD p) = true; rw [kEq_pr, decide_eq_true rfl]⟩
  unfold dput
  rw [ea]
  by_cases h : p ∈ tk
  · rw [if_pos (decide_eq_true h), if_pos h]
    unfold tkD
    rw [List.map_map]
    refine List.map_congr_left fun q _ => ?_
    show (if kEq (prD q) (prD p) = true then (prD q, D.bl true) else (prD q, D.bl true)) = _
    rw [ite_self]
  · rw [if_neg (by rw [decide_eq_false h]; decide), if_neg h]
    unfold tkD
    rw [List.map_append]
    rfl
theorem ev_lift0 {ρ : Env} {S : Store} : eLift (eLst lNil) ρ S = .ok (.lst []) S := rfl
theorem appFP_ok {m i : Nat} {A : FEP} {ρ ρ1 : Env} {S S1 : Store} {l0 l : List D} {d : D} (h0 : ρ[i]? = some (some (.lst l0))) (hA : A ρ S = .ok d ρ1 S1) (h1 : ρ1[i]? = some (some (.lst l))) (hl : l.length < 1000000) : fAppFP m i A ρ S = .nx (ρ1.set i (some (.lst (l ++ [d])))) S1 := by
  have e : fAppFP m i A ρ S = appFK m i d ρ1 S1 := by
    unfold fAppFP
    rw [h0, hA]
    rfl
  rw [e]
  unfold appFK
  rw [h1]
  exact if_pos hl
end Q

set_option maxHeartbeats 2000000
set_option pp.maxSteps 400
namespace K69
open PySem PySem.Spec PyProof.Rows L2 Q
local macro_rules | `(tactic| walk_at "ev") => `(tactic| simp -implicitDefEqProofs only [hTru_of, ev_meth, ev_fldV, rfe_ok, tbl_len, hIx_rD0, hIx_rD1, ev_body, outsOf, ΓS, List.replicate, List.map_cons, List.map_nil, List.cons_append, List.nil_append, List.headD_cons, List.tail_cons, ev_var, ev_c, ev_op, ev_un, ev_nil, ev_cons, ev_L, ev_tup, ev_lst, ev_call, ev_and, ev_or, ev_not, ev_if, ev_seq, ev_set, ev_ret, ev_drop, ev_pass, ev_brk, ev_ct, ev_raise, ev_ifS, ev_for, ev_held, ev_tru, ev_mut, ev_mutset, mutK_lst, mutR_some, ev_flat, flatK_int, flatK_bl, flatK_str, flatK_non, ev_m1, m1K_str, hIsi_list_lst, hIsi_bool_bl, hIsi_int_bl, hEq_bl, hNe_bl, List.length_map, bind_ok, bind_exc, bindS_ok, bindS_exc, of_some, seq_nx, seq_rt, seq_exc, seq_bk, seq_ct, condS_t, condS_f, condE_t, condE_f, notD_bl, bindE_ok, bindE_exc, bindL_ok, bindL_exc, bindLL_ok, bindLL_exc, bindLS_ok, bindLS_exc, toE_ok, toE_exc, toF_nx, toF_rt, toF_exc, slotE_some, List.getElem?_cons_zero, List.getElem?_cons_succ, List.set_cons_zero, List.set_cons_succ, hNe_int, hEq_int, hAdd_int, hSub_int, hLt_int, hLe_int, hGt_int, hGe_int, hNeg_int, hAbs_int, hIsi_int_int, hIsi_bool_int, hIsi_tuple_tup, hIxT0, hIxT1, hIxT2, hIxT3, hIxT4, hIxL0, hIxL1, hIxL2, hIxL3, hLen_lst, hLen_tup, hLen_scr, ev_sl, bnd_none, bnd_some, bndK_int, hSl_scr, hSl_lst, ev_range1, ev_iseq, seqK_lst, seqK_tup, seqK_scr, Bool.not_true, Bool.not_false, List.length_cons, List.length_nil, Nat.sub_self, Nat.reduceSub, Nat.reduceAdd, Nat.reduceLeDiff, decide_true, decide_false, reduceIte, Int.reduceSub, Int.reduceAdd, Int.reduceMul, Int.reduceNeg, Int.reduceMod, Int.reduceDiv, Int.reduceBEq, Int.reduceLT, Int.reduceLE, Int.cast_ofNat_Int, BEq.rfl, Nat.reduceBEq, Nat.zero_add])
local macro_rules | `(tactic| walk_at "evh") => `(tactic| simp -implicitDefEqProofs only [hTru_of, ev_meth, ev_fldV, rfe_ok, tbl_len, hIx_rD0, hIx_rD1, ev_body, outsOf, ΓS, List.replicate, List.map_cons, List.map_nil, List.cons_append, List.nil_append, List.headD_cons, List.tail_cons, ev_var, ev_c, ev_op, ev_un, ev_nil, ev_cons, ev_L, ev_tup, ev_lst, ev_call, ev_and, ev_or, ev_not, ev_if, ev_seq, ev_set, ev_ret, ev_drop, ev_pass, ev_brk, ev_ct, ev_raise, ev_ifS, ev_for, ev_held, ev_tru, ev_mut, ev_mutset, mutK_lst, mutR_some, ev_flat, flatK_int, flatK_bl, flatK_str, flatK_non, ev_m1, m1K_str, hIsi_list_lst, hIsi_bool_bl, hIsi_int_bl, hEq_bl, hNe_bl, List.length_map, bind_ok, bind_exc, bindS_ok, bindS_exc, of_some, seq_nx, seq_rt, seq_exc, seq_bk, seq_ct, condS_t, condS_f, condE_t, condE_f, notD_bl, bindE_ok, bindE_exc, bindL_ok, bindL_exc, bindLL_ok, bindLL_exc, bindLS_ok, bindLS_exc, toE_ok, toE_exc, toF_nx, toF_rt, toF_exc, slotE_some, List.getElem?_cons_zero, List.getElem?_cons_succ, List.set_cons_zero, List.set_cons_succ, hNe_int, hEq_int, hAdd_int, hSub_int, hLt_int, hLe_int, hGt_int, hGe_int, hNeg_int, hAbs_int, hIsi_int_int, hIsi_bool_int, hIsi_tuple_tup, hIxT0, hIxT1, hIxT2, hIxT3, hIxT4, hIxL0, hIxL1, hIxL2, hIxL3, hLen_lst, hLen_tup, hLen_scr, ev_sl, bnd_none, bnd_some, bndK_int, hSl_scr, hSl_lst, ev_range1, ev_iseq, seqK_lst, seqK_tup, seqK_scr, Bool.not_true, Bool.not_false, List.length_cons, List.length_nil, Nat.sub_self, Nat.reduceSub, Nat.reduceAdd, Nat.reduceLeDiff, decide_true, decide_false, reduceIte, Int.reduceSub, Int.reduceAdd, Int.reduceMul, Int.reduceNeg, Int.reduceMod, Int.reduceDiv, Int.reduceBEq, Int.reduceLT, Int.reduceLE, Int.cast_ofNat_Int, BEq.rfl, Nat.reduceBEq, Nat.zero_add, *])
local macro_rules | `(tactic| walk_at "gs") => `(tactic| simp -implicitDefEqProofs (disch := first | omega | (exact rfl) | assumption) only [hTru_of, ev_meth, ev_fldV, rfe_ok, tbl_len, hIx_rD0, hIx_rD1, ev_body, outsOf, ΓS, List.replicate, List.map_cons, List.map_nil, List.cons_append, List.nil_append, List.headD_cons, List.tail_cons, ev_var, ev_c, ev_op, ev_un, ev_nil, ev_cons, ev_L, ev_tup, ev_lst, ev_call, ev_and, ev_or, ev_not, ev_if, ev_seq, ev_set, ev_ret, ev_drop, ev_pass, ev_brk, ev_ct, ev_raise, ev_ifS, ev_for, ev_held, ev_tru, ev_mut, ev_mutset, mutK_lst, mutR_some, ev_flat, flatK_int, flatK_bl, flatK_str, flatK_non, ev_m1, m1K_str, hIsi_list_lst, hIsi_bool_bl, hIsi_int_bl, hEq_bl, hNe_bl, List.length_map, bind_ok, bind_exc, bindS_ok, bindS_exc, of_some, seq_nx, seq_rt, seq_exc, seq_bk, seq_ct, condS_t, condS_f, condE_t, condE_f, notD_bl, bindE_ok, bindE_exc, bindL_ok, bindL_exc, bindLL_ok, bindLL_exc, bindLS_ok, bindLS_exc, toE_ok, toE_exc, toF_nx, toF_rt, toF_exc, slotE_some, List.getElem?_cons_zero, List.getElem?_cons_succ, List.set_cons_zero, List.set_cons_succ, hNe_int, hEq_int, hAdd_int, hSub_int, hLt_int, hLe_int, hGt_int, hGe_int, hNeg_int, hAbs_int, hIsi_int_int, hIsi_bool_int, hIsi_tuple_tup, hIxT0, hIxT1, hIxT2, hIxT3, hIxT4, hIxL0, hIxL1, hIxL2, hIxL3, hLen_lst, hLen_tup, hLen_scr, ev_sl, bnd_none, bnd_some, bndK_int, hSl_scr, hSl_lst, ev_range1, ev_iseq, seqK_lst, seqK_tup, seqK_scr, Bool.not_true, Bool.not_false, List.length_cons, List.length_nil, Nat.sub_self, Nat.reduceSub, Nat.reduceAdd, Nat.reduceLeDiff, decide_true, decide_false, reduceIte, Int.reduceSub, Int.reduceAdd, Int.reduceMul, Int.reduceNeg, Int.reduceMod, Int.reduceDiv, Int.reduceBEq, Int.reduceLT, Int.reduceLE, Int.cast_ofNat_Int, BEq.rfl, Nat.reduceBEq, Nat.zero_add, hMul_sm, hDiv_sm, hMod_pos, rgK1_ok, rgK2_ok, beq_f, beq_t, decide_eq_true, decide_eq_false, hAdd_int, ev_pvar, ev_pkey, pKeyK_ok, ev_vmut, ev_vput, slotPut_ok, rv_ok, rl_bindR, lstK_lst, dctK_dct, optK_some, mAppend_ok, setAt_nil, hIxD_lst, hIxD_tup, keyF_str, keyF_pair, ev_range2, Nat.not_lt_zero, Bool.false_eq_true, slotK_ok, ev_call0', call0K_ok, call0R_ok, noObjL_nil, noObjL_cons, noObj_int, noObj_bl, noObj_str, noObj_non, noObj_tup, noObj_lst, noObj_scr, noObj_rD, noObjL_ints, noObjL_rats, Bool.and_self, Bool.and_true, Bool.true_and, ev_dct, dctR_ok, itms_nil, itms_l, itms_d, itms_s, itS_ok, Option.map_some, call0C_t, rfe_exc, List.append_nil, Bool.false_and, Bool.and_false, ev_callD, ev_make, makeR_ok, makeR_exc, ev_fld, hIxO_lst])
local macro_rules | `(tactic| walk_at "go") => `(tactic| try simp -implicitDefEqProofs (disch := first | omega | (exact rfl) | assumption) only [hTru_of, ev_meth, ev_fldV, rfe_ok, tbl_len, hIx_rD0, hIx_rD1, ev_body, outsOf, ΓS, List.replicate, List.map_cons, List.map_nil, List.cons_append, List.nil_append, List.headD_cons, List.tail_cons, ev_var, ev_c, ev_op, ev_un, ev_nil, ev_cons, ev_L, ev_tup, ev_lst, ev_call, ev_and, ev_or, ev_not, ev_if, ev_seq, ev_set, ev_ret, ev_drop, ev_pass, ev_brk, ev_ct, ev_raise, ev_ifS, ev_for, ev_held, ev_tru, ev_mut, ev_mutset, mutK_lst, mutR_some, ev_flat, flatK_int, flatK_bl, flatK_str, flatK_non, ev_m1, m1K_str, hIsi_list_lst, hIsi_bool_bl, hIsi_int_bl, hEq_bl, hNe_bl, List.length_map, bind_ok, bind_exc, bindS_ok, bindS_exc, of_some, seq_nx, seq_rt, seq_exc, seq_bk, seq_ct, condS_t, condS_f, condE_t, condE_f, notD_bl, bindE_ok, bindE_exc, bindL_ok, bindL_exc, bindLL_ok, bindLL_exc, bindLS_ok, bindLS_exc, toE_ok, toE_exc, toF_nx, toF_rt, toF_exc, slotE_some, List.getElem?_cons_zero, List.getElem?_cons_succ, List.set_cons_zero, List.set_cons_succ, hNe_int, hEq_int, hAdd_int, hSub_int, hLt_int, hLe_int, hGt_int, hGe_int, hNeg_int, hAbs_int, hIsi_int_int, hIsi_bool_int, hIsi_tuple_tup, hIxT0, hIxT1, hIxT2, hIxT3, hIxT4, hIxL0, hIxL1, hIxL2, hIxL3, hLen_lst, hLen_tup, hLen_scr, ev_sl, bnd_none, bnd_some, bndK_int, hSl_scr, hSl_lst, ev_range1, ev_iseq, seqK_lst, seqK_tup, seqK_scr, Bool.not_true, Bool.not_false, List.length_cons, List.length_nil, Nat.sub_self, Nat.reduceSub, Nat.reduceAdd, Nat.reduceLeDiff, decide_true, decide_false, reduceIte, Int.reduceSub, Int.reduceAdd, Int.reduceMul, Int.reduceNeg, Int.reduceMod, Int.reduceDiv, Int.reduceBEq, Int.reduceLT, Int.reduceLE, Int.cast_ofNat_Int, BEq.rfl, Nat.reduceBEq, Nat.zero_add, hMul_sm, hDiv_sm, hMod_pos, rgK1_ok, rgK2_ok, beq_f, beq_t, decide_eq_true, decide_eq_false, hAdd_int, ev_pvar, ev_pkey, pKeyK_ok, ev_vmut, ev_vput, slotPut_ok, rv_ok, rl_bindR, lstK_lst, dctK_dct, optK_some, mAppend_ok, setAt_nil, hIxD_lst, hIxD_tup, keyF_str, keyF_pair, ev_range2, Nat.not_lt_zero, Bool.false_eq_true, slotK_ok, ev_call0', call0K_ok, call0R_ok, noObjL_nil, noObjL_cons, noObj_int, noObj_bl, noObj_str, noObj_non, noObj_tup, noObj_lst, noObj_scr, noObj_rD, noObjL_ints, noObjL_rats, Bool.and_self, Bool.and_true, Bool.true_and, ev_dct, dctR_ok, itms_nil, itms_l, itms_d, itms_s, itS_ok, Option.map_some, call0C_t, rfe_exc, List.append_nil, Bool.false_and, Bool.and_false, ev_callD, ev_make, makeR_ok, makeR_exc, ev_fld, hIxO_lst])
theorem div_loop (a b : Int) (S : Store) : ∀ (l h : Nat) (x : Option D), ∃ y, fWhile c_divisor_1 b_divisor_2 [some (.int a), some (.int b), some (.int h), some (.int l), x] S = .nx [some (.int a), some (.int b), some (.int (Nat.gcd h l)), some (.int 0), y] S := by
  intro l
  induction l using Nat.strongRecOn with
  | ind l ih =>
    intro h x
    rw [fWhile_turn]
    simp only [u_c_divisor_1, u_b_divisor_2]
    by_cases hl : l = 0
    · subst hl
      refine ⟨x, ?_⟩
      walk_at "ev"
      simp
    · have hp : (0 : Int) < l := by omega
      have hne : ((l : Int) == 0) = false := by simp; omega
      obtain ⟨y, e⟩ := ih (h % l) (Nat.mod_lt _ (by omega)) l (some (.int (h % l : Nat)))
      refine ⟨y, ?_⟩
      walk_at "ev"
      rw [hne]
      walk_at "ev"
      rw [hMod_pos hp]
      walk_at "ev"
      rw [← Int.natCast_emod, e]
      rw [Nat.gcd_comm h l, Nat.gcd_rec l h, Nat.gcd_comm l]
theorem f_divisor_eq (a b : Int) (S : Store) : f_divisor [.int a, .int b] S = .ok (.int (Int.gcd a b)) [none, none] S := by
  obtain ⟨y, e⟩ := div_loop a b S b.natAbs a.natAbs none
  unfold f_divisor m_divisor
  walk_at "ev"
  rw [e]
  rfl
theorem f_fraction_eq {a b : Int} (hb : b ≠ 0) (h : b.natAbs < 2 ^ 8999) (S : Store) : f_fraction [.int a, .int b] S = .ok (.tup [.int (frac a b).1, .int (frac a b).2]) [none, none] S := by
  have g1 := gcd_lt (a := a) hb h
  have g0 := gcd_pos (a := a) hb
  unfold f_fraction m_fraction
  walk_at "ev"
  rw [show (b == 0) = false by simp [hb]]
  walk_at "ev"
  rw [f_divisor_eq]
  walk_at "ev"
  unfold frac
  by_cases hn : b < 0
  · rw [decide_eq_true hn, if_pos hn]
    walk_at "ev"
    rw [hDiv_bd (by omega) (by rw [Int.natAbs_neg]; exact g1), hDiv_bd (by omega) (by rw [Int.natAbs_neg]; exact g1)]
    walk_at "ev"
  · rw [decide_eq_false hn, if_neg hn]
    walk_at "ev"
    rw [hDiv_pos (by omega) g1, hDiv_pos (by omega) g1]
    walk_at "ev"
theorem fraction_r {a b : Int} (hb : b ≠ 0) (h : b.natAbs < 2 ^ 8999) (S : Store) : f_fraction [.int a, .int b] S = .ok (rD (rI a b)) [none, none] S := by
  rw [f_fraction_eq hb h, frac_rI hb]
theorem plus_r {p q : Rat} {m n : Nat} (hp : rb m p) (hq : rb n q) (hk : m + n ≤ 8900) (S : Store) : f_plus [rD p, rD q] S = .ok (rD (p + q)) [none, none] S := by
  unfold f_plus m_plus
  walk_at "ev"
  rw [hMul_bd hp.1 hq.den (by omega), hMul_bd hq.1 hp.den (by omega), hMul_bd hp.den hq.den (by omega)]
  walk_at "ev"
  rw [fraction_r (den2 p q) (bd_mono (bd_mul hp.den hq.den) (by omega)), add_rI]
  walk_at "ev"
theorem minus_r {p q : Rat} {m n : Nat} (hp : rb m p) (hq : rb n q) (hk : m + n ≤ 8900) (S : Store) : f_minus [rD p, rD q] S = .ok (rD (p - q)) [none, none] S := by
  unfold f_minus m_minus
  walk_at "ev"
  rw [hMul_bd hp.1 hq.den (by omega), hMul_bd hq.1 hp.den (by omega), hMul_bd hp.den hq.den (by omega)]
  walk_at "ev"
  rw [fraction_r (den2 p q) (bd_mono (bd_mul hp.den hq.den) (by omega)), sub_rI]
  walk_at "ev"
theorem under_r {p q : Rat} {m n : Nat} (hp : rb m p) (hq : rb n q) (hk : m + n ≤ 8900) (S : Store) : f_under [rD p, rD q] S = .ok (.bl (decide (p < q))) [none, none] S := by
  unfold f_under m_under
  walk_at "ev"
  rw [hMul_bd hp.1 hq.den (by omega), hMul_bd hq.1 hp.den (by omega)]
  walk_at "ev"
  simp only [lt_rat]
theorem fm_marks : fmL 0 "my_marks" = 1 := rfl
theorem fm_flows : fmL 0 "my_flows" = 2 := rfl
theorem fm_skies : fmL 0 "my_skies" = 1 := rfl
theorem fm_stoves : fmL 0 "my_stoves" = 1 := rfl
theorem ask_eq {S : Store} {n r : Nat} {h : Hs} (a : At S n 0 h) (hr : r < h.many) : f_Hold__ask_room [.obj n, .int r] S = .ok .non [none, none] S := by
  unfold f_Hold__ask_room m_Hold__ask_room
  walk_at "ev"
  rw [decide_eq_false (show ¬ (r : Int) < 0 by omega)]
  walk_at "ev"
  rw [fldV_of a.marks]
  walk_at "ev"
  rw [decide_eq_false (show ¬ (h.many : Int) ≤ r by omega)]
  walk_at "ev"
theorem many_eq {S : Store} {n : Nat} {h : Hs} (a : At S n 0 h) : f_Hold__many [.obj n] S = .ok (.int h.many) [none] S := by
  unfold f_Hold__many m_Hold__many
  walk_at "ev"
  rw [fldV_of a.marks]
  walk_at "ev"
theorem taken_loop {S : Store} {x0 x1 : Option D} {k : Nat} : ∀ (l : List Rat) (m : Nat) (x : Rat) (y : Option D), rb m x → (∀ q ∈ l, rb k q) → m + (k + 1) * l.length + k ≤ 8900 →
    ∃ y', forC (tfName 3) b_Hold__taken_share_1 (l.map rD) [x0, x1, some (rD x), y] S = .nx [x0, x1, some (rD (l.foldl (· + ·) x)), y'] S
  | [], m, x, y, _, _, _ => ⟨y, rfl⟩
  | q :: l, m, x, y, hx, hq, hb => by
    have hb : m + (k + 1) * (l.length + 1) + k ≤ 8900 := hb
    rw [Nat.mul_add] at hb
    have h1 := hq q (List.mem_cons_self ..)
    have h2 := rb_add hx h1
    obtain ⟨y', e⟩ := taken_loop (S := S) (x0 := x0) (x1 := x1) (k := k) l (m + k + 1) (x + q) (some (rD q)) h2 (fun p hp => hq p (List.mem_cons_of_mem _ hp)) (by omega)
    refine ⟨y', ?_⟩
    rw [List.map_cons]
    simp only [forC, tfName]
    simp only [u_b_Hold__taken_share_1]
    walk_at "ev"
    rw [call0_ok (ds := [rD x, rD q]) rfl rfl (plus_r hx h1 (by omega) [])]
    walk_at "ev"
    exact e
theorem taken_eq {S : Store} {n r k : Nat} {h : Hs} (a : At S n 0 h) (w : h.Wf k) (hk : k ≤ 1000) (hr : r < h.many) : f_Hold__taken_share [.obj n, .int r] S = .ok (rD (h.taken r)) [none, none] S := by
  unfold f_Hold__taken_share m_Hold__taken_share
  walk_at "ev"
  rw [at1 (r := r) rfl a.skies rfl (tbl_get hr) fm_skies]
  walk_at "ev"
  have e1 : hIx (skyD (h.sky r)) (.int 0) = some (rD (h.sky r).1) := hIxT0
  rw [e1]
  walk_at "ev"
  rw [forp2 (r := r) rfl a.flows rfl (tbl_get hr) fm_flows]
  have m4 := w.m4
  have hl : (k + 1) * h.many ≤ (k + 1) * 4 := Nat.mul_le_mul_left _ m4
  obtain ⟨y, e⟩ := taken_loop (S := S) (x0 := some (.obj n)) (x1 := some (.int r)) (k := k) (tbl h.many (h.flow r)) k (h.sky r).1 none (w.bs r hr) (fun q hq => by
    obtain ⟨j, hj, rfl⟩ := tbl_mem.mp hq
    exact w.bf r j hr hj) (by rw [tbl_len]; omega)
  rw [tbl_map] at e
  rw [e, foldl_tbl]
  walk_at "ev"
  rfl
theorem share_eq {S : Store} {n r q k : Nat} {h : Hs} (a : At S n 0 h) (w : h.Wf k) (hk : k ≤ 1000) (hr : r < h.many) (hq : q < h.many) : f_Hold__share [.obj n, .int r, .int q] S = .ok (rD (if r = q then 1 - h.taken r else h.flow r q)) [none, none, none] S := by
  unfold f_Hold__share m_Hold__share
  walk_at "ev"
  rw [methK_H a rfl rfl]
  walk_at "ev"
  rw [ask_eq a hr]
  walk_at "ev"
  rw [methK_H a rfl rfl]
  walk_at "ev"
  rw [ask_eq a hq]
  walk_at "ev"
  by_cases e : r = q
  · subst e
    rw [if_pos rfl]
    walk_at "ev"
    rw [methK_H a rfl rfl]
    walk_at "ev"
    rw [taken_eq a w hk hr]
    walk_at "ev"
    rw [rD_1, minus_r rb_1 (taken_rb w hr) (by omega)]
    walk_at "ev"
  · rw [if_neg e, show ((r : Int) == (q : Int)) = false by simpa using (by omega : ¬ (r : Int) = q)]
    walk_at "ev"
    rw [at2 (r := r) (q := q) rfl a.flows rfl (tbl_get hr) rfl (tbl_get hq) fm_flows]
    walk_at "ev"
theorem bound_eq {i m : Int} (h0 : 0 ≤ i) (h1 : i ≤ m) (S : Store) : f_is_bound [.int i, .int m] S = .ok (.bl true) [none, none] S := by
  unfold f_is_bound m_is_bound
  walk_at "ev"
  rw [ev_chain]
  walk_at "ev"
  rw [decide_eq_true h0]
  walk_at "ev"
  rw [decide_eq_true h1]
theorem new_eq {a b c : Int} (a0 : 0 ≤ a) (a1 : a ≤ 4) (b0 : 0 ≤ b) (b1 : b ≤ 30) (c0 : 0 ≤ c) (c1 : c ≤ 30) (S : Store) : f_Hold____init__ [.obj S.length, .int a, .int b, .int c] (S ++ [⟨0, []⟩]) = .ok .non [none, none, none, none] (S ++ [(Hs.none a b c).ob 0]) := by
  unfold f_Hold____init__ m_Hold____init__
  walk_at "ev"
  rw [bound_eq a0 a1]
  walk_at "ev"
  rw [bound_eq b0 b1]
  walk_at "ev"
  rw [bound_eq c0 c1]
  walk_at "ev"
  rw [fFld_at (fm := fmL) (c := 0) (k := 0) (f := "most") rfl rfl last_get rfl (of_decide_eq_true rfl), last_set]
  walk_at "ev"
  rw [fFld_at (fm := fmL) (c := 0) (k := 0) (f := "cap") rfl rfl last_get rfl (of_decide_eq_true rfl), last_set]
  walk_at "ev"
  rw [fFld_at (fm := fmL) (c := 0) (k := 0) (f := "load") rfl rfl last_get rfl (of_decide_eq_true rfl), last_set]
  walk_at "ev"
  rw [fFld_at (fm := fmL) (c := 0) (k := 1) (f := "my_marks") rfl rfl last_get rfl (of_decide_eq_true rfl), last_set]
  walk_at "ev"
  rw [fFld_at (fm := fmL) (c := 0) (k := 2) (f := "my_flows") rfl rfl last_get rfl (of_decide_eq_true rfl), last_set]
  walk_at "ev"
  rw [fFld_at (fm := fmL) (c := 0) (k := 1) (f := "my_skies") rfl rfl last_get rfl (of_decide_eq_true rfl), last_set]
  walk_at "ev"
  rw [fFld_at (fm := fmL) (c := 0) (k := 1) (f := "my_stoves") rfl rfl last_get rfl (of_decide_eq_true rfl), last_set]
  rfl
theorem put_flow_eq {S : Store} {n r o k : Nat} {h : Hs} {q : Rat} (a : At S n 0 h) (w : h.Wf k) (hr : r < h.many) (ho : o < h.many) (hro : r ≠ o) (hq : rb k q) (hk : k ≤ 500) (q0 : ¬ q < 0) (t1 : ¬ 1 < h.taken r - h.flow r o + q) :
    f_Hold__put_flow [.obj n, .int r, .int o, rD q] S = .ok .non [none, none, none, none] (S.set n ((h.setFlow r o q).ob 0)) := by
  have b1 := taken_rb w hr
  have b2 := rb_sub b1 (w.bf r o hr ho)
  have b3 := rb_add b2 hq
  unfold f_Hold__put_flow m_Hold__put_flow
  walk_at "ev"
  rw [methK_H a rfl rfl]
  walk_at "ev"
  rw [ask_eq a hr]
  walk_at "ev"
  rw [methK_H a rfl rfl]
  walk_at "ev"
  rw [ask_eq a ho]
  walk_at "ev"
  rw [show ((r : Int) == (o : Int)) = false by simpa using (by omega : ¬ (r : Int) = o)]
  walk_at "ev"
  rw [methK_H a rfl rfl]
  walk_at "ev"
  rw [taken_eq a w (by omega) hr]
  walk_at "ev"
  rw [at2 (r := r) (q := o) rfl a.flows rfl (tbl_get hr) rfl (tbl_get ho) fm_flows]
  walk_at "ev"
  rw [minus_r b1 (w.bf r o hr ho) (by omega)]
  walk_at "ev"
  rw [plus_r b2 hq (by omega)]
  walk_at "ev"
  rw [rD_0, under_r hq rb_0 (by omega), decide_eq_false q0]
  walk_at "ev"
  rw [rD_1, under_r rb_1 b3 (by omega), decide_eq_false t1]
  walk_at "ev"
  rw [pset2 (r := r) (q := o) rfl rfl a.flows rfl (tbl_get hr) rfl (by rw [tbl_len]; exact ho) fm_flows, a.put_flow]
  walk_at "ev"
theorem rise_eq {ms : List Rat} {k : Nat} (l2 : 2 ≤ ms.length) (l7 : ms.length ≤ 7) (hb : ∀ q ∈ ms, rb k q) (hk : k ≤ 1000) (hr : ∀ i (hi : i + 1 < ms.length), ms[i] < ms[i + 1]) (S : Store) : f_do_rise [rsD ms] S = .ok (.bl true) [none] S := by
  unfold f_do_rise m_do_rise
  walk_at "ev"
  unfold rsD
  walk_at "ev"
  rw [decide_eq_false (show ¬ (ms.length : Int) < 2 by omega)]
  walk_at "ev"
  rw [decide_eq_false (show ¬ (7 : Int) < ms.length by omega)]
  walk_at "ev"
  rw [rgK1_int (by omega)]
  walk_at "ev"
  obtain ⟨ρ', S', e, x, rfl, rfl⟩ := forL_all (tf := tfName 1) (b := b_do_rise_1) (ds := rangeL 0 ((ms.length : Int) - 1)) (fun _ ρ S' => ∃ x, ρ = [some (D.lst (ms.map rD)), x] ∧ S' = S) (ρ := [some (D.lst (ms.map rD)), none]) (S := S) ⟨_, rfl, rfl⟩ (by
    rintro i d ρ S' hd ⟨x, rfl, rfl⟩
    obtain ⟨rfl, hi⟩ := rangeL_get hd
    rw [Int.zero_add] at hi ⊢
    refine ⟨_, rfl, .inl ⟨_, _, ?_, some (.int i), rfl, rfl⟩⟩
    simp only [u_b_do_rise_1]
    walk_at "ev"
    have i1 : i + 1 < ms.length := by omega
    have e1 : hIx (.lst (ms.map rD)) (.int i) = some (rD ms[i]) := hIx_lst (by rw [List.getElem?_map, List.getElem?_eq_getElem (by omega)]; rfl)
    have e2 : hIx (.lst (ms.map rD)) (.int ((i : Int) + 1)) = some (rD ms[i + 1]) := hIx_lst (k := i + 1) (by rw [List.getElem?_map, List.getElem?_eq_getElem i1]; rfl)
    rw [e1]
    walk_at "ev"
    rw [e2]
    walk_at "ev"
    rw [under_r (hb _ (List.getElem_mem ..)) (hb _ (List.getElem_mem ..)) (by omega), decide_eq_true (hr i i1)]
    walk_at "ev")
  rw [e]
  walk_at "ev"
theorem many_loop {S : Store} {x0 x1 x4 : Option D} : ∀ (l : List (List Rat)) (m : Nat) (z : Int) (y : Option D), z.natAbs < 2 ^ m → (∀ q ∈ l, q.length ≤ 7) → m + 4 * l.length ≤ 1000 →
    ∃ y', forC (tfName 3) b_Hold__put_room_1 (l.map rsD) [x0, x1, some (.int z), y, x4] S = .nx [x0, x1, some (.int (l.foldl (fun z q => z * ((q.length : Int) - 1)) z)), y', x4] S
  | [], m, z, y, _, _, _ => ⟨y, rfl⟩
  | q :: l, m, z, y, hz, hq, hb => by
    have hb : m + 4 * (l.length + 1) ≤ 1000 := hb
    have h7 := hq q (List.mem_cons_self ..)
    have n4 : ((q.length : Int) - 1).natAbs < 2 ^ 4 := by
      have : (2 : Nat) ^ 4 = 16 := by decide
      omega
    obtain ⟨y', e⟩ := many_loop (S := S) (x0 := x0) (x1 := x1) (x4 := x4) l (m + 4) (z * ((q.length : Int) - 1)) (some (rsD q)) (bd_mul hz n4) (fun p hp => hq p (List.mem_cons_of_mem _ hp)) (by omega)
    refine ⟨y', ?_⟩
    rw [List.map_cons]
    simp only [forC, tfName]
    simp only [u_b_Hold__put_room_1]
    walk_at "ev"
    rw [show hLen [rsD q] = some (.int q.length) by unfold rsD; rw [hLen_lst, List.length_map]]
    walk_at "ev"
    rw [hMul_bd hz n4 (by omega)]
    walk_at "ev"
    exact e
def bandsOf (h : Hs) (ms : List Rat) : Int := (tbl h.many h.marks).foldl (fun z q => z * ((q.length : Int) - 1)) ((ms.length : Int) - 1)
theorem put_room_eq {S : Store} {n k : Nat} {h : Hs} {ms : List Rat} (a : At S n 0 h) (m4 : h.many < 4) (l2 : 2 ≤ ms.length) (l7 : ms.length ≤ 7) (hb : ∀ q ∈ ms, rb k q) (hk : k ≤ 1000) (hr : ∀ i (hi : i + 1 < ms.length), ms[i] < ms[i + 1])
    (h7 : ∀ i, i < h.many → (h.marks i).length ≤ 7) (hm : bandsOf h ms ≤ 400) : f_Hold__put_room [.obj n, rsD ms] S = .ok (.int h.many) [none, none] (S.set n ((h.add ms).ob 0)) := by
  have a0 : S[n]? = some ⟨0, raw _ _ _ _ _ _ _⟩ := a
  unfold f_Hold__put_room m_Hold__put_room
  walk_at "ev"
  rw [fldV_of a.marks]
  walk_at "ev"
  rw [show ((h.many : Int) == 4) = false by simp; omega]
  walk_at "ev"
  rw [rise_eq l2 l7 hb hk hr]
  walk_at "ev"
  rw [show hLen [rsD ms] = some (.int ms.length) by unfold rsD; rw [hLen_lst, List.length_map]]
  walk_at "ev"
  rw [forp1 rfl a.marks fm_marks]
  have n4 : ((ms.length : Int) - 1).natAbs < 2 ^ 4 := by
    have : (2 : Nat) ^ 4 = 16 := by decide
    omega
  obtain ⟨y, e⟩ := many_loop (S := S) (x0 := some (.obj n)) (x1 := some (rsD ms)) (x4 := none) (tbl h.many h.marks) 4 ((ms.length : Int) - 1) none n4 (fun q hq => by
    obtain ⟨j, hj, rfl⟩ := tbl_mem.mp hq
    exact h7 j hj) (by rw [tbl_len]; omega)
  rw [tbl_map] at e
  rw [e]
  walk_at "ev"
  rw [decide_eq_false (show ¬ (400 : Int) < (tbl h.many h.marks).foldl (fun z q => z * ((q.length : Int) - 1)) ((ms.length : Int) - 1) by unfold bandsOf at hm; omega)]
  walk_at "ev"
  rw [rD_0, forapp rfl a.flows (by
    rw [List.all_eq_true]
    intro d hd
    obtain ⟨j, hj, rfl⟩ := tbl_mem.mp hd
    show decide ((tbl h.many _).length < 1000000) = true
    rw [tbl_len, decide_eq_true_eq]
    omega) (of_decide_eq_true rfl) fm_flows]
  simp only [List.set_cons_zero, List.set_cons_succ, ite_self]
  rw [raw_setFlows a0]
  generalize hS1 : S.set n _ = S1
  have a1 := get_of_set hS1 a0
  walk_at "ev"
  rw [pmut1 (x := rsD ms) rfl rfl (raw_marks a1) (by rw [tbl_len]; omega) fm_marks, add_marks, raw_setMarks a1]
  generalize hS2 : S1.set n _ = S2
  have a2 := get_of_set hS2 a1
  walk_at "ev"
  rw [papp (x := .lst (tbl (h.many + 1) fun _ => rD 0)) (by
    walk_at "ev"
    rw [fldV_of (raw_marks a2)]
    walk_at "ev"
    exact congrArg (RE.of S2) (hRep_one (show h.many + 1 ≤ 1000 by omega))) rfl (raw_flows a2) (by rw [List.length_map, tbl_len]; omega) fm_flows, add_flows (ms := ms), raw_setFlows a2]
  generalize hS3 : S2.set n _ = S3
  have a3 := get_of_set hS3 a2
  walk_at "ev"
  rw [pmut1 (x := skyD (0, 0, 0)) rfl rfl (raw_skies a3) (by rw [tbl_len]; omega) fm_skies, add_skies (ms := ms), raw_setSkies a3]
  generalize hS4 : S3.set n _ = S4
  have a4 := get_of_set hS4 a3
  walk_at "ev"
  rw [pmut1 (x := .non) rfl rfl (raw_stoves a4) (by rw [tbl_len]; omega) fm_stoves, add_stoves (ms := ms), raw_setStoves a4]
  generalize hS5 : S4.set n _ = S5
  have a5 := get_of_set hS5 a4
  walk_at "ev"
  rw [fldV_of (raw_marks a5)]
  walk_at "ev"
  subst hS5 hS4 hS3 hS2 hS1
  simp only [List.set_set]
  have e1 : (((h.add ms).many : Nat) : Int) - 1 = h.many := by show ((h.many + 1 : Nat) : Int) - 1 = h.many; omega
  rw [e1]
  rfl
def roomsD (l : List Nat) : D := .lst (l.map fun r : Nat => D.int (r : Int))
section
variable {S : Store} {n k : Nat} {h : Hs} (a : At S n 0 h) (G : h.Good k)
include a G
theorem touch_eq {x y : Nat} (hx : x < h.many) (hy : y < h.many) (hxy : x ≠ y) : f_is_touching [.obj n, .int (x : Int), .int (y : Int)] S = .ok (.bl (decide (0 < h.flow x y) || decide (0 < h.flow y x))) [none, none, none] S := by
  have wf : h.Wf k := G.wf
  have k5 := G.k5
  have e1 := share_eq a wf (by omega) hx hy
  rw [if_neg hxy] at e1
  have e2 := share_eq a wf (by omega) hy hx
  rw [if_neg (Ne.symm hxy)] at e2
  have u : ∀ i j, i < h.many → j < h.many → f_under [.tup [.int 0, .int 1], rD (h.flow i j)] S = .ok (.bl (decide (0 < h.flow i j))) [none, none] S := fun i j hi hj => by
    rw [rD_0]
    exact under_r rb_0 (G.fb i j hi hj) (by omega) S
  have u1 := u x y hx hy
  have u2 := u y x hy hx
  by_cases c : 0 < h.flow x y
  · rw [decide_eq_true c] at u1 ⊢
    unfold f_is_touching m_is_touching
    (repeat (first | simp only [methK_o a (m := "share") rfl, e1, u1, Bool.true_or] | walk_at "gs")) <;> exact rfl
  · rw [decide_eq_false c] at u1 ⊢
    unfold f_is_touching m_is_touching
    (repeat (first | simp only [methK_o a (m := "share") rfl, e1, u1, e2, u2, Bool.false_or] | walk_at "gs")) <;> exact rfl
end
section
variable {S : Store} {n k : Nat} {h : Hs} (a : At S n 0 h) (G : h.Good k)
include a G
end
section
variable {S : Store} {n k : Nat} {h : Hs} (a : At S n 0 h) (G : h.Good k)
include a G
theorem inner_eq {p q : Nat} (hp : p < h.many) {f : Int} {l0 part : List Nat} (nd : l0.Nodup) (hl : ∀ x ∈ l0, x < h.many ∧ p ≠ x) (hk : part[q]? = some p) (hlen : part.length + l0.length ≤ 1000) (x5 : Option D) :
    ∃ y5, forL (tfName 5) b_part_by_1 (l0.map fun r : Nat => D.int (r : Int)) [some (.obj n), some (.int f), some (D.lst ((l0).map fun r : Nat => D.int (r : Int))), some (D.lst ((part).map fun r : Nat => D.int (r : Int))), some (.int (q : Int)), x5] S = .nx [some (.obj n), some (.int f), some (D.lst ((l0.filter fun x => !tcH h p x).map fun r : Nat => D.int (r : Int))), some (D.lst ((part ++ l0.filter (tcH h p)).map fun r : Nat => D.int (r : Int))), some (.int (q : Int)), y5] S := by
  obtain ⟨ρ1, S1, e1, y5, rfl, rfl⟩ := forL_list (v := 5) (b := b_part_by_1) (fun r : Nat => D.int (r : Int)) (fun i ρ S1 => ∃ y5, ρ = [some (.obj n), some (.int f), some (D.lst (((l0.take i).filter (fun x => !tcH h p x) ++ l0.drop i).map fun r : Nat => D.int (r : Int))), some (D.lst ((part ++ (l0.take i).filter (tcH h p)).map fun r : Nat => D.int (r : Int))), some (.int (q : Int)), y5] ∧ S = S1) (l := l0)
    (ρ := [some (.obj n), some (.int f), some (D.lst ((l0).map fun r : Nat => D.int (r : Int))), some (D.lst ((part).map fun r : Nat => D.int (r : Int))), some (.int (q : Int)), x5]) (S := S) ⟨x5, by simp, rfl⟩ (by
    rintro i hi ρ S1 ⟨y5, rfl, rfl⟩
    obtain ⟨hx, hpx⟩ := hl l0[i] (List.getElem_mem hi)
    have hnt := nodup_take nd hi
    have e1 : (l0.take (i + 1)).filter (fun x => !tcH h p x) = (l0.take i).filter (fun x => !tcH h p x) ++ [l0[i]].filter (fun x => !tcH h p x) := by rw [List.take_succ_eq_append_getElem hi, List.filter_append]
    have e2 : (l0.take (i + 1)).filter (tcH h p) = (l0.take i).filter (tcH h p) ++ [l0[i]].filter (tcH h p) := by rw [List.take_succ_eq_append_getElem hi, List.filter_append]
    have e3 : l0.drop i = l0[i] :: l0.drop (i + 1) := List.drop_eq_getElem_cons hi
    have hla : ((l0.take i).filter (tcH h p)).length ≤ l0.length := Nat.le_trans (List.length_filter_le _ _) (by rw [List.length_take]; omega)
    have hnA : l0[i] ∉ (l0.take i).filter (fun x => !tcH h p x) := fun z => hnt (List.mem_filter.mp z).1
    rw [e1, e2, e3]
    generalize l0.drop (i + 1) = R
    generalize (l0.take i).filter (fun x => !tcH h p x) = A at hnA
    generalize (l0.take i).filter (tcH h p) = B at hla
    generalize l0[i] = x at hx hpx hnA
    have et := touch_eq a G hp hx hpx
    have ix : hIx (D.lst ((part ++ B).map fun r : Nat => D.int (r : Int))) (.int (q : Int)) = some (.int (p : Int)) := hIx_lst (k := q) (x := .int (p : Int)) (by
      rw [List.getElem?_map, List.getElem?_append_left (List.getElem?_eq_some_iff.mp hk).1, hk]
      rfl)
    refine ⟨_, _, ?_, some (.int (x : Int)), rfl, rfl⟩
    simp only [u_b_part_by_1]
    cases ht : tcH h p x with
    | true =>
      have et : f_is_touching [.obj n, .int (p : Int), .int (x : Int)] S = .ok (.bl true) [none, none, none] S := by rw [et]; unfold tcH at ht; rw [ht]
      have ma : mAppend ((part ++ B).map fun r : Nat => D.int (r : Int)) [.int (x : Int)] = some (.non, (part ++ (B ++ [x])).map fun r : Nat => D.int (r : Int)) := by
        rw [mAppend_lt (by rw [List.length_map, List.length_append]; omega), ← List.append_assoc, List.map_append (l₁ := part ++ B)]
        rfl
      have mr : mRemove ((A ++ x :: R).map fun r : Nat => D.int (r : Int)) [.int (x : Int)] = some (.non, (A ++ R).map fun r : Nat => D.int (r : Int)) := by
        rw [mRemove_n (List.mem_append.mpr (.inr List.mem_cons_self)), List.erase_append_right _ hnA, List.erase_cons_head]
      have f1 : [x].filter (fun x => !tcH h p x) = [] := by rw [List.filter_cons, ht]; rfl
      have f2 : [x].filter (tcH h p) = [x] := by rw [List.filter_cons, ht]; rfl
      rw [f1, f2, List.append_nil]
      (repeat (first | simp only [hIxO_lst, ix, et, ma, mr] | walk_at "gs")) <;> exact rfl
    | false =>
      have et : f_is_touching [.obj n, .int (p : Int), .int (x : Int)] S = .ok (.bl false) [none, none, none] S := by rw [et]; unfold tcH at ht; rw [ht]
      have f1 : [x].filter (fun x => !tcH h p x) = [x] := by rw [List.filter_cons, ht]; rfl
      have f2 : [x].filter (tcH h p) = [] := by rw [List.filter_cons, ht]; rfl
      rw [f1, f2, List.append_nil, List.append_assoc]
      (repeat (first | simp only [hIxO_lst, ix, et] | walk_at "gs")) <;> exact rfl)
  rw [List.take_length, List.drop_length, List.append_nil] at e1
  exact ⟨y5, e1⟩
theorem pb_loop {f : Int} : ∀ (m q : Nat) (part left : List Nat) (x5 : Option D), PB (tcH h) q part left → (∀ x ∈ part, x < h.many) → (∀ x ∈ left, x < h.many) → part.length + left.length ≤ m + q → part.length + left.length ≤ 1000 → q ≤ 1000 →
    ∃ (q' : Int) (y5 : Option D), fWhile c_part_by_2 b_part_by_3 [some (.obj n), some (.int f), some (D.lst ((left).map fun r : Nat => D.int (r : Int))), some (D.lst ((part).map fun r : Nat => D.int (r : Int))), some (.int (q : Int)), x5] S = .nx [some (.obj n), some (.int f), some (D.lst (((pbF (tcH h) m q part left).2).map fun r : Nat => D.int (r : Int))), some (D.lst (((pbF (tcH h) m q part left).1).map fun r : Nat => D.int (r : Int))), some (.int q'), y5] S := by
  have cond : ∀ (q : Nat) (part left : List Nat) (x5 : Option D), c_part_by_2 [some (.obj n), some (.int f), some (D.lst ((left).map fun r : Nat => D.int (r : Int))), some (D.lst ((part).map fun r : Nat => D.int (r : Int))), some (.int (q : Int)), x5] S = .ok (.bl (decide (q < part.length))) S := fun q part left x5 => by
    have hl : hLen [(D.lst ((part).map fun r : Nat => D.int (r : Int)))] = some (.int (part.length : Int)) := by rw [hLen_lst, List.length_map]
    have d : decide ((q : Int) < (part.length : Int)) = decide (q < part.length) := by simp
    simp only [u_c_part_by_2]
    (repeat (first | simp only [hl, d] | walk_at "gs")) <;> exact rfl
  intro m
  induction m with
  | zero =>
    intro q part left x5 _ _ _ hn _ _
    refine ⟨q, x5, while_f ?_⟩
    rw [cond, decide_eq_false (by omega)]
  | succ m ih =>
    intro q part left x5 hP hp hl hn h1 h2
    unfold pbF
    cases e : part[q]? with
    | none =>
      refine ⟨q, x5, while_f ?_⟩
      have := List.getElem?_eq_none_iff.mp e
      rw [cond, decide_eq_false (by omega)]
    | some p =>
      have hq := (List.getElem?_eq_some_iff.mp e).1
      have hpm := List.mem_of_getElem? e
      obtain ⟨y5, ei⟩ := inner_eq a G (f := f) (hp p hpm) hP.nd (fun x hx => ⟨hl x hx, fun z => hP.dj x hx (z ▸ hpm)⟩) e h1 x5
      have hfl := filt_len (l := left) (p := tcH h p)
      have eb : b_part_by_3 [some (.obj n), some (.int f), some (D.lst ((left).map fun r : Nat => D.int (r : Int))), some (D.lst ((part).map fun r : Nat => D.int (r : Int))), some (.int (q : Int)), x5] S = .nx [some (.obj n), some (.int f), some (D.lst ((left.filter fun x => !tcH h p x).map fun r : Nat => D.int (r : Int))), some (D.lst ((part ++ left.filter (tcH h p)).map fun r : Nat => D.int (r : Int))), some (.int ((q + 1 : Nat) : Int)), y5] S := by
        simp only [u_b_part_by_3]
        (repeat (first | simp only [hListO_lst, ei] | walk_at "gs")) <;> exact rfl
      rw [while_t (by rw [cond, decide_eq_true hq]) eb]
      refine ih (q + 1) _ _ y5 (hP.step e) (fun x hx => ?_) (fun x hx => hl x (List.mem_filter.mp hx).1) (by rw [List.length_append]; omega) (by rw [List.length_append]; omega) (by omega)
      rcases List.mem_append.mp hx with z | z
      · exact hp x z
      · exact hl x (List.mem_filter.mp z).1
theorem part_by_eq {f : Nat} {left : List Nat} (nd : (f :: left).Nodup) (hl : ∀ x ∈ f :: left, x < h.many) : f_part_by [.obj n, .int (f : Int), (D.lst ((left).map fun r : Nat => D.int (r : Int)))] S = .ok (roomsD ((List.range h.many).filter fun x => decide (x ∈ (pbF (tcH h) (left.length + 1) 0 [f] left).1))) [none, none, some (D.lst (((pbF (tcH h) (left.length + 1) 0 [f] left).2).map fun r : Nat => D.int (r : Int)))] S := by
  have m4 := G.m4
  have nd2 := List.nodup_cons.mp nd
  have hlen : left.length ≤ h.many := by
    have := nodup_len nd2.2 fun x hx => List.mem_range.mpr (hl x (List.mem_cons_of_mem _ hx))
    rwa [List.length_range] at this
  have p0 : PB (tcH h) 0 [f] left := ⟨by simp, nd2.2, fun x hx z => nd2.1 (List.mem_singleton.mp z ▸ hx), fun i hi => absurd hi (Nat.not_lt_zero i)⟩
  obtain ⟨q', y5, ew⟩ := pb_loop a G (f := (f : Int)) (left.length + 1) 0 [f] left none p0 (fun x hx => by rw [List.mem_singleton.mp hx]; exact hl f List.mem_cons_self) (fun x hx => hl x (List.mem_cons_of_mem _ hx)) (by simp; omega) (by simp; omega) (by omega)
  obtain ⟨k', s1, s2, s3, s4, s5⟩ := pbF_spec (left.length + 1) 0 [f] left p0 (by simp; omega)
  generalize pbF (tcH h) (left.length + 1) 0 [f] left = r at *
  have es : hSort (D.lst ((r.1).map fun r : Nat => D.int (r : Int))) = some (roomsD ((List.range h.many).filter fun x => decide (x ∈ r.1))) := sort_nat (List.Pairwise.filter _ List.pairwise_lt_range) s1.ndp fun x => by
    rw [List.mem_filter, List.mem_range, decide_eq_true_eq]
    refine ⟨fun z => ⟨hl x ?_, z⟩, fun z => z.2⟩
    rcases (s3 x).mp (.inl z) with q | q
    · rw [List.mem_singleton.mp q]; exact List.mem_cons_self
    · exact List.mem_cons_of_mem _ q
  have ew : fWhile c_part_by_2 b_part_by_3 [some (.obj n), some (.int (f : Int)), some (D.lst ((left).map fun r : Nat => D.int (r : Int))), some (.lst [.int (f : Int)]), some (.int 0), none] S = .nx [some (.obj n), some (.int (f : Int)), some (D.lst ((r.2).map fun r : Nat => D.int (r : Int))), some (D.lst ((r.1).map fun r : Nat => D.int (r : Int))), some (.int q'), y5] S := ew
  unfold f_part_by m_part_by
  (repeat (first | simp only [ew, es] | walk_at "gs")) <;> exact rfl
theorem ps_loop : ∀ (m : Nat) (left : List Nat) (found : List D) (x3 : Option D), left.Nodup → left.length ≤ m → (∀ x ∈ left, x < h.many) → found.length + left.length ≤ 1000 →
    ∃ y3, fWhile c_parts_of_1 b_parts_of_2 [some (.obj n), some (D.lst ((left).map fun r : Nat => D.int (r : Int))), some (.lst found), x3] S = .nx [some (.obj n), some (.lst []), some (.lst (found ++ (psF (tcH h) h.many m left).map roomsD)), y3] S := by
  have fin : ∀ (found : List D) (x3 : Option D), fWhile c_parts_of_1 b_parts_of_2 [some (.obj n), some (.lst []), some (.lst found), x3] S = .nx [some (.obj n), some (.lst []), some (.lst (found ++ [])), x3] S := fun found x3 => by
    rw [List.append_nil]
    refine while_f ?_
    simp only [u_c_parts_of_1]
    (repeat (first | simp only [hTruO_lst] | walk_at "gs")) <;> exact rfl
  intro m
  induction m with
  | zero =>
    intro left found x3 _ hl _ _
    have : left = [] := List.eq_nil_of_length_eq_zero (by omega)
    subst this
    exact ⟨x3, fin found x3⟩
  | succ m ih =>
    intro left found x3 nd hl hm h1
    cases left with
    | nil => exact ⟨x3, fin found x3⟩
    | cons f left =>
      have nd2 := List.nodup_cons.mp nd
      have ep := part_by_eq a G nd hm
      have p0 : PB (tcH h) 0 [f] left := ⟨by simp, nd2.2, fun x hx z => nd2.1 (List.mem_singleton.mp z ▸ hx), fun i hi => absurd hi (Nat.not_lt_zero i)⟩
      obtain ⟨k', s1, s2, s3, s4, s5⟩ := pbF_spec (left.length + 1) 0 [f] left p0 (by simp; omega)
      unfold psF
      generalize pbF (tcH h) (left.length + 1) 0 [f] left = r at *
      simp only [List.length_cons] at hl h1
      obtain ⟨y3, ei⟩ := ih r.2 (found ++ [roomsD ((List.range h.many).filter fun x => decide (x ∈ r.1))]) (some (.int (f : Int))) s1.nd (by omega) (fun x hx => hm x (by
        rcases (s3 x).mp (.inr hx) with q | q
        · rw [List.mem_singleton.mp q]; exact List.mem_cons_self
        · exact List.mem_cons_of_mem _ q)) (by rw [List.length_append]; show found.length + 1 + _ ≤ _; omega)
      refine ⟨y3, ?_⟩
      have ec : eCallP f_part_by [none, none, some (1, 1)] (lCons (eVar 0) (lCons (eVar 3) (lCons (eVar 1) lNil))) [some (.obj n), some (D.lst ((left).map fun r : Nat => D.int (r : Int))), some (.lst found), some (.int (f : Int))] S = .ok (roomsD ((List.range h.many).filter fun x => decide (x ∈ r.1))) [some (.obj n), some (D.lst ((r.2).map fun r : Nat => D.int (r : Int))), some (.lst found), some (.int (f : Int))] S := callP_ok (Φ := f_part_by) (ks := [none, none, some (1, 1)]) (as := lCons (eVar 0) (lCons (eVar 3) (lCons (eVar 1) lNil))) (ρ := [some (.obj n), some (D.lst ((left).map fun r : Nat => D.int (r : Int))), some (.lst found), some (.int (f : Int))]) (S := S) (S1 := S) (ds := [.obj n, .int (f : Int), (D.lst ((left).map fun r : Nat => D.int (r : Int)))]) (by (repeat (walk_at "gs")) <;> exact rfl) ep
      have em := appFP_ok (m := 1) (i := 2) (ρ := [some (.obj n), some (D.lst ((left).map fun r : Nat => D.int (r : Int))), some (.lst found), some (.int (f : Int))]) (l0 := found) rfl ec rfl (by omega)
      have eb : b_parts_of_2 [some (.obj n), some (D.lst ((f :: left).map fun r : Nat => D.int (r : Int))), some (.lst found), x3] S = .nx [some (.obj n), some (D.lst ((r.2).map fun r : Nat => D.int (r : Int))), some (.lst (found ++ [roomsD ((List.range h.many).filter fun x => decide (x ∈ r.1))])), some (.int (f : Int))] S := by
        have mp : mPop0 (.int (f : Int) :: left.map fun r : Nat => D.int (r : Int)) [.int 0] = some (.int (f : Int), left.map fun r : Nat => D.int (r : Int)) := rfl
        simp only [u_b_parts_of_2]
        (repeat (first | simp only [mp, em] | walk_at "gs")) <;> exact rfl
      rw [while_t (by
        simp only [u_c_parts_of_1]
        (repeat (first | simp only [hTruO_lst] | walk_at "gs")) <;> exact rfl) eb, ei, List.map_cons, List.append_assoc]
      rfl
theorem parts_of_eq : f_parts_of [.obj n] S = .ok (.lst ((partsH h).map roomsD)) [none] S := by
  have m4 := G.m4
  have em := many_eq a
  obtain ⟨y3, e⟩ := ps_loop a G h.many (List.range h.many) [] none List.nodup_range (by rw [List.length_range]; exact Nat.le_refl _) (fun x hx => List.mem_range.mp hx) (by rw [List.length_range]; show 0 + h.many ≤ 1000; omega)
  have el : hListR (.int (h.many : Int)) = some (D.lst ((List.range h.many).map fun r : Nat => D.int (r : Int))) := by rw [hListR_int (by omega), rangeL_map]
  have e : fWhile c_parts_of_1 b_parts_of_2 [some (.obj n), some (D.lst ((List.range h.many).map fun r : Nat => D.int (r : Int))), some (.lst []), none] S = .nx [some (.obj n), some (.lst []), some (.lst ((partsH h).map roomsD)), y3] S := e
  unfold f_parts_of m_parts_of
  (repeat (first | simp only [methK_o a (m := "many") rfl, em, el, ev_lift0, e] | walk_at "gs")) <;> exact rfl
end
def nsD (l : List Nat) : D := .lst (l.map fun r : Nat => D.int (r : Int))
def tcT (tk : List (Nat × Nat)) (i j : Nat) : Bool := decide ((i, j) ∈ tk) || decide ((j, i) ∈ tk)
theorem plD_ns (l : List Nat) : plD 60 (nsD l) = true := plD_lst fun d h => by
  obtain ⟨i, _, rfl⟩ := List.mem_map.mp h
  exact plD_int
theorem ne_ns (l : List Nat) : hNe (nsD l) (.lst []) = some (.bl (!decide (l = []))) := by
  by_cases h : l = []
  · subst h; exact hNe_t (plD_ns [])
  · rw [decide_eq_false h]
    exact hNe_f (plD_ns l) (plD_lst fun d hd => nomatch hd) fun e => h (by
      cases l with
      | nil => rfl
      | cons a l => cases e)
theorem add_ns {a b : List Nat} (h : a.length + b.length ≤ 1000) : hAdd (nsD a) (nsD b) = some (nsD (a ++ b)) := by
  unfold nsD
  rw [hAdd_lst (by rw [List.length_map, List.length_map]; omega), List.map_append]
def moreL (tk : List (Nat × Nat)) (left part : List Nat) : List Nat := left.filter fun j => !decide (j ∈ part) && part.any fun i => tcT tk i j
section
variable {tk : List (Nat × Nat)} {S : Store} {many : D}
theorem more_eq {left part : List Nat} {x3 x5 x6 y7 y8 : Option D} (hl : left.length ≤ 4) (hp : part.length ≤ 100) : eLc (iSeq (eVar 2)) [7] (tfName 7) c__law_parts_3 e__law_parts_4 [some many, some (.dct (tkD tk)), some (nsD left), x3, some (nsD part), x5, x6, y7, y8] S = .ok (nsD (moreL tk left part)) S := by
  refine eLc_fm (fun r : Nat => D.int (r : Int)) _ (fun r : Nat => D.int (r : Int)) rfl (by omega) (fun j _ => ?_) (fun j _ _ => rfl)
  simp only [u_c__law_parts_3]
  have hi : hIn true (.int (j : Int)) (nsD part) = some (.bl (!decide (j ∈ part))) := hIn_nats
  have e : eLc (iSeq (eVar 4)) [8] (tfName 8) c__law_parts_1 e__law_parts_2 ((wipeE [some many, some (.dct (tkD tk)), some (nsD left), x3, some (nsD part), x5, x6, y7, y8] [7]).set 7 (some (.int (j : Int)))) S = .ok (nsD (part.filter fun i => tcT tk i j)) S := by
    refine eLc_fm (fun r : Nat => D.int (r : Int)) _ (fun r : Nat => D.int (r : Int)) rfl (by omega) (fun i _ => ?_) (fun i _ _ => rfl)
    simp only [u_c__law_parts_1]
    have e1 : hInD false (.tup [.int (i : Int), .int (j : Int)]) (.dct (tkD tk)) = some (.bl (decide ((i, j) ∈ tk))) := in_tk (p := (i, j))
    have e2 : hInD false (.tup [.int (j : Int), .int (i : Int)]) (.dct (tkD tk)) = some (.bl (decide ((j, i) ∈ tk))) := in_tk (p := (j, i))
    unfold tcT
    cases h1 : decide ((i, j) ∈ tk) with
    | true =>
      rw [h1] at e1
      simp only [wipeE, List.set_cons_succ, List.set_cons_zero]
      (repeat (first | simp only [e1] | walk_at "gs")) <;> exact rfl
    | false =>
      rw [h1] at e1
      simp only [wipeE, List.set_cons_succ, List.set_cons_zero]
      (repeat (first | simp only [e1, e2] | walk_at "gs")) <;> exact rfl
  have q : (!decide ((part.filter fun i => tcT tk i j) = [])) = part.any fun i => tcT tk i j := by
    rw [Bool.eq_iff_iff, List.any_eq_true, Bool.not_eq_true', decide_eq_false_iff_not, List.filter_eq_nil_iff]
    constructor
    · intro h
      refine Classical.byContradiction fun z => h fun a ha hb => z ⟨a, ha, hb⟩
    · rintro ⟨a, ha, hb⟩ z
      exact z a ha hb
  have ne := ne_ns (part.filter fun i => tcT tk i j)
  rw [q] at ne
  simp only [wipeE, List.set_cons_succ, List.set_cons_zero] at e ⊢
  cases h : decide (j ∈ part) with
  | true =>
    rw [h] at hi
    (repeat (first | simp only [hi] | walk_at "gs")) <;> exact rfl
  | false =>
    rw [h] at hi
    (repeat (first | simp only [hi, e, ne] | walk_at "gs")) <;> exact rfl
theorem grow_loop {left : List Nat} (hl : left.length ≤ 4) {x3 : Option D} : ∀ (n : Nat) (part r : List Nat) (x6 : Option D), part.length + 4 * n ≤ 100 → growF (tcT tk) left n part = some r →
    ∃ y6, fWhile c__law_parts_5 b__law_parts_6 [some many, some (.dct (tkD tk)), some (nsD left), x3, some (nsD part), some (.bl true), x6, none, none] S = .nx [some many, some (.dct (tkD tk)), some (nsD left), x3, some (nsD r), some (.bl false), y6, none, none] S
  | 0, _, _, _, _, h => by cases h
  | n + 1, part, r, x6, hp, h => by
    have em := more_eq (tk := tk) (S := S) (many := many) (left := left) (part := part) (x3 := x3) (x5 := some (.bl true)) (x6 := x6) (y7 := none) (y8 := none) hl (by omega)
    have ml : (moreL tk left part).length ≤ 4 := Nat.le_trans (List.length_filter_le _ _) hl
    have ea := add_ns (a := part) (b := moreL tk left part) (by omega)
    have ne := ne_ns (moreL tk left part)
    have h : (if moreL tk left part = [] then some part else growF (tcT tk) left n (part ++ moreL tk left part)) = some r := h
    have c1 : ∀ (b : Bool) (p : D) (x : Option D), c__law_parts_5 [some many, some (.dct (tkD tk)), some (nsD left), x3, some p, some (.bl b), x, none, none] S = .ok (.bl b) S := fun b p x => by
      simp only [u_c__law_parts_5]
      (repeat (walk_at "gs")) <;> exact rfl
    have eb : b__law_parts_6 [some many, some (.dct (tkD tk)), some (nsD left), x3, some (nsD part), some (.bl true), x6, none, none] S = .nx [some many, some (.dct (tkD tk)), some (nsD left), x3, some (nsD (part ++ moreL tk left part)), some (.bl (!decide (moreL tk left part = []))), some (nsD (moreL tk left part)), none, none] S := by
      simp only [u_b__law_parts_6]
      (repeat (first | simp only [em, ea, ne] | walk_at "gs")) <;> exact rfl
    rw [while_t (c1 true _ _) eb]
    split at h
    · rename_i e
      cases h
      rw [decide_eq_true e, e, List.append_nil]
      exact ⟨_, while_f (c1 false _ _)⟩
    · rename_i e
      rw [decide_eq_false e]
      exact grow_loop hl n _ r _ (by rw [List.length_append]; omega) h
theorem lp_loop {m : Nat} (m4 : m ≤ 4) : ∀ (n : Nat) (left : List Nat) (found : List D) (raw : List (List Nat)) (x4 x5 x6 : Option D), left.length ≤ 4 → (∀ x ∈ left, x < m) → found.length + n ≤ 100 → lpF (tcT tk) n left = some raw → (∀ p ∈ raw, p.Nodup ∧ ∀ x ∈ p, x < m) →
    ∃ y4 y5 y6, fWhile c__law_parts_9 b__law_parts_10 [some many, some (.dct (tkD tk)), some (nsD left), some (.lst found), x4, x5, x6, none, none] S = .nx [some many, some (.dct (tkD tk)), some (nsD []), some (.lst (found ++ raw.map fun p => nsD ((List.range m).filter fun x => decide (x ∈ p)))), y4, y5, y6, none, none] S
  | 0, _, _, _, _, _, _, _, _, _, h, _ => by cases h
  | n + 1, [], found, raw, x4, x5, x6, _, _, _, h, _ => by
    cases h
    have ne := ne_ns []
    refine ⟨x4, x5, x6, ?_⟩
    rw [List.map_nil, List.append_nil]
    refine while_f ?_
    simp only [u_c__law_parts_9]
    (repeat (first | simp only [ne] | walk_at "gs")) <;> exact rfl
  | n + 1, x :: l, found, raw, x4, x5, x6, hl, hm, hf, h, ok => by
    unfold lpF at h
    cases eg : growF (tcT tk) (x :: l) 6 [x] with
    | none => rw [eg] at h; cases h
    | some p =>
      rw [eg] at h
      obtain ⟨raw', e1, rfl⟩ := Option.map_eq_some_iff.mp h
      obtain ⟨okp, ok'⟩ := List.forall_mem_cons.mp ok
      obtain ⟨z6, ew⟩ := grow_loop (tk := tk) (S := S) (many := many) hl (x3 := some (.lst found)) 6 [x] p x6 (by show 1 + 24 ≤ 100; omega) eg
      have es : hSort (nsD p) = some (nsD ((List.range m).filter fun x => decide (x ∈ p))) := sort_nat (List.Pairwise.filter _ List.pairwise_lt_range) okp.1 fun y => by
        rw [List.mem_filter, List.mem_range, decide_eq_true_eq]
        exact ⟨fun z => ⟨okp.2 y z, z⟩, fun z => z.2⟩
      have lc : eLc (iSeq (eVar 2)) [7] (tfName 7) c__law_parts_7 e__law_parts_8 [some many, some (.dct (tkD tk)), some (nsD (x :: l)), some (.lst (found ++ [nsD ((List.range m).filter fun x => decide (x ∈ p))])), some (nsD p), some (.bl false), z6, none, none] S = .ok (nsD ((x :: l).filter fun j => !decide (j ∈ p))) S := by
        refine eLc_fm (fun r : Nat => D.int (r : Int)) _ (fun r : Nat => D.int (r : Int)) rfl (by omega) (fun j _ => ?_) (fun j _ _ => rfl)
        simp only [u_c__law_parts_7]
        have hi : hIn true (.int (j : Int)) (nsD p) = some (.bl (!decide (j ∈ p))) := hIn_nats
        simp only [wipeE, List.set_cons_succ, List.set_cons_zero]
        (repeat (first | simp only [hi] | walk_at "gs")) <;> exact rfl
      have ap : mAppend found [nsD ((List.range m).filter fun x => decide (x ∈ p))] = some (.non, found ++ [nsD ((List.range m).filter fun x => decide (x ∈ p))]) := mAppend_lt (by omega)
      have ix : hIx (nsD (x :: l)) (.int 0) = some (.int (x : Int)) := hIx_lst (k := 0) rfl
      have ne := ne_ns (x :: l)
      have cc : c__law_parts_9 [some many, some (.dct (tkD tk)), some (nsD (x :: l)), some (.lst found), x4, x5, x6, none, none] S = .ok (.bl true) S := by
        simp only [u_c__law_parts_9]
        (repeat (first | simp only [ne] | walk_at "gs")) <;> exact rfl
      have ew : fWhile c__law_parts_5 b__law_parts_6 [some many, some (.dct (tkD tk)), some (nsD (x :: l)), some (.lst found), some (.lst [.int (x : Int)]), some (.bl true), x6, none, none] S = .nx [some many, some (.dct (tkD tk)), some (nsD (x :: l)), some (.lst found), some (nsD p), some (.bl false), z6, none, none] S := ew
      have eb : b__law_parts_10 [some many, some (.dct (tkD tk)), some (nsD (x :: l)), some (.lst found), x4, x5, x6, none, none] S = .nx [some many, some (.dct (tkD tk)), some (nsD ((x :: l).filter fun j => !decide (j ∈ p))), some (.lst (found ++ [nsD ((List.range m).filter fun x => decide (x ∈ p))])), some (nsD p), some (.bl false), z6, none, none] S := by
        simp only [u_b__law_parts_10]
        (repeat (first | simp only [ix, ew, es, ap, lc] | walk_at "gs")) <;> exact rfl
      rw [while_t cc eb]
      obtain ⟨y4, y5, y6, e⟩ := lp_loop m4 n _ (found ++ [nsD ((List.range m).filter fun x => decide (x ∈ p))]) raw' (some (nsD p)) (some (.bl false)) z6 (Nat.le_trans (List.length_filter_le _ _) hl) (fun y hy => hm y (List.mem_filter.mp hy).1) (by rw [List.length_append]; show found.length + 1 + n ≤ 100; omega) e1 ok'
      refine ⟨y4, y5, y6, ?_⟩
      rw [e, List.append_assoc]
      rfl
theorem law_parts_eq {m : Nat} (m1 : 1 ≤ m) (m4 : m ≤ 4) (irr : ∀ i, i < m → tcT tk i i = false) : f__law_parts [.int (m : Int), .dct (tkD tk)] S = .ok (.lst ((psF (tcT tk) m m (List.range m)).map nsD)) [none, none] S := by
  obtain ⟨raw, e1, e2, e3, e4⟩ := lp_parts (tc := tcT tk) m1 m4 (fun i j _ _ => Bool.or_comm _ _) irr
  obtain ⟨y4, y5, y6, e⟩ := lp_loop (tk := tk) (S := S) (many := .int (m : Int)) m4 6 (List.range m) [] raw none none none (by rw [List.length_range]; exact m4) (fun x hx => List.mem_range.mp hx) (by show 0 + 6 ≤ 100; omega) e1 e3
  have el : hListR (.int (m : Int)) = some (nsD (List.range m)) := by rw [hListR_int (by omega), rangeL_map]; rfl
  rw [List.nil_append, show (raw.map fun p => nsD ((List.range m).filter fun x => decide (x ∈ p))) = (psF (tcT tk) m m (List.range m)).map nsD by rw [← e2, List.map_map]; rfl] at e
  unfold f__law_parts m__law_parts
  (repeat (first | simp only [el, e] | walk_at "gs")) <;> exact rfl
end
theorem seqW_ns {l : List Nat} {ρ : Q.Env} {S : Store} (h : ρ[4]? = some (some (nsD l))) : iSeqW (eVar 4) ρ S = .ok (l.map fun r : Nat => D.int (r : Int)) S := by
  have e : eVar 4 ρ S = .ok (nsD l) S := by
    unfold eVar
    rw [h]
  have q : (l.map fun r : Nat => D.int (r : Int)).all immD = true := by
    rw [List.all_map, List.all_eq_true]
    exact fun _ _ => rfl
  unfold iSeqW
  rw [e]
  exact if_pos q
noncomputable def vm69 : FS := fVMut 2 2 (pIxV 2 (pVar 2) (eC (.int 0))) mAppend (lCons (eC (.int 7)) lNil)
theorem vm69_eq : fVMut 2 2 (pIxV 2 (pVar 2) (eC (.int 0))) mAppend (lCons (eC (.int 7)) lNil) = vm69 := rfl
section
variable {S : Store} {n k : Nat} {h : Hs} (a : At S n 0 h) (G : h.Good k)
include a G
theorem right_eq {tk : List (Nat × Nat)} (m1 : 1 ≤ h.many) (ht : ∀ i j, i < h.many → j < h.many → tcT tk i j = tcH h i j) : f__law_right [.obj n, .dct (tkD tk)] S = .ok (.bl true) [none, none] S := by
  have m4 := G.m4
  have irr : ∀ i, i < h.many → tcT tk i i = false := fun i hi => by
    rw [ht i i hi hi]
    unfold tcH
    rw [G.fs i hi]
    rfl
  have ep := parts_of_eq a G
  have em := many_eq a
  have el := law_parts_eq (S := S) m1 m4 irr
  have ec : psF (tcT tk) h.many h.many (List.range h.many) = partsH h := psF_congr ht h.many _ fun x hx => List.mem_range.mp hx
  obtain ⟨raw, _, e2, _, e4⟩ := lp_parts (tc := tcT tk) m1 m4 (fun i j _ _ => Bool.or_comm _ _) irr
  rw [ec] at el e2
  have le : ∀ p ∈ partsH h, p.length ≤ 4 := fun p hp => by
    rw [← e2] at hp
    obtain ⟨q, _, rfl⟩ := List.mem_map.mp hp
    have := List.length_filter_le (fun x => decide (x ∈ q)) (List.range h.many)
    rw [List.length_range] at this
    omega
  have ln : (partsH h).length = raw.length := by rw [← e2, List.length_map]
  have lm : (partsH h).length ≤ 4 := Nat.le_trans (psF_len _ _) m4
  generalize partsH h = L at ep el le ln lm
  have ep : f_parts_of [.obj n] S = .ok (.lst (L.map nsD)) [none] S := ep
  have pl : plD 60 (.lst (L.map nsD)) = true := plD_lst fun d hd => by
    obtain ⟨l, _, rfl⟩ := List.mem_map.mp hd
    exact plD_lst (n := 58) fun d hd => by
      obtain ⟨i, _, rfl⟩ := List.mem_map.mp hd
      exact plD_int
  have ne := hNe_t pl
  have eq := hEq_t pl
  have isl : hIsi "list" (.lst (L.map nsD)) = some (.bl true) := hIsi_list_lst
  have loop : ∃ y4, forL (tfName 4) b__law_right_3 (L.map nsD) [some (.obj n), none, some (.lst (L.map nsD)), some (.lst (L.map nsD)), none, none] S = .nx [some (.obj n), none, some (.lst (L.map nsD)), some (.lst (L.map nsD)), y4, none] S := by
    obtain ⟨ρ1, S1, e1, y4, rfl, rfl⟩ := forL_list (v := 4) (b := b__law_right_3) nsD (fun i ρ S1 => ∃ y4, ρ = [some (.obj n), none, some (.lst (L.map nsD)), some (.lst (L.map nsD)), y4, none] ∧ S = S1) (l := L) (ρ := [some (.obj n), none, some (.lst (L.map nsD)), some (.lst (L.map nsD)), none, none]) (S := S) ⟨none, rfl, rfl⟩ (by
      rintro i hi ρ S1 ⟨y4, rfl, rfl⟩
      refine ⟨_, _, ?_, some (nsD L[i]), rfl, rfl⟩
      have l4 := le L[i] (List.getElem_mem hi)
      have lc : eLc (iSeqW (eVar 4)) [5] (tfName 5) c__law_right_1 e__law_right_2 [some (.obj n), none, some (.lst (L.map nsD)), some (.lst (L.map nsD)), some (nsD L[i]), none] S = .ok (.lst []) S := by
        have e := eLc_fm (it := iSeqW (eVar 4)) (vs := [5]) (v := 5) (C := c__law_right_1) (E := e__law_right_2) (ρ := [some (.obj n), none, some (.lst (L.map nsD)), some (.lst (L.map nsD)), some (nsD L[i]), none]) (S := S) (S1 := S) (fun r : Nat => D.int (r : Int)) (fun _ => false) (fun r : Nat => D.int (r : Int)) (l := L[i]) (seqW_ns rfl) (by omega) (fun j _ => by
          simp only [u_c__law_right_1]
          have : hIsi "bool" (.int (j : Int)) = some (.bl false) := hIsi_bool_int
          simp only [wipeE, List.set_cons_succ, List.set_cons_zero]
          (repeat (first | simp only [this] | walk_at "gs")) <;> exact rfl) (fun j _ z => by cases z)
        rw [e]
        congr 2
        simp
      have isl : hIsi "list" (nsD L[i]) = some (.bl true) := hIsi_list_lst
      have ne : hNe (.lst []) (.lst []) = some (.bl false) := ne_ns []
      simp only [u_b__law_right_3]
      (repeat (first | simp only [isl, lc, ne] | walk_at "gs")) <;> exact rfl)
    exact ⟨y4, e1⟩
  obtain ⟨y4, loop⟩ := loop
  have eF : fForget 1 (fForR2 2 4 b__law_right_3) [some (.obj n), some (.dct (tkD tk)), some (.lst (L.map nsD)), some (.lst (L.map nsD)), none, none] S = .nx [some (.obj n), none, some (.lst (L.map nsD)), some (.lst (L.map nsD)), none, none] S := by
    show outR2 2 4 (L.map nsD) (forL (tfName 4) b__law_right_3 (L.map nsD) [some (.obj n), none, some (.lst (L.map nsD)), some (.lst (L.map nsD)), none, none] S) = _
    rw [loop]
    rfl
  cases L with
  | nil =>
    rw [List.length_nil] at ln
    omega
  | cons p L =>
    have key : pIxV 2 (pVar 2) (eC (.int 0)) [some (.obj n), none, some (.lst ((p :: L).map nsD)), some (.lst ((p :: L).map nsD)), none, none] S = .ok [0] (nsD p) S := by
      have hp : posOf (.lst ((p :: L).map nsD)) (.int 0) = some (0, nsD p) := posOf_nat (r := 0) rfl
      show pKeyK 2 [] S (posOf (.lst ((p :: L).map nsD)) (.int 0)) = _
      rw [hp]
      rfl
    have l4 := le p List.mem_cons_self
    have ap : mAppend (p.map fun r : Nat => D.int (r : Int)) [.int 7] = some (.non, (p.map fun r : Nat => D.int (r : Int)) ++ [.int 7]) := mAppend_lt (by rw [List.length_map]; omega)
    have eV : vm69 [some (.obj n), none, some (.lst ((p :: L).map nsD)), some (.lst ((p :: L).map nsD)), none, none] S = .nx [some (.obj n), none, some (.lst (.lst ((p.map fun r : Nat => D.int (r : Int)) ++ [.int 7]) :: L.map nsD)), some (.lst ((p :: L).map nsD)), none, none] S := by
      unfold vm69
      rw [ev_vmut, key]
      show optK (mAppend (p.map fun r : Nat => D.int (r : Int)) [.int 7]) _ = _
      rw [ap]
      rfl
    have eA : fAppFP 1 2 (eEPF (eLst (lCons (eC (.int 9)) lNil))) [some (.obj n), none, some (.lst (.lst ((p.map fun r : Nat => D.int (r : Int)) ++ [.int 7]) :: L.map nsD)), some (.lst ((p :: L).map nsD)), none, none] S = .nx [some (.obj n), none, some (.lst ((.lst ((p.map fun r : Nat => D.int (r : Int)) ++ [.int 7]) :: L.map nsD) ++ [.lst [.int 9]])), some (.lst ((p :: L).map nsD)), none, none] S :=
      appFP_ok (l0 := .lst ((p.map fun r : Nat => D.int (r : Int)) ++ [.int 7]) :: L.map nsD) rfl rfl rfl (by
        simp only [List.length_cons, List.length_map] at lm ⊢
        omega)
    simp only [List.map_cons] at ep el isl ne eq eF eV eA
    unfold f__law_right m__law_right
    rw [vm69_eq]
    (repeat (first | simp only [ep, methK_o a (m := "many") rfl, em, el, isl, ne, eF, eV, eA, eq] | walk_at "gs")) <;> exact rfl
end
theorem cell_scr (ns : List Int) (k : Nat) (S : Store) : f__law_cell_at [.scr (ns.map .int), .int k] S = .ok (.int (cellAt ns k)) [none, none] S := by
  unfold f__law_cell_at m__law_cell_at
  walk_at "ev"
  by_cases h : k < ns.length
  · rw [decide_eq_true (show (k : Int) < ns.length by omega)]
    walk_at "ev"
    rw [hIx_scrs h]
    walk_at "ev"
  · rw [decide_eq_false (show ¬ (k : Int) < ns.length by omega), cell_none h]
    walk_at "ev"
theorem cell_lst (ns : List Int) (k : Nat) (S : Store) : f__law_cell_at [.lst (ns.map .int), .int k] S = .ok (.int (cellAt ns k)) [none, none] S := by
  unfold f__law_cell_at m__law_cell_at
  walk_at "ev"
  by_cases h : k < ns.length
  · rw [decide_eq_true (show (k : Int) < ns.length by omega)]
    walk_at "ev"
    rw [hIx_ints h]
    walk_at "ev"
  · rw [decide_eq_false (show ¬ (k : Int) < ns.length by omega), cell_none h]
    walk_at "ev"
theorem cell_scr0 (ns : List Int) (S : Store) : f__law_cell_at [.scr (ns.map .int), .int 0] S = .ok (.int (cellAt ns 0)) [none, none] S := cell_scr ns 0 S
theorem cell_scr1 (ns : List Int) (S : Store) : f__law_cell_at [.scr (ns.map .int), .int 1] S = .ok (.int (cellAt ns 1)) [none, none] S := cell_scr ns 1 S
theorem cell_scr2 (ns : List Int) (S : Store) : f__law_cell_at [.scr (ns.map .int), .int 2] S = .ok (.int (cellAt ns 2)) [none, none] S := cell_scr ns 2 S
theorem cell_scr3 (ns : List Int) (S : Store) : f__law_cell_at [.scr (ns.map .int), .int 3] S = .ok (.int (cellAt ns 3)) [none, none] S := cell_scr ns 3 S
theorem cell_lst0 (ns : List Int) (S : Store) : f__law_cell_at [.lst (ns.map .int), .int 0] S = .ok (.int (cellAt ns 0)) [none, none] S := cell_lst ns 0 S
theorem cell_lst1 (ns : List Int) (S : Store) : f__law_cell_at [.lst (ns.map .int), .int 1] S = .ok (.int (cellAt ns 1)) [none, none] S := cell_lst ns 1 S
local macro_rules | `(tactic| walk_at "gs") => `(tactic| simp -implicitDefEqProofs (disch := first | omega | (exact rfl) | assumption) only [hTru_of, ev_meth, ev_fldV, rfe_ok, tbl_len, hIx_rD0, hIx_rD1, ev_body, outsOf, ΓS, List.replicate, List.map_cons, List.map_nil, List.cons_append, List.nil_append, List.headD_cons, List.tail_cons, ev_var, ev_c, ev_op, ev_un, ev_nil, ev_cons, ev_L, ev_tup, ev_lst, ev_call, ev_and, ev_or, ev_not, ev_if, ev_seq, ev_set, ev_ret, ev_drop, ev_pass, ev_brk, ev_ct, ev_raise, ev_ifS, ev_for, ev_held, ev_tru, ev_mut, ev_mutset, mutK_lst, mutR_some, ev_flat, flatK_int, flatK_bl, flatK_str, flatK_non, ev_m1, m1K_str, hIsi_list_lst, hIsi_bool_bl, hIsi_int_bl, hEq_bl, hNe_bl, List.length_map, bind_ok, bind_exc, bindS_ok, bindS_exc, of_some, seq_nx, seq_rt, seq_exc, seq_bk, seq_ct, condS_t, condS_f, condE_t, condE_f, notD_bl, bindE_ok, bindE_exc, bindL_ok, bindL_exc, bindLL_ok, bindLL_exc, bindLS_ok, bindLS_exc, toE_ok, toE_exc, toF_nx, toF_rt, toF_exc, slotE_some, List.getElem?_cons_zero, List.getElem?_cons_succ, List.set_cons_zero, List.set_cons_succ, hNe_int, hEq_int, hAdd_int, hSub_int, hLt_int, hLe_int, hGt_int, hGe_int, hNeg_int, hAbs_int, hIsi_int_int, hIsi_bool_int, hIsi_tuple_tup, hIxT0, hIxT1, hIxT2, hIxT3, hIxT4, hIxL0, hIxL1, hIxL2, hIxL3, hLen_lst, hLen_tup, hLen_scr, ev_sl, bnd_none, bnd_some, bndK_int, hSl_scr, hSl_lst, ev_range1, ev_iseq, seqK_lst, seqK_tup, seqK_scr, Bool.not_true, Bool.not_false, List.length_cons, List.length_nil, Nat.sub_self, Nat.reduceSub, Nat.reduceAdd, Nat.reduceLeDiff, decide_true, decide_false, reduceIte, Int.reduceSub, Int.reduceAdd, Int.reduceMul, Int.reduceNeg, Int.reduceMod, Int.reduceDiv, Int.reduceBEq, Int.reduceLT, Int.reduceLE, Int.cast_ofNat_Int, BEq.rfl, Nat.reduceBEq, Nat.zero_add, hMul_sm, hDiv_sm, hMod_pos, rgK1_ok, rgK2_ok, beq_f, beq_t, decide_eq_true, decide_eq_false, hAdd_int, ev_pvar, ev_pkey, pKeyK_ok, ev_vmut, ev_vput, slotPut_ok, rv_ok, rl_bindR, lstK_lst, dctK_dct, optK_some, mAppend_ok, setAt_nil, hIxD_lst, hIxD_tup, keyF_str, keyF_pair, ev_range2, Nat.not_lt_zero, Bool.false_eq_true, slotK_ok, ev_call0', call0K_ok, call0R_ok, noObjL_nil, noObjL_cons, noObj_int, noObj_bl, noObj_str, noObj_non, noObj_tup, noObj_lst, noObj_scr, noObj_rD, noObjL_ints, noObjL_rats, Bool.and_self, Bool.and_true, Bool.true_and, ev_dct, dctR_ok, itms_nil, itms_l, itms_d, itms_s, itS_ok, Option.map_some, call0C_t, rfe_exc, List.append_nil, Bool.false_and, Bool.and_false, ev_callD, ev_make, makeR_ok, makeR_exc, ev_fld, hIxO_lst, cell_scr0, cell_scr1, cell_scr2, cell_scr3, cell_lst0, cell_lst1, cell_scr, cell_lst])
local macro_rules | `(tactic| walk_at "go") => `(tactic| try simp -implicitDefEqProofs (disch := first | omega | (exact rfl) | assumption) only [hTru_of, ev_meth, ev_fldV, rfe_ok, tbl_len, hIx_rD0, hIx_rD1, ev_body, outsOf, ΓS, List.replicate, List.map_cons, List.map_nil, List.cons_append, List.nil_append, List.headD_cons, List.tail_cons, ev_var, ev_c, ev_op, ev_un, ev_nil, ev_cons, ev_L, ev_tup, ev_lst, ev_call, ev_and, ev_or, ev_not, ev_if, ev_seq, ev_set, ev_ret, ev_drop, ev_pass, ev_brk, ev_ct, ev_raise, ev_ifS, ev_for, ev_held, ev_tru, ev_mut, ev_mutset, mutK_lst, mutR_some, ev_flat, flatK_int, flatK_bl, flatK_str, flatK_non, ev_m1, m1K_str, hIsi_list_lst, hIsi_bool_bl, hIsi_int_bl, hEq_bl, hNe_bl, List.length_map, bind_ok, bind_exc, bindS_ok, bindS_exc, of_some, seq_nx, seq_rt, seq_exc, seq_bk, seq_ct, condS_t, condS_f, condE_t, condE_f, notD_bl, bindE_ok, bindE_exc, bindL_ok, bindL_exc, bindLL_ok, bindLL_exc, bindLS_ok, bindLS_exc, toE_ok, toE_exc, toF_nx, toF_rt, toF_exc, slotE_some, List.getElem?_cons_zero, List.getElem?_cons_succ, List.set_cons_zero, List.set_cons_succ, hNe_int, hEq_int, hAdd_int, hSub_int, hLt_int, hLe_int, hGt_int, hGe_int, hNeg_int, hAbs_int, hIsi_int_int, hIsi_bool_int, hIsi_tuple_tup, hIxT0, hIxT1, hIxT2, hIxT3, hIxT4, hIxL0, hIxL1, hIxL2, hIxL3, hLen_lst, hLen_tup, hLen_scr, ev_sl, bnd_none, bnd_some, bndK_int, hSl_scr, hSl_lst, ev_range1, ev_iseq, seqK_lst, seqK_tup, seqK_scr, Bool.not_true, Bool.not_false, List.length_cons, List.length_nil, Nat.sub_self, Nat.reduceSub, Nat.reduceAdd, Nat.reduceLeDiff, decide_true, decide_false, reduceIte, Int.reduceSub, Int.reduceAdd, Int.reduceMul, Int.reduceNeg, Int.reduceMod, Int.reduceDiv, Int.reduceBEq, Int.reduceLT, Int.reduceLE, Int.cast_ofNat_Int, BEq.rfl, Nat.reduceBEq, Nat.zero_add, hMul_sm, hDiv_sm, hMod_pos, rgK1_ok, rgK2_ok, beq_f, beq_t, decide_eq_true, decide_eq_false, hAdd_int, ev_pvar, ev_pkey, pKeyK_ok, ev_vmut, ev_vput, slotPut_ok, rv_ok, rl_bindR, lstK_lst, dctK_dct, optK_some, mAppend_ok, setAt_nil, hIxD_lst, hIxD_tup, keyF_str, keyF_pair, ev_range2, Nat.not_lt_zero, Bool.false_eq_true, slotK_ok, ev_call0', call0K_ok, call0R_ok, noObjL_nil, noObjL_cons, noObj_int, noObj_bl, noObj_str, noObj_non, noObj_tup, noObj_lst, noObj_scr, noObj_rD, noObjL_ints, noObjL_rats, Bool.and_self, Bool.and_true, Bool.true_and, ev_dct, dctR_ok, itms_nil, itms_l, itms_d, itms_s, itS_ok, Option.map_some, call0C_t, rfe_exc, List.append_nil, Bool.false_and, Bool.and_false, ev_callD, ev_make, makeR_ok, makeR_exc, ev_fld, hIxO_lst, cell_scr0, cell_scr1, cell_scr2, cell_scr3, cell_lst0, cell_lst1, cell_scr, cell_lst])
theorem rt_loop (a b : Int) (S : Store) : ∀ (l h : Nat) (x : Option D), ∃ y, fWhile c__law_part_1 b__law_part_2 [some (.int a), some (.int b), some (.int h), some (.int l), x] S = .nx [some (.int a), some (.int b), some (.int (Nat.gcd h l)), some (.int 0), y] S := by
  intro l
  induction l using Nat.strongRecOn with
  | ind l ih =>
    intro h x
    rw [fWhile_turn]
    simp only [u_c__law_part_1, u_b__law_part_2]
    by_cases hl : l = 0
    · subst hl
      refine ⟨x, ?_⟩
      walk_at "ev"
      simp
    · have hp : (0 : Int) < l := by omega
      obtain ⟨y, e⟩ := ih (h % l) (Nat.mod_lt _ (by omega)) l (some (.int (h % l : Nat)))
      refine ⟨y, ?_⟩
      walk_at "ev"
      rw [decide_eq_true hp]
      walk_at "ev"
      rw [hMod_pos hp]
      walk_at "ev"
      rw [← Int.natCast_emod, e]
      rw [Nat.gcd_comm h l, Nat.gcd_rec l h, Nat.gcd_comm l]
theorem ratio_eq {a b : Int} (hb : 0 < b) (h : b.natAbs < 2 ^ 8999) (S : Store) : f__law_part [.int a, .int b] S = .ok (rD (rI a b)) [none, none] S := by
  have g1 := gcd_lt (a := a) (b := b) (by omega) h
  have g0 := gcd_pos (a := a) (b := b) (by omega)
  obtain ⟨y, e⟩ := rt_loop a b S b.natAbs a.natAbs none
  rw [Int.natAbs_of_nonneg (show 0 ≤ b by omega)] at e
  have d1 : hDiv (.int a) (.int (Int.gcd a b)) = some (.int (a / Int.gcd a b)) := hDiv_pos (by omega) g1
  have d2 : hDiv (.int b) (.int (Int.gcd a b)) = some (.int (b / Int.gcd a b)) := hDiv_pos (by omega) g1
  unfold f__law_part m__law_part
  walk_at "ev"
  rw [e]
  walk_at "ev"
  rw [show (Nat.gcd a.natAbs b.natAbs : Nat) = Int.gcd a b from rfl, d1]
  walk_at "ev"
  rw [d2]
  walk_at "ev"
  rw [← frac_rI (show b ≠ 0 by omega)]
  unfold frac
  rw [if_neg (by omega)]
def hR (m : Nat) (fl : Nat → Nat → Rat) : Hs := ⟨4, 0, 0, m, fun i => [(i : Rat), ((i + 1 : Nat) : Rat)], fl, fun _ => (0, 0, 0), fun _ => .none⟩
theorem hR_add (m : Nat) : (hR m fun _ _ => 0).add [(m : Rat), ((m + 1 : Nat) : Rat)] = hR (m + 1) fun _ _ => 0 := by
  unfold hR Hs.add
  simp only [Hs.mk.injEq, true_and]
  refine ⟨?_, ?_, ?_, ?_⟩
  · funext i
    split
    · rename_i h; rw [h]
    · rfl
  · funext i j
    exact ite_self _
  · funext i
    exact ite_self _
  · funext i
    exact ite_self _
theorem mk_small {i : Nat} (h : i < 4) : rb 8 (i : Rat) ∧ rb 8 (((i + 1 : Nat) : Rat)) ∧ (i : Rat) < ((i + 1 : Nat) : Rat) ∧ D.tup [.int (i : Int), .int 1] = rD (i : Rat) ∧ D.tup [.int ((i : Int) + 1), .int 1] = rD (((i + 1 : Nat) : Rat)) := by
  have : i = 0 ∨ i = 1 ∨ i = 2 ∨ i = 3 := by omega
  rcases this with rfl | rfl | rfl | rfl <;> exact ⟨⟨by decide, by decide⟩, ⟨by decide, by decide⟩, by decide, by rfl, by rfl⟩
theorem room_69 {S : Store} {n m : Nat} (a : At S n 0 (hR m fun _ _ => 0)) (h4 : m < 4) : f_Hold__put_room [.obj n, .lst [.tup [.int (m : Int), .int 1], .tup [.int ((m : Int) + 1), .int 1]]] S = .ok (.int m) [none, none] (S.set n ((hR (m + 1) fun _ _ => 0).ob 0)) := by
  obtain ⟨b1, b2, b3, b4, b5⟩ := mk_small h4
  have e := put_room_eq (ms := [(m : Rat), ((m + 1 : Nat) : Rat)]) (k := 8) a h4 (Nat.le_refl 2) (by show 2 ≤ 7; decide) (fun q hq => by
    rcases List.mem_cons.mp hq with rfl | hq
    · exact b1
    · rw [List.mem_singleton.mp hq]; exact b2) (by omega) (fun i hi => by
    have hi : i + 1 < 2 := hi
    have : i = 0 := by omega
    subst this
    exact b3) (fun i _ => by show 2 ≤ 7; omega) (by
    have : m = 0 ∨ m = 1 ∨ m = 2 ∨ m = 3 := by omega
    rcases this with rfl | rfl | rfl | rfl <;> decide)
  rw [hR_add] at e
  rw [b4, b5]
  exact e
structure FlOk (m : Nat) (fl : Nat → Nat → Rat) : Prop where
  b : ∀ i j, rb 110 (fl i j)
  z : ∀ i j, 0 ≤ fl i j
  q : ∀ i j, fl i j ≤ 1 / 4
  d : ∀ i, fl i i = 0
theorem taken_hR {m : Nat} {fl : Nat → Nat → Rat} (m4 : m ≤ 4) (ok : FlOk m fl) {r : Nat} (hr : r < m) : (hR m fl).taken r ≤ 3 / 4 ∧ 0 ≤ (hR m fl).taken r := by
  have e : (hR m fl).taken r = 0 + sumQ (fl r) m := rfl
  have q := ok.q r
  have z := ok.z r
  have d := ok.d r
  have : m = 1 ∨ m = 2 ∨ m = 3 ∨ m = 4 := by omega
  rw [e]
  have q0 := q 0; have q1 := q 1; have q2 := q 2; have q3 := q 3
  have z0 := z 0; have z1 := z 1; have z2 := z 2; have z3 := z 3
  rcases this with rfl | rfl | rfl | rfl <;> simp only [sumQ]
  all_goals
    have hr4 : r = 0 ∨ r = 1 ∨ r = 2 ∨ r = 3 := by omega
    rcases hr4 with rfl | rfl | rfl | rfl <;> first | omega | (constructor <;> grind)
theorem good_hR {m : Nat} {fl : Nat → Nat → Rat} (m4 : m ≤ 4) (ok : FlOk m fl) : (hR m fl).Good 110 where
  k5 := by decide
  b0 := ⟨by show (0 : Int) ≤ 4; decide, by show (4 : Int) ≤ 4; decide⟩
  b1 := ⟨by show (0 : Int) ≤ 0; decide, by show (0 : Int) ≤ 30; decide⟩
  b2 := ⟨by show (0 : Int) ≤ 0; decide, by show (0 : Int) ≤ 30; decide⟩
  m4 := m4
  l2 := fun i _ => Nat.le_refl 2
  l7 := fun i _ => by show 2 ≤ 7; decide
  mb := fun i hi q hq => by
    have hi : i < m := hi
    obtain ⟨b1, b2, _⟩ := mk_small (i := i) (by omega)
    rcases List.mem_cons.mp hq with rfl | hq
    · exact rb_mono b1 (by decide)
    · rw [List.mem_singleton.mp hq]; exact rb_mono b2 (by decide)
  rise := fun i hi j hj => by
    have hi : i < m := hi
    have hj : j + 1 < 2 := hj
    have : j = 0 := by omega
    subst this
    exact (mk_small (i := i) (by omega)).2.2.1
  bands := fun i hi => by
    have hi : i < m := hi
    have : i = 0 ∨ i = 1 ∨ i = 2 ∨ i = 3 := by omega
    rcases this with rfl | rfl | rfl | rfl <;> exact of_decide_eq_true rfl
  fb := fun i j _ _ => ok.b i j
  f0 := fun i j _ _ => ok.z i j
  fs := fun i _ => ok.d i
  sb := fun i _ => rb_zero 110 (by decide)
  s0 := fun i _ => by show (0 : Rat) ≤ 0; decide
  lb := fun i _ => rb_zero 110 (by decide)
  hb := fun i _ => rb_zero 110 (by decide)
  lh := fun i _ => by show ¬ (0 : Rat) < 0; decide
  t1 := fun i hi => by
    have := (taken_hR m4 ok (r := i) hi).1
    grind
  st := fun i q w s f _ h => by cases h
def setF2 (fl : Nat → Nat → Rat) (r o : Nat) (q : Rat) : Nat → Nat → Rat := fun i j => if i = r then (if j = o then q else fl i j) else fl i j
theorem FlOk.set {m : Nat} {fl : Nat → Nat → Rat} (ok : FlOk m fl) {r o : Nat} {q : Rat} (hro : r ≠ o) (b : rb 110 q) (z : 0 ≤ q) (hq : q ≤ 1 / 4) : FlOk m (setF2 fl r o q) := by
  have k : ∀ i j, setF2 fl r o q i j = q ∧ i = r ∧ j = o ∨ setF2 fl r o q i j = fl i j := fun i j => by
    unfold setF2
    by_cases h1 : i = r
    · by_cases h2 : j = o
      · rw [if_pos h1, if_pos h2]; exact .inl ⟨rfl, h1, h2⟩
      · rw [if_pos h1, if_neg h2]; exact .inr rfl
    · rw [if_neg h1]; exact .inr rfl
  refine ⟨fun i j => ?_, fun i j => ?_, fun i j => ?_, fun i => ?_⟩
  · rcases k i j with ⟨e, _⟩ | e <;> rw [e]
    · exact b
    · exact ok.b i j
  · rcases k i j with ⟨e, _⟩ | e <;> rw [e]
    · exact z
    · exact ok.z i j
  · rcases k i j with ⟨e, _⟩ | e <;> rw [e]
    · exact hq
    · exact ok.q i j
  · rcases k i i with ⟨_, e1, e2⟩ | e
    · exact absurd (e1.symm.trans e2) hro
    · rw [e]; exact ok.d i
theorem flow_69 {S : Store} {n m r o : Nat} {fl : Nat → Nat → Rat} {q : Rat} (a : At S n 0 (hR m fl)) (m4 : m ≤ 4) (ok : FlOk m fl) (hr : r < m) (ho : o < m) (hro : r ≠ o) (b : rb 110 q) (z : 0 ≤ q) (hq : q ≤ 1 / 4) :
    f_Hold__put_flow [.obj n, .int r, .int o, rD q] S = .ok .non [none, none, none, none] (S.set n ((hR m (setF2 fl r o q)).ob 0)) := by
  have t := (taken_hR m4 ok hr).1
  have f0 := ok.z r o
  exact put_flow_eq (k := 110) a (good_hR m4 ok).wf hr ho hro b (by decide) (by grind) (by
    show ¬ 1 < (hR m fl).taken r - fl r o + q
    grind)
theorem rI_pos69 {x w : Int} (hx : 0 < x) (hw : 0 < w) : 0 < rI x w := by
  have h0 := rI_nonneg (a := x) (w := w) (by omega) hw
  have h1 := rI_mul (a := x) (b := w) (by omega)
  have h2 : (0 : Rat) < (x : Rat) := by
    have := Rat.intCast_lt_intCast.mpr hx
    exact this
  by_cases e : rI x w = 0
  · rw [e] at h1
    grind
  · grind
theorem share_q {w y : Int} (b0 : 0 ≤ y) (b1 : y < 999999999999999999999999999996) (t0 : 0 ≤ w) (t1 : w < (4 + y) / 4) : rb 110 (Q.rI (1 + w) (4 + y)) ∧ 0 < Q.rI (1 + w) (4 + y) ∧ Q.rI (1 + w) (4 + y) ≤ 1 / 4 := by
  have e : (2 : Nat) ^ 110 = 1298074214633706907132624082305024 := by decide
  refine ⟨rb_rI (by omega) (by rw [e]; omega) (by rw [e]; omega), rI_pos69 (by omega) (by omega), ?_⟩
  have := rI_le (a := 1 + w) (w := 4 + y) (c := 1) (d := 4) (by omega) (by decide) (by omega)
  have e4 : Q.rI 1 4 = 1 / 4 := rfl
  rw [e4] at this
  exact this
theorem share_69 (c : Int) (S : Store) : ∃ q : Rat, f__law_share [.int c] S = .ok (rD q) [none] S ∧ rb 110 q ∧ 0 < q ∧ q ≤ 1 / 4 := by
  have b0 := Int.emod_nonneg (c / 16) (b := 999999999999999999999999999996) (by decide)
  have b1 := Int.emod_lt_of_pos (c / 16) (b := 999999999999999999999999999996) (by decide)
  have q1 : 0 < (4 + c / 16 % 999999999999999999999999999996) / 4 := by omega
  have t0 := Int.emod_nonneg (c / 16 % 100000000000000000000000000000) (b := (4 + c / 16 % 999999999999999999999999999996) / 4) (by omega)
  have t1 := Int.emod_lt_of_pos (c / 16 % 100000000000000000000000000000) (b := (4 + c / 16 % 999999999999999999999999999996) / 4) q1
  have e2 : (2 : Nat) ^ 110 < 2 ^ 8999 := Nat.pow_lt_pow_right (by decide) (by decide)
  have e : (2 : Nat) ^ 110 = 1298074214633706907132624082305024 := by decide
  have r := ratio_eq (a := 1 + c / 16 % 100000000000000000000000000000 % ((4 + c / 16 % 999999999999999999999999999996) / 4)) (b := 4 + c / 16 % 999999999999999999999999999996) (by omega) (by omega) S
  have m3 := hMod_pos (a := c / 16 % 100000000000000000000000000000) q1
  refine ⟨_, ?_, share_q b0 b1 t0 t1⟩
  have p30 : hPow (.int 10) (.int 30) = some (.int 1000000000000000000000000000000) := rfl
  have p29 : hPow (.int 10) (.int 29) = some (.int 100000000000000000000000000000) := rfl
  have s30 : (1000000000000000000000000000000 : Int) - 4 = 999999999999999999999999999996 := by decide
  unfold f__law_share m__law_share
  (repeat (first | simp only [p30, p29, s30, r, m3] | walk_at "gs")) <;> exact rfl
noncomputable def vp69 : FS := fVPut 1 4 (pVar 4) (eTup (lCons (eVar 6) (lCons (eVar 7) lNil))) (eC (.bl true))
theorem vp69_eq : fVPut 1 4 (pVar 4) (eTup (lCons (eVar 6) (lCons (eVar 7) lNil))) (eC (.bl true)) = vp69 := rfl
theorem vp_eq {x0 x1 x2 x3 x5 : Option D} {r o : Nat} {tk : List (Nat × Nat)} (hl : tk.length ≤ 1000) (S : Store) : vp69 [x0, x1, x2, x3, some (.dct (tkD tk)), x5, some (.int (r : Int)), some (.int (o : Int))] S = .nx [x0, x1, x2, x3, some (.dct (tkD (if (r, o) ∈ tk then tk else tk ++ [(r, o)]))), x5, some (.int (r : Int)), some (.int (o : Int))] S := by
  unfold vp69
  rw [ev_vput]
  show vputK 1 4 [] (.bl true) (prD (r, o)) S [x0, x1, x2, x3, some (.dct (tkD tk)), x5, some (.int (r : Int)), some (.int (o : Int))] (tkD tk) = _
  unfold vputK
  rw [if_pos ⟨⟨rfl, sortOk_tk, by unfold tkD; rw [List.length_map]; omega⟩, by decide, .inl rfl⟩, put_tk]
  rfl
theorem dp_eq {x0 x1 x2 x3 x5 : Option D} {r o : Nat} {tk : List (Nat × Nat)} (S : Store) : fDPop 1 4 (pVar 4) (lCons (eTup (lCons (eVar 6) (lCons (eVar 7) lNil))) (lCons (eC .non) lNil)) [x0, x1, x2, x3, some (.dct (tkD tk)), x5, some (.int (r : Int)), some (.int (o : Int))] S = .nx [x0, x1, x2, x3, some (.dct (tkD (tk.filter fun q => !decide (q = (r, o))))), x5, some (.int (r : Int)), some (.int (o : Int))] S := by
  show (if tupK (tkD tk) = true ∧ 1 = 0 + 1 then (if keyF (prD (r, o)) = true ∧ isTupD (prD (r, o)) = true then slotPut 1 1 4 [] (.dct (dpopD (tkD tk) (prD (r, o)))) S [x0, x1, x2, x3, some (.dct (tkD tk)), x5, some (.int (r : Int)), some (.int (o : Int))] else .no) else .no) = _
  rw [if_pos ⟨tupK_tk, rfl⟩, if_pos ⟨rfl, rfl⟩, pop_tk]
  rfl
def Jt (m : Nat) (fl : Nat → Nat → Rat) (tk : List (Nat × Nat)) : Prop := ∀ i j, i < m → j < m → (0 < fl i j ↔ (i, j) ∈ tk)
theorem Jt.tc {m : Nat} {fl : Nat → Nat → Rat} {tk : List (Nat × Nat)} (J : Jt m fl tk) : ∀ i j, i < m → j < m → tcT tk i j = tcH (hR m fl) i j := fun i j hi hj => by
  unfold tcT tcH
  show (decide ((i, j) ∈ tk) || decide ((j, i) ∈ tk)) = (decide (0 < fl i j) || decide (0 < fl j i))
  rw [decide_eq_decide.mpr (J i j hi hj), decide_eq_decide.mpr (J j i hj hi)]
theorem Jt.pop {m : Nat} {fl : Nat → Nat → Rat} {tk : List (Nat × Nat)} (J : Jt m fl tk) {r o : Nat} : Jt m (setF2 fl r o 0) (tk.filter fun q => !decide (q = (r, o))) := fun i j hi hj => by
  rw [List.mem_filter]
  unfold setF2
  by_cases h1 : i = r
  · by_cases h2 : j = o
    · rw [if_pos h1, if_pos h2, h1, h2]
      simp
    · rw [if_pos h1, if_neg h2, J i j hi hj]
      simp [h2]
  · rw [if_neg h1, J i j hi hj]
    simp [h1]
theorem Jt.put {m : Nat} {fl : Nat → Nat → Rat} {tk : List (Nat × Nat)} (J : Jt m fl tk) {r o : Nat} {q : Rat} (hq : 0 < q) : Jt m (setF2 fl r o q) (if (r, o) ∈ tk then tk else tk ++ [(r, o)]) := fun i j hi hj => by
  have e : ((i, j) ∈ if (r, o) ∈ tk then tk else tk ++ [(r, o)]) ↔ ((i, j) ∈ tk ∨ (i = r ∧ j = o)) := by
    split
    · rename_i h
      constructor
      · exact .inl
      · rintro (z | ⟨rfl, rfl⟩)
        · exact z
        · exact h
    · simp
  rw [e]
  unfold setF2
  by_cases h1 : i = r
  · by_cases h2 : j = o
    · rw [if_pos h1, if_pos h2]
      exact ⟨fun _ => .inr ⟨h1, h2⟩, fun _ => hq⟩
    · rw [if_pos h1, if_neg h2, J i j hi hj]
      exact ⟨.inl, fun z => z.elim id fun z => absurd z.2 h2⟩
  · rw [if_neg h1, J i j hi hj]
    exact ⟨.inl, fun z => z.elim id fun z => absurd z.1 h1⟩
theorem mod_nat {c : Int} {m : Nat} (m1 : 1 ≤ m) : ∃ r : Nat, r < m ∧ hMod (.int c) (.int (m : Int)) = some (.int (r : Int)) ∧ c % (m : Int) = (r : Int) := by
  have h0 := Int.emod_nonneg c (b := (m : Int)) (by omega)
  have h1 := Int.emod_lt_of_pos c (b := (m : Int)) (by omega)
  refine ⟨(c % m).toNat, by omega, ?_, (Int.toNat_of_nonneg h0).symm⟩
  rw [hMod_pos (by omega), Int.toNat_of_nonneg h0]
theorem turn_69 {ns : List Int} {m k : Nat} (m1 : 1 ≤ m) (m4 : m ≤ 4) (hk : k < 24) {fl : Nat → Nat → Rat} (ok : FlOk m fl) {tk : List (Nat × Nat)} (J : Jt m fl tk) (hl : tk.length ≤ k) (x5 x6 x7 : Option D) :
    ∃ y5 y6 y7 tk' fl', FlOk m fl' ∧ Jt m fl' tk' ∧ tk'.length ≤ k + 1 ∧ b_law_2 [some (.scr (ns.map .int)), some (.obj 0), some (.int (m : Int)), some (.int (k : Int)), some (.dct (tkD tk)), x5, x6, x7] [(hR m fl).ob 0] = .nx [some (.scr (ns.map .int)), some (.obj 0), some (.int (m : Int)), some (.int (k : Int)), some (.dct (tkD tk')), y5, y6, y7] [(hR m fl').ob 0] := by
  have a : At [(hR m fl).ob 0] 0 0 (hR m fl) := rfl
  have ec := cell_scr ns (1 + k) [(hR m fl).ob 0]
  have e1 : (1 + (k : Int)) = ((1 + k : Nat) : Int) := by omega
  have u1 : hMul (.int 48271) (.int (k : Int)) = some (.int (48271 * (k : Int))) := hMul_bd (m := 17) (n := 10) (by decide) (by omega) (by omega)
  have u2 : hMul (.int (48271 * (k : Int))) (.int (k : Int)) = some (.int (48271 * (k : Int) * (k : Int))) := hMul_bd (m := 27) (n := 10) (by omega) (by omega) (by omega)
  obtain ⟨c, hc⟩ : ∃ c, cellAt ns (1 + k) + 48271 * (k : Int) * (k : Int) = c := ⟨_, rfl⟩
  obtain ⟨r, hr, v6, w6⟩ := mod_nat (c := c) m1
  obtain ⟨o, ho, v7, w7⟩ := mod_nat (c := c / 4) m1
  by_cases hro : r = o
  · subst hro
    refine ⟨some (.int c), some (.int (r : Int)), some (.int (r : Int)), tk, fl, ok, J, by omega, ?_⟩
    have n1 : ((r : Int) == (r : Int)) = true := beq_self_eq_true _
    simp only [u_b_law_2]
    (repeat (first | simp only [e1, ec, u1, u2, hc, v6, v7, w6, w7, n1] | walk_at "gs")) <;> exact rfl
  · have n1 : ((r : Int) == (o : Int)) = false := by simpa using (by omega : ¬ (r : Int) = o)
    by_cases h97 : c / 97 % 3 = 0
    · have b97 : (c / 97 % 3 == 0) = true := by rw [h97]; rfl
      have ok' := ok.set (q := 0) hro (rb_zero 110 (by decide)) (by decide) (by grind)
      have ef : f_Hold__put_flow [.obj 0, .int (r : Int), .int (o : Int), .tup [.int 0, .int 1]] [(hR m fl).ob 0] = .ok .non [none, none, none, none] [(hR m (setF2 fl r o 0)).ob 0] := flow_69 a m4 ok hr ho hro (rb_zero 110 (by decide)) (by decide) (by grind)
      have J' := J.pop (r := r) (o := o)
      have ed := fun x0 x1 x2 x3 x5 => dp_eq (x0 := x0) (x1 := x1) (x2 := x2) (x3 := x3) (x5 := x5) (r := r) (o := o) (tk := tk) [(hR m (setF2 fl r o 0)).ob 0]
      have er := right_eq (S := [(hR m (setF2 fl r o 0)).ob 0]) (n := 0) rfl (good_hR m4 ok') m1 J'.tc
      refine ⟨some (.int c), some (.int (r : Int)), some (.int (o : Int)), _, _, ok', J', Nat.le_trans (List.length_filter_le _ _) (by omega), ?_⟩
      simp only [u_b_law_2]
      by_cases h291 : c / 291 % 3 = 0
      · have b291 : (c / 291 % 3 == 0) = true := by rw [h291]; rfl
        (repeat (first | simp only [e1, ec, u1, u2, hc, v6, v7, w6, w7, n1, b97, methK_o a (m := "put_flow") rfl, ef, ed, b291, er] | walk_at "gs")) <;> exact rfl
      · have b291 : (c / 291 % 3 == 0) = false := by simpa using h291
        (repeat (first | simp only [e1, ec, u1, u2, hc, v6, v7, w6, w7, n1, b97, methK_o a (m := "put_flow") rfl, ef, ed, b291] | walk_at "gs")) <;> exact rfl
    · have b97 : (c / 97 % 3 == 0) = false := by simpa using h97
      obtain ⟨q, es, q1, q2, q3⟩ := share_69 c [(hR m fl).ob 0]
      have q2' : 0 ≤ q := by grind
      have ok' := ok.set (q := q) hro q1 q2' q3
      have ef : f_Hold__put_flow [.obj 0, .int (r : Int), .int (o : Int), rD q] [(hR m fl).ob 0] = .ok .non [none, none, none, none] [(hR m (setF2 fl r o q)).ob 0] := flow_69 a m4 ok hr ho hro q1 q2' q3
      have J' := J.put (r := r) (o := o) q2
      have ed := fun x0 x1 x2 x3 x5 => vp_eq (x0 := x0) (x1 := x1) (x2 := x2) (x3 := x3) (x5 := x5) (r := r) (o := o) (tk := tk) (by omega) [(hR m (setF2 fl r o q)).ob 0]
      have er := right_eq (S := [(hR m (setF2 fl r o q)).ob 0]) (n := 0) rfl (good_hR m4 ok') m1 J'.tc
      refine ⟨some (.int c), some (.int (r : Int)), some (.int (o : Int)), _, _, ok', J', by
        split
        · omega
        · rw [List.length_append]
          show tk.length + 1 ≤ k + 1
          omega, ?_⟩
      simp only [u_b_law_2]
      rw [vp69_eq]
      by_cases h291 : c / 291 % 3 = 0
      · have b291 : (c / 291 % 3 == 0) = true := by rw [h291]; rfl
        (repeat (first | simp only [e1, ec, u1, u2, hc, v6, v7, w6, w7, n1, b97, es, methK_o a (m := "put_flow") rfl, ef, ed, b291, er] | walk_at "gs")) <;> exact rfl
      · have b291 : (c / 291 % 3 == 0) = false := by simpa using h291
        (repeat (first | simp only [e1, ec, u1, u2, hc, v6, v7, w6, w7, n1, b97, es, methK_o a (m := "put_flow") rfl, ef, ed, b291] | walk_at "gs")) <;> exact rfl
theorem law_eq (ns : List Int) (hl : ns.length ≤ 63) (hz : ∀ z ∈ ns, Builtin.Int.intBits z ≤ 1048576) : ∃ outs S', f_law [.scr (ns.map .int)] [] = .ok (.bl true) outs S' := by
  have ec := fun S => cell_scr ns 0 S
  have en := new_eq (a := 4) (b := 0) (c := 0) (by decide) (by decide) (by decide) (by decide) (by decide) (by decide) []
  have h0 := Int.emod_nonneg (cellAt ns 0) (b := 4) (by decide)
  have h1 := Int.emod_lt_of_pos (cellAt ns 0) (b := 4) (by decide)
  have g0 := Int.emod_nonneg (cellAt ns 0 / 4) (b := 21) (by decide)
  have g1 := Int.emod_lt_of_pos (cellAt ns 0 / 4) (b := 21) (by decide)
  obtain ⟨m, em, m1, m4⟩ : ∃ m : Nat, 1 + cellAt ns 0 % 4 = (m : Int) ∧ 1 ≤ m ∧ m ≤ 4 := ⟨(1 + cellAt ns 0 % 4).toNat, by omega, by omega, by omega⟩
  obtain ⟨q, eq, q24⟩ : ∃ q : Nat, 4 + cellAt ns 0 / 4 % 21 = (q : Int) ∧ q ≤ 24 := ⟨(4 + cellAt ns 0 / 4 % 21).toNat, by omega, by omega⟩
  obtain ⟨ρ1, S1, e1, y3, rfl, rfl⟩ := forL_tbl (v := 3) (b := b_law_1) (f := fun j : Nat => D.int (j : Int)) (fun i ρ S => ∃ y3, ρ = [some (.scr (ns.map .int)), some (.obj 0), some (.int (m : Int)), y3, none, none, none, none] ∧ S = [(hR i fun _ _ => 0).ob 0]) (m := m) (ρ := [some (.scr (ns.map .int)), some (.obj 0), some (.int (m : Int)), none, none, none, none, none]) (S := [(hR 0 fun _ _ => 0).ob 0]) ⟨none, rfl, rfl⟩ (by
    rintro i hi ρ S ⟨y3, rfl, rfl⟩
    have a : At [(hR i fun _ _ => 0).ob 0] 0 0 (hR i fun _ _ => 0) := rfl
    have er : f_Hold__put_room [.obj 0, .lst [.tup [.int (i : Int), .int 1], .tup [.int ((i : Int) + 1), .int 1]]] [(hR i fun _ _ => 0).ob 0] = .ok (.int i) [none, none] [(hR (i + 1) fun _ _ => 0).ob 0] := room_69 a (by omega)
    refine ⟨_, _, ?_, some (.int (i : Int)), rfl, rfl⟩
    simp only [u_b_law_1]
    (repeat (first | simp only [methK_o a (m := "put_room") rfl, er] | walk_at "gs")) <;> exact rfl)
  obtain ⟨ρ2, S2, e2, y3', y5, y6, y7, tk, fl, rfl, rfl, ok, J, _⟩ := forL_tbl (v := 3) (b := b_law_2) (f := fun j : Nat => D.int (j : Int)) (fun i ρ S => ∃ y3 y5 y6 y7 tk fl, ρ = [some (.scr (ns.map .int)), some (.obj 0), some (.int (m : Int)), y3, some (.dct (tkD tk)), y5, y6, y7] ∧ S = [(hR m fl).ob 0] ∧ FlOk m fl ∧ Jt m fl tk ∧ tk.length ≤ i) (m := q) (ρ := [some (.scr (ns.map .int)), some (.obj 0), some (.int (m : Int)), y3, some (.dct []), none, none, none]) (S := [(hR m fun _ _ => 0).ob 0]) ⟨y3, none, none, none, [], fun _ _ => 0, rfl, rfl, ⟨fun _ _ => rb_zero 110 (by decide), fun _ _ => by decide, fun _ _ => by grind, fun _ => rfl⟩, fun i j _ _ => by simp, Nat.le_refl 0⟩ (by
    rintro i hi ρ S ⟨y3, y5, y6, y7, tk, fl, rfl, rfl, ok, J, hl⟩
    obtain ⟨z5, z6, z7, tk', fl', ok', J', hl', e⟩ := turn_69 (ns := ns) m1 m4 (k := i) (by omega) ok J hl y5 y6 y7
    exact ⟨_, _, e, _, _, _, _, tk', fl', rfl, rfl, ok', J', hl'⟩)
  have er := right_eq (S := [(hR m fl).ob 0]) (n := 0) rfl (good_hR m4 ok) m1 J.tc
  have en : eMake 0 f_Hold____init__ [.int 4, .int 0, .int 0] lNil [some (.scr (ns.map .int)), none, none, none, none, none, none, none] [] = .ok (.obj 0) [(hR 0 fun _ _ => 0).ob 0] := eMake_at (c := 0) (Φ := f_Hold____init__) (dd := [.int 4, .int 0, .int 0]) (as := lNil) (ρ := [some (.scr (ns.map .int)), none, none, none, none, none, none, none]) (S := []) (S1 := []) (ds := []) (o := [none, none, none, none]) (S2 := [(hR 0 fun _ _ => 0).ob 0]) rfl en
  rw [← rangeL_tbl] at e1 e2
  have r1 : ∀ S, rgK1 [.int (m : Int)] S = .ok (rangeL 0 (m : Int)) S := fun S => rgK1_int (by omega)
  have r2 : ∀ S, rgK1 [.int (q : Int)] S = .ok (rangeL 0 (q : Int)) S := fun S => rgK1_int (by omega)
  unfold f_law m_law
  generalize hN : eMake 0 f_Hold____init__ [.int 4, .int 0, .int 0] lNil = N at en
  have ec : ∀ S, f__law_cell_at [.scr (ns.map .int), .int 0] S = .ok (.int (cellAt ns 0)) [none, none] S := ec
  (repeat (first | simp only [en, ec, em, r1, e1, eq, r2, e2, er] | walk_at "gs"))
  exact ⟨_, _, rfl⟩
end K69

namespace K69
open PySem PySem.Spec PyProof.Rows L2 Q
set_option maxHeartbeats 0 in
theorem law_mk {l : PySem.W.OpenLaw} {w : World} {K : PySem.W.Frag} {h : Heap} {mg : Str → Option Value} {fa : Addr} (X : K.In h) (G : h.Ns mainGlobals mg) (hfa : mg "law" = some (.ref fa)) (c : Q.SaysH hck hfn K)
    : ∃ fd : FuncData, (∀ (s : Shared) (v : Value), BindsTo s fd ⟨[v], []⟩ [("_law_script", v)]) ∧ ∀ base : Heap, K.In base → base.Ns mainGlobals mg → FnOk l.prog w K mg base (L2.CX l.prog w) 12 fa fd ["_law_script"] (spLaw K) := by
  have hc := c.chk
  obtain ⟨hg0, hc⟩ := He.ba hc
  have hg0 := of_decide_eq_true hg0
  obtain ⟨hg1, hc⟩ := He.ba hc
  have hg1 := of_decide_eq_true hg1
  have hg2 := hc
  have hg2 := of_decide_eq_true hg2
  obtain ⟨d1, F1⟩ := c.def_ 0 (d := hd1) (by kernel_rfl)
  have F1 := fun_of (st := s_is_bound) F1
  obtain ⟨d2, F2⟩ := c.def_ 1 (d := hd2) (by kernel_rfl)
  obtain ⟨d3, F3⟩ := c.def_ 2 (d := hd3) (by kernel_rfl)
  have F3 := fun_of (st := s_Hold__many) F3
  obtain ⟨d4, F4⟩ := c.def_ 3 (d := hd4) (by kernel_rfl)
  have F4 := fun_of (st := s_under) F4
  obtain ⟨d5, F5⟩ := c.def_ 4 (d := hd5) (by kernel_rfl)
  have F5 := fun_of (st := s_Hold__ask_room) F5
  obtain ⟨d6, F6⟩ := c.def_ 5 (d := hd6) (by kernel_rfl)
  have F6 := fun_of (st := s_divisor) F6
  obtain ⟨d7, F7⟩ := c.def_ 6 (d := hd7) (by kernel_rfl)
  have F7 := fun_of (st := s_fraction) F7
  obtain ⟨d8, F8⟩ := c.def_ 7 (d := hd8) (by kernel_rfl)
  have F8 := fun_of (st := s_minus) F8
  obtain ⟨d9, F9⟩ := c.def_ 8 (d := hd9) (by kernel_rfl)
  have F9 := fun_of (st := s_plus) F9
  obtain ⟨d10, F10⟩ := c.def_ 9 (d := hd10) (by kernel_rfl)
  have F10 := fun_of (st := s_Hold__taken_share) F10
  obtain ⟨d11, F11⟩ := c.def_ 10 (d := hd11) (by kernel_rfl)
  have F11 := fun_of (st := s_Hold__share) F11
  obtain ⟨d12, F12⟩ := c.def_ 11 (d := hd12) (by kernel_rfl)
  have F12 := fun_of (st := s_is_touching) F12
  obtain ⟨d13, F13⟩ := c.def_ 12 (d := hd13) (by kernel_rfl)
  have F13 := fun_of (st := s_part_by) F13
  obtain ⟨d14, F14⟩ := c.def_ 13 (d := hd14) (by kernel_rfl)
  have F14 := fun_of (st := s_parts_of) F14
  obtain ⟨d15, F15⟩ := c.def_ 14 (d := hd15) (by kernel_rfl)
  have F15 := fun_of (st := s__law_parts) F15
  obtain ⟨d16, F16⟩ := c.def_ 15 (d := hd16) (by kernel_rfl)
  have F16 := fun_of (st := s__law_right) F16
  obtain ⟨d17, F17⟩ := c.def_ 16 (d := hd17) (by kernel_rfl)
  have F17 := fun_of (st := s_do_rise) F17
  obtain ⟨d18, F18⟩ := c.def_ 17 (d := hd18) (by kernel_rfl)
  have F18 := fun_of (st := s_Hold__put_room) F18
  obtain ⟨d19, F19⟩ := c.def_ 18 (d := hd19) (by kernel_rfl)
  have F19 := fun_of (st := s__law_cell_at) F19
  obtain ⟨d20, F20⟩ := c.def_ 19 (d := hd20) (by kernel_rfl)
  have F20 := fun_of (st := s_Hold__put_flow) F20
  obtain ⟨d21, F21⟩ := c.def_ 20 (d := hd21) (by kernel_rfl)
  have F21 := fun_of (st := s__law_part) F21
  obtain ⟨d22, F22⟩ := c.def_ 21 (d := hd22) (by kernel_rfl)
  have F22 := fun_of (st := s__law_share) F22
  obtain ⟨d23, F23⟩ := c.def_ 22 (d := hd23) (by kernel_rfl)
  have F23 := fun_of (st := s_law) F23
  obtain ⟨Fx, ea, hb⟩ := facts_mk X G hg0 hg1 hg2 F1 F2 F3 F4 F5 F6 F7 F8 F9 F10 F11 F12 F13 F14 F15 F16 F17 F18 F19 F20 F21 F22 F23
  have e := hfa.symm.trans Fx.g_law
  cases e
  exact ⟨Fx.d_law, hb, fun base _ _ => law_ok (T := th l.prog w Fx) (ok_law Fx) law_eq⟩
end K69
open PySem PySem.W PyProof.Rows
set_option maxRecDepth 100000 in
set_option maxHeartbeats 0 in
theorem PySem.Challenge.cw_stoke_k69_parts_of_a_hold_holds : PySem.Challenge.rw_stoke_k69_parts_of_a_hold.Holds := by
  w_on; o_law
  refine HandSHeadRun.head_any (r := OpenLaw.row PySem.Challenge.rw_stoke_k69_parts_of_a_hold) (q := view (OpenLaw.row PySem.Challenge.rw_stoke_k69_parts_of_a_hold).prog [33]) (H := K69.hk) (ob := K69.hob) (M := 12000) (loose := K69.hnm) (d := HandSHeadRun.topDef (OpenLaw.row PySem.Challenge.rw_stoke_k69_parts_of_a_hold).prog 33) (kwd := []) K69.hob_eq
    (by kernel_rfl) (fun s => by kernel_rfl) K69.hrun (by kernel_rfl) (by kernel_rfl) (by kernel_rfl) (by rfl) (by first | assumption | decide +kernel) (by decide +kernel) ⟨rfl, rfl, rfl, rfl, rfl, by decide +kernel⟩ ?hw ?hc
  case hw => w_witness2
  case hc =>
    refine Q.walk_ofBE (l := PySem.Challenge.rw_stoke_k69_parts_of_a_hold) (n := 63) (k := 12) (x := "_law_script") (CX := fun w => L2.CX PySem.Challenge.rw_stoke_k69_parts_of_a_hold.prog w) (sp := fun K => Q.spLaw K) rfl (by decide) (by kernel_rfl) ⟨rfl, by decide, by decide⟩ ?F (fun K H a ns h1 h2 _ h3 => Q.law_sp K H a ns h1 h2 h3) (fun w H s e s' h => Q.law_cx PySem.Challenge.rw_stoke_k69_parts_of_a_hold.prog w H s e s' h)
    intro w mg fa h Y G hmg0
    obtain ⟨K, KX, c⟩ := Y
    have hmg : mg ("law" : PySem.Str) = some (.ref fa) := by
      have e : (HandSHeadRun.topDef (OpenLaw.row PySem.Challenge.rw_stoke_k69_parts_of_a_hold).prog 33).name = ("law" : PySem.Str) := by kernel_rfl
      rw [← e]
      exact hmg0
    exact ⟨K, KX, K69.law_mk KX G hmg c⟩
