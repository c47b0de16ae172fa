import PyProof.Rows.All
import Wide.All
import OpenK.AllK
import Wide.FinOn
import HandS.ForMost
import HandS.ForExc
import HandS.Wide
import HandS.Dict
import KE.KeyNested
import HandS.Text
import HandS.TupAny
import KE.IntBitsLaws
import HandS.TupMul
import HandS.IsInst
import HandS.ExcIs
import HandS.EndBits
import HandS.SetFor
import HandS.SortInts
import HandS.Replace
import HandS.StrMore
import HandS.WideBits
import Wide.Txt
import KE.IntTextLaws
import HandS.Defaults
import HandS.More
import PyProof.SeqI3
import KE.KStateDown
import HandS.Head0
import HandS.Head1
import HandS.Head2
import HandS.HeadHook1
import HandS.HeadHook2
import PySem.Challenge.RW_stoke_k04_parts_of_bits
set_option Elab.async false
set_option linter.all false
set_option maxRecDepth 100000
/-! The value layer: data by value, what stands for them on the heap, who may write where. -/
namespace Q
open PySem PySem.Spec PyProof.Rows L2
/-- data by value -/
inductive D where
  | non | bl (b : Bool) | int (i : Int) | str (x : Str)
  | tup (l : List D) | lst (l : List D) | scr (l : List D) | dct (l : List (D × D))
  | obj (n : Nat) | fn (k : Nat) (l : List D) | gone (k : Nat)
/-- an own object: its class's number, its fields -/
structure Ob where
  cls : Nat
  fs : List (Str × D)
abbrev Store := List Ob
abbrev Env := List (Option D)
/-- an exception: its class's number, what its fields hold -/
structure Exc where
  cls : Nat
  args : List (Str × D)
/-- what an expression comes to -/
inductive RE where
  | ok (d : D) (S : Store)
  | exc (x : Exc) (S : Store)
  | no
inductive RL where
  | ok (ds : List D) (S : Store)
  | exc (x : Exc) (S : Store)
  | no
/-- what a statement comes to -/
inductive RS where
  | nx (ρ : Env) (S : Store)
  | bk (ρ : Env) (S : Store)
  | ct (ρ : Env) (S : Store)
  | rt (d : D) (ρ : Env) (S : Store)
  | exc (x : Exc) (ρ : Env) (S : Store)
  | no
abbrev FE := Env → Store → RE
abbrev FL := Env → Store → RL
abbrev FS := Env → Store → RS
/-- the fixed part of a program: the written part, the classes' places, how deep a class's field is owned -/
structure Th where
  K : PySem.W.Frag
  pr : Program
  w : World
  cA : Nat → Addr
  /-- so many classes of exceptions -/
  nc : Nat
  fm : Nat → Str → Nat
/-- who may write where, and where the objects stand -/
structure G where
  N : Nat
  μ : Nat → Addr
  /-- others' (callers', pending values') -/
  O : Addr → Prop
  /-- slot i's -/
  F : Nat → Addr → Prop
  /-- the objects' -/
  B : Addr → Prop
  BF : Nat → Str → Addr → Prop
  /-- where a pinned parameter stands -/
  P : Nat → V
/-- what is out of its place for a while -/
def G.Z (g : G) (k : Nat) : V := g.P (1000000 + k)
def G.U (g : G) (a : Addr) : Prop := g.O a ∨ (∃ i, g.F i a) ∨ g.B a
def WrL (K : PySem.W.Frag) (a : Addr) (xs : List V) : Prop := ∃ (o : Obj) (its : Array Value) (n : Nat), K.lookup a = some o ∧ o.cls = .type "list" ∧ o.dict = none ∧ o.data = .seq its n ∧ its.size ≤ sizeLine ∧ Vals xs its.toList
def WrT (K : PySem.W.Frag) (a : Addr) (xs : List V) : Prop := ∃ (o : Obj) (its : Array Value) (n : Nat), K.lookup a = some o ∧ o.cls = .type "tuple" ∧ o.data = .seq its n ∧ its.size ≤ sizeLine ∧ Vals xs its.toList
def LkL (K : PySem.W.Frag) (U : Addr → Prop) (H : Hp) (a : Addr) (xs : List V) : Prop := (Rd H a (.lst xs) ∧ ¬ U a) ∨ WrL K a xs
def LkT (K : PySem.W.Frag) (U : Addr → Prop) (H : Hp) (a : Addr) (xs : List V) : Prop := (Rd H a (.tup xs) ∧ ¬ U a) ∨ WrT K a xs
theorem LkL.sq {K : PySem.W.Frag} {U : Addr → Prop} {H : Hp} {a : Addr} {xs : List V} (h : LkL K U H a xs) : SqL K H a xs := h.imp (·.1) id
theorem LkT.sq {K : PySem.W.Frag} {U : Addr → Prop} {H : Hp} {a : Addr} {xs : List V} (h : LkT K U H a xs) : SqT K H a xs := h.imp (·.1) id

mutual
/-- data as a key -/
def nk : D → Option PySem.NestedKey
  | .non => some .none
  | .bl b => some (.num (if b = true then 1 else 0))
  | .int i => some (.num i)
  | .str x => some (.text x)
  | .tup l => (nkL l).map .tup
  | _ => none
def nkL : List D → Option (List PySem.NestedKey)
  | [] => some []
  | d :: r => match nk d, nkL r with
    | some k, some ks => some (k :: ks)
    | _, _ => none
end
/-- the dict at a, its keys tuples -/
def dN (P : Program) (w : World) (a : Addr) (ps : List (PySem.NestedKey × Addr × V)) : HO := .ext fun h => ps.length ≤ sizeLine ∧ (a == sysModules) = false ∧ ∃ (o : Obj) (es : Array DictEntry) (ep : Nat) (xs : List (PySem.NestedKey × Addr × Value)), h.get? a = some o ∧ o.ExactDict ∧ o.data = .dict es ep ∧ es.toList = xs.map (PySem.entryOfKey (PySem.nestedKind P w)) ∧ (xs.map (·.1)).Nodup ∧
  Paired (fun (p : PySem.NestedKey × Addr × V) (x : PySem.NestedKey × Addr × Value) => p.1 = x.1 ∧ p.2.1 = x.2.1 ∧ RelV p.2.2 x.2.2) ps xs
/-- a dict's places: of keys that are ints and texts, or tuples -/
def DRep (T : Th) (H : Hp) (a : Addr) (l : List (D × D)) (kvs : List (V × V)) : Prop :=
  (∃ ks : List (Key × V), H a = some (.dK ks) ∧ kvs = ks.map fun p => (kV p.1, p.2)) ∨
  (∃ ps : List (PySem.NestedKey × Addr × V), H a = some (dN T.pr T.w a ps) ∧ kvs = (ps.map fun p => (V.ref p.2.1, p.2.2)) ∧ ps.map (fun p => some p.1) = (l.map fun p => nk p.1) ∧ ps ≠ [] ∧ ∀ p ∈ ps, p.1.depth ≤ 8)
theorem DRep.at {T : Th} {H H' : Hp} {a : Addr} {l : List (D × D)} {kvs : List (V × V)} (h : DRep T H a l kvs) (k : ∀ o, H a = some o → H' a = some o) : DRep T H' a l kvs := by
  rcases h with ⟨ks, h1, h2⟩ | ⟨ps, h1, h2, h3⟩
  · exact .inl ⟨ks, k _ h1, h2⟩
  · exact .inr ⟨ps, k _ h1, h2, h3⟩
/-- keys that are ints and texts -/
def flatKs (l : List (D × D)) : Bool := l.all fun p => match p.1 with
  | .int _ => true
  | .str _ => true
  | _ => false
theorem DRep.there {T : Th} {H : Hp} {a : Addr} {l : List (D × D)} {kvs : List (V × V)} (h : DRep T H a l kvs) : ∃ o, H a = some o := by
  rcases h with ⟨ks, h1, h2⟩ | ⟨ps, h1, h2, h3⟩
  · exact ⟨_, h1⟩
  · exact ⟨_, h1⟩

mutual
def Shr (T : Th) (g : G) (H : Hp) : D → V → Prop
  | .non, v => v = .non
  | .bl b, v => v = .bl b
  | .int i, v => v = .int i
  | .str x, v => v = .str x
  | .tup l, v => ∃ a vs, v = .ref a ∧ LkT T.K g.U H a vs ∧ ShrL T g H l vs
  | .lst l, v => ∃ a vs, v = .ref a ∧ (H a = some (.lst vs) ∧ ¬ g.U a) ∧ ShrL T g H l vs
  | .scr l, v => ∃ a vs, v = .ref a ∧ LkL T.K g.U H a vs ∧ ShrL T g H l vs
  | .dct l, v => ∃ a kvs, v = .ref a ∧ (DRep T H a l kvs ∧ ¬ g.U a) ∧ ShrK T g H l kvs
  | .obj n, v => n < g.N ∧ v = .ref (g.μ n)
  | .fn _ _, _ => False
  | .gone _, _ => False
def ShrL (T : Th) (g : G) (H : Hp) : List D → List V → Prop
  | [], vs => vs = []
  | d :: ds, vs => ∃ v ws, vs = v :: ws ∧ Shr T g H d v ∧ ShrL T g H ds ws
def ShrK (T : Th) (g : G) (H : Hp) : List (D × D) → List (V × V) → Prop
  | [], vs => vs = []
  | (k, d) :: ds, vs => ∃ u v ws, vs = (u, v) :: ws ∧ Shr T g H k u ∧ Shr T g H d v ∧ ShrK T g H ds ws
end

/-- what was shared stays so -/
structure Stay (g : G) (H : Hp) (g' : G) (H' : Hp) : Prop where
  keep : ∀ a o, H a = some o → ¬ g.U a → H' a = some o
  own : ∀ a, g'.U a → g.U a ∨ H a = none
  N : g.N ≤ g'.N
  μ : ∀ n, n < g.N → g'.μ n = g.μ n
  Z : g'.Z = g.Z
theorem Stay.refl (g : G) (H : Hp) : Stay g H g H := ⟨fun _ _ h _ => h, fun _ h => .inl h, Nat.le_refl _, fun _ _ => rfl, rfl⟩
theorem Stay.off {g : G} {H : Hp} {g' : G} {H' : Hp} (s : Stay g H g' H') {a : Addr} {o : HO} (h : H a = some o) (hu : ¬ g.U a) : ¬ g'.U a := fun z => by
  rcases s.own a z with z | z
  · exact hu z
  · rw [h] at z; cases z
theorem Stay.rd {g : G} {H : Hp} {g' : G} {H' : Hp} (s : Stay g H g' H') {a : Addr} {u : HO} (h : Rd H a u) (hu : ¬ g.U a) : Rd H' a u ∧ ¬ g'.U a := by
  rcases h with h | ⟨o, h⟩
  · exact ⟨.inl (s.keep a _ h hu), s.off h hu⟩
  · exact ⟨.inr ⟨o, s.keep a _ h hu⟩, s.off h hu⟩
theorem Stay.trans {g g1 g2 : G} {H H1 H2 : Hp} (a : Stay g H g1 H1) (b : Stay g1 H1 g2 H2) : Stay g H g2 H2 where
  keep := fun x o h hu => b.keep x o (a.keep x o h hu) (a.off h hu)
  own := fun x h => by
    rcases b.own x h with h | h
    · exact a.own x h
    · cases e : H x with
      | none => exact .inr rfl
      | some o =>
        by_cases hu : g.U x
        · exact .inl hu
        · have := a.keep x o e hu
          rw [h] at this; cases this
  N := Nat.le_trans a.N b.N
  μ := fun n h => (b.μ n (Nat.lt_of_lt_of_le h a.N)).trans (a.μ n h)
  Z := b.Z.trans a.Z
section
variable {T : Th} {g g' : G} {H H' : Hp}
mutual
theorem Shr.stay (s : Stay g H g' H') : ∀ (d : D) (v : V), Shr T g H d v → Shr T g' H' d v
  | .non, _, h => by simpa only [Shr] using h
  | .bl _, _, h => by simpa only [Shr] using h
  | .int _, _, h => by simpa only [Shr] using h
  | .str _, _, h => by simpa only [Shr] using h
  | .tup l, v, h => by
    simp only [Shr] at h ⊢
    obtain ⟨a, vs, e, q, r⟩ := h
    exact ⟨a, vs, e, q.imp (fun z => s.rd z.1 z.2) id, ShrL.stay s l vs r⟩
  | .lst l, v, h => by
    simp only [Shr] at h ⊢
    obtain ⟨a, vs, e, q, r⟩ := h
    exact ⟨a, vs, e, ⟨s.keep _ _ q.1 q.2, s.off q.1 q.2⟩, ShrL.stay s l vs r⟩
  | .scr l, v, h => by
    simp only [Shr] at h ⊢
    obtain ⟨a, vs, e, q, r⟩ := h
    exact ⟨a, vs, e, q.imp (fun z => s.rd z.1 z.2) id, ShrL.stay s l vs r⟩
  | .dct l, v, h => by
    simp only [Shr] at h ⊢
    obtain ⟨a, vs, e, q, r⟩ := h
    obtain ⟨o, h0⟩ := q.1.there
    exact ⟨a, vs, e, ⟨q.1.at fun o h => s.keep _ _ h q.2, s.off h0 q.2⟩, ShrK.stay s l vs r⟩
  | .obj n, v, h => by
    simp only [Shr] at h ⊢
    exact ⟨Nat.lt_of_lt_of_le h.1 s.N, by rw [s.μ n h.1]; exact h.2⟩
  | .fn _ _, v, h => by simp only [Shr] at h
  | .gone _, v, h => by simp only [Shr] at h
theorem ShrL.stay (s : Stay g H g' H') : ∀ (ds : List D) (vs : List V), ShrL T g H ds vs → ShrL T g' H' ds vs
  | [], _, h => by simpa only [ShrL] using h
  | d :: ds, vs, h => by
    simp only [ShrL] at h ⊢
    obtain ⟨v, ws, e, q, r⟩ := h
    exact ⟨v, ws, e, Shr.stay s d v q, ShrL.stay s ds ws r⟩
theorem ShrK.stay (s : Stay g H g' H') : ∀ (ds : List (D × D)) (vs : List (V × V)), ShrK T g H ds vs → ShrK T g' H' ds vs
  | [], _, h => by simpa only [ShrK] using h
  | (k, d) :: ds, vs, h => by
    simp only [ShrK] at h ⊢
    obtain ⟨u, v, ws, e, p, q, r⟩ := h
    exact ⟨u, v, ws, e, Shr.stay s k u p, Shr.stay s d v q, ShrK.stay s ds ws r⟩
end
end
section
variable {T : Th} {g : G} {H : Hp}
theorem ShrL.length : ∀ {ds : List D} {vs : List V}, ShrL T g H ds vs → ds.length = vs.length
  | [], _, h => by simp only [ShrL] at h; subst h; rfl
  | d :: ds, vs, h => by
    simp only [ShrL] at h
    obtain ⟨v, ws, rfl, _, r⟩ := h
    simp only [List.length_cons, ShrL.length r]
theorem ShrL.get : ∀ {ds : List D} {vs : List V} {i : Nat} {d : D}, ShrL T g H ds vs → ds[i]? = some d → ∃ v, vs[i]? = some v ∧ Shr T g H d v
  | [], _, _, _, _, e => by simp at e
  | d :: ds, vs, i, d', h, e => by
    simp only [ShrL] at h
    obtain ⟨v, ws, rfl, q, r⟩ := h
    cases i with
    | zero => simp at e; subst e; exact ⟨v, rfl, q⟩
    | succ i =>
      obtain ⟨w, h1, h2⟩ := ShrL.get (i := i) r (by simpa using e)
      exact ⟨w, by simpa using h1, h2⟩
theorem ShrL.of {ds : List D} {vs : List V} (hl : ds.length = vs.length) (h : ∀ (i : Nat) d v, ds[i]? = some d → vs[i]? = some v → Shr T g H d v) : ShrL T g H ds vs := by
  induction ds generalizing vs with
  | nil =>
    simp only [ShrL]
    cases vs with
    | nil => rfl
    | cons _ _ => simp at hl
  | cons d ds ih =>
    cases vs with
    | nil => simp at hl
    | cons v vs =>
      simp only [ShrL]
      exact ⟨v, vs, rfl, h 0 d v rfl rfl, ih (by simpa using hl) fun i a b p q => h (i + 1) a b (by simpa using p) (by simpa using q)⟩
theorem ShrL.append {ds es : List D} {vs ws : List V} (h : ShrL T g H ds vs) (h' : ShrL T g H es ws) : ShrL T g H (ds ++ es) (vs ++ ws) := by
  induction ds generalizing vs with
  | nil => simp only [ShrL] at h; subst h; exact h'
  | cons d ds ih =>
    simp only [ShrL] at h
    obtain ⟨v, us, rfl, q, r⟩ := h
    show ShrL T g H (d :: (ds ++ es)) (v :: (us ++ ws))
    simp only [ShrL]
    exact ⟨v, _, rfl, q, ih r⟩
theorem ShrL.nil : ShrL T g H [] [] := by simp only [ShrL]
theorem ShrL.cons {d : D} {v : V} {ds : List D} {vs : List V} (h : Shr T g H d v) (r : ShrL T g H ds vs) : ShrL T g H (d :: ds) (v :: vs) := by
  simp only [ShrL]; exact ⟨v, vs, rfl, h, r⟩
theorem ShrL.take {ds : List D} {vs : List V} (n : Nat) (h : ShrL T g H ds vs) : ShrL T g H (ds.take n) (vs.take n) := by
  refine .of (by rw [List.length_take, List.length_take, h.length]) fun i d v e1 e2 => ?_
  rw [List.getElem?_take] at e1 e2
  split at e1
  · rename_i hi
    rw [if_pos hi] at e2
    obtain ⟨w, h1, h2⟩ := h.get e1
    rw [e2] at h1; cases h1
    exact h2
  · cases e1
theorem ShrL.drop {ds : List D} {vs : List V} (n : Nat) (h : ShrL T g H ds vs) : ShrL T g H (ds.drop n) (vs.drop n) := by
  refine .of (by rw [List.length_drop, List.length_drop, h.length]) fun i d v e1 e2 => ?_
  rw [List.getElem?_drop] at e1 e2
  obtain ⟨w, h1, h2⟩ := h.get e1
  rw [e2] at h1; cases h1
  exact h2
end
section
variable {T : Th} {g : G} {H : Hp}
theorem ShrK.length : ∀ {ds : List (D × D)} {vs : List (V × V)}, ShrK T g H ds vs → ds.length = vs.length
  | [], _, h => by simp only [ShrK] at h; subst h; rfl
  | (k, d) :: ds, vs, h => by
    simp only [ShrK] at h
    obtain ⟨u, v, ws, rfl, _, _, r⟩ := h
    simp only [List.length_cons, ShrK.length r]
theorem ShrK.get : ∀ {ds : List (D × D)} {vs : List (V × V)} {i : Nat} {d : D × D}, ShrK T g H ds vs → ds[i]? = some d → ∃ w : V × V, vs[i]? = some w ∧ Shr T g H d.1 w.1 ∧ Shr T g H d.2 w.2
  | [], _, _, _, _, e => by simp at e
  | (k, d) :: ds, vs, i, d', h, e => by
    simp only [ShrK] at h
    obtain ⟨u, v, ws, rfl, p, q, r⟩ := h
    cases i with
    | zero => simp at e; subst e; exact ⟨(u, v), rfl, p, q⟩
    | succ i =>
      obtain ⟨w, h1, h2⟩ := ShrK.get (i := i) r (by simpa using e)
      exact ⟨w, by simpa using h1, h2⟩
theorem ShrK.of {ds : List (D × D)} {vs : List (V × V)} (hl : ds.length = vs.length) (h : ∀ (i : Nat) (d : D × D) (v : V × V), ds[i]? = some d → vs[i]? = some v → Shr T g H d.1 v.1 ∧ Shr T g H d.2 v.2) : ShrK T g H ds vs := by
  induction ds generalizing vs with
  | nil =>
    simp only [ShrK]
    cases vs with
    | nil => rfl
    | cons _ _ => simp at hl
  | cons d ds ih =>
    cases vs with
    | nil => simp at hl
    | cons v vs =>
      obtain ⟨k, d⟩ := d
      obtain ⟨u, v⟩ := v
      simp only [ShrK]
      obtain ⟨h1, h2⟩ := h 0 (k, d) (u, v) rfl rfl
      exact ⟨u, v, vs, rfl, h1, h2, ih (by simpa using hl) fun i a b p q => h (i + 1) a b (by simpa using p) (by simpa using q)⟩
end
theorem drep_flat {T : Th} {g : G} {H : Hp} {a : Addr} {l : List (D × D)} {kvs : List (V × V)} (h : DRep T H a l kvs) (s : ShrK T g H l kvs) (f : flatKs l = true) : ∃ ks : List (Key × V), H a = some (.dK ks) ∧ kvs = ks.map fun p => (kV p.1, p.2) := by
  rcases h with h | ⟨ps, h1, h2, h3, h4, _⟩
  · exact h
  · exfalso
    cases ps with
    | nil => exact h4 rfl
    | cons p ps =>
      subst h2
      cases l with
      | nil => simp at h3
      | cons d l =>
        obtain ⟨k, d⟩ := d
        simp only [List.map_cons, ShrK] at s
        obtain ⟨u, v, ws, e, q, _⟩ := s
        cases e
        unfold flatKs at f
        rw [List.all_cons, Bool.and_eq_true] at f
        have f := f.1
        cases k <;> simp only [Shr] at q <;> first | (cases q; done) | (dsimp only at f; cases f)
/-- the owned form, k levels of it: F's to write -/
def Own (T : Th) (g : G) (H : Hp) : Nat → (Addr → Prop) → D → V → Prop
  | k + 1, F, .lst l, v => ∃ p vs, v = .ref p ∧ F p ∧ H p = some (.lst vs) ∧ l.length = vs.length ∧ ∃ Gs : Nat → Addr → Prop, (∀ j q, Gs j q → F q ∧ q ≠ p) ∧ (∀ i j q, Gs i q → Gs j q → i = j) ∧ ∀ (j : Nat) d w, l[j]? = some d → vs[j]? = some w → Own T g H k (Gs j) d w
  | k + 1, F, .dct l, v => ∃ p vs, v = .ref p ∧ F p ∧ DRep T H p l vs ∧ l.length = vs.length ∧ ∃ Gs : Nat → Addr → Prop, (∀ j q, Gs j q → F q ∧ q ≠ p) ∧ (∀ i j q, Gs i q → Gs j q → i = j) ∧ ∀ (j : Nat) (d : D × D) (w : V × V), l[j]? = some d → vs[j]? = some w → Shr T g H d.1 w.1 ∧ Own T g H k (Gs j) d.2 w.2
  | _, _, d, v => Shr T g H d v
inductive Md where

  | s | o (k : Nat) | r (k : Nat) | p (k : Nat) | e (v : V) | l
/-- .. but for what others may write -/
def G.bare (g : G) : G := { g with O := fun _ => False }
def RepM (T : Th) (g : G) (H : Hp) (i : Nat) : Md → D → V → Prop
  | .s, d, v => Shr T g H d v
  | .o k, d, v => Own T g H k (g.F i) d v
  | .r k, d, v => Own T g H k g.O d v
  | .p k, d, v => v = g.P i ∧ Own T g H k (g.F i) d v
  | .e w, _, v => v = w
  | .l, d, v => Shr T g.bare H d v
/-- the objects -/
structure SR (T : Th) (g : G) (S : Store) (H : Hp) : Prop where
  N : g.N = S.length
  inj : ∀ m n, m < g.N → n < g.N → g.μ m = g.μ n → m = n
  mB : ∀ n, n < g.N → g.B (g.μ n)
  bB : ∀ n f a, g.BF n f a → g.B a ∧ ∀ m, m < g.N → a ≠ g.μ m
  bd : ∀ n f m e a, g.BF n f a → g.BF m e a → n = m ∧ f = e
  nd : ∀ (n : Nat) (o : Ob), S[n]? = some o → (o.fs.map (·.1)).Nodup
  ob : ∀ n o, S[n]? = some o → ∃ dx fs, H (g.μ n) = some (.ins (T.cA o.cls) dx fs) ∧ fs.map (·.1) = o.fs.map (·.1) ∧ ∀ (j : Nat) (d : Str × D) (w : Str × V), o.fs[j]? = some d → fs[j]? = some w → Own T g H (T.fm o.cls d.1) (g.BF n d.1) d.2 w.2
structure Rel (T : Th) (g : G) (Γ : List Md) (ρ : Env) (S : Store) (σ : L2.St) (H : Hp) : Prop where
  len : ρ.length = σ.length
  slot : ∀ (i : Nat) d, ρ[i]? = some (some d) → ∃ v, σ[i]? = some (some v) ∧ RepM T g H i (Γ.getD i .s) d v
  dF : ∀ i j a, g.F i a → g.F j a → i = j
  dFO : ∀ i a, g.F i a → ¬ g.O a
  dFB : ∀ i a, g.F i a → ¬ g.B a
  dOB : ∀ a, g.O a → ¬ g.B a
  dom : ∀ a, g.U a → ∃ o, H a = some o
  st : SR T g S H
  /-- what may be written is no tuple -/
  nt : ∀ a, g.U a → ∀ u, ¬ Rd H a (.tup u)
end Q

/-! What expressions come to. -/
namespace Q
open PySem PySem.Spec PyProof.Rows L2
abbrev Exx (H H' : Hp) : Prop := ∀ a o, H a = some o → H' a = some o
theorem Exx.nt {H H' : Hp} {U : Addr → Prop} (dm : ∀ a, U a → ∃ o, H a = some o) (nt : ∀ a, U a → ∀ u, ¬ Rd H a (.tup u)) (e : Exx H H') : ∀ a, U a → ∀ u, ¬ Rd H' a (.tup u) := fun a h u r => by
  obtain ⟨o, q⟩ := dm a h
  have q' := e a o q
  refine nt a h u (r.imp (fun z => ?_) fun ⟨b, z⟩ => ⟨b, ?_⟩)
  · rw [q'] at z; cases z; exact q
  · rw [q'] at z; cases z; exact q
theorem Exx.refl (H : Hp) : Exx H H := fun _ _ h => h
theorem Exx.new {H : Hp} {p : Addr} {o : HO} (h : H p = none) : Exx H (upd H p o) := fun a u e => by
  rw [upd_ne (ne_of_none e h)]; exact e
theorem Exx.trans {H H1 H2 : Hp} (a : Exx H H1) (b : Exx H1 H2) : Exx H H2 := fun x o h => b x o (a x o h)
section
variable {T : Th} {g g' : G} {H H' : Hp}
theorem Stay.ex (e : Exx H H') : Stay g H g H' := ⟨fun a o h _ => e a o h, fun _ h => .inl h, Nat.le_refl _, fun _ _ => rfl, rfl⟩
/-- the owned form stands where all that was tracked stands -/
theorem Own.keep (st : Stay g H g' H') (ke : ∀ (F : Addr → Prop) a o, F a → H a = some o → H' a = some o) : ∀ (k : Nat) (F : Addr → Prop) (d : D) (v : V), Own T g H k F d v → Own T g' H' k F d v := by
  intro k
  induction k with
  | zero =>
    intro F d v h
    simp only [Own] at h ⊢
    exact h.stay st
  | succ k ih =>
    intro F d v h
    cases d with
    | lst l =>
      simp only [Own] at h ⊢
      obtain ⟨p, vs, e, hF, hH, hl, Gs, h1, h2, h3⟩ := h
      exact ⟨p, vs, e, hF, ke F p _ hF hH, hl, Gs, h1, h2, fun j d w a b => ih (Gs j) d w (h3 j d w a b)⟩
    | dct l =>
      simp only [Own] at h ⊢
      obtain ⟨p, vs, e, hF, hH, hl, Gs, h1, h2, h3⟩ := h
      exact ⟨p, vs, e, hF, hH.at fun o z => ke F p o hF z, hl, Gs, h1, h2, fun j d w a b => ⟨(h3 j d w a b).1.stay st, ih (Gs j) d.2 w.2 (h3 j d w a b).2⟩⟩
    | _ => simp only [Own] at h ⊢; exact h.stay st
/-- .. where what F may write stands -/
theorem Own.keepF (st : Stay g H g' H') : ∀ (k : Nat) (F : Addr → Prop) (d : D) (v : V), (∀ a o, F a → H a = some o → H' a = some o) → Own T g H k F d v → Own T g' H' k F d v := by
  intro k
  induction k with
  | zero =>
    intro F d v ke h
    simp only [Own] at h ⊢
    exact h.stay st
  | succ k ih =>
    intro F d v ke h
    cases d with
    | lst l =>
      simp only [Own] at h ⊢
      obtain ⟨p, vs, e, hF, hH, hl, Gs, h1, h2, h3⟩ := h
      exact ⟨p, vs, e, hF, ke p _ hF hH, hl, Gs, h1, h2, fun j d w a b => ih (Gs j) d w (fun a o z q => ke a o (h1 j a z).1 q) (h3 j d w a b)⟩
    | dct l =>
      simp only [Own] at h ⊢
      obtain ⟨p, vs, e, hF, hH, hl, Gs, h1, h2, h3⟩ := h
      exact ⟨p, vs, e, hF, hH.at fun o z => ke p o hF z, hl, Gs, h1, h2, fun j d w a b => ⟨(h3 j d w a b).1.stay st, ih (Gs j) d.2 w.2 (fun a o z q => ke a o (h1 j a z).1 q) (h3 j d w a b).2⟩⟩
    | _ => simp only [Own] at h ⊢; exact h.stay st
/-- the same at a larger ground -/
theorem Own.wide : ∀ (k : Nat) (F F' : Addr → Prop) (d : D) (v : V), (∀ a, F a → F' a) → Own T g H k F d v → Own T g H k F' d v := by
  intro k F F' d v hf h
  cases k with
  | zero => simpa only [Own] using h
  | succ k =>
    cases d with
    | lst l =>
      simp only [Own] at h ⊢
      obtain ⟨p, vs, e, hF, hH, hl, Gs, h1, h2, h3⟩ := h
      exact ⟨p, vs, e, hf _ hF, hH, hl, Gs, fun j q z => ⟨hf _ (h1 j q z).1, (h1 j q z).2⟩, h2, h3⟩
    | dct l =>
      simp only [Own] at h ⊢
      obtain ⟨p, vs, e, hF, hH, hl, Gs, h1, h2, h3⟩ := h
      exact ⟨p, vs, e, hf _ hF, hH, hl, Gs, fun j q z => ⟨hf _ (h1 j q z).1, (h1 j q z).2⟩, h2, h3⟩
    | _ => simpa only [Own] using h
theorem SR.keep {S : Store} (r : SR T g S H) (st : Stay g H g' H') (ke : ∀ a o, g.B a → H a = some o → H' a = some o) (hN : g'.N = g.N) (hB : g'.B = g.B) (hBF : g'.BF = g.BF) (hμ : ∀ n, n < g.N → g'.μ n = g.μ n) : SR T g' S H' where
  N := hN.trans r.N
  inj := fun m n hm hn e => by
    rw [hN] at hm hn
    rw [hμ m hm, hμ n hn] at e
    exact r.inj m n hm hn e
  mB := fun n hn => by rw [hN] at hn; rw [hμ n hn, hB]; exact r.mB n hn
  bB := fun n f a h => by
    rw [hBF] at h
    rw [hB]
    exact ⟨(r.bB n f a h).1, fun m hm => by rw [hN] at hm; rw [hμ m hm]; exact (r.bB n f a h).2 m hm⟩
  bd := fun n f m e a h h' => by rw [hBF] at h h'; exact r.bd n f m e a h h'
  nd := r.nd
  ob := fun n o e => by
    have hn : n < g.N := by rw [r.N]; exact (List.getElem?_eq_some_iff.mp e).1
    obtain ⟨dx, fs, h1, h2, h3⟩ := r.ob n o e
    refine ⟨dx, fs, ?_, h2, fun j d w a b => ?_⟩
    · rw [hμ n hn]; exact ke _ _ (r.mB n hn) h1
    · rw [hBF]
      exact Own.keepF st _ _ _ _ (fun a o z q => ke a o (r.bB n _ a z).1 q) (h3 j d w a b)
theorem Rel.ex {Γ : List Md} {ρ : Env} {S : Store} {σ : L2.St} (r : Rel T g Γ ρ S σ H) (e : Exx H H') : Rel T g Γ ρ S σ H' where
  len := r.len
  slot := fun i d h => by
    obtain ⟨v, h1, h2⟩ := r.slot i d h
    refine ⟨v, h1, ?_⟩
    cases hm : Γ.getD i .s <;> rw [hm] at h2 <;> simp only [RepM] at h2 ⊢
    · exact h2.stay (.ex e)
    · exact Own.keepF (.ex e) _ _ _ _ (fun a o _ q => e a o q) h2
    · exact Own.keepF (.ex e) _ _ _ _ (fun a o _ q => e a o q) h2
    · exact ⟨h2.1, Own.keepF (.ex e) _ _ _ _ (fun a o _ q => e a o q) h2.2⟩
    · exact h2
    · exact h2.stay (.ex e)
  dF := r.dF
  dFO := r.dFO
  dFB := r.dFB
  dOB := r.dOB
  dom := fun a h => by obtain ⟨o, q⟩ := r.dom a h; exact ⟨o, e a o q⟩
  st := r.st.keep (.ex e) (fun a o _ q => e a o q) rfl rfl rfl fun _ _ => rfl
  nt := e.nt r.dom r.nt
end
theorem G.bare_U {g : G} {a : Addr} (h : g.bare.U a) : g.U a := by
  rcases h with h | h | h
  · exact h.elim
  · exact .inr (.inl h)
  · exact .inr (.inr h)
theorem bare_sub {g g2 : G} {H : Hp} (hN : g.N = g2.N) (hμ : g2.μ = g.μ) (hF : ∀ i a, g2.F i a → ∃ j, g.F j a) (hB : ∀ a, g2.B a → g.B a) (hZ : g2.Z = g.Z := by rfl) : Stay g.bare H g2.bare H := ⟨fun _ _ h _ => h, fun a h => .inl (by
  rcases h with h | ⟨i, h⟩ | h
  · exact h.elim
  · exact .inr (.inl (hF i a h))
  · exact .inr (.inr (hB a h))), by show g.N ≤ g2.N; rw [hN]; exact Nat.le_refl _, fun n _ => by show g2.μ n = g.μ n; rw [hμ], hZ⟩
/-- behind an expression -/
structure FrE (g : G) (H : Hp) (g' : G) (H' : Hp) : Prop where
  keep : ∀ a o, H a = some o → ¬ g.B a → H' a = some o
  B : ∀ a, g'.B a → g.B a ∨ H a = none
  F : g'.F = g.F
  O : g'.O = g.O
  P : g'.P = g.P
  N : g.N ≤ g'.N
  μ : ∀ n, n < g.N → g'.μ n = g.μ n
  dom : ∀ a o, H a = some o → ∃ o', H' a = some o'
section
variable {T : Th} {g g1 g2 : G} {H H1 H2 : Hp}
theorem FrE.refl (g : G) (H : Hp) : FrE g H g H := ⟨fun _ _ h _ => h, fun _ h => .inl h, rfl, rfl, rfl, Nat.le_refl _, fun _ _ => rfl, fun _ o h => ⟨o, h⟩⟩
theorem FrE.ex (e : Exx H H1) : FrE g H g H1 := ⟨fun a o h _ => e a o h, fun _ h => .inl h, rfl, rfl, rfl, Nat.le_refl _, fun _ _ => rfl, fun a o h => ⟨o, e a o h⟩⟩
theorem FrE.Z (f : FrE g H g1 H1) : g1.Z = g.Z := by funext k; show g1.P _ = g.P _; rw [f.P]
theorem FrE.stay (f : FrE g H g1 H1) : Stay g H g1 H1 where
  Z := f.Z
  keep := fun a o h hu => f.keep a o h fun z => hu (.inr (.inr z))
  own := fun a h => by
    rcases h with h | h | h
    · rw [f.O] at h; exact .inl (.inl h)
    · rw [f.F] at h; exact .inl (.inr (.inl h))
    · exact (f.B a h).imp (fun z => .inr (.inr z)) id
  N := f.N
  μ := f.μ
theorem FrE.bare (f : FrE g H g1 H1) : Stay g.bare H g1.bare H1 where
  Z := f.Z
  keep := fun a o h hu => f.keep a o h fun z => hu (.inr (.inr z))
  own := fun a h => by
    rcases h with h | h | h
    · exact h.elim
    · have h : ∃ i, g1.F i a := h
      rw [f.F] at h; exact .inl (.inr (.inl h))
    · exact (f.B a h).imp (fun z => .inr (.inr z)) id
  N := f.N
  μ := f.μ
theorem FrE.trans (a : FrE g H g1 H1) (b : FrE g1 H1 g2 H2) : FrE g H g2 H2 where
  keep := fun x o h hb => b.keep x o (a.keep x o h hb) fun z => by
    rcases a.B x z with z | z
    · exact hb z
    · rw [h] at z; cases z
  B := fun x h => by
    rcases b.B x h with h | h
    · exact a.B x h
    · cases e : H x with
      | none => exact .inr rfl
      | some o =>
        by_cases hb : g.B x
        · exact .inl hb
        · have := a.keep x o e hb
          rw [h] at this; cases this
  F := b.F.trans a.F
  O := b.O.trans a.O
  P := b.P.trans a.P
  N := Nat.le_trans a.N b.N
  μ := fun n h => (b.μ n (Nat.lt_of_lt_of_le h a.N)).trans (a.μ n h)
  dom := fun x o h => by
    obtain ⟨o', h'⟩ := a.dom x o h
    exact b.dom x o' h'
end
/-- an exception's class and own dict -/
def ExcR (T : Th) (g : G) (H : Hp) (x : Exc) (c : Value) (dd : Option Addr) : Prop :=
  x.cls < T.nc ∧ c = .ref (T.cA x.cls) ∧ ((x.args = [] ∧ dd = none) ∨ ∃ d fs, x.args ≠ [] ∧ dd = some d ∧ H d = some (.xd fs) ∧ fs.map (·.1) = x.args.map (·.1) ∧ ShrL T g H (x.args.map (·.2)) (fs.map (·.2)))
def GoodE (T : Th) (W : WX) (Γ : List Md) (ρ : Env) (σ : L2.St) (g : G) (H : Hp) : RE → VK → Prop
  | .ok d S', Q => ∀ v g' H', Rel T g' Γ ρ S' σ H' → FrE g H g' H' → Shr T g' H' d v → Q v H'
  | .exc x S', _ => ∀ c dd g' H', Rel T g' Γ ρ S' σ H' → FrE g H g' H' → ExcR T g' H' x c dd → W c dd σ H'
  | .no, _ => False
def GoodL (T : Th) (W : WX) (Γ : List Md) (ρ : Env) (σ : L2.St) (g : G) (H : Hp) : RL → (List V → Hp → Prop) → Prop
  | .ok d S', Q => ∀ v g' H', Rel T g' Γ ρ S' σ H' → FrE g H g' H' → ShrL T g' H' d v → Q v H'
  | .exc x S', _ => ∀ c dd g' H', Rel T g' Γ ρ S' σ H' → FrE g H g' H' → ExcR T g' H' x c dd → W c dd σ H'
  | .no, _ => False
def GoodT (T : Th) (W : WX) (Γ : List Md) (ρ : Env) (σ : L2.St) (g : G) (H : Hp) : RE → (Bool → Hp → Prop) → Prop
  | .ok d S', Q => ∃ b, d = .bl b ∧ ∀ g' H', Rel T g' Γ ρ S' σ H' → FrE g H g' H' → Q b H'
  | .exc x S', _ => ∀ c dd g' H', Rel T g' Γ ρ S' σ H' → FrE g H g' H' → ExcR T g' H' x c dd → W c dd σ H'
  | .no, _ => False
def tX (T : Th) (W : WX) (Γ : List Md) (F : FE) : TE := fun σ H Q => ∃ g ρ S, Rel T g Γ ρ S σ H ∧ GoodE T W Γ ρ σ g H (F ρ S) Q
def tXL (T : Th) (W : WX) (Γ : List Md) (F : FL) : TA := fun σ H Q => ∃ g ρ S, Rel T g Γ ρ S σ H ∧ GoodL T W Γ ρ σ g H (F ρ S) Q
def tXT (T : Th) (W : WX) (Γ : List Md) (F : FE) : TT := fun σ H Q => ∃ g ρ S, Rel T g Γ ρ S σ H ∧ GoodT T W Γ ρ σ g H (F ρ S) Q
abbrev XE (X : Cx) (T : Th) (W : WX) (Γ : List Md) (e : Expr) (F : FE) : Prop := PE X e (tX T W Γ F)
abbrev XL (X : Cx) (T : Th) (W : WX) (Γ : List Md) (es : List Expr) (F : FL) : Prop := PA X es (tXL T W Γ F)
abbrev XT (X : Cx) (T : Th) (W : WX) (Γ : List Md) (e : Expr) (F : FE) : Prop := PT X e (tXT T W Γ F)
theorem pe_imp {X : Cx} {e : Expr} {t t' : TE} (h : PE X e t) (i : ∀ σ H Q, t' σ H Q → t σ H Q) : PE X e t' := ⟨fun pins s σ H Q I q => h.run pins s σ H Q I (i σ H Q q)⟩
theorem pt_imp {X : Cx} {e : Expr} {t t' : TT} (h : PT X e t) (i : ∀ σ H Q, t' σ H Q → t σ H Q) : PT X e t' := ⟨fun pins s σ H Q I q => h.run pins s σ H Q I (i σ H Q q)⟩
theorem pw_imp {X : Cx} {e : Expr} {t t' : TT} (h : PW X e t) (i : ∀ σ H Q, t' σ H Q → t σ H Q) : PW X e t' := ⟨fun w pins s σ H Q I q => h.run w pins s σ H Q I (i σ H Q q)⟩
theorem pa_imp {X : Cx} {e : List Expr} {t t' : TA} (h : PA X e t) (i : ∀ σ H Q, t' σ H Q → t σ H Q) : PA X e t' := ⟨fun pos pins s σ H Q I q => h.run pos pins s σ H Q I (i σ H Q q)⟩
/-! ### what the readings are, over the data -/
def RE.bind : RE → (D → Store → RE) → RE
  | .ok d S, k => k d S
  | .exc x S, _ => .exc x S
  | .no, _ => .no
def RE.of (S : Store) : Option D → RE
  | some d => .ok d S
  | none => .no
def eC (d : D) : FE := fun _ S => .ok d S
def eVar (i : Nat) : FE := fun ρ S => match ρ[i]? with
  | some (some d) => .ok d S
  | _ => .no
def eOp (h : D → D → Option D) (a b : FE) : FE := fun ρ S => (a ρ S).bind fun x S1 => (b ρ S1).bind fun y S2 => .of S2 (h x y)
def eUn (h : D → Option D) (a : FE) : FE := fun ρ S => (a ρ S).bind fun x S1 => .of S1 (h x)
def lNil : FL := fun _ S => .ok [] S
def lCons (a : FE) (r : FL) : FL := fun ρ S => match a ρ S with
  | .ok x S1 => (match r ρ S1 with
    | .ok xs S2 => .ok (x :: xs) S2
    | .exc x S2 => .exc x S2
    | .no => .no)
  | .exc x S1 => .exc x S1
  | .no => .no
def eL (h : List D → Option D) (a : FL) : FE := fun ρ S => match a ρ S with
  | .ok xs S1 => .of S1 (h xs)
  | .exc x S1 => .exc x S1
  | .no => .no
def eTup (a : FL) : FE := eL (fun ds => if ds.length ≤ 1000000 then some (.tup ds) else none) a
def eLst (a : FL) : FE := eL (fun ds => if ds.length ≤ 1000000 then some (.lst ds) else none) a
def eAnd (a b : FE) : FE := fun ρ S => (a ρ S).bind fun x S1 => match x with
  | .bl true => b ρ S1
  | .bl false => .ok (.bl false) S1
  | _ => .no
def eOr (a b : FE) : FE := fun ρ S => (a ρ S).bind fun x S1 => match x with
  | .bl true => .ok (.bl true) S1
  | .bl false => b ρ S1
  | _ => .no
def eNot (a : FE) : FE := fun ρ S => (a ρ S).bind fun x S1 => match x with
  | .bl b => .ok (.bl (!b)) S1
  | _ => .no
def eIf (c a b : FE) : FE := fun ρ S => (c ρ S).bind fun x S1 => match x with
  | .bl true => a ρ S1
  | .bl false => b ρ S1
  | _ => .no
section
variable {X : Cx} {T : Th} {W : WX} {Γ : List Md}
/-- from a part's reading to the whole's -/
theorem good_bind {ρ : Env} {σ : L2.St} {g : G} {H : Hp} {r : RE} {k : D → Store → RE} {Q Q' : VK} (h : GoodE T W Γ ρ σ g H (r.bind k) Q)
    (hk : ∀ d S v g' H', r = .ok d S → Rel T g' Γ ρ S σ H' → FrE g H g' H' → Shr T g' H' d v → GoodE T W Γ ρ σ g' H' (k d S) Q → Q' v H') : GoodE T W Γ ρ σ g H r Q' := by
  cases r with
  | ok d S =>
    intro v g' H' R f s
    refine hk d S v g' H' rfl R f s ?_
    have h' : GoodE T W Γ ρ σ g H (k d S) Q := h
    cases e : k d S with
    | ok d2 S2 =>
      rw [e] at h'
      exact fun v2 g2 H2 R2 f2 s2 => h' v2 g2 H2 R2 (f.trans f2) s2
    | exc x S2 =>
      rw [e] at h'
      exact fun c dd g2 H2 R2 f2 s2 => h' c dd g2 H2 R2 (f.trans f2) s2
    | no => rw [e] at h'; exact h'
  | exc x S => exact h
  | no => exact h
theorem good_of {ρ : Env} {σ : L2.St} {g : G} {H : Hp} {S : Store} {o : Option D} {Q : VK} (h : GoodE T W Γ ρ σ g H (.of S o) Q) : ∃ d, o = some d ∧ GoodE T W Γ ρ σ g H (.ok d S) Q := by
  cases o with
  | none => exact h.elim
  | some d => exact ⟨d, rfl, h⟩
theorem xe_c {d : D} {v : V} {e : Expr} (he : PE X e (tC v)) (hs : ∀ g H, Shr T g H d v) : XE X T W Γ e (eC d) := pe_imp he fun σ H Q ⟨g, ρ, S, R, h⟩ => h v g H R (.refl g H) (hs g H)
theorem xe_int {i : Int} {j : Nat} {pos : Pos} : XE X T W Γ (.Constant (.int i) j pos) (eC (.int i)) := xe_c pe_int fun _ _ => by simp only [Shr]
theorem xe_str {x : Str} {j : Nat} {pos : Pos} : XE X T W Γ (.Constant (.str x) j pos) (eC (.str x)) := xe_c pe_str fun _ _ => by simp only [Shr]
theorem xe_bl {b : Bool} {j : Nat} {pos : Pos} : XE X T W Γ (.Constant (.bool b) j pos) (eC (.bl b)) := xe_c pe_bl fun _ _ => by simp only [Shr]
theorem xe_non {j : Nat} {pos : Pos} : XE X T W Γ (.Constant .none j pos) (eC .non) := xe_c pe_non fun _ _ => by simp only [Shr]
/-- a name whose value is shared -/
theorem xe_var {i : Nat} {e : Expr} (he : PE X e (tVar i)) (hm : Γ.getD i .s = .s) : XE X T W Γ e (eVar i) := pe_imp he fun σ H Q ⟨g, ρ, S, R, h⟩ => by
  have h : GoodE T W Γ ρ σ g H (match ρ[i]? with | some (some d) => RE.ok d S | _ => .no) Q := h
  split at h
  · rename_i d e
    obtain ⟨v, h1, h2⟩ := R.slot i d e
    rw [hm] at h2
    exact ⟨v, h1, h v g H R (.refl g H) h2⟩
  · exact h.elim
/-- an operation on values, by its rule -/
def OpOk (T : Th) (r : R2) (h : D → D → Option D) : Prop := ∀ (g : G) (H : Hp) (x y z : D) (v w : V), Shr T g H x v → Shr T g H y w → h x y = some z → (∀ a, g.U a → ∃ o, H a = some o) → ∀ Q : VK, (∀ u H', Exx H H' → Shr T g H' z u → Q u H') → r v w H Q
def UnOk (T : Th) (r : V → Hp → VK → Prop) (h : D → Option D) : Prop := ∀ (g : G) (H : Hp) (x z : D) (v : V), Shr T g H x v → h x = some z → (∀ a, g.U a → ∃ o, H a = some o) → ∀ Q : VK, (∀ u H', Exx H H' → Shr T g H' z u → Q u H') → r v H Q
def LsOk (T : Th) (r : List V → Hp → VK → Prop) (h : List D → Option D) : Prop := ∀ (g : G) (H : Hp) (xs : List D) (z : D) (vs : List V), ShrL T g H xs vs → h xs = some z → (∀ a, g.U a → ∃ o, H a = some o) → ∀ Q : VK, (∀ u H', Exx H H' → Shr T g H' z u → Q u H') → r vs H Q
theorem xe_op {e : Expr} {r : R2} {h : D → D → Option D} {a b : Expr} {A B : FE} (ok : OpOk T r h) (ha : XE X T W Γ a A) (hb : XE X T W Γ b B)
    (he : PE X a (tX T W Γ A) → PE X b (tX T W Γ B) → PE X e (tOp r (tX T W Γ A) (tX T W Γ B))) : XE X T W Γ e (eOp h A B) := pe_imp (he ha hb) fun σ H Q ⟨g, ρ, S, R, hg⟩ =>
  ⟨g, ρ, S, R, good_bind hg fun x S1 v g1 H1 _ R1 f1 s1 hg1 => ⟨g1, ρ, S1, R1, good_bind hg1 fun y S2 w g2 H2 _ R2 f2 s2 hg2 => by
    obtain ⟨z, ez, hg3⟩ := good_of hg2
    exact ok g2 H2 x y z v w (s1.stay f2.stay) s2 ez R2.dom Q fun u H' ex su => hg3 u g2 H' (R2.ex ex) (.ex ex) su⟩⟩
theorem xe_un {e : Expr} {r : V → Hp → VK → Prop} {h : D → Option D} {a : Expr} {A : FE} (ok : UnOk T r h) (ha : XE X T W Γ a A) (he : PE X a (tX T W Γ A) → PE X e (tUn r (tX T W Γ A))) : XE X T W Γ e (eUn h A) := pe_imp (he ha) fun σ H Q ⟨g, ρ, S, R, hg⟩ =>
  ⟨g, ρ, S, R, good_bind hg fun x S1 v g1 H1 _ R1 f1 s1 hg1 => by
    obtain ⟨z, ez, hg3⟩ := good_of hg1
    exact ok g1 H1 x z v s1 ez R1.dom Q fun u H' ex su => hg3 u g1 H' (R1.ex ex) (.ex ex) su⟩
theorem goodL_then {ρ : Env} {σ : L2.St} {g : G} {H : Hp} {A : FL} {h : List D → Option D} {S : Store} {Q : VK} {Q' : List V → Hp → Prop} (hg : GoodE T W Γ ρ σ g H (eL h A ρ S) Q)
    (hk : ∀ ds S' z vs g' H', h ds = some z → Rel T g' Γ ρ S' σ H' → FrE g H g' H' → ShrL T g' H' ds vs → GoodE T W Γ ρ σ g' H' (.ok z S') Q → Q' vs H') : GoodL T W Γ ρ σ g H (A ρ S) Q' := by
  unfold eL at hg
  cases e : A ρ S with
  | ok ds S' =>
    rw [e] at hg
    intro vs g' H' R f s
    obtain ⟨z, ez, hg⟩ := good_of hg
    exact hk ds S' z vs g' H' ez R f s fun v2 g2 H2 R2 f2 s2 => hg v2 g2 H2 R2 (f.trans f2) s2
  | exc x S' => rw [e] at hg; exact hg
  | no => rw [e] at hg; exact hg
theorem xe_L {e : Expr} {r : List V → Hp → VK → Prop} {h : List D → Option D} {as : List Expr} {A : FL} (ok : LsOk T r h) (ha : XL X T W Γ as A) (he : PA X as (tXL T W Γ A) → PE X e (tCB r (tXL T W Γ A))) : XE X T W Γ e (eL h A) := pe_imp (he ha) fun σ H Q ⟨g, ρ, S, R, hg⟩ =>
  ⟨g, ρ, S, R, goodL_then hg fun ds S1 z vs g1 H1 ez R1 f1 s1 hg1 => ok g1 H1 ds z vs s1 ez R1.dom Q fun u H' ex su => hg1 u g1 H' (R1.ex ex) (.ex ex) su⟩
theorem xl_nil : XL X T W Γ [] lNil := pa_imp pa_nil fun σ H Q ⟨g, ρ, S, R, hg⟩ => hg [] g H R (.refl g H) .nil
theorem xl_cons {e : Expr} {es : List Expr} {A : FE} {B : FL} (ha : XE X T W Γ e A) (hb : XL X T W Γ es B) (hx : PE X e (tX T W Γ A) → PA X es (tXL T W Γ B) → PA X (e :: es) (tCons (tX T W Γ A) (tXL T W Γ B))) : XL X T W Γ (e :: es) (lCons A B) := pa_imp (hx ha hb) fun σ H Q ⟨g, ρ, S, R, hg⟩ => by
  refine ⟨g, ρ, S, R, ?_⟩
  unfold lCons at hg
  cases e : A ρ S with
  | ok x S1 =>
    rw [e] at hg
    intro v g1 H1 R1 f1 s1
    refine ⟨g1, ρ, S1, R1, ?_⟩
    cases e2 : B ρ S1 with
    | ok xs S2 =>
      have hg : GoodL T W Γ ρ σ g H (match B ρ S1 with | .ok xs S2 => .ok (x :: xs) S2 | .exc x S2 => .exc x S2 | .no => .no) Q := hg
      rw [e2] at hg
      exact fun vs g2 H2 R2 f2 s2 => hg (v :: vs) g2 H2 R2 (f1.trans f2) (.cons (s1.stay f2.stay) s2)
    | exc y S2 =>
      have hg : GoodL T W Γ ρ σ g H (match B ρ S1 with | .ok xs S2 => .ok (x :: xs) S2 | .exc x S2 => .exc x S2 | .no => .no) Q := hg
      rw [e2] at hg
      exact fun c dd g2 H2 R2 f2 s2 => hg c dd g2 H2 R2 (f1.trans f2) s2
    | no =>
      have hg : GoodL T W Γ ρ σ g H (match B ρ S1 with | .ok xs S2 => .ok (x :: xs) S2 | .exc x S2 => .exc x S2 | .no => .no) Q := hg
      rw [e2] at hg
      exact hg
  | exc y S1 => rw [e] at hg; exact hg
  | no => rw [e] at hg; exact hg
end
end Q

/-! Operations on values. -/
namespace Q
open PySem PySem.Spec PyProof.Rows L2
theorem opr_or {X : Cx} {f : Value → Value → Sem Value} {r1 r2 : R2} (a : OpR X f r1) (b : OpR X f r2) : OpR X f (fun x y H Q => r1 x y H Q ∨ r2 x y H Q) := fun pins s σ H x y v u Q I rx ry h =>
  h.elim (a pins s σ H x y v u Q I rx ry) (b pins s σ H x y v u Q I rx ry)
theorem callr_or {X : Cx} {f : Value} {r1 r2 : List V → Hp → VK → Prop} (a : CallR X f r1) (b : CallR X f r2) : CallR X f (fun x H Q => r1 x H Q ∨ r2 x H Q) := fun pins s σ H xs us Q I r h =>
  h.elim (a pins s σ H xs us Q I r) (b pins s σ H xs us Q I r)
theorem ixr_or {X : Cx} {r1 r2 : R2} (a : IxR X r1) (b : IxR X r2) : IxR X (fun x y H Q => r1 x y H Q ∨ r2 x y H Q) := fun value slice pins s σ H x y v u Q I rx ry h =>
  h.elim (a value slice pins s σ H x y v u Q I rx ry) (b value slice pins s σ H x y v u Q I rx ry)
section
variable {T : Th} {g : G} {H : Hp}
theorem shr_int {i : Int} {v : V} : Shr T g H (.int i) v ↔ v = .int i := by simp only [Shr]
theorem shr_bl {i : Bool} {v : V} : Shr T g H (.bl i) v ↔ v = .bl i := by simp only [Shr]
theorem shr_str {i : Str} {v : V} : Shr T g H (.str i) v ↔ v = .str i := by simp only [Shr]
theorem shr_non {v : V} : Shr T g H .non v ↔ v = .non := by simp only [Shr]
theorem shr_tup {l : List D} {v : V} : Shr T g H (.tup l) v ↔ ∃ a vs, v = .ref a ∧ LkT T.K g.U H a vs ∧ ShrL T g H l vs := by simp only [Shr]
theorem shr_lst {l : List D} {v : V} : Shr T g H (.lst l) v ↔ ∃ a vs, v = .ref a ∧ (H a = some (.lst vs) ∧ ¬ g.U a) ∧ ShrL T g H l vs := by simp only [Shr]
theorem shr_scr {l : List D} {v : V} : Shr T g H (.scr l) v ↔ ∃ a vs, v = .ref a ∧ LkL T.K g.U H a vs ∧ ShrL T g H l vs := by simp only [Shr]
/-- a new tuple, a new list -/
theorem shr_newT {l : List D} {vs : List V} {p : Addr} (h : ShrL T g H l vs) (hp : H p = none) (hd : ∀ a, g.U a → ∃ o, H a = some o) : Shr T g (upd H p (.tup vs)) (.tup l) (.ref p) := shr_tup.mpr
  ⟨p, vs, rfl, .inl ⟨.inl upd_same, fun u => by obtain ⟨o, e⟩ := hd p u; rw [hp] at e; cases e⟩, h.stay (.ex (Exx.new hp)) _ _⟩
theorem shr_newL {l : List D} {vs : List V} {p : Addr} (h : ShrL T g H l vs) (hp : H p = none) (hd : ∀ a, g.U a → ∃ o, H a = some o) : Shr T g (upd H p (.lst vs)) (.lst l) (.ref p) := shr_lst.mpr
  ⟨p, vs, rfl, ⟨upd_same, fun u => by obtain ⟨o, e⟩ := hd p u; rw [hp] at e; cases e⟩, h.stay (.ex (Exx.new hp)) _ _⟩
end
/-! ### ints -/
def oI (f : Int → Int → Option D) : D → D → Option D
  | .int a, .int b => f a b
  | _, _ => none
theorem oI_ok {T : Th} {C : Int → Int → Prop} {g : Int → Int → V} {f : Int → Int → Option D} (h : ∀ a b z, f a b = some z → C a b ∧ ∀ (g' : G) (H : Hp), Shr T g' H z (g a b)) : OpOk T (rI C g) (oI f) := by
  intro g' H x y z v w sx sy e hd Q q
  cases x <;> cases y <;> simp only [oI] at e <;> first | cases e | skip
  obtain ⟨c, s⟩ := h _ _ _ e
  exact ⟨_, _, shr_int.mp sx, shr_int.mp sy, c, q _ H (.refl H) (s g' H)⟩
theorem oI0_ok {T : Th} {g : Int → Int → V} {f : Int → Int → Option D} (h : ∀ a b z, f a b = some z → ∀ (g' : G) (H : Hp), Shr T g' H z (g a b)) : OpOk T (rI0 g) (oI f) := by
  intro g' H x y z v w sx sy e hd Q q
  cases x <;> cases y <;> simp only [oI] at e <;> first | cases e | skip
  exact ⟨_, _, shr_int.mp sx, shr_int.mp sy, q _ H (.refl H) (h _ _ _ e g' H)⟩
/-- // by a divisor that is not nought, below 2 ^ 9000 in size -/
theorem op_fdivA {X : Cx} : OpR X (binaryOp .FloorDiv) (rI (fun _ j => j ≠ 0 ∧ j.natAbs.log2 < 9000) fun i j => .int (i.fdiv j)) := opI fun i j _ _ _ _ _ hc q => floordiv_int hc.1 q (.inl (PyProof.noPylong_of_log2 hc.2))
def hSub := oI fun a b => some (.int (a - b))
def hMod := oI fun a b => if 0 < b then some (.int (a % b)) else none
def hDiv := oI fun a b => if b = 0 ∨ 9000 ≤ b.natAbs.log2 then none else some (.int (a.fdiv b))
def hPow := oI fun a b => if 0 ≤ b ∧ b ≤ 1000000 ∧ a.natAbs < 2 ^ 64 then some (.int (a ^ b.toNat)) else none
def hShl := oI fun a b => if 0 ≤ b ∧ b ≤ 1000000 ∧ a.natAbs < 2 ^ 64 then some (.int (a * 2 ^ b.toNat)) else none
def hShr := oI fun a b => if 0 ≤ b then some (.int (a / 2 ^ b.toNat)) else none
def hAnd := oI fun a b => some (.int (Builtin.bitAnd a b))
def hOr := oI fun a b => some (.int (Builtin.bitOr a b))
def hLt := oI fun a b => some (.bl (decide (a < b)))
def hLe := oI fun a b => some (.bl (decide (a ≤ b)))
def hGt := oI fun a b => some (.bl (decide (b < a)))
def hGe := oI fun a b => some (.bl (decide (b ≤ a)))
def hMulI (a b : Int) : Option D := if a.natAbs.log2 + b.natAbs.log2 < 1000000 then some (.int (a * b)) else none
section
variable {T : Th}
theorem ok_sub : OpOk T (rI0 fun i j => .int (i - j)) hSub := oI0_ok fun _ _ _ e _ _ => by cases e; exact shr_int.mpr rfl
theorem ok_mod : OpOk T (rI (fun _ j => 0 < j) fun i j => .int (i % j)) hMod := oI_ok fun _ _ _ e => by
  split at e
  · cases e; exact ⟨by assumption, fun _ _ => shr_int.mpr rfl⟩
  · cases e
theorem ok_div : OpOk T (rI (fun _ j => j ≠ 0 ∧ j.natAbs.log2 < 9000) fun i j => .int (i.fdiv j)) hDiv := oI_ok fun _ _ _ e => by
  split at e
  · cases e
  · rename_i h
    cases e
    exact ⟨⟨fun z => h (.inl z), Nat.lt_of_not_le fun z => h (.inr z)⟩, fun _ _ => shr_int.mpr rfl⟩
theorem ok_pow : OpOk T (rI CPow fun i j => .int (i ^ j.toNat)) hPow := oI_ok fun _ _ _ e => by
  split at e
  · cases e; exact ⟨by assumption, fun _ _ => shr_int.mpr rfl⟩
  · cases e
theorem ok_shl : OpOk T (rI CPow fun i j => .int (i * 2 ^ j.toNat)) hShl := oI_ok fun _ _ _ e => by
  split at e
  · cases e; exact ⟨by assumption, fun _ _ => shr_int.mpr rfl⟩
  · cases e
theorem ok_shr : OpOk T (rI (fun _ j => 0 ≤ j) fun i j => .int (i / 2 ^ j.toNat)) hShr := oI_ok fun _ _ _ e => by
  split at e
  · cases e; exact ⟨by assumption, fun _ _ => shr_int.mpr rfl⟩
  · cases e
theorem ok_and : OpOk T (rI0 fun i j => .int (Builtin.bitAnd i j)) hAnd := oI0_ok fun _ _ _ e _ _ => by cases e; exact shr_int.mpr rfl
theorem ok_or : OpOk T (rI0 fun i j => .int (Builtin.bitOr i j)) hOr := oI0_ok fun _ _ _ e _ _ => by cases e; exact shr_int.mpr rfl
theorem ok_lt : OpOk T (rI0 fun i j => .bl (decide (i < j))) hLt := oI0_ok fun _ _ _ e _ _ => by cases e; exact shr_bl.mpr rfl
theorem ok_le : OpOk T (rI0 fun i j => .bl (decide (i ≤ j))) hLe := oI0_ok fun _ _ _ e _ _ => by cases e; exact shr_bl.mpr rfl
theorem ok_gt : OpOk T (rI0 fun i j => .bl (decide (j < i))) hGt := oI0_ok fun _ _ _ e _ _ => by cases e; exact shr_bl.mpr rfl
theorem ok_ge : OpOk T (rI0 fun i j => .bl (decide (j ≤ i))) hGe := oI0_ok fun _ _ _ e _ _ => by cases e; exact shr_bl.mpr rfl
end
/-! ### + and *, over ints, texts, tuples, lists -/
def hAdd : D → D → Option D
  | .int a, .int b => some (.int (a + b))
  | .str a, .str b => if a.length + b.length ≤ 1000000 then some (.str (a ++ b)) else none
  | .tup a, .tup b => if a.length + b.length ≤ 1000000 then some (.tup (a ++ b)) else none
  | .lst a, .lst b => if a.length + b.length ≤ 1000000 then some (.lst (a ++ b)) else none
  | _, _ => none
theorem sz6 {n : Nat} (h : n ≤ 1000000) : n ≤ sizeLine := by rw [sizeLine_eq]; omega
/-- one of several rules -/
theorem hAdd_int (a b : Int) : hAdd (.int a) (.int b) = some (.int (a + b)) := rfl
abbrev rAddA (K : PySem.W.Frag) : R2 := fun x y H Q => rI0 (fun i j => .int (i + j)) x y H Q ∨ (∃ a b, x = .str a ∧ y = .str b ∧ a.length + b.length ≤ sizeLine ∧ Q (.str (a ++ b)) H) ∨ rCatA K x y H Q ∨ rCat x y H Q
theorem op_addA {X : Cx} : OpR X (binaryOp .Add) (rAddA X.K) := opr_or op_add (opr_or op_add_str (opr_or op_catA op_cat))
theorem ok_add {T : Th} : OpOk T (rAddA T.K) hAdd := by
  intro g H x y z v w sx sy e hd Q q
  cases x <;> cases y <;> simp only [hAdd] at e <;> first | cases e | skip
  · exact .inl ⟨_, _, shr_int.mp sx, shr_int.mp sy, q _ H (.refl H) (shr_int.mpr rfl)⟩
  · split at e
    · rename_i hl
      cases e
      exact .inr (.inl ⟨_, _, shr_str.mp sx, shr_str.mp sy, sz6 hl, q _ H (.refl H) (shr_str.mpr rfl)⟩)
    · cases e
  · split at e
    · rename_i hl
      obtain ⟨a, vs, rfl, la, ra⟩ := shr_tup.mp sx
      obtain ⟨b, ws, rfl, lb, rb⟩ := shr_tup.mp sy
      have l1 := ra.length
      have l2 := rb.length
      cases e
      refine .inr (.inr (.inl ⟨a, b, vs, ws, rfl, rfl, la.sq, lb.sq, by rw [← l1, ← l2]; exact sz6 hl, fun hx => ?_, fun _ hw => ?_, fun _ _ p hp => q _ _ (Exx.new hp) (shr_newT (ra.append rb) hp hd)⟩))
      · subst hx
        exact q _ H (.refl H) (by rw [List.length_eq_zero_iff.mp l1]; exact sy)
      · subst hw
        exact q _ H (.refl H) (by rw [List.length_eq_zero_iff.mp l2, List.append_nil]; exact sx)
    · cases e
  · split at e
    · rename_i hl
      cases e
      obtain ⟨a, vs, rfl, la, ra⟩ := shr_lst.mp sx
      obtain ⟨b, ws, rfl, lb, rb⟩ := shr_lst.mp sy
      have l1 := ra.length
      have l2 := rb.length
      exact .inr (.inr (.inr ⟨a, b, vs, ws, rfl, rfl, la.1, lb.1, by rw [← l1, ← l2]; exact sz6 hl, fun p hp => q _ _ (Exx.new hp) (shr_newL (ra.append rb) hp hd)⟩))
    · cases e
end Q

/-! More operations; tests. -/
namespace Q
open PySem PySem.Spec PyProof.Rows L2
section
variable {T : Th} {g : G} {H : Hp}
/-! ### subscripts -/
abbrev rIxA (K : PySem.W.Frag) : R2 := fun x y H Q => rIxL K x y H Q ∨ rIxT K x y H Q ∨ rIxS x y H Q
theorem ix_A {X : Cx} : IxR X (rIxA X.K) := ixr_or ix_list (ixr_or ix_tup ix_str)
def hIx : D → D → Option D
  | .lst l, .int i => atI l i
  | .scr l, .int i => atI l i
  | .tup l, .int i => atI l i
  | .str z, .int i => if z.length ≤ 1000000 then (atI z.cps.toList i).map fun c => .str ⟨#[c]⟩ else none
  | _, _ => none
theorem atI_shr {l : List D} {vs : List V} {i : Int} {d : D} (h : ShrL T g H l vs) (e : atI l i = some d) : ∃ v, atI vs i = some v ∧ Shr T g H d v := by
  unfold atI at e ⊢
  rw [← h.length]
  cases q : ixN l.length i with
  | none => rw [q] at e; cases e
  | some j =>
    rw [q] at e
    exact h.get e
theorem ok_ix : OpOk T (rIxA T.K) hIx := by
  intro g H x y z v w sx sy e hd Q q
  cases x <;> cases y <;> simp only [hIx] at e <;> first | cases e | skip
  · split at e
    · rename_i hl
      obtain ⟨c, e1, e2⟩ := Option.map_eq_some_iff.mp e
      subst e2
      exact .inr (.inr ⟨_, _, c, shr_str.mp sx, shr_int.mp sy, sz6 hl, e1, q _ H (.refl H) (shr_str.mpr rfl)⟩)
    · cases e
  · obtain ⟨a, vs, rfl, la, ra⟩ := shr_tup.mp sx
    obtain ⟨u, h1, h2⟩ := atI_shr ra e
    exact .inr (.inl ⟨a, vs, _, u, rfl, shr_int.mp sy, la.sq, h1, q u H (.refl H) h2⟩)
  · obtain ⟨a, vs, rfl, la, ra⟩ := shr_lst.mp sx
    obtain ⟨u, h1, h2⟩ := atI_shr ra e
    exact .inl ⟨a, vs, _, u, rfl, shr_int.mp sy, .of la.1, h1, q u H (.refl H) h2⟩
  · obtain ⟨a, vs, rfl, la, ra⟩ := shr_scr.mp sx
    obtain ⟨u, h1, h2⟩ := atI_shr ra e
    exact .inl ⟨a, vs, _, u, rfl, shr_int.mp sy, la.sq, h1, q u H (.refl H) h2⟩
/-! ### * -/
/-- * of two factors of together less than 134 millions of bits -/
theorem tuple_mulW1 (l : Addr) (items : Array Value) (n : Nat) (dd : Option Addr) (sl : Array (Option Value)) (u : Tok) :
    Meets (Builtin.«tuple.__mul__» ⟨[.ref l, .int 1 u], []⟩) (fun _ R s => s.heap.get? l = some { cls := .type "tuple", dict := dd, data := .seq items n, slots := sl } ∧ R (.ok (.ret (Value.ref l))) s) :=
  .of_wp fun prog w A R s h => by
    obtain ⟨hp, g, d, tk, os⟩ := s
    obtain ⟨hl, h⟩ := h
    have f1 := AutoSeq1.idx_int
    have c1 : (items.isEmpty || (1 : Int) == 1) = true := by simp
    have c0 : (decide ((1 : Int) < -(2 ^ 63)) || decide ((1 : Int) ≥ 2 ^ 63)) = false := by decide
    wp_walk using wpAny_loadPart' hl
    repeat (first
      | (refine wpAny_ite_false (decide_eq_false (by rw [c0]; exact Bool.false_ne_true)) ?_; wp_walk using wpAny_loadPart' hl)
      | (refine wpAny_ite_true (decide_eq_true c1) ?_; wp_walk using wpAny_loadPart' hl))
    exact ⟨_, rfl, h⟩
/-- t * 1 is t -/
def rRepT1 (K : PySem.W.Frag) : R2 := fun x y H Q => ∃ l xs, x = .ref l ∧ y = .int 1 ∧ SqT K H l xs ∧ Q (.ref l) H
theorem op_repT1 {X : Cx} : OpR X (binaryOp .Mult) (rRepT1 X.K) := by
  intro pins s σ H x y v u Q I rx ry h
  obtain ⟨l, xs, rfl, rfl, hT, q⟩ := h
  cases rx
  obtain ⟨t, rfl⟩ := ry
  obtain ⟨its, r, ⟨⟨cls, dd, data, sl⟩, ho, hc, n, hd⟩, hs⟩ := I.tuple hT
  simp only at hc hd
  subst hc hd
  refine wpAny_binaryOp_repeat_ref (T := "tuple") (U := "int") (by decide) ⟨_, ho, rfl⟩ (fun s' => typeIs_int s' 1 t) noFill_tuple_mul F.fills_int_mul F.slot_int_rmul repeat_tuple F.slot_int_index.lookup
    (call_meets F.slot_int_rmul (typeIs_int s 1 t) F.entry_int_rmul (F.args_int_rmul_2 _ _) (int_rmul_tuple 1 t l its.toArray n dd sl)
      ⟨ho, rfl, ⟨_, ho, rfl⟩, call_meets F.slot_tuple_mul ⟨_, ho, rfl⟩ F.entry_tuple_mul (F.args_tuple_mul_2 _ _) (tuple_mulW1 l its.toArray n dd sl t) ⟨ho, ?_⟩⟩)
  exact ⟨.ref l, H, I, rfl, q⟩
def CMulB (i j : Int) : Prop := i.natAbs.log2 + j.natAbs.log2 < 134000000
theorem CMulB.ok {i j : Int} (h : CMulB i j) : IntMulOk i j := by
  have b : ∀ x : Int, Builtin.Int.intBits x ≤ x.natAbs.log2 + 1 := fun x => by
    unfold Builtin.Int.intBits
    split <;> omega
  have h3 : i.natAbs.log2 + j.natAbs.log2 < 134000000 := h
  exact PySem.IntMulOk.of_le (b i) (b j) (by omega)
theorem op_mulB {X : Cx} : OpR X (binaryOp .Mult) (rI CMulB fun i j => .int (i * j)) := opI fun _ _ _ _ _ _ _ hc q => mul_int q hc.ok
abbrev rMulA (K : PySem.W.Frag) : R2 := fun x y H Q => rI CMulB (fun i j => .int (i * j)) x y H Q ∨ rRep x y H Q ∨ rRepT K x y H Q ∨ rRepT1 K x y H Q
theorem op_mulA {X : Cx} : OpR X (binaryOp .Mult) (rMulA X.K) := opr_or op_mulB (opr_or op_rep (opr_or op_repT op_repT1))
def rep (l : List D) (k : Nat) : List D := (List.replicate k l).flatten
def hMul : D → D → Option D
  | .int a, .int b => if a.natAbs.log2 + b.natAbs.log2 < 134000000 then some (.int (a * b)) else none
  | .lst l, .int k => if 0 ≤ k ∧ k ≤ 1000000 ∧ l.length * k.toNat ≤ 1000000 then some (.lst (rep l k.toNat)) else none
  | .tup l, .int k => if (1 ≤ k ∧ k ≤ 1000) ∧ 0 < l.length ∧ l.length ≤ 1000 then some (.tup (rep l k.toNat)) else none
  | _, _ => none
theorem shrL_rep {l : List D} {vs : List V} (h : ShrL T g H l vs) : ∀ k : Nat, ShrL T g H (rep l k) (List.replicate k vs).flatten
  | 0 => .nil
  | k + 1 => by
    unfold rep
    rw [List.replicate_succ, List.replicate_succ, List.flatten_cons, List.flatten_cons]
    exact h.append (shrL_rep h k)
theorem ok_rept {l : List D} {k : Int} {v w : V} (sx : Shr T g H (.tup l) v) (sy : Shr T g H (.int k) w) (hl : (1 ≤ k ∧ k ≤ 1000) ∧ 0 < l.length ∧ l.length ≤ 1000) (hd : ∀ a, g.U a → ∃ o, H a = some o) {Q : VK} (q : ∀ u H', Exx H H' → Shr T g H' (.tup (rep l k.toNat)) u → Q u H') : rRepT T.K v w H Q ∨ rRepT1 T.K v w H Q := by
  obtain ⟨a, vs, rfl, la, ra⟩ := shr_tup.mp sx
  have hr := ra.length
  have hn : vs ≠ [] := fun z => by
    rw [z, List.length_nil] at hr
    have := hl.2.1
    omega
  have hk := shr_int.mp sy
  by_cases c : k = 1
  · subst c
    refine .inr ⟨a, vs, rfl, hk, la.sq, q _ H (.refl H) ?_⟩
    have e : ∀ l : List D, rep l (1 : Int).toNat = l := fun l => by show (List.replicate 1 l).flatten = l; simp
    rw [e]
    exact sx
  · exact .inl ⟨a, k, vs, rfl, hk, la.sq, hn, by omega, by omega, by rw [← hr]; exact hl.2.2, fun p hp => q _ _ (Exx.new hp) (shr_newT (shrL_rep ra _) hp hd)⟩
theorem ok_mul : OpOk T (rMulA T.K) hMul := by
  intro g H x y z v w sx sy e hd Q q
  cases x <;> cases y <;> simp only [hMul] at e <;> first | cases e | skip
  · split at e
    · rename_i hl
      cases e
      exact .inl ⟨_, _, shr_int.mp sx, shr_int.mp sy, hl, q _ H (.refl H) (shr_int.mpr rfl)⟩
    · cases e
  · split at e
    · rename_i hl
      cases e
      exact .inr (.inr (ok_rept sx sy hl hd q))
    · cases e
  · split at e
    · rename_i hl
      cases e
      obtain ⟨a, vs, rfl, la, ra⟩ := shr_lst.mp sx
      refine .inr (.inl ⟨a, _, vs, rfl, shr_int.mp sy, la.1, by omega, by omega, by rw [← ra.length]; exact sz6 hl.2.2, fun p hp => ?_⟩)
      exact q _ _ (Exx.new hp) (shr_newL (shrL_rep ra _) hp hd)
    · cases e
/-! ### unary minus, len, abs, truth -/
def hNeg : D → Option D
  | .int a => some (.int (-a))
  | _ => none
theorem ok_neg : UnOk T (rU fun i => .int (-i)) hNeg := by
  intro g H x z v sx e hd Q q
  cases x <;> simp only [hNeg] at e <;> first | cases e | skip
  exact ⟨_, shr_int.mp sx, q _ H (.refl H) (shr_int.mpr rfl)⟩
abbrev rLenA (K : PySem.W.Frag) : List V → Hp → VK → Prop := fun xs H Q => (∃ p ys, xs = [.ref p] ∧ (SqL K H p ys ∨ SqT K H p ys) ∧ Q (.int ys.length) H) ∨ (∃ z, xs = [.str z] ∧ z.length ≤ sizeLine ∧ Q (.int z.length) H)
theorem call_lenA {X : Cx} : CallR X (.builtin "len") (rLenA X.K) := callr_or call_len_seq call_len_str
def hLen : List D → Option D
  | [.lst l] => some (.int l.length)
  | [.scr l] => some (.int l.length)
  | [.tup l] => some (.int l.length)
  | [.str z] => if z.length ≤ 1000000 then some (.int z.length) else none
  | _ => none
theorem shrL1 {x : D} {vs : List V} (h : ShrL T g H [x] vs) : ∃ v, vs = [v] ∧ Shr T g H x v := by
  simp only [ShrL] at h
  obtain ⟨v, ws, rfl, s, rfl⟩ := h
  exact ⟨v, rfl, s⟩
theorem shrL2 {x y : D} {vs : List V} (h : ShrL T g H [x, y] vs) : ∃ v w, vs = [v, w] ∧ Shr T g H x v ∧ Shr T g H y w := by
  simp only [ShrL] at h
  obtain ⟨v, ws, rfl, s, w, _, rfl, s2, rfl⟩ := h
  exact ⟨v, w, rfl, s, s2⟩
theorem ok_len : LsOk T (rLenA T.K) hLen := by
  intro g H xs z vs sx e hd Q q
  unfold hLen at e
  split at e <;> first | cases e | skip
  · obtain ⟨v, rfl, s⟩ := shrL1 sx
    obtain ⟨a, us, rfl, la, ra⟩ := shr_lst.mp s
    exact .inl ⟨a, us, rfl, .inl (.of la.1), by rw [← ra.length]; exact q _ H (.refl H) (shr_int.mpr rfl)⟩
  · obtain ⟨v, rfl, s⟩ := shrL1 sx
    obtain ⟨a, us, rfl, la, ra⟩ := shr_scr.mp s
    exact .inl ⟨a, us, rfl, .inl la.sq, by rw [← ra.length]; exact q _ H (.refl H) (shr_int.mpr rfl)⟩
  · obtain ⟨v, rfl, s⟩ := shrL1 sx
    obtain ⟨a, us, rfl, la, ra⟩ := shr_tup.mp s
    exact .inl ⟨a, us, rfl, .inr la.sq, by rw [← ra.length]; exact q _ H (.refl H) (shr_int.mpr rfl)⟩
  · split at e
    · rename_i hl
      cases e
      obtain ⟨v, rfl, s⟩ := shrL1 sx
      rw [shr_str.mp s]
      exact .inr ⟨_, rfl, sz6 hl, q _ H (.refl H) (shr_int.mpr rfl)⟩
    · cases e
def hAbs : List D → Option D
  | [.int a] => some (.int (if a < 0 then -a else a))
  | _ => none
theorem ok_abs : LsOk T (fun xs H Q => ∃ i, xs = [.int i] ∧ Q (.int (if i < 0 then -i else i)) H) hAbs := by
  intro g H xs z vs sx e hd Q q
  unfold hAbs at e
  split at e <;> first | cases e | skip
  obtain ⟨v, rfl, s⟩ := shrL1 sx
  rw [shr_int.mp s]
  exact ⟨_, rfl, q _ H (.refl H) (shr_int.mpr rfl)⟩
def hTru : D → Option D
  | .non => some (.bl false)
  | .bl b => some (.bl b)
  | .int i => some (.bl (i != 0))
  | .str z => if z.length ≤ 1000000 then some (.bl ((z.length : Int) != 0)) else none
  | .lst l => some (.bl !l.isEmpty)
  | .scr l => some (.bl !l.isEmpty)
  | .tup l => some (.bl !l.isEmpty)
  | _ => none
theorem isEmpty_len {α β : Type} {l : List α} {vs : List β} (h : l.length = vs.length) : l.isEmpty = vs.isEmpty := by
  cases l <;> cases vs <;> simp_all
theorem tru_shr {d z : D} {v : V} (s : Shr T g H d v) (e : hTru d = some z) : ∃ b, z = .bl b ∧ TruV T.K v H b := by
  cases d <;> simp only [hTru] at e <;> first | cases e | skip
  · rw [shr_non.mp s]; exact ⟨_, rfl, rfl⟩
  · rw [shr_bl.mp s]; exact ⟨_, rfl, rfl⟩
  · rw [shr_int.mp s]; exact ⟨_, rfl, rfl⟩
  · split at e
    · rename_i hl
      cases e
      rw [shr_str.mp s]; exact ⟨_, rfl, sz6 hl, rfl⟩
    · cases e
  · obtain ⟨a, us, rfl, la, ra⟩ := shr_tup.mp s
    exact ⟨_, rfl, .inr (.inl ⟨us, la.sq, by rw [isEmpty_len ra.length]⟩)⟩
  · obtain ⟨a, us, rfl, la, ra⟩ := shr_lst.mp s
    exact ⟨_, rfl, .inl ⟨us, .of la.1, by rw [isEmpty_len ra.length]⟩⟩
  · obtain ⟨a, us, rfl, la, ra⟩ := shr_scr.mp s
    exact ⟨_, rfl, .inl ⟨us, la.sq, by rw [isEmpty_len ra.length]⟩⟩
/-! ### == of data -/
mutual
def toPy : D → Option PyData
  | .non => some .none
  | .bl b => some (.bool b)
  | .int i => some (.int i)
  | .str x => some (.str x)
  | .tup l => (toPyL l).map .tuple
  | .lst l => (toPyL l).map .list
  | _ => none
def toPyL : List D → Option (List PyData)
  | [] => some []
  | d :: ds => match toPy d, toPyL ds with
    | some p, some ps => some (p :: ps)
    | _, _ => none
end
mutual
theorem Shr.dp : ∀ (d : D) (v : V) (p : PyData), Shr T g H d v → toPy d = some p → Dp T.K H v p
  | .non, v, p, s, e => by simp only [toPy] at e; cases e; rw [shr_non.mp s]; exact .non
  | .bl b, v, p, s, e => by simp only [toPy] at e; cases e; rw [shr_bl.mp s]; exact .bl b
  | .int i, v, p, s, e => by simp only [toPy] at e; cases e; rw [shr_int.mp s]; exact .int i
  | .str i, v, p, s, e => by simp only [toPy] at e; cases e; rw [shr_str.mp s]; exact .str i
  | .tup l, v, p, s, e => by
    simp only [toPy] at e
    obtain ⟨ps, e1, e2⟩ := Option.map_eq_some_iff.mp e
    subst e2
    obtain ⟨a, us, rfl, la, ra⟩ := shr_tup.mp s
    exact .tup la.sq (ShrL.dp l us ps ra e1)
  | .lst l, v, p, s, e => by
    simp only [toPy] at e
    obtain ⟨ps, e1, e2⟩ := Option.map_eq_some_iff.mp e
    subst e2
    obtain ⟨a, us, rfl, la, ra⟩ := shr_lst.mp s
    exact .lst (.of la.1) (ShrL.dp l us ps ra e1)
  | .scr l, v, p, s, e => by simp [toPy] at e
  | .dct l, v, p, s, e => by simp [toPy] at e
  | .obj l, v, p, s, e => by simp [toPy] at e
  | .fn k l, v, p, s, e => by simp [toPy] at e
  | .gone k, v, p, s, e => by simp [toPy] at e
theorem ShrL.dp : ∀ (ds : List D) (vs : List V) (ps : List PyData), ShrL T g H ds vs → toPyL ds = some ps → DpAll T.K H vs ps
  | [], vs, ps, s, e => by
    simp only [toPyL] at e; cases e
    simp only [ShrL] at s; subst s
    exact .nil
  | d :: ds, vs, ps, s, e => by
    simp only [toPyL] at e
    simp only [ShrL] at s
    obtain ⟨v, ws, rfl, s1, s2⟩ := s
    split at e
    · rename_i p ps' e1 e2
      cases e
      exact .cons (Shr.dp d v p s1 e1) (ShrL.dp ds ws ps' s2 e2)
    · cases e
end
def hEq (x y : D) : Option D := match toPy x, toPy y with
  | some p, some q => if SeqAt.shaped p = true ∧ SeqAt.shaped q = true then some (.bl (PyData.eqv p q)) else none
  | _, _ => none
def hNe (x y : D) : Option D := match toPy x, toPy y with
  | some p, some q => if SeqAt.shaped p = true ∧ SeqAt.shaped q = true then some (.bl (!PyData.eqv p q)) else none
  | _, _ => none
theorem ok_eq : OpOk T (rEqD T.K) hEq := by
  intro g H x y z v w sx sy e hd Q q
  unfold hEq at e
  split at e
  · rename_i p p' e1 e2
    split at e
    · rename_i h
      cases e
      exact ⟨p, p', sx.dp _ _ _ e1, sy.dp _ _ _ e2, h.1, h.2, q _ H (.refl H) (shr_bl.mpr rfl)⟩
    · cases e
  · cases e
theorem ok_ne : OpOk T (rNeD T.K) hNe := by
  intro g H x y z v w sx sy e hd Q q
  unfold hNe at e
  split at e
  · rename_i p p' e1 e2
    split at e
    · rename_i h
      cases e
      exact ⟨p, p', sx.dp _ _ _ e1, sy.dp _ _ _ e2, h.1, h.2, q _ H (.refl H) (shr_bl.mpr rfl)⟩
    · cases e
  · cases e
def hIsN : D → D → Option D
  | .non, .non => some (.bl true)
  | .fn _ _, _ => none
  | .gone _, _ => none
  | _, .non => some (.bl false)
  | _, _ => none
def hNotN : D → D → Option D
  | .non, .non => some (.bl false)
  | .fn _ _, _ => none
  | .gone _, _ => none
  | _, .non => some (.bl true)
  | _, _ => none
theorem shr_ne_non {d : D} {v : V} (s : Shr T g H d v) (h : d ≠ .non) (h' : ∀ k, d ≠ .gone k) : v ≠ .non := by
  cases d <;> simp only [Shr] at s <;> first | exact absurd rfl h | exact absurd rfl (h' _) | skip
  all_goals first
    | (rw [s]; intro z; cases z)
    | (obtain ⟨a, vs, rfl, _⟩ := s; intro z; cases z)
    | (rw [s.2]; intro z; cases z)
    | exact s.elim
/-! ### in, over lists and tuples of flat data -/
def flatD : D → Bool
  | .non => true
  | .bl _ => true
  | .int _ => true
  | .str _ => true
  | _ => false
def eqD : D → D → Bool
  | .non, .non => true
  | .bl a, .bl b => a == b
  | .bl a, .int b => (if a then 1 else 0) == b
  | .int a, .bl b => a == (if b then 1 else 0)
  | .int a, .int b => a == b
  | .str a, .str b => a == b
  | _, _ => false
theorem flat_shr {d : D} {v : V} (s : Shr T g H d v) (h : flatD d = true) : flatV v = true := by
  cases d <;> simp only [flatD] at h <;> first | cases h | skip
  · rw [shr_non.mp s]; rfl
  · rw [shr_bl.mp s]; rfl
  · rw [shr_int.mp s]; rfl
  · rw [shr_str.mp s]; rfl
theorem eqD_shr {d e : D} {v w : V} (s : Shr T g H d v) (t : Shr T g H e w) (h : flatD d = true) (h' : flatD e = true) : eqV v w = eqD d e := by
  cases d <;> simp only [flatD] at h <;> first | cases h | skip
  all_goals (cases e <;> simp only [flatD] at h' <;> first | cases h' | skip)
  all_goals (simp only [Shr] at s t; subst s; subst t; rfl)
theorem allFlat {ds : List D} {vs : List V} (s : ShrL T g H ds vs) (h : ds.all flatD = true) : vs.all flatV = true := by
  induction ds generalizing vs with
  | nil => simp only [ShrL] at s; subst s; rfl
  | cons d ds ih =>
    simp only [ShrL] at s
    obtain ⟨v, ws, rfl, s1, s2⟩ := s
    rw [List.all_cons, Bool.and_eq_true] at h ⊢
    exact ⟨flat_shr s1 h.1, ih s2 h.2⟩
theorem anyEq {x : D} {v : V} (sx : Shr T g H x v) (hx : flatD x = true) {ds : List D} {vs : List V} (s : ShrL T g H ds vs) (h : ds.all flatD = true) : inV v vs = ds.any fun y => eqD y x := by
  unfold inV
  induction ds generalizing vs with
  | nil => simp only [ShrL] at s; subst s; rfl
  | cons d ds ih =>
    simp only [ShrL] at s
    obtain ⟨v', ws, rfl, s1, s2⟩ := s
    rw [List.all_cons, Bool.and_eq_true] at h
    rw [List.any_cons, List.any_cons, ih s2 h.2, eqD_shr s1 sx h.1 hx]
def inL (neg : Bool) (x : D) (l : List D) : Option D := if flatD x = true ∧ l.all flatD = true then some (.bl (if neg then !(l.any fun y => eqD y x) else l.any fun y => eqD y x)) else none
def hIn (neg : Bool) : D → D → Option D
  | x, .lst l => inL neg x l
  | x, .scr l => inL neg x l
  | x, .tup l => inL neg x l
  | .str a, .str b => if neg then some (.bl !!(Builtin.Str.occurrences b a 0 b.length 1).isEmpty) else some (.bl !(Builtin.Str.occurrences b a 0 b.length 1).isEmpty)
  | _, _ => none
theorem ok_inL {neg : Bool} {x z : D} {l : List D} {a : Addr} {vs : List V} {v : V} (sx : Shr T g H x v) (h : SqL T.K H a vs ∨ SqT T.K H a vs) (s : ShrL T g H l vs) (e : inL neg x l = some z) {Q : VK} (q : ∀ u H', Exx H H' → Shr T g H' z u → Q u H') : rIn T.K neg v (.ref a) H Q := by
  unfold inL at e
  split at e
  · rename_i c
    cases e
    refine ⟨a, vs, rfl, h, flat_shr sx c.1, allFlat s c.2, ?_⟩
    rw [anyEq sx c.1 s c.2]
    exact q _ H (.refl H) (by cases neg <;> exact shr_bl.mpr rfl)
  · cases e
end
end Q

/-! Tests, and, or, not, if. -/
namespace Q
open PySem PySem.Spec PyProof.Rows L2
section
variable {X : Cx} {T : Th} {W : WX} {Γ : List Md}
/-- the same for tests -/
theorem goodT_bind {ρ : Env} {σ : L2.St} {g : G} {H : Hp} {r : RE} {k : D → Store → RE} {Q : Bool → Hp → Prop} {Q' : VK} (h : GoodT T W Γ ρ σ g H (r.bind k) Q)
    (hk : ∀ d S v g' H', r = .ok d S → Rel T g' Γ ρ S σ H' → FrE g H g' H' → Shr T g' H' d v → GoodT T W Γ ρ σ g' H' (k d S) Q → Q' v H') : GoodE T W Γ ρ σ g H r Q' := by
  cases r with
  | ok d S =>
    intro v g' H' R f s
    refine hk d S v g' H' rfl R f s ?_
    have h' : GoodT T W Γ ρ σ g H (k d S) Q := h
    cases e : k d S with
    | ok d2 S2 =>
      rw [e] at h'
      obtain ⟨b, e2, h'⟩ := h'
      exact ⟨b, e2, fun g2 H2 R2 f2 => h' g2 H2 R2 (f.trans f2)⟩
    | exc x S2 =>
      rw [e] at h'
      exact fun c dd g2 H2 R2 f2 s2 => h' c dd g2 H2 R2 (f.trans f2) s2
    | no => rw [e] at h'; exact h'
  | exc x S => exact h
  | no => exact h
theorem goodTT_bind {ρ : Env} {σ : L2.St} {g : G} {H : Hp} {r : RE} {k : D → Store → RE} {Q : Bool → Hp → Prop} {Q' : Bool → Hp → Prop} (h : GoodT T W Γ ρ σ g H (r.bind k) Q) (hb : ∀ d S, r = .ok d S → k d S ≠ .no → ∃ b, d = .bl b)
    (hk : ∀ b S g' H', r = .ok (.bl b) S → Rel T g' Γ ρ S σ H' → FrE g H g' H' → GoodT T W Γ ρ σ g' H' (k (.bl b) S) Q → Q' b H') : GoodT T W Γ ρ σ g H r Q' := by
  cases r with
  | ok d S =>
    have h' : GoodT T W Γ ρ σ g H (k d S) Q := h
    obtain ⟨b, rfl⟩ := hb d S rfl (fun z => by rw [z] at h'; exact h')
    refine ⟨b, rfl, fun g' H' R f => hk b S g' H' rfl R f ?_⟩
    cases e : k (.bl b) S with
    | ok d2 S2 =>
      rw [e] at h'
      obtain ⟨b, e2, h'⟩ := h'
      exact ⟨b, e2, fun g2 H2 R2 f2 => h' g2 H2 R2 (f.trans f2)⟩
    | exc x S2 =>
      rw [e] at h'
      exact fun c dd g2 H2 R2 f2 s2 => h' c dd g2 H2 R2 (f.trans f2) s2
    | no => rw [e] at h'; exact h'
  | exc x S => exact h
  | no => exact h
theorem goodTE_bind {ρ : Env} {σ : L2.St} {g : G} {H : Hp} {r : RE} {k : D → Store → RE} {Q : VK} {Q' : Bool → Hp → Prop} (h : GoodE T W Γ ρ σ g H (r.bind k) Q) (hb : ∀ d S, r = .ok d S → k d S ≠ .no → ∃ b, d = .bl b)
    (hk : ∀ b S g' H', r = .ok (.bl b) S → Rel T g' Γ ρ S σ H' → FrE g H g' H' → GoodE T W Γ ρ σ g' H' (k (.bl b) S) Q → Q' b H') : GoodT T W Γ ρ σ g H r Q' := by
  cases r with
  | ok d S =>
    have h' : GoodE T W Γ ρ σ g H (k d S) Q := h
    obtain ⟨b, rfl⟩ := hb d S rfl (fun z => by rw [z] at h'; exact h')
    refine ⟨b, rfl, fun g' H' R f => hk b S g' H' rfl R f ?_⟩
    cases e : k (.bl b) S with
    | ok d2 S2 =>
      rw [e] at h'
      exact fun v2 g2 H2 R2 f2 s2 => h' v2 g2 H2 R2 (f.trans f2) s2
    | exc x S2 =>
      rw [e] at h'
      exact fun c dd g2 H2 R2 f2 s2 => h' c dd g2 H2 R2 (f.trans f2) s2
    | no => rw [e] at h'; exact h'
  | exc x S => exact h
  | no => exact h
/-- a value that is a truth, as a test -/
theorem xt_val {e : Expr} {A : FE} (ha : XE X T W Γ e A) (he : PE X e (tX T W Γ A) → PT X e (tB (tX T W Γ A)) ∨ PT X e (tTest (tX T W Γ A))) : XT X T W Γ e A := by
  have key : ∀ σ H Q, tXT T W Γ A σ H Q → tX T W Γ A σ H fun x H1 => ∃ c, x = .bl c ∧ Q c H1 := fun σ H Q ⟨g, ρ, S, R, h⟩ => by
    refine ⟨g, ρ, S, R, ?_⟩
    cases r : A ρ S with
    | ok d S1 =>
      rw [r] at h
      obtain ⟨b, rfl, h⟩ := h
      exact fun v g' H' R' f' s => ⟨b, shr_bl.mp s, h g' H' R' f'⟩
    | exc x S1 => rw [r] at h; exact h
    | no => rw [r] at h; exact h
  rcases he ha with h | h
  · exact pt_imp h key
  · exact pt_imp h key
def eTru (a : FE) : FE := eUn hTru a
theorem xt_tru {e : Expr} {A : FE} (ha : XE X T W Γ e A) (hK : X.K = T.K) (he : ∀ whole, isTrue e X.env whole = (do let v ← whole; standAt e.pos; holding [v] (truthy v)) := by intro _; rfl) : XT X T W Γ e (eTru A) := pt_imp (pt_truth ha he) fun σ H Q ⟨g, ρ, S, R, h⟩ =>
  ⟨g, ρ, S, R, goodT_bind h fun d S1 v g1 H1 _ R1 f1 s1 h1 => by
    cases e : hTru d with
    | none => rw [e] at h1; exact h1.elim
    | some z =>
      rw [e] at h1
      obtain ⟨b, rfl, tv⟩ := tru_shr s1 e
      obtain ⟨b', e2, h1⟩ := h1
      cases e2
      exact ⟨b, by rw [hK]; exact tv, h1 g1 H1 R1 (.refl _ _)⟩⟩
theorem bl_and {d : D} {S : Store} {b : FE} {ρ : Env} (h : (match d with | .bl true => b ρ S | .bl false => RE.ok (.bl false) S | _ => .no) ≠ .no) : ∃ b, d = .bl b := by
  split at h
  · exact ⟨_, rfl⟩
  · exact ⟨_, rfl⟩
  · exact absurd rfl h
theorem bl_or {d : D} {S : Store} {b : FE} {ρ : Env} (h : (match d with | .bl true => RE.ok (.bl true) S | .bl false => b ρ S | _ => .no) ≠ .no) : ∃ b, d = .bl b := by
  split at h
  · exact ⟨_, rfl⟩
  · exact ⟨_, rfl⟩
  · exact absurd rfl h
theorem bl_if {d : D} {S : Store} {a b : FE} {ρ : Env} (h : (match d with | .bl true => a ρ S | .bl false => b ρ S | _ => RE.no) ≠ .no) : ∃ b, d = .bl b := by
  split at h
  · exact ⟨_, rfl⟩
  · exact ⟨_, rfl⟩
  · exact absurd rfl h
theorem bl_not {d : D} {S : Store} (h : (match d with | .bl b => RE.ok (.bl (!b)) S | _ => .no) ≠ .no) : ∃ b, d = .bl b := by
  split at h
  · exact ⟨_, rfl⟩
  · exact absurd rfl h
variable {a b c : Expr} {A B C : FE} {pos : Pos} {rest : List Expr}
abbrev XW (X : Cx) (T : Th) (W : WX) (Γ : List Md) (e : Expr) (F : FE) : Prop := PW X e (tXT T W Γ F)
theorem xw_and (ha : XT X T W Γ a A) (hb : XW X T W Γ (.BoolOp .And (b :: rest) pos) B) : XW X T W Γ (.BoolOp .And (a :: b :: rest) pos) (eAnd A B) := pw_imp (pw_and ha hb) fun σ H Q ⟨g, ρ, S, R, h⟩ =>
  ⟨g, ρ, S, R, goodTT_bind h (fun d S1 _ hn => bl_and hn) fun t S1 g1 H1 _ R1 f1 h1 => by
    cases t with
    | true => exact ⟨g1, ρ, S1, R1, h1⟩
    | false =>
      obtain ⟨b', e2, h1⟩ := h1
      cases e2
      exact h1 g1 H1 R1 (.refl _ _)⟩
theorem xw_or (ha : XT X T W Γ a A) (hb : XW X T W Γ (.BoolOp .Or (b :: rest) pos) B) : XW X T W Γ (.BoolOp .Or (a :: b :: rest) pos) (eOr A B) := pw_imp (pw_or ha hb) fun σ H Q ⟨g, ρ, S, R, h⟩ =>
  ⟨g, ρ, S, R, goodTT_bind h (fun d S1 _ hn => bl_or hn) fun t S1 g1 H1 _ R1 f1 h1 => by
    cases t with
    | false => exact ⟨g1, ρ, S1, R1, h1⟩
    | true =>
      obtain ⟨b', e2, h1⟩ := h1
      cases e2
      exact h1 g1 H1 R1 (.refl _ _)⟩
theorem xw_and1 (ha : XT X T W Γ a A) : XW X T W Γ (.BoolOp .And [a] pos) A := pw_and1 ha
theorem xw_or1 (ha : XT X T W Γ a A) : XW X T W Γ (.BoolOp .Or [a] pos) A := pw_or1 ha
theorem xt_not (ha : XT X T W Γ a A) : XT X T W Γ (.UnaryOp .Not a pos) (eNot A) := pt_imp (pt_not ha) fun σ H Q ⟨g, ρ, S, R, h⟩ =>
  ⟨g, ρ, S, R, goodTT_bind h (fun d S1 _ hn => bl_not hn) fun t S1 g1 H1 _ R1 f1 h1 => by
    obtain ⟨b', e2, h1⟩ := h1
    cases e2
    exact h1 g1 H1 R1 (.refl _ _)⟩
theorem xe_and1 {op} (ha : XE X T W Γ a A) : XE X T W Γ (.BoolOp op [a] pos) A := pe_one ha
theorem xe_and (ha : XE X T W Γ a A) (hb : XE X T W Γ (.BoolOp .And (b :: rest) pos) B) : XE X T W Γ (.BoolOp .And (a :: b :: rest) pos) (eAnd A B) := pe_imp (pe_and ha hb) fun σ H Q ⟨g, ρ, S, R, h⟩ =>
  ⟨g, ρ, S, R, good_bind h fun d S1 v g1 H1 _ R1 f1 s1 h1 => by
    obtain ⟨t, rfl⟩ : ∃ t, d = .bl t := by
      have h0 := h1
      split at h0 <;> first | exact ⟨_, rfl⟩ | exact h0.elim
    refine ⟨t, shr_bl.mp s1, ?_⟩
    cases t with
    | true => exact ⟨g1, ρ, S1, R1, h1⟩
    | false => exact h1 (.bl false) g1 H1 R1 (.refl _ _) (shr_bl.mpr rfl)⟩
theorem xe_or (ha : XE X T W Γ a A) (hb : XE X T W Γ (.BoolOp .Or (b :: rest) pos) B) : XE X T W Γ (.BoolOp .Or (a :: b :: rest) pos) (eOr A B) := pe_imp (pe_or ha hb) fun σ H Q ⟨g, ρ, S, R, h⟩ =>
  ⟨g, ρ, S, R, good_bind h fun d S1 v g1 H1 _ R1 f1 s1 h1 => by
    obtain ⟨t, rfl⟩ : ∃ t, d = .bl t := by
      have h0 := h1
      split at h0 <;> first | exact ⟨_, rfl⟩ | exact h0.elim
    refine ⟨t, shr_bl.mp s1, ?_⟩
    cases t with
    | false => exact ⟨g1, ρ, S1, R1, h1⟩
    | true => exact h1 (.bl true) g1 H1 R1 (.refl _ _) (shr_bl.mpr rfl)⟩
theorem xe_not (ha : XE X T W Γ a A) : XE X T W Γ (.UnaryOp .Not a pos) (eNot A) := pe_imp (pe_not ha) fun σ H Q ⟨g, ρ, S, R, h⟩ =>
  ⟨g, ρ, S, R, good_bind h fun d S1 v g1 H1 _ R1 f1 s1 h1 => by
    obtain ⟨t, rfl⟩ : ∃ t, d = .bl t := by
      have h0 := h1
      split at h0 <;> first | exact ⟨_, rfl⟩ | exact h0.elim
    exact ⟨t, shr_bl.mp s1, h1 (.bl (!t)) g1 H1 R1 (.refl _ _) (shr_bl.mpr rfl)⟩⟩
theorem xe_if (hc : XT X T W Γ c C) (ha : XE X T W Γ a A) (hb : XE X T W Γ b B) : XE X T W Γ (.IfExp c a b pos) (eIf C A B) := pe_imp (pe_ifExp hc ha hb) fun σ H Q ⟨g, ρ, S, R, h⟩ =>
  ⟨g, ρ, S, R, goodTE_bind h (fun d S1 _ hn => bl_if hn) fun t S1 g1 H1 _ R1 f1 h1 => by
    cases t with
    | true => exact ⟨g1, ρ, S1, R1, h1⟩
    | false => exact ⟨g1, ρ, S1, R1, h1⟩⟩
/-- a op b op' c -/
def eChain (h h' : D → D → Option D) (a b c : FE) : FE := fun ρ S => (a ρ S).bind fun x S1 => (b ρ S1).bind fun y S2 => (RE.of S2 (h x y)).bind fun z S3 => match z with
  | .bl true => (c ρ S3).bind fun w S4 => .of S4 (h' y w)
  | .bl false => .ok (.bl false) S3
  | _ => .no
theorem xe_chain {e : Expr} {r r' : R2} {h h' : D → D → Option D} (ok : OpOk T r h) (ok' : OpOk T r' h') (ha : XE X T W Γ a A) (hb : XE X T W Γ b B) (hc : XE X T W Γ c C)
    (he : PE X a (tX T W Γ A) → PE X b (tX T W Γ B) → PE X c (tX T W Γ C) → PE X e (tChain r r' (tX T W Γ A) (tX T W Γ B) (tX T W Γ C))) : XE X T W Γ e (eChain h h' A B C) := pe_imp (he ha hb hc) fun σ H Q ⟨g, ρ, S, R, hg⟩ =>
  ⟨g, ρ, S, R, good_bind hg fun x S1 v g1 H1 _ R1 f1 s1 hg1 => ⟨g1, ρ, S1, R1, good_bind hg1 fun y S2 w g2 H2 _ R2 f2 s2 hg2 => by
    cases ez : h x y with
    | none => rw [ez] at hg2; exact hg2.elim
    | some z =>
      rw [ez] at hg2
      refine ok g2 H2 x y z v w (s1.stay f2.stay) s2 ez R2.dom _ fun u H3 ex su => ?_
      obtain ⟨t, rfl⟩ : ∃ t, z = .bl t := by
        have h0 := hg2
        unfold RE.of RE.bind at h0
        dsimp only at h0
        split at h0 <;> first | exact ⟨_, rfl⟩ | exact h0.elim
      refine ⟨t, shr_bl.mp su, ?_⟩
      have R3 := R2.ex ex
      cases t with
      | true =>
        rw [if_pos rfl]
        refine ⟨g2, ρ, S2, R3, ?_⟩
        have h0 : GoodE T W Γ ρ σ g2 H3 ((C ρ S2).bind fun w S4 => .of S4 (h' y w)) Q := by
          have h1 : GoodE T W Γ ρ σ g2 H2 ((C ρ S2).bind fun w S4 => .of S4 (h' y w)) Q := hg2
          cases q : (C ρ S2).bind fun w S4 => .of S4 (h' y w) with
          | ok d S4 => rw [q] at h1; exact fun v g' H' R' f' s' => h1 v g' H' R' ((FrE.ex ex).trans f') s'
          | exc d S4 => rw [q] at h1; exact fun v dd g' H' R' f' s' => h1 v dd g' H' R' ((FrE.ex ex).trans f') s'
          | no => rw [q] at h1; exact h1
        refine good_bind h0 fun w4 S4 v4 g4 H4 _ R4 f4 s4 hg4 => ?_
        obtain ⟨z4, e4, hg5⟩ := good_of hg4
        exact ok' g4 H4 y w4 z4 w v4 ((s2.stay (Stay.ex ex)).stay f4.stay) s4 e4 R4.dom Q fun u5 H5 ex5 su5 => hg5 u5 g4 H5 (R4.ex ex5) (.ex ex5) su5
      | false =>
        rw [if_neg Bool.false_ne_true]
        exact hg2 (.bl false) g2 H3 R3 (.ex ex) (shr_bl.mpr rfl)⟩⟩
end
/-! ### displays, slices -/
section
variable {X : Cx} {T : Th} {W : WX} {Γ : List Md} {es : List Expr} {A : FL} {e : Expr}
theorem xe_tup (ha : XL X T W Γ es A) {x1} {pos : Pos} : XE X T W Γ (.Tuple es x1 pos) (eTup A) := pe_imp (pe_tup ha) fun σ H Q ⟨g, ρ, S, R, hg⟩ =>
  ⟨g, ρ, S, R, goodL_then hg fun ds S1 z vs g1 H1 ez R1 f1 s1 hg1 => by
    split at ez
    · rename_i hl
      cases ez
      exact ⟨by rw [← s1.length]; exact sz6 hl, fun p hp => hg1 _ g1 _ (R1.ex (Exx.new hp)) (.ex (Exx.new hp)) (shr_newT s1 hp R1.dom)⟩
    · cases ez⟩
theorem xe_lst (ha : XL X T W Γ es A) {pos : Pos} : XE X T W Γ (.List es pos) (eLst A) := pe_imp (pe_lst ha) fun σ H Q ⟨g, ρ, S, R, hg⟩ =>
  ⟨g, ρ, S, R, goodL_then hg fun ds S1 z vs g1 H1 ez R1 f1 s1 hg1 => by
    split at ez
    · rename_i hl
      cases ez
      exact ⟨by rw [← s1.length]; exact sz6 hl, fun p hp => hg1 _ g1 _ (R1.ex (Exx.new hp)) (.ex (Exx.new hp)) (shr_newL s1 hp R1.dom)⟩
    · cases ez⟩
end
end Q

/-! Statements. -/
namespace Q
open PySem PySem.Spec PyProof.Rows L2
/-- behind a statement -/
structure FrS (g : G) (H : Hp) (g' : G) (H' : Hp) : Prop where
  keep : ∀ a o, H a = some o → (¬ g.U a ∨ g.O a) → H' a = some o
  own : ∀ a, g'.U a → g.U a ∨ H a = none
  O : g'.O = g.O
  P : g'.P = g.P
  N : g.N ≤ g'.N
  μ : ∀ n, n < g.N → g'.μ n = g.μ n
  dom : ∀ a o, H a = some o → ∃ o', H' a = some o'
section
variable {T : Th} {g g1 g2 : G} {H H1 H2 : Hp} {Γ : List Md} {ρ : Env} {S : Store} {σ : L2.St}
theorem FrS.refl (g : G) (H : Hp) : FrS g H g H := ⟨fun _ _ h _ => h, fun _ h => .inl h, rfl, rfl, Nat.le_refl _, fun _ _ => rfl, fun _ o h => ⟨o, h⟩⟩
theorem FrS.Z (f : FrS g H g1 H1) : g1.Z = g.Z := by funext k; show g1.P _ = g.P _; rw [f.P]
theorem FrS.stay (f : FrS g H g1 H1) : Stay g H g1 H1 := ⟨fun a o h hu => f.keep a o h (.inl hu), f.own, f.N, f.μ, f.Z⟩
theorem FrE.frs (f : FrE g H g1 H1) (hd : ∀ a, g.O a → ¬ g.B a) : FrS g H g1 H1 where
  keep := fun a o h hu => f.keep a o h fun z => hu.elim (fun w => w (.inr (.inr z))) (fun w => hd a w z)
  own := f.stay.own
  O := f.O
  P := f.P
  N := f.N
  μ := f.μ
  dom := f.dom
theorem FrS.trans (a : FrS g H g1 H1) (b : FrS g1 H1 g2 H2) : FrS g H g2 H2 where
  keep := fun x o h hu => b.keep x o (a.keep x o h hu) (hu.elim (fun w => .inl (a.stay.off h w)) fun w => .inr (by rw [a.O]; exact w))
  own := (a.stay.trans b.stay).own
  O := b.O.trans a.O
  P := b.P.trans a.P
  N := Nat.le_trans a.N b.N
  μ := (a.stay.trans b.stay).μ
  dom := fun x o h => by
    obtain ⟨o', h'⟩ := a.dom x o h
    exact b.dom x o' h'
end
/-- g, with F's places given to others -/
def G.plus (g : G) (Fo : Addr → Prop) : G := { g with O := fun a => g.O a ∨ Fo a }
/-- how a block is left -/
structure Jd where
  W : WX
  ΓX : List Md → Prop
  ΓR : List Md → Prop
  kr : Nat
  Γl : List Md
def GoodS (T : Th) (J : Jd) (Γ' : List Md) (g : G) (H : Hp) : RS → Ends → Prop
  | .nx ρ' S', D => ∀ σ' g' H', Rel T g' Γ' ρ' S' σ' H' → FrS g H g' H' → D.nx σ' H'
  | .bk ρ' S', D => ∀ σ' g' H', Rel T g' J.Γl ρ' S' σ' H' → FrS g H g' H' → D.bk σ' H'
  | .ct ρ' S', D => ∀ σ' g' H', Rel T g' J.Γl ρ' S' σ' H' → FrS g H g' H' → D.ct σ' H'
  | .rt d ρ' S', D => ∀ Γ'' v σ' g' H' Fo, J.ΓR Γ'' → Rel T (g'.plus Fo) Γ'' ρ' S' σ' H' → FrS g H g' H' → (∀ a, Fo a → ¬ g.O a ∧ (g.U a ∨ H a = none)) → Own T (g'.plus Fo) H' J.kr Fo d v → D.rt v H'
  | .exc x ρ' S', _ => ∀ Γ'' c dd σ' g' H', J.ΓX Γ'' → Rel T g' Γ'' ρ' S' σ' H' → FrS g H g' H' → ExcR T g' H' x c dd → J.W c dd σ' H'
  | .no, _ => False
def tS (T : Th) (J : Jd) (Γ Γ' : List Md) (F : FS) : TS := fun D σ H => ∃ g ρ S, Rel T g Γ ρ S σ H ∧ GoodS T J Γ' g H (F ρ S) D
abbrev XS (X : Cx) (T : Th) (J : Jd) (Γ Γ' : List Md) (st : Stmt) (F : FS) : Prop := PS X st (tS T J Γ Γ' F)
abbrev XB (X : Cx) (T : Th) (J : Jd) (Γ Γ' : List Md) (st : List Stmt) (F : FS) : Prop := PSs X st (tS T J Γ Γ' F)
theorem ps_imp {X : Cx} {e : Stmt} {t t' : TS} (h : PS X e t) (i : ∀ D σ H, t' D σ H → t D σ H) : PS X e t' := ⟨fun pins s σ H D I q => h.run pins s σ H D I (i D σ H q)⟩
theorem pss_imp {X : Cx} {e : List Stmt} {t t' : TS} (h : PSs X e t) (i : ∀ D σ H, t' D σ H → t D σ H) : PSs X e t' := ⟨fun pins s σ H D I q => h.run pins s σ H D I (i D σ H q)⟩
/-! ### what the readings are -/
def RE.bindS (ρ : Env) : RE → (D → Store → RS) → RS
  | .ok d S, k => k d S
  | .exc x S, _ => .exc x ρ S
  | .no, _ => .no
def fPass : FS := fun ρ S => .nx ρ S
def fBrk : FS := fun ρ S => .bk ρ S
def fCt : FS := fun ρ S => .ct ρ S
def fSet (i : Nat) (a : FE) : FS := fun ρ S => (a ρ S).bindS ρ fun d S1 => .nx (ρ.set i (some d)) S1
def fDrop (a : FE) : FS := fun ρ S => (a ρ S).bindS ρ fun _ S1 => .nx ρ S1
def fRet (a : FE) : FS := fun ρ S => (a ρ S).bindS ρ fun d S1 => .rt d ρ S1
def fSeq (f h : FS) : FS := fun ρ S => match f ρ S with
  | .nx ρ1 S1 => h ρ1 S1
  | r => r
def fIf (c : FE) (f h : FS) : FS := fun ρ S => (c ρ S).bindS ρ fun d S1 => match d with
  | .bl true => f ρ S1
  | .bl false => h ρ S1
  | _ => .no
/-- at most n turns -/
def loopN (c : FE) (b : FS) : Nat → Env → Store → Option RS
  | 0, _, _ => none
  | n + 1, ρ, S => match c ρ S with
    | .ok (.bl true) S1 => (match b ρ S1 with
      | .nx ρ2 S2 => loopN c b n ρ2 S2
      | .ct ρ2 S2 => loopN c b n ρ2 S2
      | .bk ρ2 S2 => some (.nx ρ2 S2)
      | r => some r)
    | .ok (.bl false) S1 => some (.nx ρ S1)
    | .exc x S1 => some (.exc x ρ S1)
    | _ => some .no
open Classical in
noncomputable def fWhile (c : FE) (b : FS) : FS := fun ρ S => if h : ∃ n r, loopN c b n ρ S = some r then Classical.choose (Classical.choose_spec h) else .no
theorem loopN_more {c : FE} {b : FS} : ∀ (n : Nat) (ρ : Env) (S : Store) (r : RS), loopN c b n ρ S = some r → loopN c b (n + 1) ρ S = some r
  | 0, _, _, _, h => by cases h
  | n + 1, ρ, S, r, h => by
    rw [loopN] at h ⊢
    split at h
    · split at h
      · exact loopN_more n _ _ _ h
      · exact loopN_more n _ _ _ h
      · exact h
      · exact h
    · exact h
    · exact h
    · exact h
theorem loopN_le {c : FE} {b : FS} {n m : Nat} {ρ : Env} {S : Store} {r : RS} (h : loopN c b n ρ S = some r) (l : n ≤ m) : loopN c b m ρ S = some r := by
  induction l with
  | refl => exact h
  | step _ ih => exact loopN_more _ _ _ _ ih
theorem loopN_uniq {c : FE} {b : FS} {n m : Nat} {ρ : Env} {S : Store} {r r' : RS} (h : loopN c b n ρ S = some r) (h' : loopN c b m ρ S = some r') : r = r' := by
  have a := loopN_le h (Nat.le_max_left n m)
  have a' := loopN_le h' (Nat.le_max_right n m)
  rw [a] at a'
  exact Option.some.inj a'
theorem fWhile_eq {c : FE} {b : FS} {n : Nat} {ρ : Env} {S : Store} {r : RS} (h : loopN c b n ρ S = some r) : fWhile c b ρ S = r := by
  have hx : ∃ n r, loopN c b n ρ S = some r := ⟨n, r, h⟩
  unfold fWhile
  rw [dif_pos hx]
  exact loopN_uniq (Classical.choose_spec (Classical.choose_spec hx)) h
theorem fWhile_get {c : FE} {b : FS} {ρ : Env} {S : Store} (h : fWhile c b ρ S ≠ .no) : ∃ n, loopN c b n ρ S = some (fWhile c b ρ S) := by
  by_cases hx : ∃ n r, loopN c b n ρ S = some r
  · obtain ⟨n, r, e⟩ := hx
    exact ⟨n, by rw [fWhile_eq e]; exact e⟩
  · unfold fWhile at h
    rw [dif_neg hx] at h
    exact absurd rfl h
/-- one turn -/
theorem fWhile_turn {c : FE} {b : FS} {ρ : Env} {S : Store} : fWhile c b ρ S = (c ρ S).bindS ρ fun d S1 => match d with
    | .bl true => (match b ρ S1 with
      | .nx ρ2 S2 => fWhile c b ρ2 S2
      | .ct ρ2 S2 => fWhile c b ρ2 S2
      | .bk ρ2 S2 => .nx ρ2 S2
      | r => r)
    | .bl false => .nx ρ S1
    | _ => .no := by
  have fin : ∀ r, loopN c b 1 ρ S = some r → fWhile c b ρ S = r := fun r h => fWhile_eq h
  have rec' : ∀ ρ2 S2, (∀ n, loopN c b (n + 1) ρ S = loopN c b n ρ2 S2) → fWhile c b ρ S = fWhile c b ρ2 S2 := fun ρ2 S2 h => by
    by_cases hx : ∃ n r, loopN c b n ρ2 S2 = some r
    · obtain ⟨n, r, e⟩ := hx
      rw [fWhile_eq e, fWhile_eq ((h n).trans e)]
    · have hy : ¬ ∃ n r, loopN c b n ρ S = some r := fun ⟨n, r, e⟩ => by
        cases n with
        | zero => cases e
        | succ n => exact hx ⟨n, r, (h n).symm.trans e⟩
      unfold fWhile
      rw [dif_neg hx, dif_neg hy]
  cases e : c ρ S with
  | ok d S1 =>
    show _ = (match d with
      | .bl true => (match b ρ S1 with
        | .nx ρ2 S2 => fWhile c b ρ2 S2
        | .ct ρ2 S2 => fWhile c b ρ2 S2
        | .bk ρ2 S2 => .nx ρ2 S2
        | r => r)
      | .bl false => RS.nx ρ S1
      | _ => .no)
    split
    · split
      · rename_i eb; exact rec' _ _ fun n => by rw [loopN, e]; simp only [eb]
      · rename_i eb; exact rec' _ _ fun n => by rw [loopN, e]; simp only [eb]
      · rename_i eb; exact fin _ (by rw [loopN, e]; simp only [eb])
      · rename_i h1 h2 h3
        refine fin _ ?_
        rw [loopN, e]
        dsimp only
        split
        · rename_i q; exact absurd q (h1 _ _)
        · rename_i q; exact absurd q (h2 _ _)
        · rename_i q; exact absurd q (h3 _ _)
        · rfl
    · exact fin _ (by rw [loopN, e])
    · rename_i h1 h2
      refine fin _ ?_
      rw [loopN, e]
      split
      · rename_i q; cases q; exact absurd rfl h1
      · rename_i q; cases q; exact absurd rfl h2
      · rename_i q; cases q
      · rfl
  | exc x S1 => exact fin _ (by rw [loopN, e]; rfl)
  | no => exact fin _ (by rw [loopN, e]; rfl)
def forL (tf : D → Env → Option Env) (b : FS) : List D → Env → Store → RS
  | [], ρ, S => .nx ρ S
  | d :: ds, ρ, S => match tf d ρ with
    | none => .no
    | some ρ1 => match b ρ1 S with
      | .nx ρ2 S2 => forL tf b ds ρ2 S2
      | .ct ρ2 S2 => forL tf b ds ρ2 S2
      | .bk ρ2 S2 => .nx ρ2 S2
      | r => r
def fFor (it : FL) (tf : D → Env → Option Env) (b : FS) : FS := fun ρ S => match it ρ S with
  | .ok ds S1 => forL tf b ds ρ S1
  | .exc x S1 => .exc x ρ S1
  | .no => .no
section
variable {X : Cx} {T : Th} {J : Jd} {Γ Γ' Γ1 : List Md}
theorem GoodS.after {g g1 : G} {H H1 : Hp} {r : RS} {D : Ends} (h : GoodS T J Γ' g H r D) (f : FrS g H g1 H1) (fo : ∀ a, g1.O a ↔ g.O a) (hu : ∀ a, g1.U a ∨ H1 a = none → g.U a ∨ H a = none) : GoodS T J Γ' g1 H1 r D := by
  cases r with
  | nx ρ' S' => exact fun σ' g' H' R f' => h σ' g' H' R (f.trans f')
  | bk ρ' S' => exact fun σ' g' H' R f' => h σ' g' H' R (f.trans f')
  | ct ρ' S' => exact fun σ' g' H' R f' => h σ' g' H' R (f.trans f')
  | rt d ρ' S' => exact fun Γ'' v σ' g' H' Fo a R f' b c => h Γ'' v σ' g' H' Fo a R (f.trans f') (fun x q => ⟨fun z => (b x q).1 ((fo x).mpr z), hu x (b x q).2⟩) c
  | exc x ρ' S' => exact fun Γ'' c dd σ' g' H' a R f' e => h Γ'' c dd σ' g' H' a R (f.trans f') e
  | no => exact h
theorem FrS.back {g g1 : G} {H H1 : Hp} (f : FrS g H g1 H1) : ∀ a, g1.U a ∨ H1 a = none → g.U a ∨ H a = none := fun a h => by
  rcases h with h | h
  · exact f.own a h
  · cases e : H a with
    | none => exact .inr rfl
    | some o =>
      by_cases hu : g.U a
      · exact .inl hu
      · have := f.keep a o e (.inl hu)
        rw [h] at this; cases this
theorem GoodS.then {g g1 : G} {H H1 : Hp} {r : RS} {D : Ends} (h : GoodS T J Γ' g H r D) (f : FrS g H g1 H1) : GoodS T J Γ' g1 H1 r D := h.after f (fun a => by rw [f.O]) f.back
/-- an expression ahead of what follows -/
theorem good_bindS {ρ : Env} {σ : L2.St} {S : Store} {g : G} {H : Hp} {r : RE} {k : D → Store → RS} {D : Ends} {Q' : VK} (R : Rel T g Γ ρ S σ H) (hx : J.ΓX Γ) (h : GoodS T J Γ' g H (r.bindS ρ k) D)
    (hk : ∀ d S v g' H', r = .ok d S → Rel T g' Γ ρ S σ H' → FrS g H g' H' → Shr T g' H' d v → GoodS T J Γ' g' H' (k d S) D → Q' v H') : GoodE T J.W Γ ρ σ g H r Q' := by
  cases r with
  | ok d S1 =>
    intro v g' H' R' f s
    have f' := f.frs R.dOB
    exact hk d S1 v g' H' rfl R' f' s (GoodS.then h f')
  | exc x S1 =>
    intro c dd g' H' R' f e
    exact h Γ c dd σ g' H' hx R' (f.frs R.dOB) e
  | no => exact h
theorem good_bindT {ρ : Env} {σ : L2.St} {S : Store} {g : G} {H : Hp} {r : RE} {k : D → Store → RS} {D : Ends} {Q' : Bool → Hp → Prop} (R : Rel T g Γ ρ S σ H) (hx : J.ΓX Γ) (h : GoodS T J Γ' g H (r.bindS ρ k) D) (hb : ∀ d S, k d S ≠ .no → ∃ b, d = .bl b)
    (hk : ∀ b S g' H', r = .ok (.bl b) S → Rel T g' Γ ρ S σ H' → FrS g H g' H' → GoodS T J Γ' g' H' (k (.bl b) S) D → Q' b H') : GoodT T J.W Γ ρ σ g H r Q' := by
  cases r with
  | ok d S1 =>
    have h' : GoodS T J Γ' g H (k d S1) D := h
    obtain ⟨b, rfl⟩ := hb d S1 (fun z => by rw [z] at h'; exact h')
    exact ⟨b, rfl, fun g' H' R' f => hk b S1 g' H' rfl R' (f.frs R.dOB) (GoodS.then h' (f.frs R.dOB))⟩
  | exc x S1 =>
    intro c dd g' H' R' f e
    exact h Γ c dd σ g' H' hx R' (f.frs R.dOB) e
  | no => exact h
theorem xs_drop {e : Expr} {A : FE} {st : Stmt} (hx : J.ΓX Γ) (ha : XE X T J.W Γ e A) (he : PE X e (tX T J.W Γ A) → PS X st (tDrop (tX T J.W Γ A))) : XS X T J Γ Γ st (fDrop A) := ps_imp (he ha) fun D σ H ⟨g, ρ, S, R, h⟩ =>
  ⟨g, ρ, S, R, good_bindS R hx h fun d S1 v g1 H1 _ R1 f1 s1 h1 => h1 σ g1 H1 R1 (.refl _ _)⟩
theorem xs_pass {st : Stmt} (h : PS X st tNext) : XS X T J Γ Γ st fPass := ps_imp h fun D σ H ⟨g, ρ, S, R, h⟩ => h σ g H R (.refl _ _)
theorem xs_brk {st : Stmt} (h : PS X st tBreak) (hl : J.Γl = Γ) : XS X T J Γ Γ' st fBrk := ps_imp h fun D σ H ⟨g, ρ, S, R, h⟩ => h σ g H (by rw [hl]; exact R) (.refl _ _)
theorem xs_ct {st : Stmt} (h : PS X st tCont) (hl : J.Γl = Γ) : XS X T J Γ Γ' st fCt := ps_imp h fun D σ H ⟨g, ρ, S, R, h⟩ => h σ g H (by rw [hl]; exact R) (.refl _ _)
theorem xb_nil : XB X T J Γ Γ [] fPass := pss_imp pss_nil fun D σ H ⟨g, ρ, S, R, h⟩ => h σ g H R (.refl _ _)
theorem xb_one {st : Stmt} {A : FS} (ha : XS X T J Γ Γ' st A) : XB X T J Γ Γ' [st] A := pss_one ha
theorem xb_cons {st : Stmt} {rest : List Stmt} {A B : FS} (ha : XS X T J Γ Γ1 st A) (hb : XB X T J Γ1 Γ' rest B) : XB X T J Γ Γ' (st :: rest) (fSeq A B) := pss_imp (pss_cons ha hb) fun D σ H ⟨g, ρ, S, R, h⟩ => by
  refine ⟨g, ρ, S, R, ?_⟩
  unfold fSeq at h
  cases e : A ρ S with
  | nx ρ' S' =>
    rw [e] at h
    exact fun σ' g' H' R' f' => ⟨g', ρ', S', R', GoodS.then h f'⟩
  | bk ρ' S' => rw [e] at h; exact h
  | ct ρ' S' => rw [e] at h; exact h
  | rt d ρ' S' => rw [e] at h; exact h
  | exc x ρ' S' => rw [e] at h; exact h
  | no => rw [e] at h; exact h
theorem xs_if {c : Expr} {a b : List Stmt} {C : FE} {A B : FS} {pos : Pos} (hx : J.ΓX Γ) (hc : XT X T J.W Γ c C) (ha : XB X T J Γ Γ' a A) (hb : XB X T J Γ Γ' b B) : XS X T J Γ Γ' (.If c a b pos) (fIf C A B) := ps_imp (ps_if hc ha hb) fun D σ H ⟨g, ρ, S, R, h⟩ =>
  ⟨g, ρ, S, R, good_bindT R hx h (fun d S1 hn => by
    split at hn
    · exact ⟨_, rfl⟩
    · exact ⟨_, rfl⟩
    · exact absurd rfl hn) fun t S1 g1 H1 _ R1 f1 h1 => by
    cases t with
    | true => exact ⟨g1, ρ, S1, R1, h1⟩
    | false => exact ⟨g1, ρ, S1, R1, h1⟩⟩
/-- the ownership changes, the values stand -/
theorem Rel.shift {g g2 : G} {Γ Γ2 : List Md} {ρ ρ2 : Env} {S : Store} {σ σ2 : L2.St} {H : Hp} (R : Rel T g Γ ρ S σ H) (hN : g2.N = g.N) (hμ : g2.μ = g.μ) (hB : g2.B = g.B) (hBF : g2.BF = g.BF) (hU : ∀ a, g2.U a → g.U a)
    (dF : ∀ i j a, g2.F i a → g2.F j a → i = j) (dFO : ∀ i a, g2.F i a → ¬ g2.O a) (hO : ∀ a, g2.O a → g.O a ∨ ∃ i, g.F i a) (hF : ∀ i a, g2.F i a → (∃ j, g.F j a) ∨ g.O a) (hl : ρ2.length = σ2.length)
    (slot : Stay g H g2 H → ∀ (i : Nat) d, ρ2[i]? = some (some d) → ∃ v, σ2[i]? = some (some v) ∧ RepM T g2 H i (Γ2.getD i .s) d v) (hZ : g2.Z = g.Z := by rfl) : Rel T g2 Γ2 ρ2 S σ2 H := by
  have st : Stay g H g2 H := ⟨fun _ _ h _ => h, fun a h => .inl (hU a h), by rw [hN]; exact Nat.le_refl _, fun n _ => by rw [hμ], hZ⟩
  refine ⟨hl, slot st, dF, dFO, fun i a h => ?_, fun a h => ?_, fun a h => R.dom a (hU a h), R.st.keep st (fun _ _ _ h => h) hN hB hBF fun n _ => by rw [hμ], fun a h => R.nt a (hU a h)⟩
  · rw [hB]
    rcases hF i a h with ⟨j, z⟩ | z
    · exact R.dFB j a z
    · exact R.dOB a z
  · rw [hB]
    rcases hO a h with z | ⟨i, z⟩
    · exact R.dOB a z
    · exact R.dFB i a z
/-- slot i loses what it owned -/
def G.drop (g : G) (i : Nat) : G := { g with F := fun j a => j ≠ i ∧ g.F j a }
theorem G.drop_U {g : G} {i : Nat} {a : Addr} (h : (g.drop i).U a) : g.U a := by
  rcases h with h | ⟨j, _, h⟩ | h
  · exact .inl h
  · exact .inr (.inl ⟨j, h⟩)
  · exact .inr (.inr h)
theorem RepM.stay {g g2 : G} {H : Hp} {i : Nat} {m : Md} {d : D} {v : V} (h : RepM T g H i m d v) (st : Stay g H g2 H) (hF : ∀ a, g.F i a → g2.F i a) (hO : ∀ a, g.O a → g2.O a) (hP : g2.P i = g.P i) (hb : Stay g.bare H g2.bare H) : RepM T g2 H i m d v := by
  cases m with
  | s => exact Shr.stay st _ _ h
  | o k => exact (Own.wide k _ _ d v hF (Own.keepF st k _ d v (fun _ _ _ q => q) h) : Own T g2 H k (g2.F i) d v)
  | r k => exact (Own.wide k _ _ d v hO (Own.keepF st k _ d v (fun _ _ _ q => q) h) : Own T g2 H k g2.O d v)
  | p k => exact ⟨by rw [hP]; exact h.1, (Own.wide k _ _ d v hF (Own.keepF st k _ d v (fun _ _ _ q => q) h.2) : Own T g2 H k (g2.F i) d v)⟩
  | e w => exact h
  | l => exact Shr.stay hb _ _ h
theorem getD_set_self {Γ : List Md} {i : Nat} {m : Md} (h : i < Γ.length) : (Γ.set i m).getD i .s = m := by
  simp [List.getD, h]
theorem getD_set_ne {Γ : List Md} {i j : Nat} {m : Md} (h : i ≠ j) : (Γ.set i m).getD j .s = Γ.getD j .s := by
  simp [List.getD, List.getElem?_set_ne h]
/-- Γ is known where i is: shared slots need no row -/
theorem getD_set_s {Γ : List Md} {i : Nat} : (Γ.set i .s).getD i .s = .s := by
  by_cases h : i < Γ.length
  · exact getD_set_self h
  · rw [List.set_eq_of_length_le (Nat.le_of_not_lt h)]
    simp [List.getD, List.getElem?_eq_none (Nat.le_of_not_lt h)]
/-- a slot takes a shared value -/
theorem Rel.set {g : G} {ρ : Env} {S : Store} {σ : L2.St} {H : Hp} {d : D} {v : V} {i : Nat} (R : Rel T g Γ ρ S σ H) (s : Shr T g H d v) : Rel T (g.drop i) (Γ.set i .s) (ρ.set i (some d)) S (σ.set i (some v)) H := by
  refine R.shift rfl rfl rfl rfl (fun a h => G.drop_U h) (fun j k a h h' => R.dF j k a h.2 h'.2) (fun j a h => R.dFO j a h.2) (fun a h => .inl h) (fun j a h => .inl ⟨j, h.2⟩) (by simp [R.len]) fun st j d' e => ?_
  by_cases hj : i = j
  · subst hj
    by_cases hlt : i < ρ.length
    · rw [List.getElem?_set_self hlt] at e
      cases e
      refine ⟨v, by rw [List.getElem?_set_self (by rw [← R.len]; exact hlt)], ?_⟩
      rw [getD_set_s]
      exact s.stay st
    · rw [List.getElem?_eq_none (by simpa using hlt)] at e
      cases e
  · rw [List.getElem?_set_ne hj] at e
    obtain ⟨w, h1, h2⟩ := R.slot j d' e
    refine ⟨w, by rw [List.getElem?_set_ne hj]; exact h1, ?_⟩
    rw [getD_set_ne hj]
    exact h2.stay st (fun a z => ⟨fun q => hj q.symm, z⟩) (fun a z => z) rfl (bare_sub rfl rfl (fun i a z => ⟨i, z.2⟩) fun _ z => z)
theorem FrS.drop {g : G} {H : Hp} {i : Nat} : FrS g H (g.drop i) H := ⟨fun _ _ h _ => h, fun a h => .inl (G.drop_U h), rfl, rfl, Nat.le_refl _, fun _ _ => rfl, fun _ o h => ⟨o, h⟩⟩
theorem xs_set {i : Nat} {e : Expr} {A : FE} {st : Stmt} (hx : J.ΓX Γ) (ha : XE X T J.W Γ e A) (he : PE X e (tX T J.W Γ A) → PS X st (tAsg (tX T J.W Γ A) (gName i))) (hΓ : Γ.set i .s = Γ') : XS X T J Γ Γ' st (fSet i A) := ps_imp (he ha) fun D σ H ⟨g, ρ, S, R, h⟩ =>
  ⟨g, ρ, S, R, good_bindS R hx h fun d S1 v g1 H1 _ R1 f1 s1 h1 => h1 _ (g1.drop i) H1 (by rw [← hΓ]; exact R1.set s1) .drop⟩
theorem plus_none {g : G} {ρ : Env} {S : Store} {σ : L2.St} {H : Hp} (R : Rel T g Γ ρ S σ H) : Rel T (g.plus fun _ => False) Γ ρ S σ H := by
  have hU : ∀ a, (g.plus fun _ => False).U a → g.U a := fun a h => by
    rcases h with (h | h) | h | h
    · exact .inl h
    · exact h.elim
    · exact .inr (.inl h)
    · exact .inr (.inr h)
  exact R.shift rfl rfl rfl rfl hU R.dF (fun i a h z => z.elim (R.dFO i a h) id) (fun a h => h.elim .inl False.elim) (fun i a h => .inl ⟨i, h⟩) R.len fun st i d e => by
    obtain ⟨v, h1, h2⟩ := R.slot i d e
    exact ⟨v, h1, h2.stay st (fun _ z => z) (fun _ z => .inl z) rfl (bare_sub rfl rfl (fun i a z => ⟨i, z⟩) fun _ z => z)⟩
theorem stay_plus {g : G} {H : Hp} : Stay g H (g.plus fun _ => False) H := ⟨fun _ _ h _ => h, fun a h => by
    rcases h with (h | h) | h | h
    · exact .inl (.inl h)
    · exact h.elim
    · exact .inl (.inr (.inl h))
    · exact .inl (.inr (.inr h)), Nat.le_refl _, fun _ _ => rfl, rfl⟩
theorem shr_plus {g : G} {H : Hp} {d : D} {v : V} (s : Shr T g H d v) : Shr T (g.plus fun _ => False) H d v := s.stay stay_plus
theorem own_shr {g : G} {H : Hp} {d : D} {v : V} {F : Addr → Prop} (s : Shr T g H d v) : Own T g H 0 F d v := by simpa only [Own] using s
theorem xs_ret {e : Expr} {A : FE} {st : Stmt} (hx : J.ΓX Γ) (hr : J.ΓR Γ) (hk : J.kr = 0) (ha : XE X T J.W Γ e A) (he : PE X e (tX T J.W Γ A) → PS X st (tRet (tX T J.W Γ A))) : XS X T J Γ Γ' st (fRet A) := ps_imp (he ha) fun D σ H ⟨g, ρ, S, R, h⟩ =>
  ⟨g, ρ, S, R, good_bindS R hx h fun d S1 v g1 H1 _ R1 f1 s1 h1 => h1 Γ v σ g1 H1 (fun _ => False) hr (plus_none R1) (.refl _ _) (fun _ z => z.elim) (by rw [hk]; exact own_shr (shr_plus s1))⟩
theorem xs_retN {st : Stmt} (hr : J.ΓR Γ) (hk : J.kr = 0) (he : PS X st tRetN) : XS X T J Γ Γ' st (fRet (eC .non)) := ps_imp he fun D σ H ⟨g, ρ, S, R, h⟩ =>
  h Γ .non σ g H (fun _ => False) hr (plus_none R) (.refl _ _) (fun _ z => z.elim) (by rw [hk]; exact own_shr (shr_non.mpr rfl))
end
end Q

/-! Loops. -/
namespace Q
open PySem PySem.Spec PyProof.Rows L2
section
variable {X : Cx} {T : Th} {J : Jd} {Γ Γ' Γ1 : List Md}
theorem xs_while {c : Expr} {body : List Stmt} {C : FE} {B : FS} {pos : Pos} (hx : J.ΓX Γ) (hp : PassesOwn (model X.prog X.w) X.A X.env X.xe) (hc : XT X T J.W Γ c C) (hb : XB X T { J with Γl := Γ } Γ Γ body B) : XS X T J Γ Γ (.While c body [] pos) (fWhile C B) := ps_imp (ps_while hp hc hb) fun D σ H ⟨g, ρ, S, R, h⟩ => by
  have hne : fWhile C B ρ S ≠ .no := fun z => by rw [z] at h; exact h
  obtain ⟨n, hn⟩ := fWhile_get hne
  generalize fWhile C B ρ S = r at h hn
  refine ⟨fun m σ' H' => ∃ g' ρ' S', Rel T g' Γ ρ' S' σ' H' ∧ FrS g H g' H' ∧ loopN C B m ρ' S' = some r, ⟨n, g, ρ, S, R, .refl _ _, hn⟩, fun m σ' H' ⟨g', ρ', S', R', f', hm⟩ => ?_⟩
  have h' := GoodS.then h f'
  refine ⟨g', ρ', S', R', ?_⟩
  cases m with
  | zero => cases hm
  | succ m =>
    rw [loopN] at hm
    split at hm
    · rename_i S1 e
      rw [e]
      refine ⟨true, rfl, fun g1 H1 R1 f1 => ?_⟩
      have f1' := f1.frs R'.dOB
      have h1 := GoodS.then h' f1'
      refine iteT ⟨fun σ2 H2 => ∃ m', m' < m + 1 ∧ ∃ g' ρ' S', Rel T g' Γ ρ' S' σ2 H2 ∧ FrS g H g' H2 ∧ loopN C B m' ρ' S' = some r, fun σ2 H2 ⟨m', l, w⟩ => ⟨m', l, w⟩, g1, ρ', S1, R1, ?_⟩
      split at hm
      · rename_i eb
        rw [eb]
        exact fun σ2 g2 H2 R2 f2 => ⟨m, Nat.lt_succ_self _, g2, _, _, R2, (f'.trans f1').trans f2, hm⟩
      · rename_i eb
        rw [eb]
        exact fun σ2 g2 H2 R2 f2 => ⟨m, Nat.lt_succ_self _, g2, _, _, R2, (f'.trans f1').trans f2, hm⟩
      · rename_i eb
        rw [eb]
        cases hm
        exact fun σ2 g2 H2 R2 f2 => h1 σ2 g2 H2 R2 f2
      · rename_i h3 h4 h5
        cases hm
        cases eb : B ρ' S1 with
        | nx a b => exact absurd eb (h3 a b)
        | ct a b => exact absurd eb (h4 a b)
        | bk a b => exact absurd eb (h5 a b)
        | rt d a b => rw [eb] at h1; exact h1
        | exc x a b => rw [eb] at h1; exact h1
        | no => rw [eb] at h1; exact h1
    · rename_i S1 e
      rw [e]
      cases hm
      refine ⟨false, rfl, fun g1 H1 R1 f1 => ?_⟩
      exact iteF (h' σ' g1 H1 R1 (f1.frs R'.dOB))
    · rename_i x S1 e
      rw [e]
      cases hm
      exact fun c dd g1 H1 R1 f1 ex => h' Γ c dd σ' g1 H1 hx R1 (f1.frs R'.dOB) ex
    · cases hm
      exact h'.elim
/-! ### what a for walks -/
def ItOk (T : Th) (g : G) (H : Hp) (It1 : It) (ds : List D) : Prop := ∀ g' H' (i : Nat), Stay g H g' H' → (ds.length ≤ i → It1.stop i H') ∧ ∀ d, ds[i]? = some d → It1.go i H' ∧ ∀ x H'', It1.yld i H' x H'' → Exx H' H'' ∧ Shr T g' H'' d x
def GoodI (T : Th) (W : WX) (Γ : List Md) (ρ : Env) (σ : L2.St) (g : G) (H : Hp) : RL → (It → Hp → Prop) → Prop
  | .ok ds S', R => ∀ It1 g' H', Rel T g' Γ ρ S' σ H' → FrE g H g' H' → ItOk T g' H' It1 ds → R It1 H'
  | .exc x S', _ => ∀ c dd g' H', Rel T g' Γ ρ S' σ H' → FrE g H g' H' → ExcR T g' H' x c dd → W c dd σ H'
  | .no, _ => False
def tI (T : Th) (W : WX) (Γ : List Md) (F : FL) : TI := fun σ H Q => ∃ g ρ S, Rel T g Γ ρ S σ H ∧ GoodI T W Γ ρ σ g H (F ρ S) Q
abbrev XI (X : Cx) (T : Th) (W : WX) (Γ : List Md) (tg it : Expr) (F : FL) : Prop := PI X tg it (tI T W Γ F)
theorem pi_imp {X : Cx} {tg e : Expr} {t t' : TI} (h : PI X tg e t) (i : ∀ σ H Q, t' σ H Q → t σ H Q) : PI X tg e t' := ⟨fun pins s σ H Q I q => h.run pins s σ H Q I (i σ H Q q)⟩
/-- a value is walked -/
def ItR (X : Cx) (tg : Expr) (r : V → Hp → (It → Hp → Prop) → Prop) : Prop := ∀ (pins : List (Addr × Obj)) (s : Shared) (σ : L2.St) (H : Hp) (x : V) (v : Value) (R : It → Hp → Prop), Inv X pins σ H s → RelV x v → r x H R →
  wpAny (model X.prog X.w) X.A (pyIter v) (PIE X pins σ tg R) X.xe s
theorem itr_or {tg : Expr} {r1 r2 : V → Hp → (It → Hp → Prop) → Prop} (a : ItR X tg r1) (b : ItR X tg r2) : ItR X tg (fun x H R => r1 x H R ∨ r2 x H R) := fun pins s σ H x v R I rx h =>
  h.elim (a pins s σ H x v R I rx) (b pins s σ H x v R I rx)
theorem pi_of {tg l : Expr} {tl : TE} {r : V → Hp → (It → Hp → Prop) → Prop} (hl : PE X l tl) (hr : ItR X tg r) : PI X tg l (fun σ H R => tl σ H fun x H1 => r x H1 R) := by
  refine ⟨fun pins s σ H R I h => ?_⟩
  refine thn (hl.run pins s σ H _ I h) fun v s1 ⟨x, H1, I1, r1, q1⟩ => ?_
  exact hr pins s1 σ H1 x v R I1 r1 q1
theorem itr_list {tg : Expr} : ItR X tg (fun x H R => ∃ a, x = .ref a ∧ (∃ xs, SqL X.K H a xs) ∧ R (Itl X.K a) H) := by
  intro pins s1 σ H1 x v R I1 r1 h
  obtain ⟨a, e, ⟨xs, hq⟩, q⟩ := h
  subst e
  cases r1
  obtain ⟨its, rv, p, hz⟩ := I1.list hq
  refine wpAny_pyIter_list p.isList ?_
  refine ⟨s1.heap.objs.size, [s1.heap.objs.size], _, _, H1, rfl, I1.kept (t' := s1.toks) fun b o e => Heap.get?_push_of_some _ e, turn_list a _, ⟨_, Heap.get?_push_size _ rfl, rfl, rfl⟩, fun b hb => ?_, q⟩
  have e : b = s1.heap.objs.size := by simpa using hb
  subst e
  exact I1.fpOk (Nat.le_refl _) (I1.hok.fresh (Nat.le_refl _))
theorem itr_tup {tg : Expr} : ItR X tg (fun x H R => ∃ a, x = .ref a ∧ (∃ xs, SqT X.K H a xs) ∧ R (Itt X.K a) H) := by
  intro pins s1 σ H1 x v R I1 r1 h
  obtain ⟨a, e, ⟨xs, hq⟩, q⟩ := h
  subst e
  cases r1
  obtain ⟨its, rv, p, hz⟩ := I1.tuple hq
  refine wpAny_pyIter_tuple (show s1.heap.IsTuple a its.toArray from p) ?_
  refine ⟨s1.heap.objs.size, [s1.heap.objs.size], _, _, H1, rfl, I1.kept (t' := s1.toks) fun b o e => Heap.get?_push_of_some _ e, turn_tuple a _, ⟨_, Heap.get?_push_size _ rfl, rfl, rfl⟩, fun b hb => ?_, q⟩
  have e : b = s1.heap.objs.size := by simpa using hb
  subst e
  exact I1.fpOk (Nat.le_refl _) (I1.hok.fresh (Nat.le_refl _))
def hSeq : D → Option (List D)
  | .lst l => some l
  | .scr l => some l
  | .tup l => some l
  | _ => none
def iSeq (a : FE) : FL := fun ρ S => match a ρ S with
  | .ok d S1 => (match hSeq d with
    | some l => .ok l S1
    | none => .no)
  | .exc x S1 => .exc x S1
  | .no => .no
theorem itOk_list {g : G} {H : Hp} {a : Addr} {l : List D} {vs : List V} (st : ∀ g' H', Stay g H g' H' → SqL T.K H' a vs) (s : ShrL T g H l vs) : ItOk T g H (Itl T.K a) l := fun g' H' i y => by
  refine ⟨fun h => ⟨vs, st g' H' y, by rw [← s.length]; exact h⟩, fun d e => ?_⟩
  obtain ⟨v, h1, h2⟩ := (s.stay y l vs).get e
  exact ⟨⟨vs, v, st g' H' y, h1⟩, fun x H'' ⟨e1, e2⟩ => by subst e1; have := e2 vs (st g' _ y); rw [h1] at this; cases this; exact ⟨.refl _, h2⟩⟩
theorem itOk_tup {g : G} {H : Hp} {a : Addr} {l : List D} {vs : List V} (st : ∀ g' H', Stay g H g' H' → SqT T.K H' a vs) (s : ShrL T g H l vs) : ItOk T g H (Itt T.K a) l := fun g' H' i y => by
  refine ⟨fun h => ⟨vs, st g' H' y, by rw [← s.length]; exact h⟩, fun d e => ?_⟩
  obtain ⟨v, h1, h2⟩ := (s.stay y l vs).get e
  exact ⟨⟨vs, v, st g' H' y, h1⟩, fun x H'' ⟨e1, e2⟩ => by subst e1; have := e2 vs (st g' _ y); rw [h1] at this; cases this; exact ⟨.refl _, h2⟩⟩
theorem xi_seq {W : WX} {tg e : Expr} {A : FE} (hK : X.K = T.K) (ha : XE X T W Γ e A) : XI X T W Γ tg e (iSeq A) := pi_imp (pi_of ha (itr_or itr_list itr_tup)) fun σ H Q ⟨g, ρ, S, R, h⟩ => by
  refine ⟨g, ρ, S, R, ?_⟩
  unfold iSeq at h
  cases e : A ρ S with
  | ok d S1 =>
    rw [e] at h
    intro v g' H' R' f' s
    rw [hK]
    have h : GoodI T W Γ ρ σ g H (match hSeq d with | some l => RL.ok l S1 | none => .no) Q := h
    cases d <;> simp only [hSeq] at h <;> first | exact h.elim | skip
    · obtain ⟨a, vs, rfl, la, ra⟩ := shr_tup.mp s
      exact .inr ⟨a, rfl, ⟨vs, la.sq⟩, h _ g' H' R' f' (itOk_tup (fun g2 H2 y => by
        rcases la with z | z
        · exact .inl (y.rd z.1 z.2).1
        · exact .inr z) ra)⟩
    · obtain ⟨a, vs, rfl, la, ra⟩ := shr_lst.mp s
      exact .inl ⟨a, rfl, ⟨vs, .of la.1⟩, h _ g' H' R' f' (itOk_list (fun g2 H2 y => .of (y.keep _ _ la.1 la.2)) ra)⟩
    · obtain ⟨a, vs, rfl, la, ra⟩ := shr_scr.mp s
      exact .inl ⟨a, rfl, ⟨vs, la.sq⟩, h _ g' H' R' f' (itOk_list (fun g2 H2 y => by
        rcases la with z | z
        · exact .inl (y.rd z.1 z.2).1
        · exact .inr z) ra)⟩
  | exc x S1 => rw [e] at h; exact h
  | no => rw [e] at h; exact h
/-- .. as long as nothing is written but the objects -/
def ItOkF (T : Th) (g : G) (H : Hp) (It1 : It) (ds : List D) : Prop := ∀ g' H' (i : Nat), Stay g H g' H' → (∀ a o, H a = some o → ¬ g.B a → H' a = some o) → (ds.length ≤ i → It1.stop i H') ∧ ∀ d, ds[i]? = some d → It1.go i H' ∧ ∀ x H'', It1.yld i H' x H'' → Exx H' H'' ∧ Shr T g' H'' d x
def GoodIF (T : Th) (W : WX) (Γ : List Md) (ρ : Env) (σ : L2.St) (g : G) (H : Hp) : RL → (It → Hp → Prop) → Prop
  | .ok ds S', R => ∀ It1 g' H', Rel T g' Γ ρ S' σ H' → FrE g H g' H' → ItOkF T g' H' It1 ds → R It1 H'
  | .exc x S', _ => ∀ c dd g' H', Rel T g' Γ ρ S' σ H' → FrE g H g' H' → ExcR T g' H' x c dd → W c dd σ H'
  | .no, _ => False
def tIF (T : Th) (W : WX) (Γ : List Md) (F : FL) : TI := fun σ H Q => ∃ g ρ S, Rel T g Γ ρ S σ H ∧ GoodIF T W Γ ρ σ g H (F ρ S) Q
abbrev XIF (X : Cx) (T : Th) (W : WX) (Γ : List Md) (tg it : Expr) (F : FL) : Prop := PI X tg it (tIF T W Γ F)
theorem xif_of {W : WX} {tg e : Expr} {F : FL} (h : XI X T W Γ tg e F) : XIF X T W Γ tg e F := pi_imp h fun σ H Q ⟨g, ρ, S, R, hg⟩ => by
  refine ⟨g, ρ, S, R, ?_⟩
  cases r : F ρ S with
  | ok ds S1 => rw [r] at hg; exact fun It1 g' H' R' f' io => hg It1 g' H' R' f' fun g2 H2 i st _ => io g2 H2 i st
  | exc x S1 => rw [r] at hg; exact hg
  | no => rw [r] at hg; exact hg
/-- a list that a slot owns -/
theorem xif_own {W : WX} {tg e : Expr} {i : Nat} (hK : X.K = T.K) (he : PE X e (tVar i)) (hm : Γ.getD i .s = .o 1) : XIF X T W Γ tg e (iSeq (eVar i)) := pi_imp (pi_of he (itr_or itr_list itr_tup)) fun σ H Q ⟨g, ρ, S, R, h⟩ => by
  unfold iSeq eVar at h
  cases e : ρ[i]? with
  | none => simp only [e] at h; exact h.elim
  | some o =>
    cases o with
    | none => simp only [e] at h; exact h.elim
    | some d =>
      simp only [e] at h
      obtain ⟨v, h1, h2⟩ := R.slot i d e
      rw [hm] at h2
      refine ⟨v, h1, ?_⟩
      rw [hK]
      have h2 : Own T g H 1 (g.F i) d v := h2
      cases d <;> simp only [hSeq] at h <;> first | exact h.elim | skip
      · rename_i l _
        have s : Shr T g H (.tup l) v := by simpa only [Own] using h2
        obtain ⟨a, vs, rfl, la, ra⟩ := shr_tup.mp s
        refine .inr ⟨a, rfl, ⟨vs, la.sq⟩, h _ g H R (.refl g H) fun g2 H2 j y _ => ?_⟩
        exact itOk_tup (fun g2 H2 y => by
          rcases la with z | z
          · exact .inl (y.rd z.1 z.2).1
          · exact .inr z) ra g2 H2 j y
      · simp only [Own] at h2
        obtain ⟨p, vs, rfl, hF, hH, hl, Gs, _, _, h3⟩ := h2
        refine .inl ⟨p, rfl, ⟨vs, .of hH⟩, h _ g H R (.refl g H) fun g2 H2 j y kp => ?_⟩
        have sq : SqL T.K H2 p vs := .of (kp p _ hH (R.dFB i p hF))
        have sl := ShrL.stay y _ _ (ShrL.of hl h3)
        refine ⟨fun hj => ⟨vs, sq, by rw [← hl]; exact hj⟩, fun d e => ?_⟩
        obtain ⟨v, w1, w2⟩ := sl.get e
        exact ⟨⟨vs, v, sq, w1⟩, fun x H'' ⟨e1, e2⟩ => by subst e1; have := e2 vs sq; rw [w1] at this; cases this; exact ⟨.refl _, w2⟩⟩
      · rename_i l _
        have s : Shr T g H (.scr l) v := by simpa only [Own] using h2
        obtain ⟨a, vs, rfl, la, ra⟩ := shr_scr.mp s
        refine .inl ⟨a, rfl, ⟨vs, la.sq⟩, h _ g H R (.refl g H) fun g2 H2 j y _ => ?_⟩
        exact itOk_list (fun g2 H2 y => by
          rcases la with z | z
          · exact .inl (y.rd z.1 z.2).1
          · exact .inr z) ra g2 H2 j y
/-- range(n), range(a, b) -/
def rangeL (lo hi : Int) : List D := (List.range (hi - lo).toNat).map fun (k : Nat) => D.int (lo + k)
def rgK1 (ds : List D) (S : Store) : RL := match ds with
  | [.int n] => if -1000000000000 ≤ n ∧ n ≤ 1000000000000 then .ok (rangeL 0 n) S else .no
  | _ => .no
def rgK2 (ds : List D) (S : Store) : RL := match ds with
  | [.int lo, .int hi] => if (-1000000000000 ≤ lo ∧ lo ≤ 1000000000000) ∧ -1000000000000 ≤ hi ∧ hi ≤ 1000000000000 then .ok (rangeL lo hi) S else .no
  | _ => .no
def iRange1 (a : FL) : FL := fun ρ S => match a ρ S with
  | .ok ds S1 => rgK1 ds S1
  | .exc x S1 => .exc x S1
  | .no => .no
def iRange2 (a : FL) : FL := fun ρ S => match a ρ S with
  | .ok ds S1 => rgK2 ds S1
  | .exc x S1 => .exc x S1
  | .no => .no
theorem itOk_range {g : G} {H : Hp} {lo hi : Int} : ItOk T g H (Itr lo (hi - lo).toNat) (rangeL lo hi) := fun g' H' i y => by
  refine ⟨fun h => ?_, fun d e => ?_⟩
  · show (hi - lo).toNat ≤ i
    simpa [rangeL] using h
  · unfold rangeL at e
    rw [List.getElem?_map] at e
    obtain ⟨k, e1, e2⟩ := Option.map_eq_some_iff.mp e
    obtain ⟨hk, e3⟩ := List.getElem?_eq_some_iff.mp e1
    rw [List.getElem_range] at e3
    subst e3
    subst e2
    rw [List.length_range] at hk
    exact ⟨hk, fun x H'' ⟨e1, e2⟩ => by subst e1; subst e2; exact ⟨.refl _, shr_int.mpr rfl⟩⟩
theorem xi_range1 {W : WX} {tg e a : Expr} {A : FL} (ha : XL X T W Γ [a] A) (he : PA X [a] (tXL T W Γ A) → PI X tg e (iRng1 (tXL T W Γ A))) : XI X T W Γ tg e (iRange1 A) := pi_imp (he ha) fun σ H Q ⟨g, ρ, S, R, h⟩ => by
  refine ⟨g, ρ, S, R, ?_⟩
  unfold iRange1 at h
  cases e : A ρ S with
  | exc x S1 => rw [e] at h; exact h
  | no => rw [e] at h; exact h
  | ok ds S1 =>
    rw [e] at h
    replace h : GoodI T W Γ ρ σ g H (rgK1 ds S1) Q := h
    unfold rgK1 at h
    split at h
    · rename_i n
      split at h
      · rename_i hl
        intro v g' H' R' f' s
        obtain ⟨v, rfl, s1⟩ := shrL1 s
        rw [shr_int.mp s1]
        refine ⟨n, rfl, by omega, by omega, h _ g' H' R' f' ?_⟩
        have := itOk_range (T := T) (g := g') (H := H') (lo := 0) (hi := n)
        rw [Int.sub_zero] at this
        exact this
      · exact h.elim
    · exact h.elim
theorem xi_range2 {W : WX} {tg e a b : Expr} {A : FL} (ha : XL X T W Γ [a, b] A) (he : PA X [a, b] (tXL T W Γ A) → PI X tg e (iRng2 (tXL T W Γ A))) : XI X T W Γ tg e (iRange2 A) := pi_imp (he ha) fun σ H Q ⟨g, ρ, S, R, h⟩ => by
  refine ⟨g, ρ, S, R, ?_⟩
  unfold iRange2 at h
  cases e : A ρ S with
  | exc x S1 => rw [e] at h; exact h
  | no => rw [e] at h; exact h
  | ok ds S1 =>
    rw [e] at h
    replace h : GoodI T W Γ ρ σ g H (rgK2 ds S1) Q := h
    unfold rgK2 at h
    split at h
    · rename_i lo hi
      split at h
      · rename_i hl
        intro v g' H' R' f' s
        obtain ⟨v, w, rfl, s1, s2⟩ := shrL2 s
        rw [shr_int.mp s1, shr_int.mp s2]
        exact ⟨lo, hi, rfl, ⟨by omega, by omega, by omega, by omega⟩, h _ g' H' R' f' itOk_range⟩
      · exact h.elim
    · exact h.elim
/-- a text, sign by sign -/
def iStrD (a : FE) : FL := fun ρ S => match a ρ S with
  | .ok (.str x) S1 => .ok (x.cps.toList.map fun c => D.str ⟨#[c]⟩) S1
  | .exc x S1 => .exc x S1
  | _ => .no
theorem xi_str {W : WX} {tg e : Expr} {A : FE} (ha : XE X T W Γ e A) : XI X T W Γ tg e (iStrD A) := pi_imp (pi_str ha) fun σ H Q ⟨g, ρ, S, R, h⟩ => by
  refine ⟨g, ρ, S, R, ?_⟩
  unfold iStrD at h
  split at h
  · rename_i x S1 e
    rw [e]
    intro v g' H' R' f' s
    refine ⟨x, shr_str.mp s, h _ g' H' R' f' fun g2 H2 i y => ?_⟩
    refine ⟨fun hl => ?_, fun d e => ?_⟩
    · show x.cps.size ≤ i
      simpa using hl
    · rw [List.getElem?_map] at e
      obtain ⟨c, e1, e2⟩ := Option.map_eq_some_iff.mp e
      subst e2
      have e3 : x.cps[i]? = some c := by simpa using e1
      refine ⟨?_, fun z H3 ⟨z1, c', z2, z3⟩ => ?_⟩
      · show i < x.cps.size
        exact (Array.getElem?_eq_some_iff.mp e3).1
      · subst z1
        rw [e3] at z2
        cases z2
        exact ⟨.refl _, shr_str.mpr z3⟩
  · rename_i e
    rw [e]
    exact h
  · exact h.elim
/-! ### targets -/
def G.drops (g : G) (is : List Nat) : G := { g with F := fun j a => j ∉ is ∧ g.F j a }
theorem G.drops_U {g : G} {is : List Nat} {a : Addr} (h : (g.drops is).U a) : g.U a := by
  rcases h with h | ⟨j, _, h⟩ | h
  · exact .inl h
  · exact .inr (.inl ⟨j, h⟩)
  · exact .inr (.inr h)
theorem FrS.drops {g : G} {H : Hp} {is : List Nat} : FrS g H (g.drops is) H := ⟨fun _ _ h _ => h, fun a h => .inl (G.drops_U h), rfl, rfl, Nat.le_refl _, fun _ _ => rfl, fun _ o h => ⟨o, h⟩⟩
theorem G.drops_one {g : G} {i : Nat} : g.drop i = g.drops [i] := by
  unfold G.drop G.drops
  congr 1
  funext j a
  simp
theorem G.drops_nil {g : G} : g.drops [] = g := by
  unfold G.drops
  congr 1
  funext j a
  simp
theorem G.drops_app {g : G} {is js : List Nat} : (g.drops is).drops js = g.drops (is ++ js) := by
  unfold G.drops
  congr 1
  funext j a
  simp only [List.mem_append, not_or, eq_iff_iff]
  exact ⟨fun h => ⟨⟨h.2.1, h.1⟩, h.2.2⟩, fun h => ⟨h.1.2, h.1.1, h.2⟩⟩
def TgOk (T : Th) (Γ Γ' : List Md) (is : List Nat) (t : TG) (tf : D → Env → Option Env) : Prop := ∀ (g : G) (ρ ρ' : Env) (S : Store) (σ : L2.St) (H : Hp) (d : D) (v : V) (Q : L2.St → Hp → Prop), Rel T g Γ ρ S σ H → Shr T g H d v → tf d ρ = some ρ' →
  (∀ σ', Rel T (g.drops is) Γ' ρ' S σ' H → σ'.length = σ.length → (∀ j, j ∉ is → σ'[j]? = σ[j]?) → Q σ' H) → t v σ H Q
def tfName (i : Nat) : D → Env → Option Env := fun d ρ => some (ρ.set i (some d))
theorem tg_name {i : Nat} (h : Γ.set i .s = Γ') : TgOk T Γ Γ' [i] (gName i) (tfName i) := fun g ρ ρ' S σ H d v Q R s e k => by
  cases e
  subst h
  refine k _ ?_ (by simp) fun j hj => List.getElem?_set_ne (fun z => hj (by simp [z]))
  rw [← G.drops_one]
  exact R.set s
def TgsOk (T : Th) (Γ Γ' : List Md) (is : List Nat) (t : TGs) (tf : List D → Env → Option Env) : Prop := ∀ (g : G) (ρ ρ' : Env) (S : Store) (σ : L2.St) (H : Hp) (d : List D) (v : List V) (Q : L2.St → Hp → Prop), Rel T g Γ ρ S σ H → ShrL T g H d v → tf d ρ = some ρ' →
  (∀ σ', Rel T (g.drops is) Γ' ρ' S σ' H → σ'.length = σ.length → (∀ j, j ∉ is → σ'[j]? = σ[j]?) → Q σ' H) → t v σ H Q
def tfNil : List D → Env → Option Env := fun ds ρ => match ds with
  | [] => some ρ
  | _ => none
def tfCons (t : D → Env → Option Env) (u : List D → Env → Option Env) : List D → Env → Option Env := fun ds ρ => match ds with
  | d :: r => (t d ρ).bind (u r)
  | _ => none
theorem tgs_nil : TgsOk T Γ Γ [] gNil tfNil := fun g ρ ρ' S σ H d v Q R s e k => by
  unfold tfNil at e
  split at e
  · cases e
    simp only [ShrL] at s
    exact ⟨s, k σ (by rw [G.drops_nil]; exact R) rfl fun _ _ => rfl⟩
  · cases e
theorem tgs_cons {is js : List Nat} {t : TG} {u : TGs} {tf : D → Env → Option Env} {uf : List D → Env → Option Env} (h : TgOk T Γ Γ1 is t tf) (h' : TgsOk T Γ1 Γ' js u uf) : TgsOk T Γ Γ' (is ++ js) (gCons t u) (tfCons tf uf) := fun g ρ ρ' S σ H d v Q R s e k => by
  unfold tfCons at e
  split at e
  · rename_i d' r
    simp only [ShrL] at s
    obtain ⟨v', ws, rfl, s1, s2⟩ := s
    obtain ⟨ρ1, e1, e2⟩ := Option.bind_eq_some_iff.mp e
    refine ⟨v', ws, rfl, h g ρ ρ1 S σ H d' v' _ R s1 e1 fun σ1 R1 l1 k1 => ?_⟩
    exact h' _ ρ1 ρ' S σ1 H r ws Q R1 (ShrL.stay FrS.drops.stay _ _ s2) e2 fun σ2 R2 l2 k2 => k σ2 (by rw [G.drops_app] at R2; exact R2) (l2.trans l1) fun j hj => by
      rw [List.mem_append, not_or] at hj
      rw [k2 j hj.2, k1 j hj.1]
  · cases e
def tfTup (n : Nat) (u : List D → Env → Option Env) : D → Env → Option Env := fun d ρ => match d with
  | .tup l => if l.length = n then u l ρ else none
  | _ => none
theorem tg_tup {n : Nat} {is : List Nat} {u : TGs} {uf : List D → Env → Option Env} (h : TgsOk T Γ Γ' is u uf) : TgOk T Γ Γ' is (gTup T.K n u) (tfTup n uf) := fun g ρ ρ' S σ H d v Q R s e k => by
  unfold tfTup at e
  split at e
  · rename_i l
    split at e
    · rename_i hl
      obtain ⟨a, vs, rfl, la, ra⟩ := shr_tup.mp s
      exact ⟨a, vs, rfl, la.sq, by rw [← ra.length]; exact hl, h g ρ ρ' S σ H l vs Q R ra e k⟩
    · cases e
  · cases e
/-- a target takes a value -/
def fAsg (a : FE) (tf : D → Env → Option Env) : FS := fun ρ S => (a ρ S).bindS ρ fun d S1 => match tf d ρ with
  | some ρ1 => .nx ρ1 S1
  | none => .no
theorem xs_asg {e : Expr} {A : FE} {st : Stmt} {t : TG} {tf : D → Env → Option Env} {is : List Nat} (hx : J.ΓX Γ) (ht : TgOk T Γ Γ' is t tf) (ha : XE X T J.W Γ e A) (he : PE X e (tX T J.W Γ A) → PS X st (tAsg (tX T J.W Γ A) t)) : XS X T J Γ Γ' st (fAsg A tf) := ps_imp (he ha) fun D σ H ⟨g, ρ, S, R, h⟩ =>
  ⟨g, ρ, S, R, good_bindS R hx h fun d S1 v g1 H1 _ R1 f1 s1 h1 => by
    cases e : tf d ρ with
    | none => rw [e] at h1; exact h1.elim
    | some ρ1 =>
      rw [e] at h1
      exact ht g1 ρ ρ1 S1 σ H1 d v D.nx R1 s1 e fun σ' R' _ _ => h1 σ' _ H1 R' .drops⟩
theorem xs_for {tg it : Expr} {body : List Stmt} {F : FL} {B : FS} {tf : D → Env → Option Env} {t : TG} {is : List Nat} {pos : Pos} (hx : J.ΓX Γ) (hp : PassesOwn (model X.prog X.w) X.A X.env X.xe) (hc : X.calm = true) (hi : XI X T J.W Γ tg it F) (hg : PG X tg t) (ht : TgOk T Γ Γ is t tf)
    (hb : XB X T { J with Γl := Γ } Γ Γ body B) (hs : ∀ x, foldedSetIterable it X.env x = pure x := by intro _; rfl) : XS X T J Γ Γ (.For tg it body [] pos) (fFor F tf B) := ps_imp (ps_for hp hc hi hg hb hs) fun D σ H ⟨g, ρ, S, R, h⟩ => by
  refine ⟨g, ρ, S, R, ?_⟩
  unfold fFor at h
  cases e : F ρ S with
  | exc x S1 => rw [e] at h; exact fun c dd g' H' R' f' s => h Γ c dd σ g' H' hx R' (f'.frs R.dOB) s
  | no => rw [e] at h; exact h
  | ok ds S1 =>
    rw [e] at h
    intro It1 g1 H1 R1 f1 io
    have h : GoodS T J Γ g H (forL tf B ds ρ S1) D := h
    have f1' := f1.frs R.dOB
    have h0 := GoodS.then h f1'
    generalize hr : forL tf B ds ρ S1 = r at h0
    clear h
    refine ⟨fun i m σ' H' => ∃ g' ρ' S', Rel T g' Γ ρ' S' σ' H' ∧ FrS g1 H1 g' H' ∧ m = ds.length - i ∧ i ≤ ds.length ∧ forL tf B (ds.drop i) ρ' S' = r, ⟨ds.length, g1, ρ, S1, R1, .refl _ _, by simp, Nat.zero_le _, by rw [List.drop_zero]; exact hr⟩, fun i m σ' H' ⟨g', ρ', S', R', f', em, hi', er⟩ => ?_⟩
    obtain ⟨i1, i2⟩ := io g' H' i f'.stay
    have h2 := GoodS.then h0 f'
    by_cases hlt : i < ds.length
    · obtain ⟨d, hd⟩ : ∃ d, ds[i]? = some d := ⟨ds[i], List.getElem?_eq_getElem hlt⟩
      obtain ⟨go, yl⟩ := i2 d hd
      refine .inr ⟨go, fun σ2 H2 => ∃ m', m' < m ∧ ∃ g' ρ' S', Rel T g' Γ ρ' S' σ2 H2 ∧ FrS g1 H1 g' H2 ∧ m' = ds.length - (i + 1) ∧ i + 1 ≤ ds.length ∧ forL tf B (ds.drop (i + 1)) ρ' S' = r, fun σ2 H2 ⟨m', l, w⟩ => ⟨m', l, w⟩, fun x H2 y => ?_⟩
      obtain ⟨ex, sx⟩ := yl x H2 y
      have R2 := R'.ex ex
      have f2 : FrS g1 H1 g' H2 := f'.trans ((FrE.ex ex).frs R'.dOB)
      have ed : ds.drop i = d :: ds.drop (i + 1) := by
        rw [List.drop_eq_getElem_cons hlt]
        rw [List.getElem?_eq_getElem hlt] at hd
        rw [Option.some.inj hd]
      rw [ed] at er
      rw [forL] at er
      split at er
      · rename_i e1
        rw [← er] at h2
        exact h2.elim
      · rename_i ρ1 e1
        refine ht g' ρ' ρ1 S' σ' H2 d x _ R2 sx e1 fun σ3 R3 _ _ => ⟨g'.drops is, ρ1, S', R3, ?_⟩
        have f3 : FrS g' H2 (g'.drops is) H2 := .drops
        have h3 := GoodS.then h2 (((FrE.ex ex).frs R'.dOB).trans f3)
        have nxt : ∀ {ρ2 : Env} {S2 : Store}, forL tf B (ds.drop (i + 1)) ρ2 S2 = r → ∀ σ4 g4 H4, Rel T g4 Γ ρ2 S2 σ4 H4 → FrS (g'.drops is) H2 g4 H4 → ∃ m', m' < m ∧ ∃ g' ρ' S', Rel T g' Γ ρ' S' σ4 H4 ∧ FrS g1 H1 g' H4 ∧ m' = ds.length - (i + 1) ∧ i + 1 ≤ ds.length ∧ forL tf B (ds.drop (i + 1)) ρ' S' = r :=
          fun {ρ2 S2} e2 σ4 g4 H4 R4 f4 => ⟨ds.length - (i + 1), by omega, g4, ρ2, S2, R4, (f2.trans f3).trans f4, rfl, hlt, e2⟩
        split at er
        · rename_i eb; rw [eb]; exact nxt er
        · rename_i eb; rw [eb]; exact nxt er
        · rename_i eb
          rw [eb]
          rw [← er] at h3
          exact h3
        · rename_i n1 n2 n3
          rw [← er] at h3
          cases eb : B ρ1 S' with
          | nx a b => exact absurd eb (n1 a b)
          | ct a b => exact absurd eb (n2 a b)
          | bk a b => exact absurd eb (n3 a b)
          | rt d a b => rw [eb] at h3; exact h3
          | exc x a b => rw [eb] at h3; exact h3
          | no => rw [eb] at h3; exact h3
    · have e1 : i = ds.length := by omega
      subst e1
      refine .inl ⟨i1 (Nat.le_refl _), ?_⟩
      rw [List.drop_length] at er
      rw [← er] at h2
      exact h2 σ' g' H' R' (.refl _ _)
end
end Q

/-! Defs and calls. -/
namespace Q
open PySem PySem.Spec PyProof.Rows L2
/-- what a call comes to; outs: what its pinned parameters hold at its end -/
inductive RF where
  | ok (d : D) (outs : Env) (S : Store)
  | exc (x : Exc) (outs : Env) (S : Store)
  | no
abbrev FF := List D → Store → RF
structure Sig where
  ms : List Md
  kr : Nat
def GoodF (T : Th) (sg : Sig) (g : G) (vs : List V) (H : Hp) : RF → VK → XK → Prop
  | .ok d outs S', Q, _ => ∀ v g' H' Fo, Rel T (g'.plus Fo) sg.ms outs S' (vs.map some) H' → FrS g H g' H' → (∀ i a, g'.F i a → ∃ k, sg.ms.getD i .s = .p k) → (∀ a, Fo a → ¬ g.O a ∧ (g.U a ∨ H a = none)) → Own T (g'.plus Fo) H' sg.kr Fo d v → Q v H'
  | .exc x outs S', _, E => ∀ c dd g' H', Rel T g' sg.ms outs S' (vs.map some) H' → FrS g H g' H' → (∀ i a, g'.F i a → ∃ k, sg.ms.getD i .s = .p k) → ExcR T g' H' x c dd → E c dd H'
  | .no, _, _ => False
/-- what a def promises: on data it comes to Φ -/
def spD (T : Th) (n : Nat) (sg : Sig) (Φ : FF) : Sp := fun vs H Q E => vs.length = n ∧ ∃ g ds S, Rel T g sg.ms (ds.map some) S (vs.map some) H ∧ GoodF T sg g vs H (Φ ds S) Q E
/-- what the pinned parameters hold -/
def outsOf : List Md → Nat → Env → Env
  | _, 0, _ => []
  | ms, n + 1, ρ => (match ms.headD .s with
    | .p _ => ρ.headD none
    | _ => none) :: outsOf ms.tail n ρ.tail
def fBody (N n : Nat) (ms : List Md) (b : FS) : FF := fun ds S => match b (ds.map some ++ List.replicate (N - n) none) S with
  | .nx ρ S' => .ok .non (outsOf ms n ρ) S'
  | .rt d ρ S' => .ok d (outsOf ms n ρ) S'
  | .exc x ρ S' => .exc x (outsOf ms n ρ) S'
  | _ => .no
theorem outsOf_length : ∀ (ms : List Md) (n : Nat) (ρ : Env), (outsOf ms n ρ).length = n
  | _, 0, _ => rfl
  | ms, n + 1, ρ => by rw [outsOf, List.length_cons, outsOf_length]
theorem outsOf_get : ∀ (ms : List Md) (n : Nat) (ρ : Env) (i : Nat) (d : D), (outsOf ms n ρ)[i]? = some (some d) → i < n ∧ (∃ k, ms.getD i .s = .p k) ∧ ρ[i]? = some (some d)
  | _, 0, _, i, d, h => by simp [outsOf] at h
  | ms, n + 1, ρ, 0, d, h => by
    rw [outsOf, List.getElem?_cons_zero] at h
    have h := Option.some.inj h
    split at h
    · rename_i k e
      refine ⟨Nat.succ_pos _, ⟨k, ?_⟩, ?_⟩
      · cases ms with
        | nil => cases e
        | cons m r => exact e
      · cases ρ with
        | nil => cases h
        | cons x r => simp at h; simp [h]
    · cases h
  | ms, n + 1, ρ, i + 1, d, h => by
    rw [outsOf, List.getElem?_cons_succ] at h
    obtain ⟨h1, ⟨k, h2⟩, h3⟩ := outsOf_get ms.tail n ρ.tail i d h
    refine ⟨by omega, ⟨k, ?_⟩, ?_⟩
    · cases ms with
      | nil => simp at h2
      | cons m r => simpa using h2
    · cases ρ with
      | nil => simp at h3
      | cons x r => simpa using h3
/-- a pinned parameter is pinned still -/
def ΓP (ms : List Md) : List Md → Prop := fun Γ => ∀ i k, ms.getD i .s = .p k → Γ.getD i .s = .p k
section
variable {T : Th}
/-- the slots go, but the pinned parameters -/
def G.only (g : G) (ms : List Md) : G := { g with F := fun i a => (∃ k, ms.getD i .s = .p k) ∧ g.F i a }
theorem G.only_U {g : G} {ms : List Md} {a : Addr} (h : (g.only ms).U a) : g.U a := by
  rcases h with h | ⟨j, _, h⟩ | h
  · exact .inl h
  · exact .inr (.inl ⟨j, h⟩)
  · exact .inr (.inr h)
theorem Rel.outs {g g0 : G} {Γ ms : List Md} {ρ : Env} {S : Store} {σ : L2.St} {H : Hp} {vs : List V} {n : Nat} (R : Rel T g Γ ρ S σ H) (hΓ : ΓP ms Γ) (hn : vs.length = n) (hP : g.P = g0.P) (h0 : ∀ i k, ms.getD i .s = .p k → i < n → vs[i]? = some (g0.P i)) :
    Rel T (g.only ms) ms (outsOf ms n ρ) S (vs.map some) H := by
  refine R.shift rfl rfl rfl rfl (fun a h => G.only_U h) (fun i j a h h' => R.dF i j a h.2 h'.2) (fun i a h => R.dFO i a h.2) (fun a h => .inl h) (fun i a h => .inl ⟨i, h.2⟩) (by rw [outsOf_length, List.length_map, hn]) fun st i d e => ?_
  obtain ⟨hi, ⟨k, hk⟩, e2⟩ := outsOf_get ms n ρ i d e
  obtain ⟨v, h1, h2⟩ := R.slot i d e2
  rw [hΓ i k hk] at h2
  have h3 := h2.stay (g2 := g.only ms) st (fun a z => ⟨⟨k, hk⟩, z⟩) (fun a z => z) rfl (bare_sub rfl rfl (fun i a z => ⟨i, z.2⟩) fun _ z => z)
  refine ⟨v, ?_, by rw [hk]; exact h3⟩
  have ev : v = g0.P i := by rw [← hP]; exact h2.1
  rw [List.getElem?_map, h0 i k hk hi, ev]
  rfl
theorem own_non {g : G} {H : Hp} {k : Nat} {F : Addr → Prop} : Own T g H k F .non .non := by
  cases k <;> simp [Own, Shr]
theorem FrS.only {g g1 : G} {H H1 : Hp} {ms : List Md} (f : FrS g H g1 H1) : FrS g H (g1.only ms) H1 := ⟨f.keep, fun a h => f.own a (G.only_U h), f.O, f.P, f.N, f.μ, f.dom⟩
end
section
variable {P : Program} {w : World} {K : PySem.W.Frag} {mg : Str → Option Value} {base : Heap} {T : Th}
/-- how a def's body is left -/
def jdF (ms : List Md) (kr : Nat) (E : XK) : Jd := ⟨fun c dd _ H => E c dd H, ΓP ms, ΓP ms, kr, []⟩
theorem start_eq {N : List Str} {vs : List V} {n : Nat} (h : vs.length = n) : L2.start N vs = vs.map some ++ List.replicate (N.length - n) none := by
  unfold L2.start
  rw [h]
/-- how a def is known -/
def OkRule (P : Program) (w : World) (K : PySem.W.Frag) (mg : Str → Option Value) (base : Heap) (qual : Str) (st : Stmt) (f : Addr) (fd : FuncData) : Prop := ∀ {N ps : List Str} {k : Nat} {sp : Sp}, FnScope N ps (defScope st) → (∀ vs H Q E, sp vs H Q E → vs.length = ps.length) →
  (∀ (cdv : Value) (A : Around) (outer : List PySem.Env) (s : Shared) (H : Hp) (vs : List V) (Q : VK) (E : XK), Room k (A.deeper (envOfC qual (defScope st) s.heap.objs.size f cdv)) → sp vs H Q E →
    ∃ t, PSs (cxOf (L2.CX P w) P w K mg base N qual (defScope st) f cdv A outer s H E) (defBody st) t ∧ t { nx := fun _ H' => Q .non H', rt := Q } (L2.start N vs) H) → FnOk P w K mg base (L2.CX P w) (k + 1) f fd ps sp
theorem okRule_fun {x qual : Str} {st : Stmt} {f : Addr} {fd : FuncData} (F : Fun K x qual st f fd) : OkRule P w K mg base qual st f fd := fun Sc len h => F.okX Sc len h
/-- THE RULE of a def: its body's derivation for every entry -/
theorem fn_okR {qual : Str} {st : Stmt} {f : Addr} {fd : FuncData} {N ps : List Str} {k n : Nat} {sg : Sig} {B : FS} {Γ' : List Md} (F : OkRule P w K mg base qual st f fd) (Sc : FnScope N ps (defScope st)) (hn : ps.length = n) (hN : n ≤ N.length)
    (hbody : ∀ (cdv : Value) (A : Around) (outer : List PySem.Env) (s : Shared) (H : Hp) (E : XK), Room k (A.deeper (envOfC qual (defScope st) s.heap.objs.size f cdv)) →
      XB (cxOf (L2.CX P w) P w K mg base N qual (defScope st) f cdv A outer s H E) T (jdF sg.ms sg.kr E) (sg.ms ++ List.replicate (N.length - sg.ms.length) .s) Γ' (defBody st) B) (hl : ΓP sg.ms Γ') :
    FnOk P w K mg base (L2.CX P w) (k + 1) f fd ps (spD T n sg (fBody N.length n sg.ms B)) := by
  refine F Sc (fun vs H Q E h => by rw [hn]; exact h.1) (fun cdv A outer s H vs Q E hr h => ⟨_, hbody cdv A outer s H E hr, ?_⟩)
  obtain ⟨hvn, g, ds, S, R, hg⟩ := h
  have hdn : ds.length = n := by
    have := R.len
    rw [List.length_map, List.length_map] at this
    omega
  have gd : ∀ i, (sg.ms ++ List.replicate (N.length - sg.ms.length) Md.s).getD i .s = sg.ms.getD i .s := fun i => by
    by_cases hi : i < sg.ms.length
    · simp [List.getD, List.getElem?_append_left hi]
    · simp only [List.getD]
      rw [List.getElem?_append_right (by omega), List.getElem?_eq_none (l := sg.ms) (by omega), List.getElem?_replicate]
      split <;> rfl
  have R0 : Rel T g (sg.ms ++ List.replicate (N.length - sg.ms.length) .s) (ds.map some ++ List.replicate (N.length - n) none) S (L2.start N vs) H := by
    rw [start_eq hvn]
    refine ⟨by rw [List.length_append, List.length_append, R.len]; simp, fun i d e => ?_, R.dF, R.dFO, R.dFB, R.dOB, R.dom, R.st, R.nt⟩
    by_cases hi : i < ds.length
    · rw [List.getElem?_append_left (by simpa using hi)] at e
      obtain ⟨v, h1, h2⟩ := R.slot i d e
      refine ⟨v, ?_, by rw [gd]; exact h2⟩
      rw [List.getElem?_append_left (by simp; omega)]
      exact h1
    · rw [List.getElem?_append_right (by simpa using hi), List.getElem?_replicate] at e
      split at e <;> cases e
  have pin : ∀ i k, sg.ms.getD i .s = .p k → i < n → vs[i]? = some (g.P i) := fun i k hk hi => by
    obtain ⟨v, h1, h2⟩ := R.slot i ds[i] (by rw [List.getElem?_map, List.getElem?_eq_getElem (by omega)]; rfl)
    rw [hk] at h2
    rw [List.getElem?_map] at h1
    cases e : vs[i]? with
    | none => rw [e] at h1; cases h1
    | some u =>
      rw [e] at h1
      cases h1
      rw [h2.1]
  refine ⟨g, _, S, R0, ?_⟩
  unfold fBody at hg
  cases e : B (ds.map some ++ List.replicate (N.length - n) none) S with
  | nx ρ S' =>
    rw [e] at hg
    intro σ' g' H' R' f'
    refine hg .non (g'.only sg.ms) H' (fun _ => False) ?_ f'.only (fun i a z => z.1) (fun _ z => z.elim) own_non
    exact plus_none (R'.outs hl hvn f'.P pin)
  | rt d ρ S' =>
    rw [e] at hg
    intro Γ'' v σ' g' H' Fo hr' R' f' ho hw
    have R2 := R'.outs hr' hvn (show (g'.plus Fo).P = g.P from f'.P) pin
    have st2 : Stay (g'.plus Fo) H' ((g'.only sg.ms).plus Fo) H' := ⟨fun _ _ h _ => h, fun a h => .inl (by
      rcases h with h | ⟨j, _, h⟩ | h
      · exact .inl h
      · exact .inr (.inl ⟨j, h⟩)
      · exact .inr (.inr h)), Nat.le_refl _, fun _ _ => rfl, rfl⟩
    have hw' : Own T ((g'.only sg.ms).plus Fo) H' sg.kr Fo d v := Own.keepF st2 _ _ _ _ (fun _ _ _ q => q) hw
    exact hg v (g'.only sg.ms) H' Fo R2 f'.only (fun i a z => z.1) ho hw'
  | exc x ρ S' =>
    rw [e] at hg
    intro Γ'' c dd σ' g' H' hx' R' f' ex
    refine hg c dd (g'.only sg.ms) H' (R'.outs hx' hvn f'.P pin) f'.only (fun i a z => z.1) ?_
    obtain ⟨e0, e1, e2⟩ := ex
    refine ⟨e0, e1, e2.imp id fun ⟨d, fs, h1, h2, h3, h4, h5⟩ => ⟨d, fs, h1, h2, h3, h4, ?_⟩⟩
    exact ShrL.stay ⟨fun _ _ h _ => h, fun a h => .inl (G.only_U h), Nat.le_refl _, fun _ _ => rfl, rfl⟩ _ _ h5
  | bk ρ S' => rw [e] at hg; exact hg.elim
  | ct ρ S' => rw [e] at hg; exact hg.elim
  | no => rw [e] at hg; exact hg.elim
theorem fn_ok {x qual : Str} {st : Stmt} {f : Addr} {fd : FuncData} {N ps : List Str} {k n : Nat} {sg : Sig} {B : FS} {Γ' : List Md} (F : Fun K x qual st f fd) (Sc : FnScope N ps (defScope st)) (hn : ps.length = n) (hN : n ≤ N.length)
    (hbody : ∀ (cdv : Value) (A : Around) (outer : List PySem.Env) (s : Shared) (H : Hp) (E : XK), Room k (A.deeper (envOfC qual (defScope st) s.heap.objs.size f cdv)) →
      XB (cxOf (L2.CX P w) P w K mg base N qual (defScope st) f cdv A outer s H E) T (jdF sg.ms sg.kr E) (sg.ms ++ List.replicate (N.length - sg.ms.length) .s) Γ' (defBody st) B) (hl : ΓP sg.ms Γ') :
    FnOk P w K mg base (L2.CX P w) (k + 1) f fd ps (spD T n sg (fBody N.length n sg.ms B)) := fn_okR (okRule_fun F) Sc hn hN hbody hl
end
/-! ### calls whose arguments are shared -/
def eCall (Φ : FF) (as : FL) : FE := fun ρ S => match as ρ S with
  | .ok ds S1 => (match Φ ds S1 with
    | .ok d _ S2 => .ok d S2
    | .exc x _ S2 => .exc x S2
    | .no => .no)
  | .exc x S1 => .exc x S1
  | .no => .no
/-- the callee's ghost: all slots are others' -/
def G.callee (g : G) : G := { g with O := fun a => g.O a ∨ ∃ i, g.F i a, F := fun _ _ => False }
theorem G.callee_U {g : G} {a : Addr} : (g.callee).U a ↔ g.U a := by
  constructor
  · rintro ((h | h) | ⟨i, h⟩ | h)
    · exact .inl h
    · exact .inr (.inl h)
    · exact h.elim
    · exact .inr (.inr h)
  · rintro (h | h | h)
    · exact .inl (.inl h)
    · exact .inl (.inr h)
    · exact .inr (.inr h)
theorem stay_iff {g g2 : G} {H : Hp} (hU : ∀ a, g2.U a → g.U a) (hN : g.N = g2.N) (hμ : g2.μ = g.μ) (hZ : g2.Z = g.Z := by rfl) : Stay g H g2 H := ⟨fun _ _ h _ => h, fun a h => .inl (hU a h), by rw [hN]; exact Nat.le_refl _, fun n _ => by rw [hμ], hZ⟩
section
variable {X : Cx} {T : Th} {W : WX} {Γ : List Md}
/-- behind a call: the caller's ghost -/
def G.back (g1 g' : G) : G := { g' with O := g1.O, F := g1.F }
theorem call_back {g1 g' : G} {ρ : Env} {S1 S2 : Store} {σ : L2.St} {H1 H' : Hp} {Fo : Addr → Prop} {outs : Env} {ms : List Md} {vs : List V} (R1 : Rel T g1 Γ ρ S1 σ H1) (R' : Rel T (g'.plus Fo) ms outs S2 (vs.map some) H') (f' : FrS g1.callee H1 g' H') (nf : ∀ i a, ¬ g'.F i a) :
    Rel T (g1.back g') Γ ρ S2 σ H' ∧ FrE g1 H1 (g1.back g') H' ∧ (∀ a, (g1.back g').U a → (g'.plus Fo).U a) := by
  have eO : ∀ a, g'.O a ↔ (g1.O a ∨ ∃ i, g1.F i a) := fun a => by rw [f'.O]; exact Iff.rfl
  have bB : ∀ a, g'.B a → g1.B a ∨ H1 a = none := fun a h => by
    rcases f'.own a (.inr (.inr h)) with z | z
    · rcases G.callee_U.mp z with z | z | z
      · exact absurd h (R'.dOB a (.inl ((eO a).mpr (.inl z))))
      · exact absurd h (R'.dOB a (.inl ((eO a).mpr (.inr z))))
      · exact .inl z
    · exact .inr z
  have hU : ∀ a, (g1.back g').U a → (g'.plus Fo).U a := fun a h => by
    rcases h with h | h | h
    · exact .inl (.inl ((eO a).mpr (.inl h)))
    · exact .inl (.inl ((eO a).mpr (.inr h)))
    · exact .inr (.inr h)
  have kp : ∀ a o, H1 a = some o → ¬ g1.B a → H' a = some o := fun a o e hb => f'.keep a o e (by
    by_cases ho : g1.O a ∨ ∃ i, g1.F i a
    · exact .inr ho
    · exact .inl fun z => by
        rcases G.callee_U.mp z with z | z | z
        · exact ho (.inl z)
        · exact ho (.inr z)
        · exact hb z)
  have fe : FrE g1 H1 (g1.back g') H' := ⟨kp, bB, rfl, rfl, f'.P, f'.N, f'.μ, f'.dom⟩
  refine ⟨⟨R1.len, fun i d e => ?_, R1.dF, R1.dFO, fun i a h => ?_, fun a h => ?_, fun a h => ?_, ?_, fun a h => R'.nt a (hU a h)⟩, fe, hU⟩
  · obtain ⟨v, h1, h2⟩ := R1.slot i d e
    refine ⟨v, h1, ?_⟩
    have st := fe.stay
    cases hm : Γ.getD i .s <;> rw [hm] at h2 <;> simp only [RepM] at h2 ⊢
    · exact h2.stay st
    · exact Own.keepF st _ _ _ _ (fun a o z q => kp a o q (R1.dFB i a z)) h2
    · exact Own.keepF st _ _ _ _ (fun a o z q => kp a o q (R1.dOB a z)) h2
    · exact ⟨h2.1.trans (by show g1.P i = g'.P i; rw [f'.P]; rfl), Own.keepF st _ _ _ _ (fun a o z q => kp a o q (R1.dFB i a z)) h2.2⟩
    · exact h2
    · exact h2.stay fe.bare
  · exact R'.dOB a (.inl ((eO a).mpr (.inr ⟨i, h⟩)))
  · exact R'.dOB a (.inl ((eO a).mpr (.inl h)))
  · exact R'.dom a (hU a h)
  · exact R'.st.keep (stay_iff hU rfl rfl) (fun _ _ _ h => h) rfl rfl rfl fun _ _ => rfl
theorem rel_args {g1 : G} {ρ : Env} {S1 : Store} {σ : L2.St} {H1 : Hp} {ds : List D} {vs : List V} {ms : List Md} (R1 : Rel T g1 Γ ρ S1 σ H1) (s : ShrL T g1 H1 ds vs) (hm : ∀ i, ms.getD i .s = .s) : Rel T g1.callee ms (ds.map some) S1 (vs.map some) H1 := by
  refine R1.shift rfl rfl rfl rfl (fun a h => G.callee_U.mp h) (fun i j a h => h.elim) (fun i a h => h.elim) (fun a h => h) (fun i a h => h.elim) (by simp [s.length]) fun st i d e => ?_
  rw [List.getElem?_map] at e
  cases q : ds[i]? with
  | none => rw [q] at e; cases e
  | some d' =>
    rw [q] at e
    cases e
    obtain ⟨v, h1, h2⟩ := s.get q
    refine ⟨v, by rw [List.getElem?_map, h1]; rfl, ?_⟩
    rw [hm]
    exact h2.stay st
theorem shr_of_own {g : G} {H : Hp} : ∀ (k : Nat) (Fo : Addr → Prop) (d : D) (v : V), (∀ a, Fo a → ¬ g.U a) → (∀ a, Fo a → ∃ o, H a = some o) → Own T (g.plus Fo) H k Fo d v → Shr T g H d v := by
  intro k
  have base : ∀ (Fo : Addr → Prop), Stay (g.plus Fo) H g H := fun Fo => ⟨fun _ _ h _ => h, fun a h => .inl (by
    rcases h with h | h | h
    · exact .inl (.inl h)
    · exact .inr (.inl h)
    · exact .inr (.inr h)), Nat.le_refl _, fun _ _ => rfl, rfl⟩
  suffices hs : ∀ (k : Nat) (Fo F : Addr → Prop) (d : D) (v : V), (∀ a, F a → Fo a) → (∀ a, Fo a → ¬ g.U a) → Own T (g.plus Fo) H k F d v → Shr T g H d v from fun Fo d v h1 _ h => hs k Fo Fo d v (fun _ z => z) h1 h
  intro k
  induction k with
  | zero => intro Fo F d v hf hu h; simp only [Own] at h; exact h.stay (base Fo)
  | succ k ih =>
    intro Fo F d v hf hu h
    cases d with
    | lst l =>
      simp only [Own] at h
      obtain ⟨p, vs, e, hF, hH, hl, Gs, h1, h2, h3⟩ := h
      exact shr_lst.mpr ⟨p, vs, e, ⟨hH, hu p (hf p hF)⟩, .of hl fun i d w a b => ih Fo (Gs i) d w (fun a z => hf a (h1 i a z).1) hu (h3 i d w a b)⟩
    | dct l =>
      simp only [Own] at h
      obtain ⟨p, vs, e, hF, hH, hl, Gs, h1, h2, h3⟩ := h
      simp only [Shr]
      exact ⟨p, vs, e, ⟨hH, hu p (hf p hF)⟩, .of hl fun i d w a b => ⟨(h3 i d w a b).1.stay (base Fo), ih Fo (Gs i) d.2 w.2 (fun a z => hf a (h1 i a z).1) hu (h3 i d w a b).2⟩⟩
    | _ => simp only [Own] at h; exact h.stay (base Fo)
theorem xe_call {k n : Nat} {f : Addr} {fd : FuncData} {ps : List Str} {sg : Sig} {Φ : FF} {e : Expr} {es : List Expr} {A : FL} (F : FnOk X.prog X.w X.K X.mg X.base (L2.CX X.prog X.w) k f fd ps (spD T n sg Φ)) (hm : ∀ i, sg.ms.getD i .s = .s) (hn : es.length = n) (hA : ∀ ρ S ds S1, A ρ S = .ok ds S1 → ds.length = n)
    (ha : XL X T W Γ es A) (he : PA X es (tXL T W Γ A) → PE X e (tCallS (spD T n sg Φ) (WE W) (tXL T W Γ A))) : XE X T W Γ e (eCall Φ A) := pe_imp (he ha) fun σ H Q ⟨g, ρ, S, R, hg⟩ => by
  refine ⟨g, ρ, S, R, ?_⟩
  unfold eCall at hg
  cases ea : A ρ S with
  | exc x S1 => rw [ea] at hg; exact hg
  | no => rw [ea] at hg; exact hg
  | ok ds S1 =>
    rw [ea] at hg
    intro vs g1 H1 R1 f1 s1
    have hg : GoodE T W Γ ρ σ g H (match Φ ds S1 with | .ok d _ S2 => .ok d S2 | .exc x _ S2 => .exc x S2 | .no => .no) Q := hg
    refine ⟨by rw [← s1.length]; exact hA ρ S ds S1 ea, g1.callee, ds, S1, rel_args R1 s1 hm, ?_⟩
    cases ef : Φ ds S1 with
    | no => rw [ef] at hg; exact hg
    | ok d outs S2 =>
      rw [ef] at hg
      intro v g' H' Fo R' f' nf ho hw
      have nf' : ∀ i a, ¬ g'.F i a := fun i a z => by
        obtain ⟨k, e⟩ := nf i a z
        rw [hm] at e; cases e
      obtain ⟨R2, f2, hU⟩ := call_back R1 R' f' nf'
      refine hg v (g1.back g') H' R2 (f1.trans f2) ?_
      have st : Stay (g'.plus Fo) H' ((g1.back g').plus Fo) H' := ⟨fun _ _ h _ => h, fun a h => .inl (by
        rcases h with (h | h) | h | h
        · exact hU a (.inl h)
        · exact .inl (.inr h)
        · exact hU a (.inr (.inl h))
        · exact .inr (.inr h)), Nat.le_refl _, fun _ _ => rfl, rfl⟩
      refine shr_of_own sg.kr Fo d v (fun a z u => ?_) (fun a z => R'.dom a (.inl (.inr z))) (Own.keepF st _ _ _ _ (fun _ _ _ q => q) hw)
      have ho' := (ho a z).1
      rcases u with u | u | u
      · exact ho' (.inl u)
      · exact ho' (.inr u)
      · exact R'.dOB a (.inr z) u
    | exc x outs S2 =>
      rw [ef] at hg
      intro c dd g' H' R' f' nf ex
      have nf' : ∀ i a, ¬ g'.F i a := fun i a z => by
        obtain ⟨k, e⟩ := nf i a z
        rw [hm] at e; cases e
      obtain ⟨R2, f2, hU⟩ := call_back R1 (plus_none R') f' nf'
      refine hg c dd (g1.back g') H' R2 (f1.trans f2) ?_
      obtain ⟨e0, e1, e2⟩ := ex
      refine ⟨e0, e1, e2.imp id fun ⟨d, fs, h1, h2, h3, h4, h5⟩ => ⟨d, fs, h1, h2, h3, h4, ?_⟩⟩
      have st : Stay g' H' (g1.back g') H' := ⟨fun _ _ h _ => h, fun a h => .inl (by
        rcases hU a h with (h | h) | h | h
        · exact .inl h
        · exact h.elim
        · exact .inr (.inl h)
        · exact .inr (.inr h)), Nat.le_refl _, fun _ _ => rfl, rfl⟩
      exact ShrL.stay st _ _ h5
theorem lNil_len {ρ : Env} {S : Store} {ds : List D} {S1 : Store} (h : lNil ρ S = .ok ds S1) : ds.length = 0 := by cases h; rfl
theorem lCons_len {A : FE} {B : FL} {n : Nat} (hB : ∀ ρ S ds S1, B ρ S = .ok ds S1 → ds.length = n) (ρ : Env) (S : Store) (ds : List D) (S1 : Store) (h : lCons A B ρ S = .ok ds S1) : ds.length = n + 1 := by
  unfold lCons at h
  split at h
  · split at h
    · rename_i e2
      cases h
      rw [List.length_cons, hB _ _ _ _ e2]
    · cases h
    · cases h
  · cases h
  · cases h
/-! ### raise -/
def fRaise (k : Nat) : FS := fun ρ S => .exc ⟨k, []⟩ ρ S
theorem xs_raise {J : Jd} {Γ Γ' : List Md} {k : Nat} {st : Stmt} (hk : k < T.nc) (hx : J.ΓX Γ) (he : PS X st (fun D σ H => J.W (.ref (T.cA k)) none σ H)) : XS X T J Γ Γ' st (fRaise k) := ps_imp he fun D σ H ⟨g, ρ, S, R, h⟩ =>
  h Γ _ none σ g H hx R (.refl _ _) ⟨hk, rfl, .inl ⟨rfl, rfl⟩⟩
end
end Q

/-! isinstance; try. -/
namespace Q
open PySem PySem.Spec PyProof.Rows L2
/-- a built-in type's name -/
def tyD : D → Option String
  | .non => some "NoneType"
  | .bl _ => some "bool"
  | .int _ => some "int"
  | .str _ => some "str"
  | .tup _ => some "tuple"
  | .lst _ => some "list"
  | .dct l => if flatKs l = true then some "dict" else none
  | _ => none
def hIsi (T : String) (d : D) : Option D := (tyD d).bind fun n => (kitB n T).map .bl
section
variable {T : Th} {g : G} {H : Hp}
theorem ty_shr {d : D} {v : V} {n : String} (s : Shr T g H d v) (e : tyD d = some n) : TyX T.K H v (.type n) := by
  cases d <;> simp only [tyD] at e <;> first | cases e | skip
  · rw [shr_non.mp s]; exact .base .non
  · rw [shr_bl.mp s]; exact .base (.bl _)
  · rw [shr_int.mp s]; exact .base (.int _)
  · rw [shr_str.mp s]; exact .base (.str _)
  · obtain ⟨a, vs, rfl, la, ra⟩ := shr_tup.mp s
    rcases la with ⟨z | ⟨o, z⟩, _⟩ | ⟨o, its, n, z, zc, _⟩
    · exact .base (.tup z)
    · exact .fTuple z
    · exact .kTuple z zc
  · obtain ⟨a, vs, rfl, la, ra⟩ := shr_lst.mp s
    exact .base (.lst la.1)
  · split at e
    · rename_i hf
      cases e
      simp only [Shr] at s
      obtain ⟨a, vs, rfl, la, ra⟩ := s
      obtain ⟨ks, h1, _⟩ := drep_flat la.1 ra hf
      exact .base (.dK h1)
    · cases e
end
section
variable {X : Cx} {T : Th} {W : WX} {Γ : List Md}
/-- isinstance(x, T), T a built-in type -/
theorem xe_isi {e a : Expr} {A : FE} {n : String} (hK : X.K = T.K) (ha : XE X T W Γ a A) (he : PE X a (tX T W Γ A) → PE X e (tCB (rIsi X.K) (tCons (tX T W Γ A) (tCons (tC (.ty n)) tNil)))) : XE X T W Γ e (eUn (hIsi n) A) := pe_imp (he ha) fun σ H Q ⟨g, ρ, S, R, hg⟩ =>
  ⟨g, ρ, S, R, good_bind hg fun x S1 v g1 H1 _ R1 f1 s1 hg1 => by
    obtain ⟨z, ez, hg3⟩ := good_of hg1
    obtain ⟨m, e1, e2⟩ := Option.bind_eq_some_iff.mp ez
    obtain ⟨b, e3, e4⟩ := Option.map_eq_some_iff.mp e2
    subst e4
    refine ⟨v, .ty n, .type m, .type n, b, rfl, .ty n, by rw [hK]; exact ty_shr s1 e1, kit_ty e3, hg3 _ g1 H1 R1 (.refl _ _) (shr_bl.mpr rfl)⟩⟩
/-! ### the exception that a suite holds -/
def eHeld (i : Nat) (b : Bool) : FE := fun ρ S => match ρ[i]? with
  | some (some _) => .ok (.bl b) S
  | _ => .no
theorem held_slot {g : G} {ρ : Env} {S : Store} {σ : L2.St} {H : Hp} {i : Nat} {b : Bool} {a : Addr} {Q : VK} (R : Rel T g Γ ρ S σ H) (hΓ : Γ.getD i .s = .e (.ref a)) (h : GoodE T W Γ ρ σ g H (eHeld i b ρ S) Q) : σ[i]? = some (some (.ref a)) ∧ Q (.bl b) H := by
  unfold eHeld at h
  split at h
  · rename_i d e
    obtain ⟨v, h1, h2⟩ := R.slot i d e
    rw [hΓ] at h2
    have h2 : v = .ref a := h2
    subst h2
    exact ⟨h1, h _ g H R (.refl _ _) (shr_bl.mpr rfl)⟩
  · exact h.elim
/-- isinstance(e, C) -/
theorem xe_isE {e : Expr} {i : Nat} {a Dc : Addr} {c : V} {cv : Value} {b : Bool} (hΓ : Γ.getD i .s = .e (.ref a)) (hcv : ∀ u, RelV c u → u = cv) (hk : PySem.W.kitOne X.K (.ref Dc) cv = some b) (he : PE X e (tCB (rIsE X.K Dc a) (tCons (tVar i) (tCons (tC c) tNil)))) : XE X T W Γ e (eHeld i b) :=
  pe_imp he fun σ H Q ⟨g, ρ, S, R, hg⟩ => by
    obtain ⟨h1, h2⟩ := held_slot R hΓ hg
    exact ⟨_, h1, c, cv, b, rfl, hcv, hk, h2⟩
/-- isinstance(e, (C1, C2, ..)), e the exception that the suite holds, the tuple just made -/
def rIsET (K : PySem.W.Frag) (D a : Addr) : List V → Hp → VK → Prop := fun xs H Q => ∃ (tp : Addr) (cs : List V) (us : List Value) (b : Bool), xs = [.ref a, .ref tp] ∧ H tp = some (.tup cs) ∧ Paired ClsV cs us ∧ PySem.W.kitAny K (.ref D) us = some b ∧ Q (.bl b) H
theorem call_isET {a D : Addr} {oe : Obj} {pn : List (Addr × Obj)} (C : ExcC X.K D) (hz : Zc (.ref D) none oe) (hf : ∃ vs, oe.data = .fields vs) : CallR (X.suite a ((a, oe) :: pn)) (.builtin "isinstance") (rIsET X.K D a) := by
  intro pins s σ H xs us Q I r h
  obtain ⟨tp, cs, ws, b, rfl, hT, k, e, q⟩ := h
  obtain ⟨u1, u2, rfl, r1, r2⟩ := vals2 r
  cases (show u2 = Value.ref tp from r2)
  cases (show u1 = Value.ref a from r1)
  obtain ⟨hget, _⟩ := I.pin (a, oe) (List.mem_append.mpr (.inl List.mem_cons_self))
  obtain ⟨vs, hv⟩ := hf
  have J : PySem.W.InstAt s.heap a oe D none := by
    obtain ⟨oc, od, oda, osl⟩ := oe
    obtain ⟨h1, h2⟩ := hz
    dsimp only at h1 h2 hv
    subst h1 h2 hv
    exact ⟨hget, rfl, rfl, trivial⟩
  obtain ⟨_, its, rv, o, h1, h2, n, h3⟩ := (show ObjOk X.prog X.w H s.heap tp (.tup cs) from I.hok tp _ hT)
  have e3 := ClsV.all k rv
  subst e3
  obtain ⟨oc, od, dt, sl⟩ := o
  simp only at h2 h3
  subst h2 h3
  exact PySem.W.kia_tup (PySem.W.handS_kitx_exc C.hg C.hk C.hs C.hd C.ha C.hn C.ht C.hm) I.kIn J h1 e (fun z => nomatch z) fun tk => ⟨.bl b, H, I.kept (t' := tk) fun _ _ z => z, rfl, q⟩
/-- names of classes, one after the other -/
inductive PCs (X : Cx) : List Expr → List V → Prop where
  | nil : PCs X [] []
  | cons {e : Expr} {es : List Expr} {c : V} {cs : List V} (h : PE X e (tC c)) (r : PCs X es cs) (hs : starEach (e :: es) X.env = (false, eval e X.env) :: starEach es X.env := by rfl) : PCs X (e :: es) (c :: cs)
theorem pcs_pa : ∀ {es : List Expr} {cs : List V}, PCs X es cs → PA X es (fun _ H Q => Q cs H)
  | _, _, .nil => pa_nil
  | _, _, .cons h r hs => pa_imp (pa_cons h (pcs_pa r) hs) fun _ _ _ q => q
theorem xe_isET {e : Expr} {i : Nat} {a Dc : Addr} {cs : List V} {us : List Value} {b : Bool} (hΓ : Γ.getD i .s = .e (.ref a)) (hl : cs.length ≤ 1000) (hcs : Paired ClsV cs us) (hk : PySem.W.kitAny X.K (.ref Dc) us = some b)
    (he : PE X e (tCB (rIsET X.K Dc a) (tCons (tVar i) (tCons (tTup fun _ H Q => Q cs H) tNil)))) : XE X T W Γ e (eHeld i b) :=
  pe_imp he fun σ H Q ⟨g, ρ, S, R, hg⟩ => by
    unfold eHeld at hg
    split at hg
    · rename_i d e
      obtain ⟨v, h1, h2⟩ := R.slot i d e
      rw [hΓ] at h2
      have h2 : v = .ref a := h2
      subst h2
      refine ⟨_, h1, Nat.le_of_lt (small1000 hl), fun p hp => ⟨p, cs, us, b, rfl, upd_same, hcs, hk, ?_⟩⟩
      exact hg _ g _ (R.ex (Exx.new hp)) (.ex (Exx.new hp)) (shr_bl.mpr rfl)
    · exact hg.elim
/-! ### isinstance of classes by what the written part says -/
theorem kit_t {K : PySem.W.Frag} {D C : Addr} (h1 : PySem.W.isClsIn K C = true) (h2 : PySem.W.typeIn K (.ref C) = some (.type "type")) (h3 : PySem.W.subIn K (.ref D) (.ref C) = some true) : PySem.W.kitOne K (.ref D) (.ref C) = some true := by
  unfold PySem.W.kitOne
  split
  · rfl
  · show (if ((PySem.W.clsIn K C).isSome && PySem.W.typeIn K (.ref C) == some (.type "type")) = true then PySem.W.subIn K (.ref D) (.ref C) else none) = _
    have h1' : (PySem.W.clsIn K C).isSome = true := h1
    rw [h1', h2, if_pos (by rfl)]
    exact h3
theorem kit_f {K : PySem.W.Frag} {D C : Addr} (h1 : PySem.W.isClsIn K C = true) (h2 : PySem.W.typeIn K (.ref C) = some (.type "type")) (h3 : PySem.W.subIn K (.ref D) (.ref C) = some false) (hn : (D == C) = false) : PySem.W.kitOne K (.ref D) (.ref C) = some false := by
  unfold PySem.W.kitOne
  split
  · rename_i h
    have : D = C := Value.ref.inj (beq_iff_eq.mp h)
    subst this
    rw [beq_self_eq_true] at hn
    cases hn
  · show (if ((PySem.W.clsIn K C).isSome && PySem.W.typeIn K (.ref C) == some (.type "type")) = true then PySem.W.subIn K (.ref D) (.ref C) else none) = _
    have h1' : (PySem.W.clsIn K C).isSome = true := h1
    rw [h1', h2, if_pos (by rfl)]
    exact h3
theorem kit_ve {K : PySem.W.Frag} {D : Addr} (h3 : PySem.W.subIn K (.ref D) (.type "ValueError") = some true) : PySem.W.kitOne K (.ref D) (.type "ValueError") = some true := by
  unfold PySem.W.kitOne
  split
  · rfl
  · show (if PySem.W.kitMeta "ValueError" = true then PySem.W.subIn K (.ref D) (.type "ValueError") else none) = _
    rw [if_pos (by decide +kernel)]
    exact h3
/-! ### try -/
def fTry (B : FS) (i : Nat) (caught : Nat → Bool) (Hd : Exc → FS) : FS := fun ρ S => match B ρ S with
  | .exc x ρ1 S1 => if caught x.cls = true then (if x.args = [] then (match Hd x (ρ1.set i (some .non)) S1 with
      | .nx ρ2 S2 => .nx (ρ2.set i none) S2
      | .rt d ρ2 S2 => .rt d ρ2 S2
      | _ => .no) else .no) else .exc x ρ1 S1
  | r => r
theorem Rel.setE {g : G} {ρ : Env} {S : Store} {σ : L2.St} {H : Hp} {i : Nat} {v : V} (R : Rel T g Γ ρ S σ H) (hi : i < Γ.length) : Rel T (g.drop i) (Γ.set i (.e v)) (ρ.set i (some .non)) S (σ.set i (some v)) H := by
  refine R.shift rfl rfl rfl rfl (fun a h => G.drop_U h) (fun j k a h h' => R.dF j k a h.2 h'.2) (fun j a h => R.dFO j a h.2) (fun a h => .inl h) (fun j a h => .inl ⟨j, h.2⟩) (by simp [R.len]) fun st j d' e => ?_
  by_cases hj : i = j
  · subst hj
    by_cases hlt : i < ρ.length
    · refine ⟨v, by rw [List.getElem?_set_self (by rw [← R.len]; exact hlt)], ?_⟩
      rw [getD_set_self hi]
      exact rfl
    · rw [List.getElem?_eq_none (by simpa using hlt)] at e
      cases e
  · rw [List.getElem?_set_ne hj] at e
    obtain ⟨w, h1, h2⟩ := R.slot j d' e
    refine ⟨w, by rw [List.getElem?_set_ne hj]; exact h1, ?_⟩
    rw [getD_set_ne hj]
    exact h2.stay st (fun a z => ⟨fun q => hj q.symm, z⟩) (fun a z => z) rfl (bare_sub rfl rfl (fun i a z => ⟨i, z.2⟩) fun _ z => z)
theorem Rel.clear {g : G} {ρ : Env} {S : Store} {σ : L2.St} {H : Hp} {i : Nat} {m : Md} (R : Rel T g (Γ.set i m) ρ S σ H) : Rel T (g.drop i) Γ (ρ.set i none) S (σ.set i none) H := by
  refine R.shift rfl rfl rfl rfl (fun a h => G.drop_U h) (fun j k a h h' => R.dF j k a h.2 h'.2) (fun j a h => R.dFO j a h.2) (fun a h => .inl h) (fun j a h => .inl ⟨j, h.2⟩) (by simp [R.len]) fun st j d' e => ?_
  by_cases hj : i = j
  · subst hj
    by_cases hlt : i < ρ.length
    · rw [List.getElem?_set_self hlt] at e; cases e
    · rw [List.getElem?_eq_none (by simpa using hlt)] at e
      cases e
  · rw [List.getElem?_set_ne hj] at e
    obtain ⟨w, h1, h2⟩ := R.slot j d' e
    refine ⟨w, by rw [List.getElem?_set_ne hj]; exact h1, ?_⟩
    rw [getD_set_ne hj] at h2
    exact h2.stay st (fun a z => ⟨fun q => hj q.symm, z⟩) (fun a z => z) rfl (bare_sub rfl rfl (fun i a z => ⟨i, z.2⟩) fun _ z => z)
/-- how a suite is left -/
def jdH (J : Jd) : Jd := ⟨fun _ _ _ _ => False, fun _ => True, J.ΓR, J.kr, []⟩
theorem xs_try {J : Jd} {Γ Γ' : List Md} {x n : Str} {c : Value} {i : Nat} {body suite : List Stmt} {b₀ : Stmt} {np pos pos' : Pos} {B : FS} {Hd : Exc → FS} {caught : Nat → Bool} (hx : J.ΓX Γ) (hi : i < Γ.length)
    (hs : X.stack = X.env :: X.outer) (hf : X.env.frame = some X.env.locals) (hN : X.N.Nodup) (hin : X.N[i]? = some n) (hln : X.env.kindOf n = some .local) (hc : Names X x c) (tk : Takes X J.W)
    (hex : ∀ k, k < T.nc → PySem.W.exmOne X.K (.ref (T.cA k)) c = some (caught k))
    (hb : ∀ (W : WX) (pn : List (Addr × Obj)) (xe : Value → Shared → Prop), Takes (X.tr pn xe) W → PassesOwn (model X.prog X.w) X.A X.env xe → XB (X.tr pn xe) T { J with W := W, ΓX := fun Γ'' => Γ'' = Γ } Γ Γ' body B)
    (hsu : ∀ (y : Exc) (a : Addr) (oe : Obj) (pn : List (Addr × Obj)), y.cls < T.nc → caught y.cls = true → Zc (.ref (T.cA y.cls)) none oe → (∃ vs, oe.data = .fields vs) → XB (X.suite a ((a, oe) :: pn)) T (jdH J) (Γ.set i (.e (.ref a))) (Γ'.set i (.e (.ref a))) (b₀ :: suite) (Hd y)) :
    XS X T J Γ Γ' (.Try body [.ExceptHandler (some (.Name x np)) (some n) (b₀ :: suite) pos'] [] [] pos) (fTry B i caught Hd) := by
  refine ps_imp (ps_try_as (tb := fun W => tS T { J with W := W, ΓX := fun Γ'' => Γ'' = Γ } Γ Γ' B) (ts := fun a cls d => fun D σ H => ∃ y : Exc, y.cls < T.nc ∧ caught y.cls = true ∧ cls = .ref (T.cA y.cls) ∧ d = none ∧ tS T (jdH J) (Γ.set i (.e (.ref a))) (Γ'.set i (.e (.ref a))) (Hd y) D σ H) (Wout := J.W) hs hf hN hin hln hc tk hb ?_) ?_
  · intro a oe cls d pn hz hfl
    refine ⟨fun pins s σ H D I h => ?_⟩
    obtain ⟨y, h1, h2, rfl, rfl, h3⟩ := h
    exact (hsu y a oe pn h1 h2 hz hfl).run pins s σ H D I h3
  · rintro D σ H ⟨g, ρ, S, R, h⟩
    refine ⟨g, ρ, S, R, ?_⟩
    unfold fTry at h
    cases e : B ρ S with
    | nx ρ1 S1 => rw [e] at h; exact h
    | bk ρ1 S1 => rw [e] at h; exact h
    | ct ρ1 S1 => rw [e] at h; exact h
    | rt d ρ1 S1 => rw [e] at h; exact h
    | no => rw [e] at h; exact h
    | exc y ρ1 S1 =>
      rw [e] at h
      intro Γ'' c' dd σ' g' H' eΓ R' f' ex
      have eΓ : Γ'' = Γ := eΓ
      subst eΓ
      obtain ⟨e0, e1, e2⟩ := id ex
      have h : GoodS T J Γ' g H (if caught y.cls = true then (if y.args = [] then (match Hd y (ρ1.set i (some .non)) S1 with | .nx ρ2 S2 => RS.nx (ρ2.set i none) S2 | .rt d ρ2 S2 => .rt d ρ2 S2 | _ => .no) else .no) else .exc y ρ1 S1) D := h
      refine ⟨caught y.cls, by rw [e1]; exact hex _ e0, fun hb a na => ?_, fun hb => ?_⟩
      · rw [if_pos hb] at h
        by_cases ha : y.args = []
        · rw [if_pos ha] at h
          have ed : dd = none := by
            rcases e2 with ⟨_, z⟩ | ⟨_, _, z, _⟩
            · exact z
            · exact absurd ha z
          refine ⟨y, e0, hb, e1, ed, g'.drop i, ρ1.set i (some .non), S1, R'.setE hi, ?_⟩
          have h' := GoodS.then (g1 := g'.drop i) h (f'.trans .drop)
          cases eh : Hd y (ρ1.set i (some .non)) S1 with
          | nx ρ2 S2 =>
            rw [eh] at h'
            exact fun σ2 g2 H2 R2 f2 => h' (σ2.set i none) (g2.drop i) H2 R2.clear (f2.trans .drop)
          | rt d ρ2 S2 =>
            rw [eh] at h'
            exact fun Γ3 v σ2 g2 H2 Fo r1 R2 f2 ho hw => h' Γ3 v σ2 g2 H2 Fo r1 R2 f2 ho hw
          | bk _ _ => rw [eh] at h'; exact h'.elim
          | ct _ _ => rw [eh] at h'; exact h'.elim
          | exc _ _ _ => rw [eh] at h'; exact h'.elim
          | no => rw [eh] at h'; exact h'.elim
        · rw [if_neg ha] at h; exact h.elim
      · rw [hb, if_neg Bool.false_ne_true] at h
        exact h Γ'' c' dd σ' g' H' hx R' f' ex
end
end Q

/-! Comparisons as tests, in, slices, comprehensions. -/
namespace Q
open PySem PySem.Spec PyProof.Rows L2
section
variable {X : Cx} {T : Th} {W : WX} {Γ : List Md}
/-- a comparison as a test -/
theorem xt_op {e : Expr} {r : R2} {h : D → D → Option D} {a b : Expr} {A B : FE} (ok : OpOk T r h) (ha : XE X T W Γ a A) (hb : XE X T W Γ b B)
    (he : PE X a (tX T W Γ A) → PE X b (tX T W Γ B) → PT X e (tTest (tOp r (tX T W Γ A) (tX T W Γ B)))) : XT X T W Γ e (eOp h A B) := pt_imp (he ha hb) fun σ H Q ⟨g, ρ, S, R, hg⟩ =>
  ⟨g, ρ, S, R, goodT_bind hg fun x S1 v g1 H1 _ R1 f1 s1 hg1 => ⟨g1, ρ, S1, R1, goodT_bind hg1 fun y S2 w g2 H2 _ R2 f2 s2 hg2 => by
    cases ez : h x y with
    | none => rw [ez] at hg2; exact hg2.elim
    | some z =>
      rw [ez] at hg2
      obtain ⟨b, rfl, hg3⟩ := hg2
      exact ok g2 H2 x y _ v w (s1.stay f2.stay) s2 ez R2.dom _ fun u H' ex su => ⟨b, shr_bl.mp su, hg3 g2 H' (R2.ex ex) (.ex ex)⟩⟩⟩
theorem xt_chain {e a b c : Expr} {r r' : R2} {h h' : D → D → Option D} {A B C : FE} (ok : OpOk T r h) (ok' : OpOk T r' h') (ha : XE X T W Γ a A) (hb : XE X T W Γ b B) (hc : XE X T W Γ c C)
    (he : PE X a (tX T W Γ A) → PE X b (tX T W Γ B) → PE X c (tX T W Γ C) → PT X e (tTest (tChain r r' (tX T W Γ A) (tX T W Γ B) (tX T W Γ C)))) : XT X T W Γ e (eChain h h' A B C) := pt_imp (he ha hb hc) fun σ H Q ⟨g, ρ, S, R, hg⟩ =>
  ⟨g, ρ, S, R, goodT_bind hg fun x S1 v g1 H1 _ R1 f1 s1 hg1 => ⟨g1, ρ, S1, R1, goodT_bind hg1 fun y S2 w g2 H2 _ R2 f2 s2 hg2 => by
    cases ez : h x y with
    | none => rw [ez] at hg2; exact hg2.elim
    | some z =>
      rw [ez] at hg2
      refine ok g2 H2 x y z v w (s1.stay f2.stay) s2 ez R2.dom _ fun u H3 ex su => ?_
      obtain ⟨t, rfl⟩ : ∃ t, z = .bl t := by
        have h0 := hg2
        unfold RE.of RE.bind at h0
        dsimp only at h0
        split at h0 <;> first | exact ⟨_, rfl⟩ | exact h0.elim
      refine ⟨t, shr_bl.mp su, ?_⟩
      have R3 := R2.ex ex
      cases t with
      | true =>
        refine iteT ⟨g2, ρ, S2, R3, ?_⟩
        have h0 : GoodT T W Γ ρ σ g2 H3 ((C ρ S2).bind fun w S4 => .of S4 (h' y w)) Q := by
          have h1 : GoodT T W Γ ρ σ g2 H2 ((C ρ S2).bind fun w S4 => .of S4 (h' y w)) Q := hg2
          cases q : (C ρ S2).bind fun w S4 => .of S4 (h' y w) with
          | ok d S4 => rw [q] at h1; obtain ⟨b, e2, h1⟩ := h1; exact ⟨b, e2, fun g' H' R' f' => h1 g' H' R' ((FrE.ex ex).trans f')⟩
          | exc d S4 => rw [q] at h1; exact fun v dd g' H' R' f' s' => h1 v dd g' H' R' ((FrE.ex ex).trans f') s'
          | no => rw [q] at h1; exact h1
        refine goodT_bind h0 fun w4 S4 v4 g4 H4 _ R4 f4 s4 hg4 => ?_
        cases e4 : h' y w4 with
        | none => rw [e4] at hg4; exact hg4.elim
        | some z4 =>
          rw [e4] at hg4
          obtain ⟨b, rfl, hg5⟩ := hg4
          exact ok' g4 H4 y w4 _ w v4 ((s2.stay (Stay.ex ex)).stay f4.stay) s4 e4 R4.dom _ fun u5 H5 ex5 su5 => ⟨b, shr_bl.mp su5, hg5 g4 H5 (R4.ex ex5) (.ex ex5)⟩
      | false =>
        obtain ⟨b, e2, hg3⟩ := hg2
        cases e2
        exact iteF ⟨false, rfl, hg3 g2 H3 R3 (.ex ex)⟩⟩⟩
/-! ### in -/
abbrev rInA0 (K : PySem.W.Frag) : R2 := fun x y H Q => rIn K false x y H Q ∨ (∃ i j, x = .str i ∧ y = .str j ∧ Q (.bl !(Builtin.Str.occurrences j i 0 j.length 1).isEmpty) H)
abbrev rInA1 (K : PySem.W.Frag) : R2 := fun x y H Q => rIn K true x y H Q ∨ (∃ i j, x = .str i ∧ y = .str j ∧ Q (.bl !!(Builtin.Str.occurrences j i 0 j.length 1).isEmpty) H)
theorem op_inA : OpR X (compareOp .In) (rInA0 X.K) := opr_or op_in_seq op_in_str
theorem op_notinA : OpR X (compareOp .NotIn) (rInA1 X.K) := opr_or op_notIn_seq op_notIn_str
theorem ok_in0 : OpOk T (rInA0 T.K) (hIn false) := by
  intro g H x y z v w sx sy e hd Q q
  cases y
  case lst l =>
    have e : inL false x l = some z := by cases x <;> exact e
    obtain ⟨a, vs, rfl, la, ra⟩ := shr_lst.mp sy
    exact .inl (ok_inL sx (.inl (.of la.1)) ra e q)
  case scr l =>
    have e : inL false x l = some z := by cases x <;> exact e
    obtain ⟨a, vs, rfl, la, ra⟩ := shr_scr.mp sy
    exact .inl (ok_inL sx (.inl la.sq) ra e q)
  case tup l =>
    have e : inL false x l = some z := by cases x <;> exact e
    obtain ⟨a, vs, rfl, la, ra⟩ := shr_tup.mp sy
    exact .inl (ok_inL sx (.inr la.sq) ra e q)
  case str b =>
    cases x <;> simp only [hIn] at e <;> first | cases e | skip
    exact .inr ⟨_, _, shr_str.mp sx, shr_str.mp sy, q _ H (.refl H) (shr_bl.mpr rfl)⟩
  all_goals (cases x <;> simp only [hIn] at e <;> cases e)
theorem ok_in1 : OpOk T (rInA1 T.K) (hIn true) := by
  intro g H x y z v w sx sy e hd Q q
  cases y
  case lst l =>
    have e : inL true x l = some z := by cases x <;> exact e
    obtain ⟨a, vs, rfl, la, ra⟩ := shr_lst.mp sy
    exact .inl (ok_inL sx (.inl (.of la.1)) ra e q)
  case scr l =>
    have e : inL true x l = some z := by cases x <;> exact e
    obtain ⟨a, vs, rfl, la, ra⟩ := shr_scr.mp sy
    exact .inl (ok_inL sx (.inl la.sq) ra e q)
  case tup l =>
    have e : inL true x l = some z := by cases x <;> exact e
    obtain ⟨a, vs, rfl, la, ra⟩ := shr_tup.mp sy
    exact .inl (ok_inL sx (.inr la.sq) ra e q)
  case str b =>
    cases x <;> simp only [hIn] at e <;> first | cases e | skip
    exact .inr ⟨_, _, shr_str.mp sx, shr_str.mp sy, q _ H (.refl H) (shr_bl.mpr rfl)⟩
  all_goals (cases x <;> simp only [hIn] at e <;> cases e)
/-! ### slices -/
def cutD (xs : List D) (lo hi : Option Int) : List D := (xs.drop (HT.sIx xs.length 0 lo)).take (HT.sIx xs.length xs.length hi - HT.sIx xs.length 0 lo)
theorem shrL_cut {g : G} {H : Hp} {l : List D} {vs : List V} (h : ShrL T g H l vs) (lo hi : Option Int) : ShrL T g H (cutD l lo hi) (cutV vs lo hi) := by
  unfold cutD cutV
  rw [h.length]
  exact (h.drop _).take _
def hSl (d : D) (lo hi : Option Int) : Option D := match d with
  | .lst l => some (.lst (cutD l lo hi))
  | .scr l => some (.lst (cutD l lo hi))
  | .str z => if z.length ≤ 1000000 then some (.str (cutS z lo hi)) else none
  | .tup l => some (.tup (cutD l lo hi))
  | _ => none
abbrev rSlB (K : PySem.W.Frag) : V → Option Int → Option Int → Hp → VK → Prop := fun x lo hi H Q => rSlL K x lo hi H Q ∨ (L2.rSlA K x lo hi H Q ∨ rSlS x lo hi H Q)
theorem sl_A : SlR X (rSlB X.K) := sl_list.or (sl_tupA.or sl_str)
/-- a part of a slice: an int, or left out -/
def eBnd (o : Option FE) : Env → Store → (Option Int → Store → RE) → RE := fun ρ S k => match o with
  | none => k none S
  | some a => (a ρ S).bind fun d S1 => match d with
    | .int i => k (some i) S1
    | _ => .no
def eSl (a : FE) (lo hi : Option FE) : FE := fun ρ S => (a ρ S).bind fun d S1 => eBnd lo ρ S1 fun l S2 => eBnd hi ρ S2 fun h S3 => .of S3 (hSl d l h)
/-- the readings of a slice's parts -/
inductive XBd (X : Cx) (T : Th) (W : WX) (Γ : List Md) : Option Expr → Option FE → TO → Prop where
  | none : XBd X T W Γ none none tNoPart
  | some {e : Expr} {A : FE} (h : XE X T W Γ e A) : XBd X T W Γ (some e) (some A) (tPart (tX T W Γ A))
theorem XBd.po {o : Option Expr} {A : Option FE} {t : TO} (h : XBd X T W Γ o A t) : PO X o t := by
  cases h with
  | none => exact po_none
  | some h => exact po_some h
theorem good_bnd {o : Option Expr} {A : Option FE} {t : TO} (hb : XBd X T W Γ o A t) {g : G} {ρ : Env} {S : Store} {σ : L2.St} {H : Hp} {k : Option Int → Store → RE} {Q : VK} {Q' : Option Int → Hp → Prop} (R : Rel T g Γ ρ S σ H) (h : GoodE T W Γ ρ σ g H (eBnd A ρ S k) Q)
    (hk : ∀ i S1 g1 H1, Rel T g1 Γ ρ S1 σ H1 → FrE g H g1 H1 → GoodE T W Γ ρ σ g1 H1 (k i S1) Q → Q' i H1) : t σ H Q' := by
  cases hb with
  | none => exact hk none S g H R (.refl _ _) h
  | some ha =>
    refine ⟨g, ρ, S, R, good_bind h fun d S1 v g1 H1 eR R1 f1 s1 h1 => ?_⟩
    clear eR
    split at h1
    · rename_i i
      exact ⟨i, shr_int.mp s1, hk (some i) S1 g1 H1 R1 f1 h1⟩
    · exact h1.elim
theorem xe_sl {a : Expr} {lo hi : Option Expr} {A : FE} {L U : Option FE} {tl tu : TO} {p2 pos : Pos} (hK : X.K = T.K) (ha : XE X T W Γ a A) (hl : XBd X T W Γ lo L tl) (hu : XBd X T W Γ hi U tu) : XE X T W Γ (.Subscript a (.Slice lo hi none p2) pos) (eSl A L U) :=
  pe_imp (pe_slice sl_A ha hl.po hu.po) fun σ H Q ⟨g, ρ, S, R, hg⟩ =>
    ⟨g, ρ, S, R, good_bind hg fun d S1 v g1 H1 _ R1 f1 s1 hg1 => good_bnd hl R1 hg1 fun l S2 g2 H2 R2 f2 hg2 => good_bnd hu R2 hg2 fun u S3 g3 H3 R3 f3 hg3 => by
      have s3 := (s1.stay f2.stay).stay f3.stay
      obtain ⟨z, ez, hg4⟩ := good_of hg3
      rw [hK]
      cases d <;> simp only [hSl] at ez <;> first | cases ez | skip
      · split at ez
        · rename_i hl
          cases ez
          exact .inr (.inr ⟨_, shr_str.mp s3, sz6 hl, hg4 _ g3 H3 R3 (.refl _ _) (shr_str.mpr rfl)⟩)
        · cases ez
      · obtain ⟨a, vs, rfl, la, ra⟩ := shr_tup.mp s3
        refine .inr (.inl ⟨a, vs, rfl, la.sq, fun hw => ?_, fun _ p hp => hg4 _ g3 _ (R3.ex (Exx.new hp)) (.ex (Exx.new hp)) (shr_newT (shrL_cut ra l u) hp R3.dom)⟩)
        rw [← ra.length] at hw
        have e : ∀ ds : List D, (HT.sIx ds.length 0 l = 0 ∧ HT.sIx ds.length ds.length u = ds.length) → cutD ds l u = ds := fun ds h => by
          unfold cutD
          rw [h.1, h.2, List.drop_zero, Nat.sub_zero, List.take_length]
        rw [e _ hw] at hg4
        exact hg4 _ g3 H3 R3 (.refl _ _) s3
      · obtain ⟨a, vs, rfl, la, ra⟩ := shr_lst.mp s3
        exact .inl ⟨a, vs, rfl, .of la.1, fun p hp => hg4 _ g3 _ (R3.ex (Exx.new hp)) (.ex (Exx.new hp)) (shr_newL (shrL_cut ra l u) hp R3.dom)⟩
      · obtain ⟨a, vs, rfl, la, ra⟩ := shr_scr.mp s3
        exact .inl ⟨a, vs, rfl, la.sq, fun p hp => hg4 _ g3 _ (R3.ex (Exx.new hp)) (.ex (Exx.new hp)) (shr_newL (shrL_cut ra l u) hp R3.dom)⟩⟩
/-! ### list comprehensions -/
/-- what of a state does not hang on the slots -/
structure Dj (T : Th) (g : G) (S : Store) (H : Hp) : Prop where
  dF : ∀ i j a, g.F i a → g.F j a → i = j
  dFO : ∀ i a, g.F i a → ¬ g.O a
  dFB : ∀ i a, g.F i a → ¬ g.B a
  dOB : ∀ a, g.O a → ¬ g.B a
  dom : ∀ a, g.U a → ∃ o, H a = some o
  st : SR T g S H
  nt : ∀ a, g.U a → ∀ u, ¬ Rd H a (.tup u)
theorem Rel.dj {g : G} {ρ : Env} {S : Store} {σ : L2.St} {H : Hp} (R : Rel T g Γ ρ S σ H) : Dj T g S H := ⟨R.dF, R.dFO, R.dFB, R.dOB, R.dom, R.st, R.nt⟩
theorem Rel.carry {g g' : G} {ρ : Env} {S S' : Store} {σ : L2.St} {H H' : Hp} {Fo : Addr → Prop} (R : Rel T g Γ ρ S σ H) (f : FrE g H g' H') (hf : ∀ a, Fo a → H a = none) (j : Dj T (g'.plus Fo) S' H') : Rel T (g'.plus Fo) Γ ρ S' σ H' := by
  refine ⟨R.len, fun i d e => ?_, j.dF, j.dFO, j.dFB, j.dOB, j.dom, j.st, j.nt⟩
  have st : Stay g H (g'.plus Fo) H' := ⟨fun a o h hu => f.stay.keep a o h hu, fun a h => by
    rcases h with (h | h) | h | h
    · exact f.stay.own a (.inl h)
    · exact .inr (hf a h)
    · exact f.stay.own a (.inr (.inl h))
    · exact f.stay.own a (.inr (.inr h)), f.N, f.μ, f.Z⟩
  obtain ⟨v, h1, h2⟩ := R.slot i d e
  refine ⟨v, h1, ?_⟩
  cases hm : Γ.getD i .s <;> rw [hm] at h2 <;> simp only [RepM] at h2 ⊢
  · exact h2.stay st
  · have := Own.keepF st _ _ _ _ (fun a o z q => f.keep a o q (R.dFB i a z)) h2
    show Own T (g'.plus Fo) H' _ (g'.F i) d v
    rw [f.F]; exact this
  · have := Own.keepF st _ _ _ _ (fun a o z q => f.keep a o q (R.dOB a z)) h2
    exact Own.wide _ _ _ _ _ (fun a z => .inl (by rw [f.O]; exact z)) this
  · refine ⟨h2.1.trans (by show g.P i = g'.P i; rw [f.P]), ?_⟩
    have := Own.keepF st _ _ _ _ (fun a o z q => f.keep a o q (R.dFB i a z)) h2.2
    show Own T (g'.plus Fo) H' _ (g'.F i) d v
    rw [f.F]; exact this
  · exact h2
  · exact h2.stay (show Stay g.bare H (g'.plus Fo).bare H' from f.bare)
def wipeE (ρ : Env) : List Nat → Env
  | [] => ρ
  | v :: vs => (wipeE ρ vs).set v none
theorem wipeE_some {ρ : Env} {i : Nat} {d : D} : ∀ {vs : List Nat}, (wipeE ρ vs)[i]? = some (some d) → ρ[i]? = some (some d) ∧ i ∉ vs
  | [], h => ⟨h, by simp⟩
  | v :: vs, h => by
    unfold wipeE at h
    by_cases hv : v = i
    · subst hv
      by_cases hl : v < (wipeE ρ vs).length
      · rw [List.getElem?_set_self hl] at h; cases h
      · rw [List.getElem?_eq_none (by simpa using hl)] at h; cases h
    · rw [List.getElem?_set_ne hv] at h
      obtain ⟨h1, h2⟩ := wipeE_some h
      exact ⟨h1, by simp [h2, Ne.symm hv]⟩
theorem wipeE_length (ρ : Env) : ∀ vs : List Nat, (wipeE ρ vs).length = ρ.length
  | [] => rfl
  | v :: vs => by unfold wipeE; rw [List.length_set, wipeE_length ρ vs]
theorem wipe_get {σ σ' : L2.St} {is : List Nat} (hl : σ'.length = σ.length) (h : ∀ j, j ∉ is → σ'[j]? = σ[j]?) : ∀ {vs : List Nat}, (∀ j, j ∈ is → j ∈ vs) → wipe σ' vs = wipe σ vs := by
  intro vs hs
  apply List.ext_getElem?
  intro j
  by_cases hj : j ∈ vs
  · have nn : ∀ (τ : L2.St) (ws : List Nat), j ∈ ws → (wipe τ ws)[j]? = if j < τ.length then some none else none := by
      intro τ ws
      induction ws with
      | nil => intro h; cases h
      | cons w ws ih =>
        intro h
        unfold wipe
        by_cases hw : w = j
        · subst hw
          by_cases hlt : w < τ.length
          · rw [List.getElem?_set_self (by rw [wipe_length]; exact hlt), if_pos hlt]
          · rw [List.getElem?_eq_none (by simpa [wipe_length] using hlt), if_neg hlt]
        · rw [List.getElem?_set_ne hw]
          rcases List.mem_cons.mp h with h | h
          · exact absurd h.symm hw
          · exact ih h
    rw [nn _ _ hj, nn _ _ hj, hl]
  · rw [wipe_out hj, wipe_out hj]
    exact h j fun z => hj (hs j z)
/-- the wiped slots' places are lent -/
def G.lend (g : G) (vs : List Nat) : G := { g with O := fun a => g.O a ∨ ∃ j, j ∈ vs ∧ g.F j a, F := fun j a => j ∉ vs ∧ g.F j a }
theorem G.lend_U {g : G} {vs : List Nat} {a : Addr} : (g.lend vs).U a ↔ g.U a := by
  constructor
  · rintro ((h | ⟨j, _, h⟩) | ⟨j, _, h⟩ | h)
    · exact .inl h
    · exact .inr (.inl ⟨j, h⟩)
    · exact .inr (.inl ⟨j, h⟩)
    · exact .inr (.inr h)
  · rintro (h | ⟨j, h⟩ | h)
    · exact .inl (.inl h)
    · by_cases hj : j ∈ vs
      · exact .inl (.inr ⟨j, hj, h⟩)
      · exact .inr (.inl ⟨j, hj, h⟩)
    · exact .inr (.inr h)
theorem Rel.lend {g : G} {ρ : Env} {S : Store} {σ : L2.St} {H : Hp} (R : Rel T g Γ ρ S σ H) (vs : List Nat) : Rel T (g.lend vs) Γ (wipeE ρ vs) S (wipe σ vs) H := by
  refine R.shift rfl rfl rfl rfl (fun a h => G.lend_U.mp h) (fun i j a h h' => R.dF i j a h.2 h'.2) (fun i a h z => ?_) (fun a h => ?_) (fun i a h => .inl ⟨i, h.2⟩) (by rw [wipeE_length, wipe_length, R.len]) fun st i d e => ?_
  · rcases z with z | ⟨j, hj, z⟩
    · exact R.dFO i a h.2 z
    · have := R.dF i j a h.2 z
      subst this
      exact h.1 hj
  · rcases h with h | ⟨j, _, h⟩
    · exact .inl h
    · exact .inr ⟨j, h⟩
  · obtain ⟨e1, hi⟩ := wipeE_some e
    obtain ⟨v, h1, h2⟩ := R.slot i d e1
    exact ⟨v, by rw [wipe_out hi]; exact h1, h2.stay st (fun a z => ⟨hi, z⟩) (fun a z => .inl z) rfl (bare_sub rfl rfl (fun i a z => ⟨i, z.2⟩) fun _ z => z)⟩
/-- the items that a comprehension makes -/
def lcL (tf : D → Env → Option Env) (c E : FE) : List D → Env → Store → RL
  | [], _, S => .ok [] S
  | d :: r, ρ, S => match tf d ρ with
    | none => .no
    | some ρ1 => match c ρ1 S with
      | .ok (.bl true) S1 => (match E ρ1 S1 with
        | .ok y S2 => (match lcL tf c E r ρ S2 with
          | .ok ys S3 => .ok (y :: ys) S3
          | _ => .no)
        | _ => .no)
      | .ok (.bl false) S1 => lcL tf c E r ρ S1
      | _ => .no
def eLc (it : FL) (vs : List Nat) (tf : D → Env → Option Env) (c E : FE) : FE := fun ρ S => match it ρ S with
  | .ok ds S1 => (match lcL tf c E ds (wipeE ρ vs) S1 with
    | .ok ys S2 => if ds.length ≤ 1000000 then .ok (.lst ys) S2 else .no
    | _ => .no)
  | .exc x S1 => .exc x S1
  | .no => .no

/-- tests of a comprehension's clause -/
abbrev XTs (X : Cx) (T : Th) (W : WX) (Γ : List Md) (es : List Expr) (F : FE) : Prop := PTs X es (tXT T W Γ F)
theorem xts_nil : XTs X T W Γ [] (eC (.bl true)) := ⟨fun pins s σ H Q I ⟨g, ρ, S, R, h⟩ => by
  obtain ⟨b, e, h⟩ := h
  cases e
  exact pts_nil.run pins s σ H Q I (h g H R (.refl _ _))⟩
theorem xts_one {c : Expr} {C : FE} (h : XT X T W Γ c C) : XTs X T W Γ [c] C := pts_one h
theorem Dj.ex {g : G} {S : Store} {H H' : Hp} (j : Dj T g S H) (e : Exx H H') : Dj T g S H' := ⟨j.dF, j.dFO, j.dFB, j.dOB, fun a h => by obtain ⟨o, q⟩ := j.dom a h; exact ⟨o, e a o q⟩, j.st.keep (.ex e) (fun a o _ q => e a o q) rfl rfl rfl fun _ _ => rfl, e.nt j.dom j.nt⟩
theorem nt_upd {H : Hp} {p : Addr} {o : HO} {U : Addr → Prop} (nt : ∀ a, U a → ∀ u, ¬ Rd H a (.tup u)) (ho : ∀ u, o ≠ .tup u ∧ ∀ b, o ≠ .frz b (.tup u)) : ∀ a, U a → ∀ u, ¬ Rd (upd H p o) a (.tup u) := fun a h u r => by
  by_cases ha : a = p
  · subst ha
    rcases r with r | ⟨b, r⟩
    · rw [upd_same] at r; cases r; exact (ho u).1 rfl
    · rw [upd_same] at r; cases r; exact (ho u).2 b rfl
  · refine nt a h u (r.imp (fun z => ?_) fun ⟨b, z⟩ => ⟨b, ?_⟩)
    · rwa [upd_ne ha] at z
    · rwa [upd_ne ha] at z
/-- .. an others' list written -/
theorem Dj.write {g : G} {S : Store} {H : Hp} {p : Addr} {o : HO} (ho : ∀ u, o ≠ .tup u ∧ ∀ b, o ≠ .frz b (.tup u)) (j : Dj T g S H) (hp : g.O p) : Dj T g S (upd H p o) := by
  have st : Stay g H g (upd H p o) := ⟨fun a u h hu => by rw [upd_ne (fun z => hu (.inl (by rw [z]; exact hp)))]; exact h, fun _ h => .inl h, Nat.le_refl _, fun _ _ => rfl, rfl⟩
  refine ⟨j.dF, j.dFO, j.dFB, j.dOB, fun a h => ?_, j.st.keep st (fun a u hb h => by rw [upd_ne (fun z => j.dOB p hp (by rw [← z]; exact hb))]; exact h) rfl rfl rfl fun _ _ => rfl, nt_upd j.nt ho⟩
  by_cases ha : a = p
  · subst ha; exact ⟨o, upd_same⟩
  · rw [upd_ne ha]; exact j.dom a h
theorem Rel.carry0 {g g' : G} {ρ : Env} {S S' : Store} {σ : L2.St} {H H' : Hp} (R : Rel T g Γ ρ S σ H) (f : FrE g H g' H') (j : Dj T g' S' H') : Rel T g' Γ ρ S' σ H' := by
  refine ⟨R.len, fun i d e => ?_, j.dF, j.dFO, j.dFB, j.dOB, j.dom, j.st, j.nt⟩
  have st := f.stay
  obtain ⟨v, h1, h2⟩ := R.slot i d e
  refine ⟨v, h1, ?_⟩
  cases hm : Γ.getD i .s <;> rw [hm] at h2 <;> simp only [RepM] at h2 ⊢
  · exact h2.stay st
  · rw [f.F]; exact Own.keepF st _ _ _ _ (fun a o z q => f.keep a o q (R.dFB i a z)) h2
  · rw [f.O]; exact Own.keepF st _ _ _ _ (fun a o z q => f.keep a o q (R.dOB a z)) h2
  · rw [f.F, f.P]; exact ⟨h2.1, Own.keepF st _ _ _ _ (fun a o z q => f.keep a o q (R.dFB i a z)) h2.2⟩
  · exact h2
  · exact h2.stay f.bare
theorem FrE.swap {g g' g2 : G} {H H' : Hp} (f : FrE g H g' H') (hB : g2.B = g.B) (hN : g2.N = g.N) (hμ : g2.μ = g.μ) (hP : g2.P = g.P) : FrE g2 H { g' with O := g2.O, F := g2.F } H' :=
  ⟨fun a o h hb => f.keep a o h (by rw [← hB]; exact hb), fun a h => by rw [hB]; exact f.B a h, rfl, rfl, f.P.trans hP.symm, by rw [hN]; exact f.N, fun n hn => by rw [hμ]; exact f.μ n (by rw [← hN]; exact hn), f.dom⟩
theorem FrE.upd {g g' : G} {H H' : Hp} {p : Addr} {o : HO} (f : FrE g H g' H') (hp : H p = none) : FrE g H g' (upd H' p o) :=
  ⟨fun a u h hb => by rw [upd_ne (ne_of_none h hp)]; exact f.keep a u h hb, f.B, f.F, f.O, f.P, f.N, f.μ, fun a u h => by rw [upd_ne (ne_of_none h hp)]; exact f.dom a u h⟩
theorem wipe_wipe {σ : L2.St} {vs : List Nat} : wipe (wipe σ vs) vs = wipe σ vs := wipe_get (is := vs) (wipe_length σ vs) (fun j hj => wipe_out hj) fun _ h => h
theorem sz_lt6 {n : Nat} (h : n < 1000000) : n < sizeLine := by rw [sizeLine_eq]; omega
/-- the invariant of a comprehension's turns -/
structure LcW (T : Th) (Γ : List Md) (vs : List Nat) (tf : D → Env → Option Env) (c E : FE) (g1 : G) (H1 : Hp) (ρ : Env) (σ : L2.St) (ds ys : List D) (Sf : Store) (p : Addr) (i m : Nat) (H' : Hp) : Prop where
  all : ∃ (g0 : G) (Si : Store) (vacc : List V) (acc rest : List D), FrE (g1.lend vs) H1 g0 H' ∧ Dj T (g0.plus (· = p)) Si H' ∧ H' p = some (.lst vacc) ∧ ShrL T (g0.plus (· = p)) H' acc vacc ∧ m = ds.length - i ∧ i ≤ ds.length ∧ acc.length ≤ i ∧ lcL tf c E (ds.drop i) (wipeE ρ vs) Si = .ok rest Sf ∧ ys = acc ++ rest
theorem xe_lc {elt tg iter : Expr} {ifs : List Expr} {scope : Scope} {own : List (Str × Nat)} {pos : Pos} {Γb : List Md} {is : List Nat} {t : TG} {tf : D → Env → Option Env} {FI : FL} {C E : FE} (hc : X.calm = true) (hN : X.N.Nodup) (hi : XIF X T W Γ tg iter FI)
    (ok : BlkOk X.N X.env.scope scope own) (his : ∀ j, j ∈ is → j ∈ own.map (·.2))
    (hg : ∀ (s : Shared) (H : Hp) (C : Addr) (cl : List (Str × Addr)) (fp : List Addr), PG (X.blk s H scope (compEnvC scope cl C X.env) fp) tg t) (ht : TgOk T Γ Γb is t tf)
    (hts : ∀ (s : Shared) (H : Hp) (D : Addr) (cl : List (Str × Addr)) (fp : List Addr), XTs (X.blk s H scope (compEnvC scope cl D X.env) fp) T (fun _ _ _ _ => False) Γb ifs C)
    (he : ∀ (s : Shared) (H : Hp) (D : Addr) (cl : List (Str × Addr)) (fp : List Addr), XE (X.blk s H scope (compEnvC scope cl D X.env) fp) T (fun _ _ _ _ => False) Γb elt E) (hs : ∀ x, foldedSetIterable iter X.env x = pure x := by intro _; rfl) :
    XE X T W Γ (.ListComp elt [⟨tg, iter, ifs, 0⟩] scope pos) (eLc FI (own.map (·.2)) tf C E) := pe_imp (pe_lc hc hN hi ok hg hts he hs) fun σ H Q ⟨g, ρ, S, R, h⟩ => by
  generalize own.map (·.2) = vs at his h
  refine ⟨g, ρ, S, R, ?_⟩
  unfold eLc at h
  cases e : FI ρ S with
  | exc x S1 => rw [e] at h; exact h
  | no => rw [e] at h; exact h
  | ok ds S1 =>
    rw [e] at h
    intro It1 g1 H1 R1 f1 io p hp
    have h : GoodE T W Γ ρ σ g H (match lcL tf C E ds (wipeE ρ vs) S1 with | .ok ys S2 => if ds.length ≤ 1000000 then RE.ok (.lst ys) S2 else .no | _ => .no) Q := h
    split at h
    · rename_i ys Sf el
      split at h
      · rename_i hlen
        have Rl := R1.lend vs
        have hpO : ∀ a, a = p → (g1.lend vs).U a → False := fun a ha u => by
          obtain ⟨o, q⟩ := Rl.dom a u
          rw [ha, hp] at q; cases q
        have Dp : Dj T ((g1.lend vs).plus (· = p)) S1 (upd H1 p (.lst [])) := by
          have st : Stay (g1.lend vs) (upd H1 p (.lst [])) ((g1.lend vs).plus (· = p)) (upd H1 p (.lst [])) → True := fun _ => trivial
          have e1 := Rl.ex (Exx.new (o := HO.lst []) hp)
          refine ⟨e1.dF, fun i a z w => w.elim (e1.dFO i a z) fun w => hpO a w (.inr (.inl ⟨i, z⟩)), e1.dFB, fun a w z => w.elim (fun w => e1.dOB a w z) fun w => hpO a w (.inr (.inr z)), fun a u => ?_, ?_, fun a u w r => ?_⟩
          · rcases u with (u | u) | u | u
            · exact e1.dom a (.inl u)
            · exact ⟨_, by rw [u]; exact upd_same⟩
            · exact e1.dom a (.inr (.inl u))
            · exact e1.dom a (.inr (.inr u))
          · refine Rl.st.keep (g' := (g1.lend vs).plus (· = p)) ⟨fun a o q _ => Exx.new hp a o q, fun a u => ?_, Nat.le_refl _, fun _ _ => rfl, rfl⟩ (fun a o _ q => Exx.new hp a o q) rfl rfl rfl fun _ _ => rfl
            rcases u with (u | u) | u | u
            · exact .inl (.inl u)
            · exact .inr (by rw [u]; exact hp)
            · exact .inl (.inr (.inl u))
            · exact .inl (.inr (.inr u))
          · by_cases ha : a = p
            · subst ha
              rcases r with r | ⟨b, r⟩
              · rw [upd_same] at r; cases r
              · rw [upd_same] at r; cases r
            · refine e1.nt a ?_ w r
              rcases u with (u | u) | u | u
              · exact .inl u
              · exact absurd u ha
              · exact .inr (.inl u)
              · exact .inr (.inr u)
        refine ⟨LcW T Γ vs tf C E g1 H1 ρ σ ds ys Sf p, ⟨ds.length, ⟨g1.lend vs, S1, [], [], ys, .ex (Exx.new hp), Dp, upd_same, .nil, by simp, Nat.zero_le _, Nat.zero_le _, by rw [List.drop_zero]; exact el, rfl⟩⟩, ?_⟩
        rintro i m H' ⟨g0, Si, vacc, acc, rest, fr, dj, hacc, sacc, em, hi', ha, hl, hy⟩
        have fO : ∀ a, a = p → H1 a = none := fun a z => by rw [z]; exact hp
        have Rw : Rel T (g0.plus (· = p)) Γ (wipeE ρ vs) Si (wipe σ vs) H' := Rl.carry fr fO dj
        have st0 : Stay g1 H1 g0 H' := ⟨fun a o q hu => fr.stay.keep a o q fun z => hu (G.lend_U.mp z), fun a u => (fr.stay.own a u).imp G.lend_U.mp id, fr.N, fr.μ, fr.Z⟩
        obtain ⟨i1, i2⟩ := io g0 H' i st0 fr.keep
        by_cases hlt : i < ds.length
        · refine .inr ?_
          obtain ⟨d, hd⟩ : ∃ d, ds[i]? = some d := ⟨ds[i], List.getElem?_eq_getElem hlt⟩
          have stp : Stay g1 H1 (g0.plus (· = p)) H' := ⟨st0.keep, fun a u => by
            rcases u with (u | u) | u | u
            · exact st0.own a (.inl u)
            · exact .inr (fO a u)
            · exact st0.own a (.inr (.inl u))
            · exact st0.own a (.inr (.inr u)), st0.N, st0.μ, st0.Z⟩
          obtain ⟨_, i2⟩ := io (g0.plus (· = p)) H' i stp fr.keep
          obtain ⟨go, yl⟩ := i2 d hd
          refine ⟨go, fun H2 => ∃ m', m' < m ∧ LcW T Γ vs tf C E g1 H1 ρ σ ds ys Sf p (i + 1) m' H2, fun H2 ⟨m', l, w⟩ => ⟨m', l, w⟩, fun x H2 y => ?_⟩
          obtain ⟨ex, sx⟩ := yl x H2 y
          have R2 := Rw.ex ex
          have ed : ds.drop i = d :: ds.drop (i + 1) := by
            rw [List.drop_eq_getElem_cons hlt]
            rw [List.getElem?_eq_getElem hlt] at hd
            rw [Option.some.inj hd]
          rw [ed, lcL] at hl
          split at hl
          · cases hl
          · rename_i ρ1 e1
            refine ht _ _ ρ1 Si _ H2 d x _ R2 sx e1 fun σ3 R3 l3 k3 => ⟨(wipe_get (is := is) l3 k3 his).trans wipe_wipe, _, ρ1, Si, R3, ?_⟩
            have fO2 : ∀ (g4 : G) (H4 : Hp), FrE ((g0.plus (· = p)).drops is) H2 g4 H4 → FrE (g1.lend vs) H1 { g4 with O := g0.O, F := g0.F } H4 ∧ ({ g4 with O := g0.O, F := g0.F } : G).plus (· = p) = g4 := fun g4 H4 f4 => by
              refine ⟨(fr.trans (.ex ex)).trans (f4.swap (g2 := g0) rfl rfl rfl rfl), ?_⟩
              have eO := f4.O
              have eF := f4.F
              obtain ⟨N4, μ4, O4, F4, B4, BF4, P4⟩ := g4
              simp only at eO eF
              subst eO eF
              show G.mk N4 μ4 (fun a => g0.O a ∨ a = p) g0.F B4 BF4 P4 = G.mk N4 μ4 (fun a => g0.O a ∨ a = p) (fun j a => j ∉ is ∧ g0.F j a) B4 BF4 P4
              congr 1
              funext j a
              rw [fr.F]
              exact propext ⟨fun z => ⟨fun w => z.1 (his j w), z⟩, fun z => z.2⟩
            have kp : ∀ (g4 : G) (H4 : Hp), FrE ((g0.plus (· = p)).drops is) H2 g4 H4 → g4.O p ∧ H4 p = some (.lst vacc) := fun g4 H4 f4 =>
              ⟨by rw [f4.O]; exact .inr rfl, f4.keep p _ (ex p _ hacc) (dj.dOB p (.inr rfl))⟩
            have sk : ∀ (g4 : G) (H4 : Hp), FrE ((g0.plus (· = p)).drops is) H2 g4 H4 → ShrL T g4 H4 acc vacc := fun g4 H4 f4 =>
              ShrL.stay (((Stay.ex ex).trans FrS.drops.stay).trans f4.stay) _ _ sacc
            split at hl
            · rename_i S2 ec
              rw [ec]
              refine ⟨true, rfl, fun g2 H3 R4 f3 => ?_⟩
              refine iteT ⟨g2, ρ1, S2, R4, ?_⟩
              split at hl
              · rename_i y2 S3 ey
                rw [ey]
                intro v g4 H4 R5 f4 s4
                have f34 := f3.trans f4
                obtain ⟨pO, pH⟩ := kp g4 H4 f34
                obtain ⟨fa, fe⟩ := fO2 g4 H4 f34
                have sa := sk g4 H4 f34
                split at hl
                · rename_i ys' S4 ely
                  cases hl
                  refine ⟨vacc, pH, by rw [← sa.length]; exact sz_lt6 (by omega), ds.length - (i + 1), by omega, ⟨{ g4 with O := g0.O, F := g0.F }, S3, vacc ++ [v], acc ++ [y2], ys', fa.upd hp, ?_, upd_same, ?_, rfl, hlt, by rw [List.length_append]; simp; omega, ely, by rw [hy, List.append_assoc]; rfl⟩⟩
                  · rw [fe]; exact R5.dj.write (fun _ => ⟨nofun, fun _ => nofun⟩) pO
                  · rw [fe]
                    have stw : Stay g4 H4 g4 (upd H4 p (.lst (vacc ++ [v]))) := ⟨fun a u h hu => by rw [upd_ne (fun z => hu (.inl (by rw [z]; exact pO)))]; exact h, fun _ h => .inl h, Nat.le_refl _, fun _ _ => rfl, rfl⟩
                    exact ShrL.append (sa.stay stw) ((ShrL.cons s4 .nil).stay stw)
                · cases hl
              · cases hl
            · rename_i S2 ec
              rw [ec]
              refine ⟨false, rfl, fun g2 H3 R4 f3 => iteF ?_⟩
              obtain ⟨pO, pH⟩ := kp g2 H3 f3
              obtain ⟨fa, fe⟩ := fO2 g2 H3 f3
              exact ⟨ds.length - (i + 1), by omega, ⟨{ g2 with O := g0.O, F := g0.F }, S2, vacc, acc, rest, fa, by rw [fe]; exact R4.dj, pH, by rw [fe]; exact sk g2 H3 f3, rfl, hlt, by omega, hl, hy⟩⟩
            · cases hl
        · have e1 : i = ds.length := by omega
          subst e1
          refine .inl ⟨i1 (Nat.le_refl _), ?_⟩
          rw [List.drop_length, lcL] at hl
          cases hl
          rw [List.append_nil] at hy
          subst hy
          have ff : FrE g1 H1 { g0 with O := g1.O, F := g1.F } H' := fr.swap (g2 := g1) rfl rfl rfl rfl
          have uu : ∀ a, ({ g0 with O := g1.O, F := g1.F } : G).U a → (g0.plus (· = p)).U a := fun a u => by
            rcases u with u | ⟨j, u⟩ | u
            · exact .inl (.inl (by rw [fr.O]; exact .inl u))
            · by_cases hj : j ∈ vs
              · exact .inl (.inl (by rw [fr.O]; exact .inr ⟨j, hj, u⟩))
              · exact .inr (.inl ⟨j, by rw [show (g0.plus (· = p)).F = g0.F from rfl, fr.F]; exact ⟨hj, u⟩⟩)
            · exact .inr (.inr u)
          have dOB' : ∀ a, (g1.O a ∨ ∃ j, g1.F j a) → ¬ g0.B a := fun a u z => by
            have := uu a (u.elim .inl fun w => .inr (.inl w))
            rcases fr.B a z with w | w
            · exact u.elim (fun q => R1.dOB a q w) fun ⟨j, q⟩ => R1.dFB j a q w
            · obtain ⟨o, q⟩ := R1.dom a (u.elim .inl fun q => .inr (.inl q))
              rw [w] at q; cases q
          have stf : Stay (g0.plus (· = p)) H' { g0 with O := g1.O, F := g1.F } H' := ⟨fun _ _ h _ => h, fun a u => .inl (uu a u), Nat.le_refl _, fun _ _ => rfl, rfl⟩
          have djf : Dj T { g0 with O := g1.O, F := g1.F } Sf H' := ⟨R1.dF, R1.dFO, fun j a u z => dOB' a (.inr ⟨j, u⟩) z, fun a u z => dOB' a (.inl u) z, fun a u => dj.dom a (uu a u), dj.st.keep stf (fun _ _ _ q => q) rfl rfl rfl fun _ _ => rfl, fun a u => dj.nt a (uu a u)⟩
          refine h (.ref p) _ H' (R1.carry0 ff djf) (f1.trans ff) (shr_lst.mpr ⟨p, vacc, rfl, ⟨hacc, fun u => ?_⟩, ShrL.stay stf _ _ sacc⟩)
          rcases u with u | u | u
          · obtain ⟨o, q⟩ := R1.dom p (.inl u)
            rw [hp] at q; cases q
          · obtain ⟨o, q⟩ := R1.dom p (.inr (.inl u))
            rw [hp] at q; cases q
          · exact dj.dOB p (.inr rfl) u
      · exact h.elim
    · exact h.elim
end
end Q

/-! Short words for printed derivations. -/
namespace Q
open PySem PySem.Spec PyProof.Rows L2
abbrev ΓS (n : Nat) : List Md := List.replicate n .s
theorem rep_s {n i : Nat} : (ΓS n).getD i .s = .s := by
  simp only [List.getD, List.getElem?_replicate]
  split <;> rfl
theorem set_rep {n i : Nat} : (ΓS n).set i .s = ΓS n := by
  apply List.ext_getElem?
  intro j
  by_cases h : i = j
  · subst h
    by_cases hl : i < n
    · rw [List.getElem?_set_self (by simpa using hl), List.getElem?_replicate, if_pos hl]
    · rw [List.getElem?_eq_none (by simpa using hl), List.getElem?_eq_none (by simpa using hl)]
  · rw [List.getElem?_set_ne h]
theorem set_repE {n i j : Nat} {m : Md} (h : i ≠ j) : ((ΓS n).set i m).set j .s = (ΓS n).set i m := by
  rw [List.set_comm _ _ h, set_rep]
abbrev sgS (n : Nat) : Sig := ⟨ΓS n, 0⟩
theorem gp_s {n : Nat} {Γ : List Md} : ΓP (ΓS n) Γ := fun i k h => by rw [rep_s] at h; cases h
section
variable {P : Program} {w : World} {K : PySem.W.Frag} {mg : Str → Option Value} {base : Heap} {T : Th}
abbrev jdS (n : Nat) (E : XK) : Jd := jdF (ΓS n) 0 E
theorem fn_okS {x qual : Str} {st : Stmt} {f : Addr} {fd : FuncData} {N ps : List Str} {k n : Nat} {B : FS} {Γ' : List Md} (F : Fun K x qual st f fd) (Sc : FnScope N ps (defScope st)) (hn : ps.length = n) (hN : n ≤ N.length)
    (hbody : ∀ (cdv : Value) (A : Around) (outer : List PySem.Env) (s : Shared) (H : Hp) (E : XK), Room k (A.deeper (envOfC qual (defScope st) s.heap.objs.size f cdv)) →
      XB (cxOf (L2.CX P w) P w K mg base N qual (defScope st) f cdv A outer s H E) T (jdS n E) (ΓS N.length) Γ' (defBody st) B) :
    FnOk P w K mg base (L2.CX P w) (k + 1) f fd ps (spD T n (sgS n) (fBody N.length n (ΓS n) B)) := by
  refine fn_ok (sg := sgS n) F Sc hn hN (Γ' := Γ') (fun cdv A outer s H E hr => ?_) gp_s
  have e : (sgS n).ms ++ List.replicate (N.length - (sgS n).ms.length) .s = ΓS N.length := by
    show List.replicate n Md.s ++ List.replicate (N.length - (List.replicate n Md.s).length) .s = List.replicate N.length .s
    rw [List.length_replicate, List.replicate_append_replicate]
    congr 1
    omega
  rw [e]
  exact hbody cdv A outer s H E hr
end
section
variable {X : Cx} {T : Th} {W : WX} {n : Nat}
theorem xv {i : Nat} {e : Expr} (he : PE X e (tVar i)) : XE X T W (ΓS n) e (eVar i) := xe_var he rep_s
theorem xe_callS {k m : Nat} {f : Addr} {fd : FuncData} {ps : List Str} {Φ : FF} {e : Expr} {es : List Expr} {A : FL} {Γ : List Md} (F : FnOk X.prog X.w X.K X.mg X.base (L2.CX X.prog X.w) k f fd ps (spD T m (sgS m) Φ)) (hn : es.length = m) (hA : ∀ ρ S ds S1, A ρ S = .ok ds S1 → ds.length = m)
    (ha : XL X T W Γ es A) (he : PA X es (tXL T W Γ A) → PE X e (tCallS (spD T m (sgS m) Φ) (WE W) (tXL T W Γ A))) : XE X T W Γ e (eCall Φ A) := xe_call F (fun _ => rep_s) hn hA ha he
end
/-- what an argument list is as long as -/
theorem la0 : ∀ ρ S ds S1, lNil ρ S = .ok ds S1 → ds.length = 0 := fun _ _ _ _ h => lNil_len h
theorem la1 {A : FE} {B : FL} {n : Nat} (h : ∀ ρ S ds S1, B ρ S = .ok ds S1 → ds.length = n) : ∀ ρ S ds S1, lCons A B ρ S = .ok ds S1 → ds.length = n + 1 := lCons_len h
end Q

/-! Reckoning with the readings; a law's own end. -/
namespace Q
open PySem PySem.Spec PyProof.Rows L2
/-! ### one step of a reading -/
def RS.seq (r : RS) (h : FS) : RS := match r with
  | .nx ρ1 S1 => h ρ1 S1
  | r => r
def condS (d : D) (x y : RS) : RS := match d with
  | .bl true => x
  | .bl false => y
  | _ => .no
def condE (d : D) (x y : RE) : RE := match d with
  | .bl true => x
  | .bl false => y
  | _ => .no
def notD (d : D) (S : Store) : RE := match d with
  | .bl b => .ok (.bl (!b)) S
  | _ => .no
def RL.bindE (r : RL) (k : List D → Store → RE) : RE := match r with
  | .ok ds S => k ds S
  | .exc x S => .exc x S
  | .no => .no
def RE.bindL (r : RE) (k : D → Store → RL) : RL := match r with
  | .ok d S => k d S
  | .exc x S => .exc x S
  | .no => .no
def RL.bindL (r : RL) (k : List D → Store → RL) : RL := match r with
  | .ok d S => k d S
  | .exc x S => .exc x S
  | .no => .no
def RL.bindS (ρ : Env) (r : RL) (k : List D → Store → RS) : RS := match r with
  | .ok d S => k d S
  | .exc x S => .exc x ρ S
  | .no => .no
def RF.toE (r : RF) : RE := match r with
  | .ok d _ S => .ok d S
  | .exc x _ S => .exc x S
  | .no => .no
def RS.toF (r : RS) (ms : List Md) (n : Nat) : RF := match r with
  | .nx ρ S' => .ok .non (outsOf ms n ρ) S'
  | .rt d ρ S' => .ok d (outsOf ms n ρ) S'
  | .exc x ρ S' => .exc x (outsOf ms n ρ) S'
  | _ => .no
def slotE (o : Option (Option D)) (S : Store) : RE := match o with
  | some (some d) => .ok d S
  | _ => .no
section
variable {d : D} {S : Store} {ρ : Env} {x : Exc}
theorem bind_ok {k : D → Store → RE} : (RE.ok d S).bind k = k d S := rfl
theorem bind_exc {k : D → Store → RE} : (RE.exc x S).bind k = .exc x S := rfl
theorem bindS_ok {k : D → Store → RS} : (RE.ok d S).bindS ρ k = k d S := rfl
theorem bindS_exc {k : D → Store → RS} : (RE.exc x S).bindS ρ k = .exc x ρ S := rfl
theorem of_some : RE.of S (some d) = .ok d S := rfl
theorem seq_nx {h : FS} : (RS.nx ρ S).seq h = h ρ S := rfl
theorem seq_rt {h : FS} : (RS.rt d ρ S).seq h = .rt d ρ S := rfl
theorem seq_exc {h : FS} : (RS.exc x ρ S).seq h = .exc x ρ S := rfl
theorem seq_bk {h : FS} : (RS.bk ρ S).seq h = .bk ρ S := rfl
theorem seq_ct {h : FS} : (RS.ct ρ S).seq h = .ct ρ S := rfl
theorem condS_bl {b : Bool} {y z : RS} : condS (.bl b) y z = if b = true then y else z := by cases b <;> rfl
theorem condE_bl {b : Bool} {y z : RE} : condE (.bl b) y z = if b = true then y else z := by cases b <;> rfl
theorem condS_t {y z : RS} : condS (.bl true) y z = y := rfl
theorem condS_f {y z : RS} : condS (.bl false) y z = z := rfl
theorem condE_t {y z : RE} : condE (.bl true) y z = y := rfl
theorem condE_f {y z : RE} : condE (.bl false) y z = z := rfl
theorem notD_bl {b : Bool} : notD (.bl b) S = .ok (.bl (!b)) S := rfl
theorem bindE_ok {ds : List D} {k : List D → Store → RE} : (RL.ok ds S).bindE k = k ds S := rfl
theorem bindL_ok {k : D → Store → RL} : (RE.ok d S).bindL k = k d S := rfl
theorem bindL_exc {k : D → Store → RL} : (RE.exc x S).bindL k = .exc x S := rfl
theorem bindLL_ok {ds : List D} {k : List D → Store → RL} : (RL.ok ds S).bindL k = k ds S := rfl
theorem bindLL_exc {k : List D → Store → RL} : (RL.exc x S).bindL k = .exc x S := rfl
theorem bindE_exc {k : List D → Store → RE} : (RL.exc x S).bindE k = .exc x S := rfl
theorem bindLS_ok {ds : List D} {k : List D → Store → RS} : (RL.ok ds S).bindS ρ k = k ds S := rfl
theorem bindLS_exc {k : List D → Store → RS} : (RL.exc x S).bindS ρ k = .exc x ρ S := rfl
theorem toE_ok {o : Env} : (RF.ok d o S).toE = .ok d S := rfl
theorem toE_exc {o : Env} : (RF.exc x o S).toE = .exc x S := rfl
theorem toF_nx {ms : List Md} {n : Nat} : (RS.nx ρ S).toF ms n = .ok .non (outsOf ms n ρ) S := rfl
theorem toF_rt {ms : List Md} {n : Nat} : (RS.rt d ρ S).toF ms n = .ok d (outsOf ms n ρ) S := rfl
theorem toF_exc {ms : List Md} {n : Nat} : (RS.exc x ρ S).toF ms n = .exc x (outsOf ms n ρ) S := rfl
theorem slotE_some : slotE (some (some d)) S = .ok d S := rfl
end
section
variable {ρ : Env} {S : Store}
theorem ev_var {i : Nat} : eVar i ρ S = slotE ρ[i]? S := rfl
theorem ev_c {d : D} : eC d ρ S = .ok d S := rfl
theorem ev_op {h : D → D → Option D} {a b : FE} : eOp h a b ρ S = (a ρ S).bind fun x S1 => (b ρ S1).bind fun y S2 => .of S2 (h x y) := rfl
theorem ev_un {h : D → Option D} {a : FE} : eUn h a ρ S = (a ρ S).bind fun x S1 => .of S1 (h x) := rfl
theorem ev_nil : lNil ρ S = .ok [] S := rfl
theorem ev_cons {a : FE} {r : FL} : lCons a r ρ S = (a ρ S).bindL fun x S1 => (r ρ S1).bindL fun xs S2 => .ok (x :: xs) S2 := rfl
theorem ev_L {h : List D → Option D} {a : FL} : eL h a ρ S = (a ρ S).bindE fun xs S1 => .of S1 (h xs) := rfl
theorem ev_tup {a : FL} : eTup a ρ S = (a ρ S).bindE fun xs S1 => .of S1 (if xs.length ≤ 1000000 then some (.tup xs) else none) := rfl
theorem ev_lst {a : FL} : eLst a ρ S = (a ρ S).bindE fun xs S1 => .of S1 (if xs.length ≤ 1000000 then some (.lst xs) else none) := rfl
theorem ev_call {Φ : FF} {a : FL} : eCall Φ a ρ S = (a ρ S).bindE fun xs S1 => (Φ xs S1).toE := rfl
theorem ev_and {a b : FE} : eAnd a b ρ S = (a ρ S).bind fun x S1 => condE x (b ρ S1) (.ok (.bl false) S1) := rfl
theorem ev_or {a b : FE} : eOr a b ρ S = (a ρ S).bind fun x S1 => condE x (.ok (.bl true) S1) (b ρ S1) := rfl
theorem ev_not {a : FE} : eNot a ρ S = (a ρ S).bind fun x S1 => notD x S1 := rfl
theorem ev_if {c a b : FE} : eIf c a b ρ S = (c ρ S).bind fun x S1 => condE x (a ρ S1) (b ρ S1) := rfl
theorem ev_seq {f h : FS} : fSeq f h ρ S = (f ρ S).seq h := rfl
theorem ev_set {i : Nat} {a : FE} : fSet i a ρ S = (a ρ S).bindS ρ fun d S1 => .nx (ρ.set i (some d)) S1 := rfl
theorem ev_ret {a : FE} : fRet a ρ S = (a ρ S).bindS ρ fun d S1 => .rt d ρ S1 := rfl
theorem ev_drop {a : FE} : fDrop a ρ S = (a ρ S).bindS ρ fun _ S1 => .nx ρ S1 := rfl
theorem ev_pass : fPass ρ S = .nx ρ S := rfl
theorem ev_brk : fBrk ρ S = .bk ρ S := rfl
theorem ev_ct : fCt ρ S = .ct ρ S := rfl
theorem ev_raise {k : Nat} : fRaise k ρ S = .exc ⟨k, []⟩ ρ S := rfl
theorem ev_ifS {c : FE} {f h : FS} : fIf c f h ρ S = (c ρ S).bindS ρ fun d S1 => condS d (f ρ S1) (h ρ S1) := rfl
theorem ev_for {it : FL} {tf : D → Env → Option Env} {b : FS} : fFor it tf b ρ S = (it ρ S).bindS ρ fun ds S1 => forL tf b ds ρ S1 := rfl
theorem ev_body {N n : Nat} {ms : List Md} {b : FS} {ds : List D} : fBody N n ms b ds S = (b (ds.map some ++ List.replicate (N - n) none) S).toF ms n := rfl
theorem ev_held {i : Nat} {b : Bool} : eHeld i b ρ S = (match ρ[i]? with | some (some _) => .ok (.bl b) S | _ => .no) := rfl
theorem ev_tru {a : FE} : eTru a ρ S = (a ρ S).bind fun x S1 => .of S1 (hTru x) := rfl
end
section
variable {a b : Int}
theorem hNe_int : hNe (.int a) (.int b) = some (.bl (!(a == b))) := rfl
theorem hEq_int : hEq (.int a) (.int b) = some (.bl (a == b)) := rfl
theorem hEq_bl {a b : Bool} : hEq (.bl a) (.bl b) = some (.bl (a == b)) := rfl
theorem hNe_bl {a b : Bool} : hNe (.bl a) (.bl b) = some (.bl (!(a == b))) := rfl
theorem hSub_int : hSub (.int a) (.int b) = some (.int (a - b)) := rfl
theorem hLt_int : hLt (.int a) (.int b) = some (.bl (decide (a < b))) := rfl
theorem hLe_int : hLe (.int a) (.int b) = some (.bl (decide (a ≤ b))) := rfl
theorem hGt_int : hGt (.int a) (.int b) = some (.bl (decide (b < a))) := rfl
theorem hGe_int : hGe (.int a) (.int b) = some (.bl (decide (b ≤ a))) := rfl
theorem hNeg_int : hNeg (.int a) = some (.int (-a)) := rfl
theorem hMod_pos (h : 0 < b) : hMod (.int a) (.int b) = some (.int (a % b)) := if_pos h
theorem hMul_bd {m n : Nat} (ha : a.natAbs < 2 ^ m) (hb : b.natAbs < 2 ^ n) (h : m + n ≤ 130000000) : hMul (.int a) (.int b) = some (.int (a * b)) := by
  have x := PySem.Flt.log2_lt_of (Nat.succ_pos m) (Nat.lt_of_lt_of_le ha (Nat.pow_le_pow_right (by decide) (Nat.le_succ m)))
  have y := PySem.Flt.log2_lt_of (Nat.succ_pos n) (Nat.lt_of_lt_of_le hb (Nat.pow_le_pow_right (by decide) (Nat.le_succ n)))
  show (if a.natAbs.log2 + b.natAbs.log2 < 134000000 then some (D.int (a * b)) else none) = _
  rw [if_pos (by omega)]
theorem hDiv_bd (h : b ≠ 0) (hb : b.natAbs < 2 ^ 8999) : hDiv (.int a) (.int b) = some (.int (a.fdiv b)) := by
  have y := PySem.Flt.log2_lt_of (show 0 < 8999 by decide) hb
  show (if b = 0 ∨ 9000 ≤ b.natAbs.log2 then none else some (D.int (a.fdiv b))) = _
  rw [if_neg (by omega)]
theorem hDiv_pos (h : 0 < b) (hb : b.natAbs < 2 ^ 8999) : hDiv (.int a) (.int b) = some (.int (a / b)) := by
  rw [hDiv_bd (by omega) hb, Int.fdiv_eq_ediv_of_nonneg a (by omega)]
theorem hAbs_int : hAbs [.int a] = some (.int a.natAbs) := by
  show some (D.int (if a < 0 then -a else a)) = _
  congr 2
  split <;> omega
theorem hIsi_int_int : hIsi "int" (.int a) = some (.bl true) := by
  show (kitB "int" "int").map D.bl = _
  rw [show kitB "int" "int" = some true by decide +kernel]; rfl
theorem hIsi_bool_int : hIsi "bool" (.int a) = some (.bl false) := by
  show (kitB "int" "bool").map D.bl = _
  rw [show kitB "int" "bool" = some false by decide +kernel]; rfl
theorem hIsi_bool_bl {x : Bool} : hIsi "bool" (.bl x) = some (.bl true) := by
  show (kitB "bool" "bool").map D.bl = _
  rw [show kitB "bool" "bool" = some true by decide +kernel]; rfl
theorem hIsi_int_bl {x : Bool} : hIsi "int" (.bl x) = some (.bl true) := by
  show (kitB "bool" "int").map D.bl = _
  rw [show kitB "bool" "int" = some true by decide +kernel]; rfl
theorem hIsi_tuple_tup {l : List D} : hIsi "tuple" (.tup l) = some (.bl true) := by
  show (kitB "tuple" "tuple").map D.bl = _
  rw [show kitB "tuple" "tuple" = some true by decide +kernel]; rfl
theorem hIsi_list_lst {l : List D} : hIsi "list" (.lst l) = some (.bl true) := by
  show (kitB "list" "list").map D.bl = _
  rw [show kitB "list" "list" = some true by decide +kernel]; rfl
end
section
variable {a b c d e : D} {l : List D}
theorem hIxT0 : hIx (.tup (a :: l)) (.int 0) = some a := by
  show atI (a :: l) ((0 : Nat) : Int) = _
  exact atI_nat rfl
theorem hIxT1 : hIx (.tup (a :: b :: l)) (.int 1) = some b := by
  show atI (a :: b :: l) ((1 : Nat) : Int) = _
  exact atI_nat rfl
theorem hIxT2 : hIx (.tup (a :: b :: c :: l)) (.int 2) = some c := by
  show atI (a :: b :: c :: l) ((2 : Nat) : Int) = _
  exact atI_nat rfl
theorem hIxT3 : hIx (.tup (a :: b :: c :: d :: l)) (.int 3) = some d := by
  show atI (a :: b :: c :: d :: l) ((3 : Nat) : Int) = _
  exact atI_nat rfl
theorem hIxT4 : hIx (.tup (a :: b :: c :: d :: e :: l)) (.int 4) = some e := by
  show atI (a :: b :: c :: d :: e :: l) ((4 : Nat) : Int) = _
  exact atI_nat rfl
theorem hIxL0 : hIx (.lst (a :: l)) (.int 0) = some a := by
  show atI (a :: l) ((0 : Nat) : Int) = _
  exact atI_nat rfl
theorem hIxL1 : hIx (.lst (a :: b :: l)) (.int 1) = some b := by
  show atI (a :: b :: l) ((1 : Nat) : Int) = _
  exact atI_nat rfl
theorem hIxL2 : hIx (.lst (a :: b :: c :: l)) (.int 2) = some c := by
  show atI (a :: b :: c :: l) ((2 : Nat) : Int) = _
  exact atI_nat rfl
theorem hIxL3 : hIx (.lst (a :: b :: c :: d :: l)) (.int 3) = some d := by
  show atI (a :: b :: c :: d :: l) ((3 : Nat) : Int) = _
  exact atI_nat rfl
theorem hIx_lst {k : Nat} {x : D} (h : l[k]? = some x) : hIx (.lst l) (.int k) = some x := atI_nat h
theorem hIx_scr {k : Nat} {x : D} (h : l[k]? = some x) : hIx (.scr l) (.int k) = some x := atI_nat h
theorem hIx_tup {k : Nat} {x : D} (h : l[k]? = some x) : hIx (.tup l) (.int k) = some x := atI_nat h
theorem hLen_lst : hLen [.lst l] = some (.int l.length) := rfl
theorem hLen_scr : hLen [.scr l] = some (.int l.length) := rfl
theorem hLen_tup : hLen [.tup l] = some (.int l.length) := rfl
end
/-! ### for, by an invariant -/
theorem forL_inv {tf : D → Env → Option Env} {b : FS} {I : Nat → Env → Store → Prop} {ds : List D} (turn : ∀ i d ρ S, ds[i]? = some d → I i ρ S → ∃ ρ1, tf d ρ = some ρ1 ∧ ((∃ ρ2 S2, b ρ1 S = .nx ρ2 S2 ∧ I (i + 1) ρ2 S2) ∨ ∃ ρ2 S2, b ρ1 S = .ct ρ2 S2 ∧ I (i + 1) ρ2 S2)) :
    ∀ (i : Nat) (ρ : Env) (S : Store), i ≤ ds.length → I i ρ S → ∃ ρ' S', forL tf b (ds.drop i) ρ S = .nx ρ' S' ∧ I ds.length ρ' S' := by
  intro i
  induction hk : ds.length - i generalizing i with
  | zero =>
    intro ρ S hi h
    have e : i = ds.length := by omega
    subst e
    refine ⟨ρ, S, ?_, h⟩
    rw [List.drop_length]
    rfl
  | succ n ih =>
    intro ρ S hi h
    have hlt : i < ds.length := by omega
    obtain ⟨ρ1, e1, e2⟩ := turn i ds[i] ρ S (List.getElem?_eq_getElem hlt) h
    rw [List.drop_eq_getElem_cons hlt, forL, e1]
    rcases e2 with ⟨ρ2, S2, e2, h2⟩ | ⟨ρ2, S2, e2, h2⟩
    · simp only [e2]
      exact ih (i + 1) (by omega) ρ2 S2 hlt h2
    · simp only [e2]
      exact ih (i + 1) (by omega) ρ2 S2 hlt h2
theorem forL_all {tf : D → Env → Option Env} {b : FS} (I : Nat → Env → Store → Prop) {ds : List D} {ρ : Env} {S : Store} (h0 : I 0 ρ S) (turn : ∀ i d ρ S, ds[i]? = some d → I i ρ S → ∃ ρ1, tf d ρ = some ρ1 ∧ ((∃ ρ2 S2, b ρ1 S = .nx ρ2 S2 ∧ I (i + 1) ρ2 S2) ∨ ∃ ρ2 S2, b ρ1 S = .ct ρ2 S2 ∧ I (i + 1) ρ2 S2)) :
    ∃ ρ' S', forL tf b ds ρ S = .nx ρ' S' ∧ I ds.length ρ' S' := by
  have := forL_inv turn 0 ρ S (Nat.zero_le _) h0
  rw [List.drop_zero] at this
  exact this
theorem rangeL_get {lo hi : Int} {i : Nat} {d : D} (h : (rangeL lo hi)[i]? = some d) : d = .int (lo + i) ∧ lo + i < hi := by
  unfold rangeL at h
  rw [List.getElem?_map] at h
  obtain ⟨k, e1, e2⟩ := Option.map_eq_some_iff.mp h
  obtain ⟨hk, e3⟩ := List.getElem?_eq_some_iff.mp e1
  rw [List.getElem_range] at e3
  rw [List.length_range] at hk
  subst e3
  exact ⟨e2.symm, by omega⟩
theorem rangeL_length {lo hi : Int} : (rangeL lo hi).length = (hi - lo).toNat := by simp [rangeL]
theorem cutD_take {l : List D} (k : Nat) : cutD l none (some (k : Int)) = l.take k := by
  unfold cutD
  rw [HT.sIx_nat, HT.sIx_none, List.drop_zero, Nat.sub_zero]
  by_cases h : k ≤ l.length
  · rw [Nat.min_eq_left h]
  · rw [Nat.min_eq_right (by omega), List.take_length, List.take_of_length_le (by omega)]
theorem cutD_drop {l : List D} (k : Nat) : cutD l (some (k : Int)) none = l.drop k := by
  unfold cutD
  rw [HT.sIx_nat, HT.sIx_none]
  by_cases h : k ≤ l.length
  · rw [Nat.min_eq_left h, List.take_of_length_le (by simp)]
  · rw [Nat.min_eq_right (by omega), Nat.sub_self, List.take_zero, List.drop_of_length_le (by omega)]
theorem ev_sl {a : FE} {lo hi : Option FE} {ρ : Env} {S : Store} : eSl a lo hi ρ S = (a ρ S).bind fun d S1 => eBnd lo ρ S1 fun l S2 => eBnd hi ρ S2 fun h S3 => .of S3 (hSl d l h) := rfl
theorem bnd_none {ρ : Env} {S : Store} {k : Option Int → Store → RE} : eBnd none ρ S k = k none S := rfl
def bndK (d : D) (S : Store) (k : Option Int → Store → RE) : RE := match d with
  | .int i => k (some i) S
  | _ => .no
theorem bnd_some {a : FE} {ρ : Env} {S : Store} {k : Option Int → Store → RE} : eBnd (some a) ρ S k = (a ρ S).bind fun d S1 => bndK d S1 k := rfl
theorem bndK_int {i : Int} {S : Store} {k : Option Int → Store → RE} : bndK (.int i) S k = k (some i) S := rfl
theorem hSl_scr {l : List D} {lo hi : Option Int} : hSl (.scr l) lo hi = some (.lst (cutD l lo hi)) := rfl
theorem hSl_lst {l : List D} {lo hi : Option Int} : hSl (.lst l) lo hi = some (.lst (cutD l lo hi)) := rfl
theorem hAdd_lst {a b : List D} (h : a.length + b.length ≤ 1000000) : hAdd (.lst a) (.lst b) = some (.lst (a ++ b)) := if_pos h
theorem ev_range1 {a : FL} {ρ : Env} {S : Store} : iRange1 a ρ S = (a ρ S).bindL rgK1 := rfl
theorem ev_range2 {a : FL} {ρ : Env} {S : Store} : iRange2 a ρ S = (a ρ S).bindL rgK2 := rfl
theorem rgK2_int {m n : Int} {S : Store} (h : (-1000000000000 ≤ m ∧ m ≤ 1000000000000) ∧ -1000000000000 ≤ n ∧ n ≤ 1000000000000) : rgK2 [.int m, .int n] S = .ok (rangeL m n) S := if_pos h
theorem rgK1_int {n : Int} {S : Store} (h : -1000000000000 ≤ n ∧ n ≤ 1000000000000) : rgK1 [.int n] S = .ok (rangeL 0 n) S := if_pos h
def seqK (d : D) (S : Store) : RL := match hSeq d with
  | some l => .ok l S
  | none => .no
theorem ev_iseq {a : FE} {ρ : Env} {S : Store} : iSeq a ρ S = (a ρ S).bindL seqK := rfl
theorem seqK_lst {l : List D} {S : Store} : seqK (.lst l) S = .ok l S := rfl
theorem seqK_tup {l : List D} {S : Store} : seqK (.tup l) S = .ok l S := rfl
theorem seqK_scr {l : List D} {S : Store} : seqK (.scr l) S = .ok l S := rfl
/-- the law's promise, as the end asks it -/
def spLaw (K : PySem.W.Frag) : Sp := fun vs H Q _ => ∃ (a : Addr) (ns : List Int), vs = [.ref a] ∧ SqL K H a (ns.map V.int) ∧ ns.length ≤ 63 ∧ (∀ z ∈ ns, Builtin.Int.intBits z ≤ 1048576) ∧ ∀ H', Q (.bl true) H'
theorem law_sp (K : PySem.W.Frag) (H : Hp) (a : Addr) (ns : List Int) (h1 : ns.length ≤ 63) (h2 : ∀ z ∈ ns, Builtin.Int.intBits z ≤ 1048576) (h : SqL K H a (ns.map V.int)) : spLaw K [.ref a] H (fun v _ => v = .bl true) fun _ _ _ => False := ⟨a, ns, rfl, h, h1, h2, fun _ => rfl⟩
theorem law_cx (P : Program) (w : World) (H : Hp) (s : Shared) (e : Value) (s' : Shared) (h : L2.CX P w [] H s (fun _ _ _ => False) e s') : False := by
  obtain ⟨_, _, _, _, _, _, _, _, _, _, _, _, z⟩ := h
  exact z.elim
def G0 : G := ⟨0, fun _ => 0, fun _ => False, fun _ _ => False, fun _ => False, fun _ _ _ => False, fun _ => .non⟩
theorem G0_U {a : Addr} : ¬ G0.U a := by
  rintro (h | ⟨i, h⟩ | h)
  · exact h
  · exact h
  · exact h
theorem shrL_ints {T : Th} {g : G} {H : Hp} : ∀ ns : List Int, ShrL T g H (ns.map D.int) (ns.map V.int)
  | [] => .nil
  | n :: r => .cons (shr_int.mpr rfl) (shrL_ints r)
/-- from what the law's def comes to, to its promise -/
theorem law_ok {P : Program} {w : World} {mg : Str → Option Value} {base : Heap} {T : Th} {k : Nat} {f : Addr} {fd : FuncData} {ps : List Str} {Φ : FF} (F : FnOk P w T.K mg base (L2.CX P w) k f fd ps (spD T 1 (sgS 1) Φ))
    (h : ∀ ns : List Int, ns.length ≤ 63 → (∀ z ∈ ns, Builtin.Int.intBits z ≤ 1048576) → ∃ outs S', Φ [.scr (ns.map .int)] [] = .ok (.bl true) outs S') : FnOk P w T.K mg base (L2.CX P w) k f fd ps (spLaw T.K) := by
  refine F.imp fun vs H Q E hq => ?_
  obtain ⟨a, ns, rfl, hS, hl, hb, q⟩ := hq
  obtain ⟨outs, S', e⟩ := h ns hl hb
  refine ⟨rfl, G0, [.scr (ns.map .int)], [], ⟨rfl, fun i d e => ?_, fun _ _ _ h => h.elim, fun _ _ h => h.elim, fun _ _ h => h.elim, fun _ h => h.elim, fun a h => (G0_U h).elim, ⟨rfl, fun _ _ h => absurd h (Nat.not_lt_zero _), fun _ h => absurd h (Nat.not_lt_zero _), fun _ _ _ h => h.elim, fun _ _ _ _ _ h => h.elim, fun n o h => by simp at h, fun n o h => by simp at h⟩, fun a h => (G0_U h).elim⟩, ?_⟩
  · rw [rep_s]
    cases i with
    | succ i => simp at e
    | zero =>
      simp at e
      subst e
      exact ⟨_, rfl, shr_scr.mpr ⟨a, _, rfl, hS.imp (fun z => ⟨z, G0_U⟩) id, shrL_ints ns⟩⟩
  · rw [e]
    intro v g' H' Fo R f nf ho hw
    have hw : Own T (g'.plus Fo) H' 0 Fo (.bl true) v := hw
    simp only [Own] at hw
    rw [shr_bl.mp hw]
    exact q H'
end Q

/-! Owned lists: loose readings, fresh values, appends. -/
namespace Q
open PySem PySem.Spec PyProof.Rows L2
/-- .. but for what slots and others may write -/
def G.bb (g : G) : G := { g with O := fun _ => False, F := fun _ _ => False }
theorem G.bb_U {g : G} {a : Addr} : g.bb.U a ↔ g.B a := ⟨fun h => h.elim False.elim fun h => h.elim (fun ⟨_, h⟩ => h.elim) id, fun h => .inr (.inr h)⟩
def G.plusF (g : G) (n : Nat) (Fo : Addr → Prop) : G := { g with F := fun j a => g.F j a ∨ (j = n ∧ Fo a) }
theorem G.plusF_U {g : G} {n : Nat} {Fo : Addr → Prop} {a : Addr} : (g.plusF n Fo).U a ↔ g.U a ∨ Fo a := by
  constructor
  · rintro (h | ⟨j, h | ⟨_, h⟩⟩ | h)
    · exact .inl (.inl h)
    · exact .inl (.inr (.inl ⟨j, h⟩))
    · exact .inr h
    · exact .inl (.inr (.inr h))
  · rintro ((h | ⟨j, h⟩ | h) | h)
    · exact .inl h
    · exact .inr (.inl ⟨j, .inl h⟩)
    · exact .inr (.inr h)
    · exact .inr (.inl ⟨n, .inr ⟨rfl, h⟩⟩)
theorem G.plus_U {g : G} {Fo : Addr → Prop} {a : Addr} : (g.plus Fo).U a ↔ g.U a ∨ Fo a := by
  constructor
  · rintro ((h | h) | h | h)
    · exact .inl (.inl h)
    · exact .inr h
    · exact .inl (.inr (.inl h))
    · exact .inl (.inr (.inr h))
  · rintro ((h | h | h) | h)
    · exact .inl (.inl h)
    · exact .inr (.inl h)
    · exact .inr (.inr h)
    · exact .inl (.inr h)
mutual
def immD : D → Bool
  | .non => true
  | .bl _ => true
  | .int _ => true
  | .str _ => true
  | .tup l => immL l
  | _ => false
def immL : List D → Bool
  | [] => true
  | d :: r => immD d && immL r
end
section
variable {T : Th} {g g' g1 g2 : G} {H H' H1 : Hp} {Γ : List Md} {ρ : Env} {S : Store} {σ : L2.St}
theorem stay_bb (hN : g.N = g2.N) (hμ : g2.μ = g.μ) (hB : ∀ a, g2.B a → g.U a) (hZ : g2.Z = g.Z := by rfl) : Stay g H g2.bb H := ⟨fun _ _ h _ => h, fun a h => .inl (hB a (G.bb_U.mp h)), by show g.N ≤ g2.N; rw [hN]; exact Nat.le_refl _, fun n _ => by show g2.μ n = g.μ n; rw [hμ], hZ⟩
theorem Shr.bb {d : D} {v : V} (s : Shr T g H d v) : Shr T g.bb H d v := s.stay (stay_bb rfl rfl fun _ h => .inr (.inr h))
theorem FrE.bb (f : FrE g H g' H') : Stay g.bb H g'.bb H' where
  keep := fun a o h hu => f.keep a o h fun z => hu (G.bb_U.mpr z)
  own := fun a h => (f.B a (G.bb_U.mp h)).imp G.bb_U.mpr id
  N := f.N
  μ := f.μ
  Z := f.Z
mutual
theorem imm_shr (nt : ∀ a, g.U a → ∀ u, ¬ Rd H a (.tup u)) : ∀ (d : D) (v : V), immD d = true → Shr T g2 H d v → Shr T g H d v
  | .non, _, _, h => by simpa only [Shr] using h
  | .bl _, _, _, h => by simpa only [Shr] using h
  | .int _, _, _, h => by simpa only [Shr] using h
  | .str _, _, _, h => by simpa only [Shr] using h
  | .tup l, v, e, h => by
    simp only [Shr] at h ⊢
    obtain ⟨a, vs, e2, q, r⟩ := h
    exact ⟨a, vs, e2, q.imp (fun z => ⟨z.1, fun u => nt a u _ z.1⟩) id, imm_shrL nt l vs (by simpa only [immD] using e) r⟩
  | .lst _, _, e, _ => by simp only [immD] at e; cases e
  | .scr _, _, e, _ => by simp only [immD] at e; cases e
  | .dct _, _, e, _ => by simp only [immD] at e; cases e
  | .obj _, _, e, _ => by simp only [immD] at e; cases e
  | .fn _ _, _, e, _ => by simp only [immD] at e; cases e
  | .gone _, _, e, _ => by simp only [immD] at e; cases e
theorem imm_shrL (nt : ∀ a, g.U a → ∀ u, ¬ Rd H a (.tup u)) : ∀ (ds : List D) (vs : List V), immL ds = true → ShrL T g2 H ds vs → ShrL T g H ds vs
  | [], _, _, h => by simpa only [ShrL] using h
  | d :: ds, vs, e, h => by
    simp only [ShrL] at h ⊢
    simp only [immL, Bool.and_eq_true] at e
    obtain ⟨v, ws, e2, q, r⟩ := h
    exact ⟨v, ws, e2, imm_shr nt d v e.1 q, imm_shrL nt ds ws e.2 r⟩
end
/-- what is owned, out of the owner's sight -/
theorem shr_of_own2 (st : Stay g2 H g H) : ∀ (k : Nat) (Fo : Addr → Prop) (d : D) (v : V), (∀ a, Fo a → ¬ g.U a) → Own T g2 H k Fo d v → Shr T g H d v := by
  intro k
  suffices hs : ∀ (k : Nat) (Fo F : Addr → Prop) (d : D) (v : V), (∀ a, F a → Fo a) → (∀ a, Fo a → ¬ g.U a) → Own T g2 H k F d v → Shr T g H d v from fun Fo d v h1 h => hs k Fo Fo d v (fun _ z => z) h1 h
  intro k
  induction k with
  | zero => intro Fo F d v hf hu h; simp only [Own] at h; exact h.stay st
  | succ k ih =>
    intro Fo F d v hf hu h
    cases d with
    | lst l =>
      simp only [Own] at h
      obtain ⟨p, vs, e, hF, hH, hl, Gs, h1, h2, h3⟩ := h
      exact shr_lst.mpr ⟨p, vs, e, ⟨hH, hu p (hf p hF)⟩, .of hl fun i d w a b => ih Fo (Gs i) d w (fun a z => hf a (h1 i a z).1) hu (h3 i d w a b)⟩
    | dct l =>
      simp only [Own] at h
      obtain ⟨p, vs, e, hF, hH, hl, Gs, h1, h2, h3⟩ := h
      simp only [Shr]
      exact ⟨p, vs, e, ⟨hH, hu p (hf p hF)⟩, .of hl fun i d w a b => ⟨(h3 i d w a b).1.stay st, ih Fo (Gs i) d.2 w.2 (fun a z => hf a (h1 i a z).1) hu (h3 i d w a b).2⟩⟩
    | _ => simp only [Own] at h; exact h.stay st
theorem own1_lst {F : Addr → Prop} {l : List D} {v : V} : Own T g H 1 F (.lst l) v ↔ ∃ p vs, v = .ref p ∧ F p ∧ H p = some (.lst vs) ∧ ShrL T g H l vs := by
  simp only [Own]
  constructor
  · rintro ⟨p, vs, e, hF, hH, hl, Gs, h1, h2, h3⟩
    exact ⟨p, vs, e, hF, hH, .of hl fun i d w a b => h3 i d w a b⟩
  · rintro ⟨p, vs, e, hF, hH, s⟩
    refine ⟨p, vs, e, hF, hH, s.length, fun _ _ => False, fun _ _ z => z.elim, fun _ _ _ z => z.elim, fun j d w a b => ?_⟩
    obtain ⟨w', h1, h2⟩ := s.get a
    rw [b] at h1; cases h1
    exact h2
/-- a slot's value, loosely -/
theorem Rel.bb (R : Rel T g Γ ρ S σ H) {i : Nat} {d : D} (e : ρ[i]? = some (some d)) (hm : ∀ v, Γ.getD i .s ≠ .e v) : ∃ v, σ[i]? = some (some v) ∧ Shr T g.bb H d v := by
  obtain ⟨v, h1, h2⟩ := R.slot i d e
  refine ⟨v, h1, ?_⟩
  have st : Stay g H g.bb H := stay_bb rfl rfl fun _ h => .inr (.inr h)
  cases hq : Γ.getD i .s <;> rw [hq] at h2 <;> simp only [RepM] at h2
  · exact h2.bb
  · exact shr_of_own2 st _ _ _ _ (fun a z u => R.dFB i a z (G.bb_U.mp u)) h2
  · exact shr_of_own2 st _ _ _ _ (fun a z u => R.dOB a z (G.bb_U.mp u)) h2
  · exact shr_of_own2 st _ _ _ _ (fun a z u => R.dFB i a z (G.bb_U.mp u)) h2.2
  · exact absurd hq (hm _)
  · exact h2.stay (show Stay g.bare H g.bb H from stay_bb rfl rfl fun _ h => .inr (.inr h))
end
/-! ### loose expressions -/
def GoodQ (T : Th) (W : WX) (Γ : List Md) (ρ : Env) (σ : L2.St) (g : G) (H : Hp) : RE → VK → Prop
  | .ok d S', Q => ∀ v g' H', Rel T g' Γ ρ S' σ H' → FrE g H g' H' → Shr T g'.bb H' d v → Q v H'
  | .exc x S', _ => ∀ c dd g' H', Rel T g' Γ ρ S' σ H' → FrE g H g' H' → ExcR T g' H' x c dd → W c dd σ H'
  | .no, _ => False
def tQ (T : Th) (W : WX) (Γ : List Md) (F : FE) : TE := fun σ H Q => ∃ g ρ S, Rel T g Γ ρ S σ H ∧ GoodQ T W Γ ρ σ g H (F ρ S) Q
abbrev XQ (X : Cx) (T : Th) (W : WX) (Γ : List Md) (e : Expr) (F : FE) : Prop := PE X e (tQ T W Γ F)
def eFlat (a : FE) : FE := fun ρ S => (a ρ S).bind fun d S1 => if immD d = true then .ok d S1 else .no
section
variable {X : Cx} {T : Th} {W : WX} {Γ : List Md}
theorem xq_of {e : Expr} {F : FE} (h : XE X T W Γ e F) : XQ X T W Γ e F := pe_imp h fun σ H Q ⟨g, ρ, S, R, hg⟩ => by
  refine ⟨g, ρ, S, R, ?_⟩
  cases r : F ρ S with
  | ok d S1 => rw [r] at hg; exact fun v g' H' R' f' s => hg v g' H' R' f' s.bb
  | exc x S1 => rw [r] at hg; exact hg
  | no => rw [r] at hg; exact hg
theorem xq_var {i : Nat} {e : Expr} (he : PE X e (tVar i)) (hm : ∀ v, Γ.getD i .s ≠ .e v) : XQ X T W Γ e (eVar i) := pe_imp he fun σ H Q ⟨g, ρ, S, R, h⟩ => by
  have h : GoodQ T W Γ ρ σ g H (match ρ[i]? with | some (some d) => RE.ok d S | _ => .no) Q := h
  split at h
  · rename_i d e
    obtain ⟨v, h1, h2⟩ := R.bb e hm
    exact ⟨v, h1, h v g H R (.refl g H) h2⟩
  · exact h.elim
/-- a loose value that is no list is a strict one -/
theorem xe_flat {e : Expr} {F : FE} (h : XQ X T W Γ e F) : XE X T W Γ e (eFlat F) := pe_imp h fun σ H Q ⟨g, ρ, S, R, hg⟩ => by
  refine ⟨g, ρ, S, R, ?_⟩
  unfold eFlat at hg
  cases r : F ρ S with
  | ok d S1 =>
    rw [r] at hg
    have hg : GoodE T W Γ ρ σ g H (if immD d = true then RE.ok d S1 else .no) Q := hg
    split at hg
    · rename_i hd
      exact fun v g' H' R' f' s => hg v g' H' R' f' (imm_shr R'.nt d v hd s)
    · exact hg.elim
  | exc x S1 => rw [r] at hg; exact hg
  | no => rw [r] at hg; exact hg
theorem goodQ_bind {ρ : Env} {σ : L2.St} {g : G} {H : Hp} {r : RE} {k : D → Store → RE} {Q Q' : VK} (h : GoodQ T W Γ ρ σ g H (r.bind k) Q)
    (hk : ∀ d S v g' H', r = .ok d S → Rel T g' Γ ρ S σ H' → FrE g H g' H' → Shr T g'.bb H' d v → GoodQ T W Γ ρ σ g' H' (k d S) Q → Q' v H') : GoodQ T W Γ ρ σ g H r Q' := by
  cases r with
  | ok d S =>
    intro v g' H' R f s
    refine hk d S v g' H' rfl R f s ?_
    have h' : GoodQ T W Γ ρ σ g H (k d S) Q := h
    cases e : k d S with
    | ok d2 S2 =>
      rw [e] at h'
      exact fun v2 g2 H2 R2 f2 s2 => h' v2 g2 H2 R2 (f.trans f2) s2
    | exc x S2 =>
      rw [e] at h'
      exact fun c dd g2 H2 R2 f2 s2 => h' c dd g2 H2 R2 (f.trans f2) s2
    | no => rw [e] at h'; exact h'
  | exc x S => exact h
  | no => exact h
theorem goodQ_of {ρ : Env} {σ : L2.St} {g : G} {H : Hp} {S : Store} {o : Option D} {Q : VK} (h : GoodQ T W Γ ρ σ g H (.of S o) Q) : ∃ d, o = some d ∧ GoodQ T W Γ ρ σ g H (.ok d S) Q := by
  cases o with
  | none => exact h.elim
  | some d => exact ⟨d, rfl, h⟩
theorem xq_op {e : Expr} {r : R2} {h : D → D → Option D} {a b : Expr} {A B : FE} (ok : OpOk T r h) (ha : XQ X T W Γ a A) (hb : XQ X T W Γ b B)
    (he : PE X a (tQ T W Γ A) → PE X b (tQ T W Γ B) → PE X e (tOp r (tQ T W Γ A) (tQ T W Γ B))) : XQ X T W Γ e (eOp h A B) := pe_imp (he ha hb) fun σ H Q ⟨g, ρ, S, R, hg⟩ =>
  ⟨g, ρ, S, R, goodQ_bind hg fun x S1 v g1 H1 _ R1 f1 s1 hg1 => ⟨g1, ρ, S1, R1, goodQ_bind hg1 fun y S2 w g2 H2 _ R2 f2 s2 hg2 => by
    obtain ⟨z, ez, hg3⟩ := goodQ_of hg2
    exact ok g2.bb H2 x y z v w (s1.stay f2.bb) s2 ez (fun a u => R2.dom a (.inr (.inr (G.bb_U.mp u)))) Q fun u H' ex su => hg3 u g2 H' (R2.ex ex) (.ex ex) su⟩⟩
theorem xq_un {e : Expr} {r : V → Hp → VK → Prop} {h : D → Option D} {a : Expr} {A : FE} (ok : UnOk T r h) (ha : XQ X T W Γ a A) (he : PE X a (tQ T W Γ A) → PE X e (tUn r (tQ T W Γ A))) : XQ X T W Γ e (eUn h A) := pe_imp (he ha) fun σ H Q ⟨g, ρ, S, R, hg⟩ =>
  ⟨g, ρ, S, R, goodQ_bind hg fun x S1 v g1 H1 _ R1 f1 s1 hg1 => by
    obtain ⟨z, ez, hg3⟩ := goodQ_of hg1
    exact ok g1.bb H1 x z v s1 ez (fun a u => R1.dom a (.inr (.inr (G.bb_U.mp u)))) Q fun u H' ex su => hg3 u g1 H' (R1.ex ex) (.ex ex) su⟩
/-- lists of arguments, loosely -/
def GoodQL (T : Th) (W : WX) (Γ : List Md) (ρ : Env) (σ : L2.St) (g : G) (H : Hp) : RL → (List V → Hp → Prop) → Prop
  | .ok d S', Q => ∀ v g' H', Rel T g' Γ ρ S' σ H' → FrE g H g' H' → ShrL T g'.bb H' d v → Q v H'
  | .exc x S', _ => ∀ c dd g' H', Rel T g' Γ ρ S' σ H' → FrE g H g' H' → ExcR T g' H' x c dd → W c dd σ H'
  | .no, _ => False
def tQL (T : Th) (W : WX) (Γ : List Md) (F : FL) : TA := fun σ H Q => ∃ g ρ S, Rel T g Γ ρ S σ H ∧ GoodQL T W Γ ρ σ g H (F ρ S) Q
abbrev XQL (X : Cx) (T : Th) (W : WX) (Γ : List Md) (es : List Expr) (F : FL) : Prop := PA X es (tQL T W Γ F)
theorem xql_nil : XQL X T W Γ [] lNil := pa_imp pa_nil fun σ H Q ⟨g, ρ, S, R, hg⟩ => hg [] g H R (.refl g H) .nil
theorem xql_cons {e : Expr} {es : List Expr} {A : FE} {B : FL} (ha : XQ X T W Γ e A) (hb : XQL X T W Γ es B) (hx : PE X e (tQ T W Γ A) → PA X es (tQL T W Γ B) → PA X (e :: es) (tCons (tQ T W Γ A) (tQL T W Γ B))) : XQL X T W Γ (e :: es) (lCons A B) := pa_imp (hx ha hb) fun σ H Q ⟨g, ρ, S, R, hg⟩ => by
  refine ⟨g, ρ, S, R, ?_⟩
  unfold lCons at hg
  cases e : A ρ S with
  | ok x S1 =>
    rw [e] at hg
    intro v g1 H1 R1 f1 s1
    refine ⟨g1, ρ, S1, R1, ?_⟩
    have hg : GoodQL T W Γ ρ σ g H (match B ρ S1 with | .ok xs S2 => .ok (x :: xs) S2 | .exc x S2 => .exc x S2 | .no => .no) Q := hg
    cases e2 : B ρ S1 with
    | ok xs S2 =>
      rw [e2] at hg
      exact fun vs g2 H2 R2 f2 s2 => hg (v :: vs) g2 H2 R2 (f1.trans f2) (.cons (s1.stay f2.bb) s2)
    | exc y S2 =>
      rw [e2] at hg
      exact fun c dd g2 H2 R2 f2 s2 => hg c dd g2 H2 R2 (f1.trans f2) s2
    | no =>
      rw [e2] at hg
      exact hg
  | exc y S1 => rw [e] at hg; exact hg
  | no => rw [e] at hg; exact hg
theorem goodQL_then {ρ : Env} {σ : L2.St} {g : G} {H : Hp} {A : FL} {h : List D → Option D} {S : Store} {Q : VK} {Q' : List V → Hp → Prop} (hg : GoodQ T W Γ ρ σ g H (eL h A ρ S) Q)
    (hk : ∀ ds S' z vs g' H', h ds = some z → Rel T g' Γ ρ S' σ H' → FrE g H g' H' → ShrL T g'.bb H' ds vs → GoodQ T W Γ ρ σ g' H' (.ok z S') Q → Q' vs H') : GoodQL T W Γ ρ σ g H (A ρ S) Q' := by
  unfold eL at hg
  cases e : A ρ S with
  | ok ds S' =>
    rw [e] at hg
    intro vs g' H' R f s
    obtain ⟨z, ez, hg⟩ := goodQ_of hg
    exact hk ds S' z vs g' H' ez R f s fun v2 g2 H2 R2 f2 s2 => hg v2 g2 H2 R2 (f.trans f2) s2
  | exc x S' => rw [e] at hg; exact hg
  | no => rw [e] at hg; exact hg
theorem xq_L {e : Expr} {r : List V → Hp → VK → Prop} {h : List D → Option D} {as : List Expr} {A : FL} (ok : LsOk T r h) (ha : XQL X T W Γ as A) (he : PA X as (tQL T W Γ A) → PE X e (tCB r (tQL T W Γ A))) : XQ X T W Γ e (eL h A) := pe_imp (he ha) fun σ H Q ⟨g, ρ, S, R, hg⟩ =>
  ⟨g, ρ, S, R, goodQL_then hg fun ds S1 z vs g1 H1 ez R1 f1 s1 hg1 => ok g1.bb H1 ds z vs s1 ez (fun a u => R1.dom a (.inr (.inr (G.bb_U.mp u)))) Q fun u H' ex su => hg1 u g1 H' (R1.ex ex) (.ex ex) su⟩
end
/-! ### fresh values -/
def GoodN (T : Th) (W : WX) (Γ : List Md) (k : Nat) (ρ : Env) (σ : L2.St) (g : G) (H : Hp) : RE → VK → Prop
  | .ok d S', Q => ∀ v g' H' Fo, Rel T (g'.plusF ρ.length Fo) Γ ρ S' σ H' → FrE g H g' H' → (∀ a, Fo a → ¬ g'.U a ∧ (g.B a ∨ H a = none)) → Own T (g'.plusF ρ.length Fo) H' k Fo d v → Q v H'
  | .exc x S', _ => ∀ c dd g' H', Rel T g' Γ ρ S' σ H' → FrE g H g' H' → ExcR T g' H' x c dd → W c dd σ H'
  | .no, _ => False
def tN (T : Th) (W : WX) (Γ : List Md) (k : Nat) (F : FE) : TE := fun σ H Q => ∃ g ρ S, Rel T g Γ ρ S σ H ∧ GoodN T W Γ k ρ σ g H (F ρ S) Q
abbrev XF (X : Cx) (T : Th) (W : WX) (Γ : List Md) (k : Nat) (e : Expr) (F : FE) : Prop := PE X e (tN T W Γ k F)
section
variable {X : Cx} {T : Th} {W : WX} {Γ : List Md} {g g' : G} {H H' : Hp} {ρ : Env} {S S' : Store} {σ : L2.St} {Fo : Addr → Prop}
/-- the fresh part goes out of sight -/
theorem Rel.unplus (R : Rel T (g.plusF ρ.length Fo) Γ ρ S σ H) : Rel T g Γ ρ S σ H := by
  refine R.shift rfl rfl rfl rfl (fun a h => G.plusF_U.mpr (.inl h)) (fun i j a h h' => R.dF i j a (.inl h) (.inl h')) (fun i a h => R.dFO i a (.inl h)) (fun a h => .inl h) (fun i a h => .inl ⟨i, .inl h⟩) R.len fun st i d e => ?_
  obtain ⟨v, h1, h2⟩ := R.slot i d e
  have hi : i < ρ.length := (List.getElem?_eq_some_iff.mp e).1
  exact ⟨v, h1, h2.stay st (fun a z => z.elim id fun z => absurd z.1 (by omega)) (fun a z => z) rfl (bare_sub rfl rfl (fun i a z => ⟨i, .inl z⟩) fun _ z => z)⟩
theorem stay_unplus {n : Nat} : Stay (g.plusF n Fo) H g H := ⟨fun _ _ h _ => h, fun a h => .inl (G.plusF_U.mpr (.inl h)), Nat.le_refl _, fun _ _ => rfl, rfl⟩
theorem xe_of {k : Nat} {e : Expr} {F : FE} (h : XF X T W Γ k e F) : XE X T W Γ e F := pe_imp h fun σ H Q ⟨g, ρ, S, R, hg⟩ => by
  refine ⟨g, ρ, S, R, ?_⟩
  cases r : F ρ S with
  | ok d S1 =>
    rw [r] at hg
    exact fun v g' H' Fo R' f' ho hw => hg v g' H' R'.unplus f' (shr_of_own2 stay_unplus k Fo d v (fun a z => (ho a z).1) hw)
  | exc x S1 => rw [r] at hg; exact hg
  | no => rw [r] at hg; exact hg
/-- a new list of shared values -/
theorem Rel.fresh {p : Addr} {o : HO} (R : Rel T g Γ ρ S σ H) (hp : H p = none) (ho : ∀ u, o ≠ .tup u ∧ ∀ b, o ≠ .frz b (.tup u)) : Rel T (g.plusF ρ.length (· = p)) Γ ρ S σ (upd H p o) := by
  have ex : Exx H (upd H p o) := Exx.new hp
  have np : ∀ a, g.U a → a ≠ p := fun a u z => by
    obtain ⟨o, q⟩ := R.dom a u
    rw [z, hp] at q; cases q
  have st : Stay g H (g.plusF ρ.length (· = p)) (upd H p o) := ⟨fun a o h _ => ex a o h, fun a h => (G.plusF_U.mp h).imp id fun z => by rw [z]; exact hp, Nat.le_refl _, fun _ _ => rfl, rfl⟩
  have stb : Stay g.bare H (g.plusF ρ.length (· = p)).bare (upd H p o) := ⟨fun a o h _ => ex a o h, fun a h => by
    rcases h with h | ⟨j, h | h⟩ | h
    · exact h.elim
    · exact .inl (.inr (.inl ⟨j, h⟩))
    · exact .inr (by rw [h.2]; exact hp)
    · exact .inl (.inr (.inr h)), Nat.le_refl _, fun _ _ => rfl, rfl⟩
  refine ⟨R.len, fun i d e => ?_, fun i j a h h' => ?_, fun i a h u => ?_, fun i a h u => ?_, R.dOB, fun a h => ?_, R.st.keep st (fun a o _ q => ex a o q) rfl rfl rfl fun _ _ => rfl, fun a h => ?_⟩
  · obtain ⟨v, h1, h2⟩ := R.slot i d e
    refine ⟨v, h1, ?_⟩
    cases hm : Γ.getD i .s <;> rw [hm] at h2 <;> simp only [RepM] at h2 ⊢
    · exact h2.stay st
    · exact Own.wide _ _ _ _ _ (fun a z => .inl z) (Own.keepF st _ _ _ _ (fun a o _ q => ex a o q) h2)
    · exact Own.keepF st _ _ _ _ (fun a o _ q => ex a o q) h2
    · exact ⟨h2.1, Own.wide _ _ _ _ _ (fun a z => .inl z) (Own.keepF st _ _ _ _ (fun a o _ q => ex a o q) h2.2)⟩
    · exact h2
    · exact h2.stay stb
  · rcases h with h | h <;> rcases h' with h' | h'
    · exact R.dF i j a h h'
    · exact absurd h'.2 (np a (.inr (.inl ⟨i, h⟩)))
    · exact absurd h.2 (np a (.inr (.inl ⟨j, h'⟩)))
    · rw [h.1, h'.1]
  · rcases h with h | h
    · exact R.dFO i a h u
    · exact np a (.inl u) h.2
  · rcases h with h | h
    · exact R.dFB i a h u
    · exact np a (.inr (.inr u)) h.2
  · rcases G.plusF_U.mp h with u | u
    · obtain ⟨o, q⟩ := R.dom a u
      exact ⟨o, ex a o q⟩
    · exact ⟨o, by rw [u]; exact upd_same⟩
  · rcases G.plusF_U.mp h with u | u
    · exact ex.nt R.dom R.nt a u
    · intro w r
      rw [u] at r
      rcases r with r | ⟨b, r⟩
      · rw [upd_same] at r; cases r; exact (ho w).1 rfl
      · rw [upd_same] at r; cases r; exact (ho w).2 b rfl
theorem stay_fresh {p : Addr} {o : HO} (hp : H p = none) : Stay g H (g.plusF ρ.length (· = p)) (upd H p o) := ⟨fun a o h _ => Exx.new hp a o h, fun a h => (G.plusF_U.mp h).imp id fun z => by rw [z]; exact hp, Nat.le_refl _, fun _ _ => rfl, rfl⟩
theorem Rel.fresh_lst {p : Addr} {l : List D} {vs : List V} (R : Rel T g Γ ρ S σ H) (hp : H p = none) (s : ShrL T g H l vs) : Own T (g.plusF ρ.length (· = p)) (upd H p (.lst vs)) 1 (· = p) (.lst l) (.ref p) := own1_lst.mpr ⟨p, vs, rfl, rfl, upd_same, s.stay (stay_fresh hp)⟩
theorem Rel.fresh_out {p : Addr} (R : Rel T g Γ ρ S σ H) (hp : H p = none) : ∀ a, a = p → ¬ g.U a ∧ (g.B a ∨ H a = none) := fun a z => by
  refine ⟨fun u => ?_, .inr (by rw [z]; exact hp)⟩
  obtain ⟨o, q⟩ := R.dom a u
  rw [z, hp] at q; cases q
theorem goodN_then {A : FL} {h : List D → Option D} {k : Nat} {Q : VK} {Q' : List V → Hp → Prop} (hg : GoodN T W Γ k ρ σ g H (eL h A ρ S) Q)
    (hk : ∀ ds S' z vs g' H', h ds = some z → Rel T g' Γ ρ S' σ H' → FrE g H g' H' → ShrL T g' H' ds vs → GoodN T W Γ k ρ σ g H (.ok z S') Q → Q' vs H') : GoodL T W Γ ρ σ g H (A ρ S) Q' := by
  unfold eL at hg
  cases e : A ρ S with
  | ok ds S' =>
    rw [e] at hg
    intro vs g' H' R f s
    have hg : GoodN T W Γ k ρ σ g H (RE.of S' (h ds)) Q := hg
    cases ez : h ds with
    | none => rw [ez] at hg; exact hg.elim
    | some z => rw [ez] at hg; exact hk ds S' z vs g' H' ez R f s hg
  | exc x S' => rw [e] at hg; exact hg
  | no => rw [e] at hg; exact hg
theorem FrE.none {p : Addr} (f : FrE g H g' H') (hp : H' p = none) : g.B p ∨ H p = none := by
  cases e : H p with
  | none => exact .inr rfl
  | some o =>
    obtain ⟨o', h'⟩ := f.dom p o e
    rw [hp] at h'; cases h'
theorem xf_lst {es : List Expr} {A : FL} (ha : XL X T W Γ es A) {pos : Pos} : XF X T W Γ 1 (.List es pos) (eLst A) := pe_imp (pe_lst ha) fun σ H Q ⟨g, ρ, S, R, hg⟩ =>
  ⟨g, ρ, S, R, goodN_then hg fun ds S1 z vs g1 H1 ez R1 f1 s1 hg1 => by
    split at ez
    · rename_i hl
      cases ez
      refine ⟨by rw [← s1.length]; exact sz6 hl, fun p hp => hg1 _ g1 _ (· = p) (R1.fresh hp fun _ => ⟨nofun, fun _ => nofun⟩) (f1.trans (.ex (Exx.new hp))) (fun a z => ⟨(R1.fresh_out hp a z).1, ?_⟩) (R1.fresh_lst hp s1)⟩
      rw [z]; exact f1.none hp
    · cases ez⟩
/-! ### a slot takes a fresh value; appends; returns -/
def G.take (g : G) (i : Nat) (Fo : Addr → Prop) : G := { g with F := fun j a => (j = i ∧ Fo a) ∨ (j ≠ i ∧ g.F j a) }
theorem xs_ownP {J : Jd} {Γ' : List Md} {i k : Nat} {A : FE} {st : Stmt} (hx : J.ΓX Γ) (hi : i < Γ.length) (he : PS X st (tAsg (tN T J.W Γ k A) (gName i))) (hΓ : Γ.set i (.o k) = Γ') : XS X T J Γ Γ' st (fSet i A) := ps_imp he fun D σ H ⟨g, ρ, S, R, h⟩ => by
  refine ⟨g, ρ, S, R, ?_⟩
  unfold fSet at h
  cases r : A ρ S with
  | no => rw [r] at h; exact h
  | exc x S1 => rw [r] at h; exact fun c dd g' H' R' f e => h Γ c dd σ g' H' hx R' (f.frs R.dOB) e
  | ok d S1 =>
    rw [r] at h
    intro v g' H' Fo R' f ho hw
    have h : GoodS T J Γ' g H (.nx (ρ.set i (some d)) S1) D := h
    refine h (σ.set i (some v)) (g'.take i Fo) H' ?_ ?_
    · rw [← hΓ]
      have hsub : ∀ j a, (g'.take i Fo).F j a → ∃ k, (g'.plusF ρ.length Fo).F k a := fun j a z => by
        rcases z with z | z
        · exact ⟨ρ.length, .inr ⟨rfl, z.2⟩⟩
        · exact ⟨j, .inl z.2⟩
      have hUU : ∀ a, (g'.take i Fo).U a → (g'.plusF ρ.length Fo).U a := fun a u => by
        rcases u with u | ⟨j, u⟩ | u
        · exact .inl u
        · exact .inr (.inl (hsub j a u))
        · exact .inr (.inr u)
      refine R'.shift rfl rfl rfl rfl hUU (fun j k a h h' => ?_) (fun j a h u => ?_) (fun a h => .inl h) (fun j a h => .inl (hsub j a h)) (by simp [R'.len]) fun st j d' e => ?_
      · rcases h with h | h <;> rcases h' with h' | h'
        · rw [h.1, h'.1]
        · exact absurd (.inr (.inl ⟨k, h'.2⟩)) (ho a h.2).1
        · exact absurd (.inr (.inl ⟨j, h.2⟩)) (ho a h'.2).1
        · exact R'.dF j k a (.inl h.2) (.inl h'.2)
      · rcases h with h | h
        · exact (ho a h.2).1 (.inl u)
        · exact R'.dFO j a (.inl h.2) u
      · by_cases hj : i = j
        · subst hj
          have hlt : i < ρ.length := by
            have := (List.getElem?_eq_some_iff.mp e).1
            simpa using this
          rw [List.getElem?_set_self hlt] at e
          cases e
          refine ⟨v, by rw [List.getElem?_set_self (by rw [← R'.len]; exact hlt)], ?_⟩
          rw [getD_set_self hi]
          have q : Own T (g'.take i Fo) H' k Fo d v := Own.keepF st _ _ _ _ (fun _ _ _ q => q) hw
          exact Own.wide k _ ((g'.take i Fo).F i) d v (fun a z => .inl ⟨rfl, z⟩) q
        · rw [List.getElem?_set_ne hj] at e
          obtain ⟨w, h1, h2⟩ := R'.slot j d' e
          have hjl : j < ρ.length := (List.getElem?_eq_some_iff.mp e).1
          refine ⟨w, by rw [List.getElem?_set_ne hj]; exact h1, ?_⟩
          rw [getD_set_ne hj]
          exact h2.stay st (fun a z => .inr ⟨fun z => hj z.symm, z.elim id fun z => absurd z.1 (by omega)⟩) (fun a z => z) rfl (bare_sub rfl rfl hsub fun _ z => z)
    · have f' := f.frs R.dOB
      refine ⟨f'.keep, fun a u => ?_, f'.O, f'.P, f'.N, f'.μ, f'.dom⟩
      rcases u with u | ⟨j, u | u⟩ | u
      · exact f'.own a (.inl u)
      · exact (ho a u.2).2.imp (fun z => .inr (.inr z)) id
      · exact f'.own a (.inr (.inl ⟨j, u.2⟩))
      · exact f'.own a (.inr (.inr u))
theorem xs_own {J : Jd} {Γ' : List Md} {i k : Nat} {e : Expr} {A : FE} {st : Stmt} (hx : J.ΓX Γ) (hi : i < Γ.length) (ha : XF X T J.W Γ k e A) (he : PE X e (tN T J.W Γ k A) → PS X st (tAsg (tN T J.W Γ k A) (gName i))) (hΓ : Γ.set i (.o k) = Γ') : XS X T J Γ Γ' st (fSet i A) := xs_ownP hx hi (he ha) hΓ
/-- an owned list is shared from here on -/
theorem Rel.frz {i : Nat} {k : Nat} (R : Rel T g Γ ρ S σ H) (hm : Γ.getD i .s = .o k) : Rel T (g.drop i) (Γ.set i .s) ρ S σ H := by
  refine R.shift rfl rfl rfl rfl (fun a h => G.drop_U h) (fun j k a h h' => R.dF j k a h.2 h'.2) (fun j a h => R.dFO j a h.2) (fun a h => .inl h) (fun j a h => .inl ⟨j, h.2⟩) R.len fun st j d' e => ?_
  obtain ⟨w, h1, h2⟩ := R.slot j d' e
  refine ⟨w, h1, ?_⟩
  by_cases hj : i = j
  · subst hj
    rw [getD_set_s]
    rw [hm] at h2
    refine shr_of_own2 st k (g.F i) d' w (fun a z u => ?_) h2
    rcases u with u | ⟨j, u⟩ | u
    · exact R.dFO i a z u
    · exact u.1 (R.dF j i a u.2 z)
    · exact R.dFB i a z u
  · rw [getD_set_ne hj]
    exact h2.stay st (fun a z => ⟨fun q => hj q.symm, z⟩) (fun a z => z) rfl (bare_sub rfl rfl (fun i a z => ⟨i, z.2⟩) fun _ z => z)
theorem xb_frz {J : Jd} {Γ' Γ1 : List Md} {i k : Nat} {rest : List Stmt} {B : FS} (hm : Γ.getD i .s = .o k) (hΓ : Γ.set i .s = Γ1) (hb : XB X T J Γ1 Γ' rest B) : XB X T J Γ Γ' rest B := pss_imp hb fun D σ H ⟨g, ρ, S, R, h⟩ =>
  ⟨g.drop i, ρ, S, by rw [← hΓ]; exact R.frz hm, GoodS.then h .drop⟩
/-- a write to what a slot owns -/
theorem Rel.write {i : Nat} {p : Addr} {o : HO} {d : D} {v : V} (R : Rel T g Γ ρ S σ H) (hp : g.F i p) (ho : ∀ u, o ≠ .tup u ∧ ∀ b, o ≠ .frz b (.tup u)) (hv : σ[i]? = some (some v))
    (hr : Stay g H g (upd H p o) → RepM T g (upd H p o) i (Γ.getD i .s) d v) : Rel T g Γ (ρ.set i (some d)) S σ (upd H p o) := by
  have st : Stay g H g (upd H p o) := ⟨fun a u h hu => by rw [upd_ne (fun z => hu (.inr (.inl ⟨i, by rw [z]; exact hp⟩)))]; exact h, fun _ h => .inl h, Nat.le_refl _, fun _ _ => rfl, rfl⟩
  have stb : Stay g.bare H g.bare (upd H p o) := ⟨fun a u h hu => by rw [upd_ne (fun z => hu (.inr (.inl ⟨i, by rw [z]; exact hp⟩)))]; exact h, fun _ h => .inl h, Nat.le_refl _, fun _ _ => rfl, rfl⟩
  refine ⟨by simp [R.len], fun j d' e => ?_, R.dF, R.dFO, R.dFB, R.dOB, fun a h => ?_, R.st.keep st (fun a u hb h => by rw [upd_ne (fun z => R.dFB i p hp (by rw [← z]; exact hb))]; exact h) rfl rfl rfl fun _ _ => rfl, nt_upd R.nt ho⟩
  · by_cases hj : i = j
    · subst hj
      have hlt : i < ρ.length := by
        have := (List.getElem?_eq_some_iff.mp e).1
        simpa using this
      rw [List.getElem?_set_self hlt] at e
      cases e
      exact ⟨v, hv, hr st⟩
    · rw [List.getElem?_set_ne hj] at e
      obtain ⟨w, h1, h2⟩ := R.slot j d' e
      refine ⟨w, h1, ?_⟩
      have kF : ∀ a u, g.F j a → H a = some u → upd H p o a = some u := fun a u z q => by rw [upd_ne (fun w => hj (R.dF i j p hp (by rw [← w]; exact z)))]; exact q
      cases hm : Γ.getD j .s <;> rw [hm] at h2 <;> simp only [RepM] at h2 ⊢
      · exact h2.stay st
      · exact Own.keepF st _ _ _ _ kF h2
      · exact Own.keepF st _ _ _ _ (fun a u z q => by rw [upd_ne (fun w => R.dFO i p hp (by rw [← w]; exact z))]; exact q) h2
      · exact ⟨h2.1, Own.keepF st _ _ _ _ kF h2.2⟩
      · exact h2
      · exact h2.stay stb
  · by_cases ha : a = p
    · subst ha; exact ⟨o, upd_same⟩
    · rw [upd_ne ha]; exact R.dom a h
theorem Rel.wrote {i : Nat} {p : Addr} {o : HO} (R : Rel T g Γ ρ S σ H) (hp : g.F i p) : FrS g H g (upd H p o) :=
  ⟨fun a u h hu => by rw [upd_ne (fun z => hu.elim (fun w => w (.inr (.inl ⟨i, by rw [z]; exact hp⟩))) fun w => R.dFO i p hp (by rw [← z]; exact w))]; exact h, fun _ h => .inl h, rfl, rfl, Nat.le_refl _, fun _ _ => rfl, fun a u h => by
    by_cases ha : a = p
    · subst ha; exact ⟨o, upd_same⟩
    · exact ⟨u, by rw [upd_ne ha]; exact h⟩⟩
/-- mode o 1 or p 1 -/
def isOwn1 : Md → Prop
  | .o 1 => True
  | .p 1 => True
  | _ => False
theorem Rel.own1 {i : Nat} {l : List D} (R : Rel T g Γ ρ S σ H) (hm : isOwn1 (Γ.getD i .s)) (e : ρ[i]? = some (some (.lst l))) : ∃ p vs, σ[i]? = some (some (.ref p)) ∧ g.F i p ∧ H p = some (.lst vs) ∧ ShrL T g H l vs ∧
    ∀ (l' : List D) (vs' : List V) (H' : Hp), H' p = some (.lst vs') → ShrL T g H' l' vs' → RepM T g H' i (Γ.getD i .s) (.lst l') (.ref p) := by
  obtain ⟨v, h1, h2⟩ := R.slot i _ e
  cases hq : Γ.getD i .s <;> rw [hq] at h2 hm <;> simp only [isOwn1] at hm
  · rename_i k
    split at hm
    · rename_i hk
      cases hk
      obtain ⟨p, vs, rfl, hF, hH, s⟩ := own1_lst.mp (show Own T g H 1 (g.F i) (.lst l) v from h2)
      exact ⟨p, vs, h1, hF, hH, s, fun l' vs' H' a b => own1_lst.mpr ⟨p, vs', rfl, hF, a, b⟩⟩
    · rename_i hk; cases hk
    · exact hm.elim
  · rename_i k
    split at hm
    · rename_i hk; cases hk
    · rename_i hk
      cases hk
      have h2 : v = g.P i ∧ Own T g H 1 (g.F i) (.lst l) v := h2
      obtain ⟨p, vs, e2, hF, hH, s⟩ := own1_lst.mp h2.2
      subst e2
      exact ⟨p, vs, h1, hF, hH, s, fun l' vs' H' a b => ⟨h2.1, own1_lst.mpr ⟨p, vs', rfl, hF, a, b⟩⟩⟩
    · exact hm.elim
end
end Q

/-! Methods that write an owned list; calls with loose arguments. -/
namespace Q
open PySem PySem.Spec PyProof.Rows L2
/-- a method of an owned list: what it says, what the list holds then -/
abbrev HM := List D → List D → Option (D × List D)
def MutOk (T : Th) (r : V → List V → Hp → VK → Prop) (h : HM) : Prop := ∀ (g : G) (H : Hp) (p : Addr) (l ds l' : List D) (z : D) (vs ws : List V), H p = some (.lst vs) → ShrL T g H l vs → ShrL T g H ds ws → g.U p → h l ds = some (z, l') →
  ∀ Q : VK, (∀ u vs', ShrL T g H l' vs' → Shr T g H z u → Q u (upd H p (.lst vs'))) → r (.ref p) ws H Q
def fMut (i : Nat) (h : HM) (a : FL) : FS := fun ρ S => match ρ[i]? with
  | some (some (.lst l)) => (match a ρ S with
    | .ok ds S1 => (match h l ds with
      | some (_, l') => .nx (ρ.set i (some (.lst l'))) S1
      | none => .no)
    | .exc x S1 => .exc x ρ S1
    | .no => .no)
  | _ => .no
/-- .. and the value to slot j -/
def fMutSet (j i : Nat) (h : HM) (a : FL) : FS := fun ρ S => match ρ[i]? with
  | some (some (.lst l)) => (match a ρ S with
    | .ok ds S1 => (match h l ds with
      | some (z, l') => .nx ((ρ.set i (some (.lst l'))).set j (some z)) S1
      | none => .no)
    | .exc x S1 => .exc x ρ S1
    | .no => .no)
  | _ => .no
section
variable {X : Cx} {T : Th} {J : Jd} {Γ : List Md}
theorem mut_core {g1 : G} {ρ : Env} {S1 : Store} {σ : L2.St} {H1 : Hp} {i : Nat} {l ds l' : List D} {z : D} {ws : List V} {r : V → List V → Hp → VK → Prop} {h : HM} {Q : VK} {p : Addr}
    (R1 : Rel T g1 Γ ρ S1 σ H1) (hm : isOwn1 (Γ.getD i .s)) (el : ρ[i]? = some (some (.lst l))) (ev : σ[i]? = some (some (.ref p))) (ok : MutOk T r h) (sw : ShrL T g1 H1 ds ws) (eh : h l ds = some (z, l'))
    (q : ∀ u H2, Rel T g1 Γ (ρ.set i (some (.lst l'))) S1 σ H2 → FrS g1 H1 g1 H2 → Shr T g1 H2 z u → Q u H2) : r (.ref p) ws H1 Q := by
  obtain ⟨p', vs, h1, hF, hH, sl, mk⟩ := R1.own1 hm el
  rw [ev] at h1; cases h1
  refine ok g1 H1 p l ds l' z vs ws hH sl sw (.inr (.inl ⟨i, hF⟩)) eh Q fun u vs' s' su => ?_
  have st : Stay g1 H1 g1 (upd H1 p (.lst vs')) := ⟨fun a o h hu => by rw [upd_ne (fun z => hu (.inr (.inl ⟨i, by rw [z]; exact hF⟩)))]; exact h, fun _ h => .inl h, Nat.le_refl _, fun _ _ => rfl, rfl⟩
  refine q u _ ?_ (R1.wrote hF) (su.stay st)
  refine R1.write hF (fun _ => ⟨nofun, fun _ => nofun⟩) ev fun st => ?_
  exact mk l' vs' _ upd_same (ShrL.stay st _ _ s')
theorem xs_mut {i : Nat} {st : Stmt} {es : List Expr} {A : FL} {r : V → List V → Hp → VK → Prop} {h : HM} (hK : X.K = T.K) (hx : J.ΓX Γ) (hm : isOwn1 (Γ.getD i .s)) (ok : MutOk T r h) (ha : XL X T J.W Γ es A) (he : PA X es (tXL T J.W Γ A) → PS X st (tDrop (tBM X.K "list" r (tVar i) (tXL T J.W Γ A)))) : XS X T J Γ Γ st (fMut i h A) := ps_imp (he ha) fun D σ H ⟨g, ρ, S, R, hg⟩ => by
  unfold fMut at hg
  cases el : ρ[i]? with
  | none => rw [el] at hg; exact hg.elim
  | some o =>
    rw [el] at hg
    match o, hg, el with
    | some (.lst l), hg, el =>
      obtain ⟨p, vs, h1, hF, hH, sl, mk⟩ := R.own1 hm el
      refine ⟨.ref p, h1, .inl ⟨rfl, _, SqL.of hH⟩, g, ρ, S, R, ?_⟩
      cases ea : A ρ S with
      | no => rw [ea] at hg; exact hg
      | exc x S1 => rw [ea] at hg; exact fun c dd g' H' R' f' e => hg Γ c dd σ g' H' hx R' (f'.frs R.dOB) e
      | ok ds S1 =>
        rw [ea] at hg
        intro ws g1 H1 R1 f1 sw
        have hg : GoodS T J Γ g H (match h l ds with | some (_, l') => RS.nx (ρ.set i (some (.lst l'))) S1 | none => .no) D := hg
        cases eh : h l ds with
        | none => rw [eh] at hg; exact hg.elim
        | some zl =>
          rw [eh] at hg
          exact mut_core R1 hm el h1 ok sw eh fun u H2 R2 f2 _ => hg σ g1 H2 R2 ((f1.frs R.dOB).trans f2)
theorem xs_mut0 {i : Nat} {st : Stmt} {r : V → List V → Hp → VK → Prop} {h : HM} (hK : X.K = T.K) (hm : isOwn1 (Γ.getD i .s)) (ok : MutOk T r h) (he : PS X st (tDrop (tBM0 X.K "list" r (tVar i)))) : XS X T J Γ Γ st (fMut i h lNil) := ps_imp he fun D σ H ⟨g, ρ, S, R, hg⟩ => by
  unfold fMut at hg
  cases el : ρ[i]? with
  | none => rw [el] at hg; exact hg.elim
  | some o =>
    rw [el] at hg
    match o, hg, el with
    | some (.lst l), hg, el =>
      obtain ⟨p, vs, h1, hF, hH, sl, mk⟩ := R.own1 hm el
      refine ⟨.ref p, h1, .inl ⟨rfl, _, SqL.of hH⟩, ?_⟩
      have hg : GoodS T J Γ g H (match h l [] with | some (_, l') => RS.nx (ρ.set i (some (.lst l'))) S | none => .no) D := hg
      cases eh : h l [] with
      | none => rw [eh] at hg; exact hg.elim
      | some zl =>
        rw [eh] at hg
        exact mut_core R hm el h1 ok .nil eh fun u H2 R2 f2 _ => hg σ g H2 R2 f2
theorem xs_mutset {i j : Nat} {st : Stmt} {es : List Expr} {A : FL} {r : V → List V → Hp → VK → Prop} {h : HM} {Γ' : List Md} (hK : X.K = T.K) (hx : J.ΓX Γ) (hm : isOwn1 (Γ.getD i .s)) (ok : MutOk T r h) (ha : XL X T J.W Γ es A) (he : PA X es (tXL T J.W Γ A) → PS X st (tAsg (tBM X.K "list" r (tVar i) (tXL T J.W Γ A)) (gName j))) (hΓ : Γ.set j .s = Γ') : XS X T J Γ Γ' st (fMutSet j i h A) := ps_imp (he ha) fun D σ H ⟨g, ρ, S, R, hg⟩ => by
  unfold fMutSet at hg
  cases el : ρ[i]? with
  | none => rw [el] at hg; exact hg.elim
  | some o =>
    rw [el] at hg
    match o, hg, el with
    | some (.lst l), hg, el =>
      obtain ⟨p, vs, h1, hF, hH, sl, mk⟩ := R.own1 hm el
      refine ⟨.ref p, h1, .inl ⟨rfl, _, SqL.of hH⟩, g, ρ, S, R, ?_⟩
      cases ea : A ρ S with
      | no => rw [ea] at hg; exact hg
      | exc x S1 => rw [ea] at hg; exact fun c dd g' H' R' f' e => hg Γ c dd σ g' H' hx R' (f'.frs R.dOB) e
      | ok ds S1 =>
        rw [ea] at hg
        intro ws g1 H1 R1 f1 sw
        have hg : GoodS T J Γ' g H (match h l ds with | some (z, l') => RS.nx ((ρ.set i (some (.lst l'))).set j (some z)) S1 | none => .no) D := hg
        cases eh : h l ds with
        | none => rw [eh] at hg; exact hg.elim
        | some zl =>
          rw [eh] at hg
          refine mut_core R1 hm el h1 ok sw eh fun u H2 R2 f2 su => ?_
          exact hg _ (g1.drop j) H2 (by rw [← hΓ]; exact R2.set su) (((f1.frs R.dOB).trans f2).trans .drop)
theorem xs_mutset0 {i j : Nat} {st : Stmt} {r : V → List V → Hp → VK → Prop} {h : HM} {Γ' : List Md} (hK : X.K = T.K) (hm : isOwn1 (Γ.getD i .s)) (ok : MutOk T r h) (he : PS X st (tAsg (tBM0 X.K "list" r (tVar i)) (gName j))) (hΓ : Γ.set j .s = Γ') : XS X T J Γ Γ' st (fMutSet j i h lNil) := ps_imp he fun D σ H ⟨g, ρ, S, R, hg⟩ => by
  unfold fMutSet at hg
  cases el : ρ[i]? with
  | none => rw [el] at hg; exact hg.elim
  | some o =>
    rw [el] at hg
    match o, hg, el with
    | some (.lst l), hg, el =>
      obtain ⟨p, vs, h1, hF, hH, sl, mk⟩ := R.own1 hm el
      refine ⟨.ref p, h1, .inl ⟨rfl, _, SqL.of hH⟩, ?_⟩
      have hg : GoodS T J Γ' g H (match h l [] with | some (z, l') => RS.nx ((ρ.set i (some (.lst l'))).set j (some z)) S | none => .no) D := hg
      cases eh : h l [] with
      | none => rw [eh] at hg; exact hg.elim
      | some zl =>
        rw [eh] at hg
        refine mut_core R hm el h1 ok .nil eh fun u H2 R2 f2 su => ?_
        exact hg _ (g.drop j) H2 (by rw [← hΓ]; exact R2.set su) (f2.trans .drop)
end
/-! ### the methods -/
def mAppend : HM
  | l, [d] => if l.length < 1000000 then some (.non, l ++ [d]) else none
  | _, _ => none
def mExtend : HM
  | l, [.lst m] => if l.length + m.length ≤ 1000000 then some (.non, l ++ m) else none
  | _, _ => none
def mPop : HM
  | l, [] => (l[l.length - 1]?).map fun d => (d, l.dropLast)
  | _, _ => none
def mPop0 : HM
  | d :: l, [.int 0] => some (d, l)
  | _, _ => none
def intsOf : List D → Option (List Int)
  | [] => some []
  | .int i :: r => (intsOf r).map (i :: ·)
  | _ => none
def mRemove : HM
  | l, [.int k] => match intsOf l with
    | some ns => if ns.idxOf k < ns.length then some (.non, (ns.eraseIdx (ns.idxOf k)).map .int) else none
    | none => none
  | _, _ => none
section
variable {T : Th}
theorem len6 {l : List D} {vs : List V} {g : G} {H : Hp} (s : ShrL T g H l vs) (h : l.length < 1000000) : vs.length < sizeLine := by rw [← s.length, sizeLine_eq]; omega
theorem ok_append : MutOk T rAppend mAppend := by
  intro g H p l ds l' z vs ws hH sl sw hu eh Q q
  match ds, eh, sw with
  | [d], eh, sw =>
    simp only [mAppend] at eh
    split at eh
    · rename_i hl
      cases eh
      simp only [ShrL] at sw
      obtain ⟨y, _, rfl, sy, rfl⟩ := sw
      exact ⟨p, vs, y, rfl, rfl, hH, len6 sl hl, q _ _ (sl.append (.cons sy .nil)) (shr_non.mpr rfl)⟩
    · cases eh
theorem ok_extend : MutOk T rExtend mExtend := by
  intro g H p l ds l' z vs ws hH sl sw hu eh Q q
  match ds, eh, sw with
  | [.lst m], eh, sw =>
    simp only [mExtend] at eh
    split at eh
    · rename_i hl
      cases eh
      simp only [ShrL] at sw
      obtain ⟨y, _, rfl, sy, rfl⟩ := sw
      obtain ⟨b, zs, rfl, la, ra⟩ := shr_lst.mp sy
      exact ⟨p, b, vs, zs, rfl, rfl, hH, la.1, by rw [← sl.length, ← ra.length]; exact sz6 hl, q _ _ (sl.append ra) (shr_non.mpr rfl)⟩
    · cases eh
theorem ShrL.dropLast {g : G} {H : Hp} {ds : List D} {vs : List V} (h : ShrL T g H ds vs) : ShrL T g H ds.dropLast vs.dropLast := by
  rw [List.dropLast_eq_take, List.dropLast_eq_take, h.length]
  exact h.take _
theorem ok_pop : MutOk T rPop mPop := by
  intro g H p l ds l' z vs ws hH sl sw hu eh Q q
  match ds, eh, sw with
  | [], eh, sw =>
    simp only [mPop] at eh
    simp only [ShrL] at sw
    subst sw
    obtain ⟨d, e1, e2⟩ := Option.map_eq_some_iff.mp eh
    cases e2
    obtain ⟨y, h1, h2⟩ := sl.get e1
    exact ⟨p, vs, y, rfl, rfl, hH, by rw [← sl.length]; exact h1, q _ _ sl.dropLast h2⟩
theorem ok_pop0 : MutOk T rPopAt mPop0 := by
  intro g H p l ds l' z vs ws hH sl sw hu eh Q q
  match l, ds, eh, sw, sl with
  | d :: l, [.int 0], eh, sw, sl =>
    simp only [mPop0] at eh
    cases eh
    simp only [ShrL] at sw
    obtain ⟨y, _, rfl, sy, rfl⟩ := sw
    rw [shr_int.mp sy]
    simp only [ShrL] at sl
    obtain ⟨w, us, rfl, sd, sl⟩ := sl
    refine ⟨p, _, 0, 0, w, rfl, rfl, hH, by decide, by decide, ?_, rfl, q _ _ sl sd⟩
    simp [seqIndex?]
theorem intsOf_map {g : G} {H : Hp} : ∀ {l : List D} {ns : List Int} {vs : List V}, intsOf l = some ns → ShrL T g H l vs → vs = ns.map V.int ∧ l = ns.map D.int
  | [], ns, vs, e, s => by
    cases e
    simp only [ShrL] at s
    subst s
    exact ⟨rfl, rfl⟩
  | d :: r, ns, vs, e, s => by
    cases d <;> simp only [intsOf] at e <;> first | cases e | skip
    rename_i i
    obtain ⟨ms, e1, e2⟩ := Option.map_eq_some_iff.mp e
    subst e2
    simp only [ShrL] at s
    obtain ⟨v, us, rfl, sv, s⟩ := s
    obtain ⟨h1, h2⟩ := intsOf_map e1 s
    rw [shr_int.mp sv, h1, h2]
    exact ⟨rfl, rfl⟩
theorem shrL_int {g : G} {H : Hp} : ∀ ns : List Int, ShrL T g H (ns.map D.int) (ns.map V.int)
  | [] => .nil
  | n :: r => .cons (shr_int.mpr rfl) (shrL_int r)
theorem idx_no {ns : List Int} {k : Int} {m : Nat} (hm : m < ns.idxOf k) (hl : m < ns.length) (e : ns[m] = k) : False := by
  induction ns generalizing m with
  | nil => simp at hl
  | cons a r ih =>
    rw [List.idxOf_cons] at hm
    by_cases ha : a = k
    · rw [ha] at hm; simp at hm
    · have : (a == k) = false := by simp [ha]
      rw [this] at hm
      cases m with
      | zero => exact ha e
      | succ m => exact ih (by simpa using hm) (by simpa using hl) (by simpa using e)
theorem ok_remove : MutOk T rRemI mRemove := by
  intro g H p l ds l' z vs ws hH sl sw hu eh Q q
  match ds, eh, sw with
  | [.int k], eh, sw =>
    simp only [mRemove] at eh
    split at eh
    · rename_i ns en
      split at eh
      · rename_i hlt
        cases eh
        simp only [ShrL] at sw
        obtain ⟨y, _, rfl, sy, rfl⟩ := sw
        rw [shr_int.mp sy]
        obtain ⟨h1, h2⟩ := intsOf_map en sl
        refine ⟨p, ns, k, ns.idxOf k, rfl, rfl, by rw [← h1]; exact hH, ?_, fun m hm e => ?_, q _ _ (shrL_int _) (shr_non.mpr rfl)⟩
        · rw [List.getElem?_eq_getElem hlt, List.getElem_idxOf]
        · obtain ⟨hm2, e⟩ := List.getElem?_eq_some_iff.mp e
          exact idx_no hm hm2 e
      · cases eh
    · cases eh
end
end Q

/-! Calls with loose arguments; owned lists returned. -/
namespace Q
open PySem PySem.Spec PyProof.Rows L2
def ShrM (T : Th) (g : G) (H : Hp) : List Bool → List D → List V → Prop
  | _, [], vs => vs = []
  | bs, d :: ds, vs => ∃ v ws, vs = v :: ws ∧ (Shr T (if bs.headD false = true then g.bb else g) H d v) ∧ ShrM T g H bs.tail ds ws
def mdOf (b : Bool) : Md := if b = true then .l else .s
section
variable {T : Th} {g g' : G} {H H' : Hp}
theorem ShrM.length : ∀ {bs : List Bool} {ds : List D} {vs : List V}, ShrM T g H bs ds vs → ds.length = vs.length
  | _, [], _, h => by simp only [ShrM] at h; subst h; rfl
  | bs, d :: ds, vs, h => by
    simp only [ShrM] at h
    obtain ⟨v, ws, rfl, _, r⟩ := h
    simp only [List.length_cons, ShrM.length r]
theorem ShrM.get : ∀ {bs : List Bool} {ds : List D} {vs : List V} {i : Nat} {d : D}, ShrM T g H bs ds vs → ds[i]? = some d → ∃ v, vs[i]? = some v ∧ Shr T (if bs.getD i false = true then g.bb else g) H d v
  | _, [], _, _, _, _, e => by simp at e
  | bs, d :: ds, vs, i, d', h, e => by
    simp only [ShrM] at h
    obtain ⟨v, ws, rfl, q, r⟩ := h
    cases i with
    | zero =>
      simp at e; subst e
      refine ⟨v, rfl, ?_⟩
      cases bs <;> exact q
    | succ i =>
      obtain ⟨w, h1, h2⟩ := ShrM.get (i := i) r (by simpa using e)
      refine ⟨w, by simpa using h1, ?_⟩
      cases bs
      · simpa using h2
      · simpa using h2
theorem ShrM.stayE (f : FrE g H g' H') : ∀ {bs : List Bool} {ds : List D} {vs : List V}, ShrM T g H bs ds vs → ShrM T g' H' bs ds vs
  | _, [], _, h => by simpa only [ShrM] using h
  | bs, d :: ds, vs, h => by
    simp only [ShrM] at h ⊢
    obtain ⟨v, ws, e, q, r⟩ := h
    refine ⟨v, ws, e, ?_, ShrM.stayE f r⟩
    split
    · rename_i hb; rw [if_pos hb] at q; exact q.stay f.bb
    · rename_i hb; rw [if_neg hb] at q; exact q.stay f.stay
end
def GoodM (T : Th) (W : WX) (Γ : List Md) (bs : List Bool) (ρ : Env) (σ : L2.St) (g : G) (H : Hp) : RL → (List V → Hp → Prop) → Prop
  | .ok d S', Q => ∀ v g' H', Rel T g' Γ ρ S' σ H' → FrE g H g' H' → ShrM T g' H' bs d v → Q v H'
  | .exc x S', _ => ∀ c dd g' H', Rel T g' Γ ρ S' σ H' → FrE g H g' H' → ExcR T g' H' x c dd → W c dd σ H'
  | .no, _ => False
def tM (T : Th) (W : WX) (Γ : List Md) (bs : List Bool) (F : FL) : TA := fun σ H Q => ∃ g ρ S, Rel T g Γ ρ S σ H ∧ GoodM T W Γ bs ρ σ g H (F ρ S) Q
abbrev XM (X : Cx) (T : Th) (W : WX) (Γ : List Md) (bs : List Bool) (es : List Expr) (F : FL) : Prop := PA X es (tM T W Γ bs F)
section
variable {X : Cx} {T : Th} {W : WX} {Γ : List Md} {bs : List Bool}
theorem xm_nil : XM X T W Γ bs [] lNil := pa_imp pa_nil fun σ H Q ⟨g, ρ, S, R, hg⟩ => hg [] g H R (.refl g H) (by simp only [ShrM])
theorem xm_s {e : Expr} {es : List Expr} {A : FE} {B : FL} (ha : XE X T W Γ e A) (hb : XM X T W Γ bs es B) (hx : PE X e (tX T W Γ A) → PA X es (tM T W Γ bs B) → PA X (e :: es) (tCons (tX T W Γ A) (tM T W Γ bs B))) : XM X T W Γ (false :: bs) (e :: es) (lCons A B) := pa_imp (hx ha hb) fun σ H Q ⟨g, ρ, S, R, hg⟩ => by
  refine ⟨g, ρ, S, R, ?_⟩
  unfold lCons at hg
  cases e : A ρ S with
  | ok x S1 =>
    rw [e] at hg
    intro v g1 H1 R1 f1 s1
    refine ⟨g1, ρ, S1, R1, ?_⟩
    have hg : GoodM T W Γ (false :: bs) ρ σ g H (match B ρ S1 with | .ok xs S2 => .ok (x :: xs) S2 | .exc x S2 => .exc x S2 | .no => .no) Q := hg
    cases e2 : B ρ S1 with
    | ok xs S2 =>
      rw [e2] at hg
      exact fun vs g2 H2 R2 f2 s2 => hg (v :: vs) g2 H2 R2 (f1.trans f2) (by simp only [ShrM]; exact ⟨v, vs, rfl, s1.stay f2.stay, s2⟩)
    | exc y S2 => rw [e2] at hg; exact fun c dd g2 H2 R2 f2 s2 => hg c dd g2 H2 R2 (f1.trans f2) s2
    | no => rw [e2] at hg; exact hg
  | exc y S1 => rw [e] at hg; exact hg
  | no => rw [e] at hg; exact hg
theorem xm_l {e : Expr} {es : List Expr} {A : FE} {B : FL} (ha : XQ X T W Γ e A) (hb : XM X T W Γ bs es B) (hx : PE X e (tQ T W Γ A) → PA X es (tM T W Γ bs B) → PA X (e :: es) (tCons (tQ T W Γ A) (tM T W Γ bs B))) : XM X T W Γ (true :: bs) (e :: es) (lCons A B) := pa_imp (hx ha hb) fun σ H Q ⟨g, ρ, S, R, hg⟩ => by
  refine ⟨g, ρ, S, R, ?_⟩
  unfold lCons at hg
  cases e : A ρ S with
  | ok x S1 =>
    rw [e] at hg
    intro v g1 H1 R1 f1 s1
    refine ⟨g1, ρ, S1, R1, ?_⟩
    have hg : GoodM T W Γ (true :: bs) ρ σ g H (match B ρ S1 with | .ok xs S2 => .ok (x :: xs) S2 | .exc x S2 => .exc x S2 | .no => .no) Q := hg
    cases e2 : B ρ S1 with
    | ok xs S2 =>
      rw [e2] at hg
      exact fun vs g2 H2 R2 f2 s2 => hg (v :: vs) g2 H2 R2 (f1.trans f2) (by simp only [ShrM]; exact ⟨v, vs, rfl, s1.stay f2.bb, s2⟩)
    | exc y S2 => rw [e2] at hg; exact fun c dd g2 H2 R2 f2 s2 => hg c dd g2 H2 R2 (f1.trans f2) s2
    | no => rw [e2] at hg; exact hg
  | exc y S1 => rw [e] at hg; exact hg
  | no => rw [e] at hg; exact hg
theorem rel_argsM {g1 : G} {ρ : Env} {S1 : Store} {σ : L2.St} {H1 : Hp} {ds : List D} {vs : List V} {ms : List Md} (R1 : Rel T g1 Γ ρ S1 σ H1) (s : ShrM T g1 H1 bs ds vs) (hm : ∀ i, ms.getD i .s = mdOf (bs.getD i false)) : Rel T g1.callee ms (ds.map some) S1 (vs.map some) H1 := by
  refine R1.shift rfl rfl rfl rfl (fun a h => G.callee_U.mp h) (fun i j a h => h.elim) (fun i a h => h.elim) (fun a h => h) (fun i a h => h.elim) (by simp [s.length]) fun st i d e => ?_
  rw [List.getElem?_map] at e
  cases q : ds[i]? with
  | none => rw [q] at e; cases e
  | some d' =>
    rw [q] at e
    cases e
    obtain ⟨v, h1, h2⟩ := s.get q
    refine ⟨v, by rw [List.getElem?_map, h1]; rfl, ?_⟩
    rw [hm]
    unfold mdOf
    by_cases hb : bs.getD i false = true
    · rw [if_pos hb] at h2 ⊢
      have st2 : Stay g1.bb H1 g1.callee.bare H1 := ⟨fun _ _ h _ => h, fun a h => .inl (G.bb_U.mpr (by
        rcases h with h | ⟨j, h⟩ | h
        · exact h.elim
        · exact h.elim
        · exact h)), Nat.le_refl _, fun _ _ => rfl, rfl⟩
      exact h2.stay st2
    · rw [if_neg hb] at h2 ⊢
      exact h2.stay st
/-- the caller's rows behind a call, with what the call made -/
theorem call_fresh {g1 g' : G} {ρ : Env} {S1 S2 : Store} {σ : L2.St} {H1 H' : Hp} {Fo : Addr → Prop} {outs : Env} {ms : List Md} {vs : List V} (R1 : Rel T g1 Γ ρ S1 σ H1) (R' : Rel T (g'.plus Fo) ms outs S2 (vs.map some) H') (f' : FrS g1.callee H1 g' H') (nf : ∀ i a, ¬ g'.F i a)
    (ho : ∀ a, Fo a → ¬ g1.callee.O a ∧ (g1.callee.U a ∨ H1 a = none)) : Rel T ((g1.back g').plusF ρ.length Fo) Γ ρ S2 σ H' ∧ (∀ a, Fo a → ¬ (g1.back g').U a ∧ (g1.B a ∨ H1 a = none)) := by
  obtain ⟨R2, fe, hU⟩ := call_back R1 R' f' nf
  have eO : ∀ a, g'.O a ↔ (g1.O a ∨ ∃ i, g1.F i a) := fun a => by rw [f'.O]; exact Iff.rfl
  have out : ∀ a, Fo a → ¬ (g1.back g').U a ∧ (g1.B a ∨ H1 a = none) := fun a z => by
    obtain ⟨h1, h2⟩ := ho a z
    refine ⟨fun u => ?_, h2.imp (fun u => ?_) id⟩
    · rcases u with u | u | u
      · exact h1 (.inl u)
      · exact h1 (.inr u)
      · exact R'.dOB a (.inr z) u
    · rcases G.callee_U.mp u with u | u | u
      · exact absurd (.inl u) h1
      · exact absurd (.inr u) h1
      · exact u
  refine ⟨?_, out⟩
  have hU2 : ∀ a, ((g1.back g').plusF ρ.length Fo).U a → (g'.plus Fo).U a := fun a u => by
    rcases G.plusF_U.mp u with u | u
    · exact hU a u
    · exact G.plus_U.mpr (.inr u)
  have st : Stay g1 H1 ((g1.back g').plusF ρ.length Fo) H' := ⟨fun a o h hu => fe.stay.keep a o h hu, fun a u => by
    rcases G.plusF_U.mp u with u | u
    · exact fe.stay.own a u
    · exact (out a u).2.imp (fun z => .inr (.inr z)) id, fe.N, fe.μ, fe.Z⟩
  have stb : Stay g1.bare H1 ((g1.back g').plusF ρ.length Fo).bare H' := ⟨fun a o h hu => fe.bare.keep a o h hu, fun a u => by
    rcases u with u | ⟨j, u | u⟩ | u
    · exact u.elim
    · exact fe.bare.own a (.inr (.inl ⟨j, u⟩))
    · exact (out a u.2).2.imp (fun z => .inr (.inr z)) id
    · exact fe.bare.own a (.inr (.inr u)), fe.N, fe.μ, fe.Z⟩
  refine ⟨R1.len, fun i d e => ?_, fun i j a h h' => ?_, fun i a h u => ?_, fun i a h u => ?_, fun a h => R2.dOB a h, fun a h => R'.dom a (hU2 a h), R'.st.keep (stay_iff hU2 rfl rfl) (fun _ _ _ h => h) rfl rfl rfl fun _ _ => rfl, fun a h => R'.nt a (hU2 a h)⟩
  · obtain ⟨v, h1, h2⟩ := R1.slot i d e
    refine ⟨v, h1, ?_⟩
    cases hm : Γ.getD i .s <;> rw [hm] at h2 <;> simp only [RepM] at h2 ⊢
    · exact h2.stay st
    · exact Own.wide _ _ _ _ _ (fun a z => .inl z) (Own.keepF st _ _ _ _ (fun a o z q => fe.keep a o q (R1.dFB i a z)) h2)
    · exact Own.keepF st _ _ _ _ (fun a o z q => fe.keep a o q (R1.dOB a z)) h2
    · refine ⟨h2.1.trans (by show g1.P i = g'.P i; rw [f'.P]; rfl), ?_⟩
      exact Own.wide _ _ _ _ _ (fun a z => .inl z) (Own.keepF st _ _ _ _ (fun a o z q => fe.keep a o q (R1.dFB i a z)) h2.2)
    · exact h2
    · exact h2.stay stb
  · rcases h with h | h <;> rcases h' with h' | h'
    · exact R1.dF i j a h h'
    · exact absurd (.inr (.inl ⟨i, h⟩)) (out a h'.2).1
    · exact absurd (.inr (.inl ⟨j, h'⟩)) (out a h.2).1
    · rw [h.1, h'.1]
  · rcases h with h | h
    · exact R1.dFO i a h u
    · exact (out a h.2).1 (.inl u)
  · rcases h with h | h
    · exact R2.dFB i a h u
    · exact (out a h.2).1 (.inr (.inr u))
/-- a call; what it makes is the caller's -/
theorem xf_callM {k n : Nat} {f : Addr} {fd : FuncData} {ps : List Str} {sg : Sig} {Φ : FF} {e : Expr} {es : List Expr} {A : FL} (F : FnOk X.prog X.w X.K X.mg X.base (L2.CX X.prog X.w) k f fd ps (spD T n sg Φ)) (hm : ∀ i, sg.ms.getD i .s = mdOf (bs.getD i false)) (hA : ∀ ρ S ds S1, A ρ S = .ok ds S1 → ds.length = n)
    (ha : XM X T W Γ bs es A) (he : PA X es (tM T W Γ bs A) → PE X e (tCallS (spD T n sg Φ) (WE W) (tM T W Γ bs A))) : XF X T W Γ sg.kr e (eCall Φ A) := pe_imp (he ha) fun σ H Q ⟨g, ρ, S, R, hg⟩ => by
  refine ⟨g, ρ, S, R, ?_⟩
  unfold eCall at hg
  cases ea : A ρ S with
  | exc x S1 => rw [ea] at hg; exact hg
  | no => rw [ea] at hg; exact hg
  | ok ds S1 =>
    rw [ea] at hg
    intro vs g1 H1 R1 f1 s1
    have hg : GoodN T W Γ sg.kr ρ σ g H (match Φ ds S1 with | .ok d _ S2 => .ok d S2 | .exc x _ S2 => .exc x S2 | .no => .no) Q := hg
    refine ⟨by rw [← s1.length]; exact hA ρ S ds S1 ea, g1.callee, ds, S1, rel_argsM R1 s1 hm, ?_⟩
    have npin : ∀ (i k : Nat), sg.ms.getD i .s ≠ .p k := fun i k h => by
      rw [hm] at h
      unfold mdOf at h
      split at h <;> cases h
    cases ef : Φ ds S1 with
    | no => rw [ef] at hg; exact hg
    | ok d outs S2 =>
      rw [ef] at hg
      intro v g' H' Fo R' f' nf ho hw
      have nf' : ∀ i a, ¬ g'.F i a := fun i a z => by
        obtain ⟨k, e⟩ := nf i a z
        exact npin i k e
      obtain ⟨R2, f2, hU⟩ := call_back R1 R' f' nf'
      obtain ⟨R3, out⟩ := call_fresh R1 R' f' nf' ho
      refine hg v (g1.back g') H' Fo R3 (f1.trans f2) (fun a z => ⟨(out a z).1, ?_⟩) ?_
      · rcases (out a z).2 with w | w
        · exact f1.B a w
        · exact f1.none w
      · have st : Stay (g'.plus Fo) H' ((g1.back g').plusF ρ.length Fo) H' := ⟨fun _ _ h _ => h, fun a h => .inl (by
          rcases G.plusF_U.mp h with h | h
          · exact hU a h
          · exact G.plus_U.mpr (.inr h)), Nat.le_refl _, fun _ _ => rfl, rfl⟩
        exact Own.keepF st _ _ _ _ (fun _ _ _ q => q) hw
    | exc x outs S2 =>
      rw [ef] at hg
      intro c dd g' H' R' f' nf ex
      have nf' : ∀ i a, ¬ g'.F i a := fun i a z => by
        obtain ⟨k, e⟩ := nf i a z
        exact npin i k e
      obtain ⟨R2, f2, hU⟩ := call_back R1 (plus_none R') f' nf'
      refine hg c dd (g1.back g') H' R2 (f1.trans f2) ?_
      obtain ⟨e0, e1, e2⟩ := ex
      refine ⟨e0, e1, e2.imp id fun ⟨d, fs, h1, h2, h3, h4, h5⟩ => ⟨d, fs, h1, h2, h3, h4, ?_⟩⟩
      have st : Stay g' H' (g1.back g') H' := ⟨fun _ _ h _ => h, fun a h => .inl (by
        rcases hU a h with (h | h) | h | h
        · exact .inl h
        · exact h.elim
        · exact .inr (.inl h)
        · exact .inr (.inr h)), Nat.le_refl _, fun _ _ => rfl, rfl⟩
      exact ShrL.stay st _ _ h5
/-! ### returns of what is owned -/
theorem xs_retF {J : Jd} {Γ' : List Md} {e : Expr} {A : FE} {st : Stmt} (hx : J.ΓX Γ) (hr : J.ΓR Γ) (ha : XF X T J.W Γ J.kr e A) (he : PE X e (tN T J.W Γ J.kr A) → PS X st (tRet (tN T J.W Γ J.kr A))) : XS X T J Γ Γ' st (fRet A) := ps_imp (he ha) fun D σ H ⟨g, ρ, S, R, h⟩ => by
  refine ⟨g, ρ, S, R, ?_⟩
  unfold fRet at h
  cases r : A ρ S with
  | no => rw [r] at h; exact h
  | exc x S1 => rw [r] at h; exact fun c dd g' H' R' f e => h Γ c dd σ g' H' hx R' (f.frs R.dOB) e
  | ok d S1 =>
    rw [r] at h
    intro v g' H' Fo R' f ho hw
    have st2 : Stay (g'.plusF ρ.length Fo) H' (g'.plus Fo) H' := ⟨fun _ _ h _ => h, fun a h => .inl (G.plusF_U.mpr (G.plus_U.mp h)), Nat.le_refl _, fun _ _ => rfl, rfl⟩
    refine h Γ v σ g' H' Fo hr ?_ (f.frs R.dOB) (fun a z => ⟨fun u => (ho a z).1 (.inl (by rw [f.O]; exact u)), (ho a z).2.imp (fun z => .inr (.inr z)) id⟩) (Own.keepF st2 _ _ _ _ (fun _ _ _ q => q) hw)
    refine R'.shift rfl rfl rfl rfl (fun a h => G.plusF_U.mpr (G.plus_U.mp h)) (fun i j a h h' => R'.dF i j a (.inl h) (.inl h')) (fun i a h u => ?_) (fun a h => ?_) (fun i a h => .inl ⟨i, .inl h⟩) R'.len fun st i d' e => ?_
    · rcases u with u | u
      · exact R'.dFO i a (.inl h) u
      · exact (ho a u).1 (.inr (.inl ⟨i, h⟩))
    · rcases h with h | h
      · exact .inl h
      · exact .inr ⟨ρ.length, .inr ⟨rfl, h⟩⟩
    · obtain ⟨w, h1, h2⟩ := R'.slot i d' e
      have hi : i < ρ.length := (List.getElem?_eq_some_iff.mp e).1
      exact ⟨w, h1, h2.stay st (fun a z => z.elim id fun z => absurd z.1 (by omega)) (fun a z => .inl z) rfl (bare_sub rfl rfl (fun i a z => ⟨i, .inl z⟩) fun _ z => z)⟩
theorem xs_retV {J : Jd} {Γ' : List Md} {i k : Nat} {st : Stmt} (hr : ∀ v, J.ΓR (Γ.set i (.e v))) (hi : i < Γ.length) (hm : Γ.getD i .s = .o k) (hk : J.kr = k) (he : PS X st (tRet (tVar i))) : XS X T J Γ Γ' st (fRet (eVar i)) := ps_imp he fun D σ H ⟨g, ρ, S, R, h⟩ => by
  have h : GoodS T J Γ' g H ((match ρ[i]? with | some (some d) => RE.ok d S | _ => .no).bindS ρ fun d S1 => .rt d ρ S1) D := h
  split at h
  · rename_i d e
    obtain ⟨v, h1, h2⟩ := R.slot i d e
    refine ⟨v, h1, ?_⟩
    rw [hm] at h2
    have hU : ∀ a, ((g.drop i).plus (g.F i)).U a → g.U a := fun a u => by
      rcases G.plus_U.mp u with u | u
      · exact G.drop_U u
      · exact .inr (.inl ⟨i, u⟩)
    have st2 : Stay g H ((g.drop i).plus (g.F i)) H := ⟨fun _ _ h _ => h, fun a u => .inl (hU a u), Nat.le_refl _, fun _ _ => rfl, rfl⟩
    refine h (Γ.set i (.e v)) v σ (g.drop i) H (g.F i) (hr v) ?_ .drop (fun a z => ⟨R.dFO i a z, .inl (.inr (.inl ⟨i, z⟩))⟩) (by rw [hk]; exact Own.keepF st2 _ _ _ _ (fun _ _ _ q => q) h2)
    refine R.shift rfl rfl rfl rfl hU (fun j k a h h' => R.dF j k a h.2 h'.2) (fun j a h u => ?_) (fun a h => h.imp id fun z => ⟨i, z⟩) (fun j a h => .inl ⟨j, h.2⟩) R.len fun st j d' e => ?_
    · rcases u with u | u
      · exact R.dFO j a h.2 u
      · exact h.1 (R.dF j i a h.2 u)
    · obtain ⟨w, q1, q2⟩ := R.slot j d' e
      refine ⟨w, q1, ?_⟩
      by_cases hj : i = j
      · subst hj
        rw [getD_set_self hi]
        rw [h1] at q1
        cases q1
        rfl
      · rw [getD_set_ne hj]
        exact q2.stay st (fun a z => ⟨fun q => hj q.symm, z⟩) (fun a z => .inl z) rfl (bare_sub rfl rfl (fun i a z => ⟨i, z.2⟩) fun _ z => z)
  · exact h.elim
/-! ### for the printer -/
theorem xq_varO {i k : Nat} {e : Expr} (he : PE X e (tVar i)) (hm : Γ.getD i .s = .o k) : XQ X T W Γ e (eVar i) := xq_var he fun v h => by rw [hm] at h; cases h
theorem xq_varL {i : Nat} {e : Expr} (he : PE X e (tVar i)) (hm : Γ.getD i .s = .l) : XQ X T W Γ e (eVar i) := xq_var he fun v h => by rw [hm] at h; cases h
def noPin (m : Md) : Bool := match m with
  | .p _ => false
  | _ => true
theorem gp_n {ms : List Md} {Γ : List Md} (h : ms.all noPin = true) : ΓP ms Γ := fun i k e => by
  have : ms.getD i .s ∈ ms ∨ ms.getD i .s = .s := by
    by_cases hi : i < ms.length
    · left; simp [List.getD, hi]
    · right; simp [List.getD, List.getElem?_eq_none (Nat.le_of_not_lt hi)]
  rcases this with h2 | h2
  · have := List.all_eq_true.mp h _ h2
    rw [e] at this
    cases this
  · rw [e] at h2; cases h2
theorem mdOf_rows {ms : List Md} {bs : List Bool} (h : ms = bs.map mdOf) : ∀ i, ms.getD i .s = mdOf (bs.getD i false) := fun i => by
  subst h
  by_cases hi : i < bs.length
  · simp [List.getD, hi]
  · simp [List.getD, List.getElem?_eq_none (Nat.le_of_not_lt hi)]
    rfl
end
section
variable {P : Program} {w : World} {K : PySem.W.Frag} {mg : Str → Option Value} {base : Heap} {T : Th}
/-- the rule of a def, its first rows given -/
theorem fn_okG {x qual : Str} {st : Stmt} {f : Addr} {fd : FuncData} {N ps : List Str} {k n : Nat} {sg : Sig} {B : FS} {Γ0 Γ' : List Md} (F : Fun K x qual st f fd) (Sc : FnScope N ps (defScope st)) (hn : ps.length = n) (hN : n ≤ N.length) (h0 : sg.ms ++ List.replicate (N.length - sg.ms.length) .s = Γ0)
    (hp : sg.ms.all noPin = true)
    (hbody : ∀ (cdv : Value) (A : Around) (outer : List PySem.Env) (s : Shared) (H : Hp) (E : XK), Room k (A.deeper (envOfC qual (defScope st) s.heap.objs.size f cdv)) →
      XB (cxOf (L2.CX P w) P w K mg base N qual (defScope st) f cdv A outer s H E) T (jdF sg.ms sg.kr E) Γ0 Γ' (defBody st) B) :
    FnOk P w K mg base (L2.CX P w) (k + 1) f fd ps (spD T n sg (fBody N.length n sg.ms B)) := fn_ok F Sc hn hN (fun cdv A outer s H E hr => by rw [h0]; exact hbody cdv A outer s H E hr) (gp_n hp)
theorem fn_okGR {qual : Str} {st : Stmt} {f : Addr} {fd : FuncData} {N ps : List Str} {k n : Nat} {sg : Sig} {B : FS} {Γ0 Γ' : List Md} (F : OkRule P w K mg base qual st f fd) (Sc : FnScope N ps (defScope st)) (hn : ps.length = n) (hN : n ≤ N.length) (h0 : sg.ms ++ List.replicate (N.length - sg.ms.length) .s = Γ0)
    (hp : sg.ms.all noPin = true)
    (hbody : ∀ (cdv : Value) (A : Around) (outer : List PySem.Env) (s : Shared) (H : Hp) (E : XK), Room k (A.deeper (envOfC qual (defScope st) s.heap.objs.size f cdv)) →
      XB (cxOf (L2.CX P w) P w K mg base N qual (defScope st) f cdv A outer s H E) T (jdF sg.ms sg.kr E) Γ0 Γ' (defBody st) B) :
    FnOk P w K mg base (L2.CX P w) (k + 1) f fd ps (spD T n sg (fBody N.length n sg.ms B)) := fn_okR F Sc hn hN (fun cdv A outer s H E hr => by rw [h0]; exact hbody cdv A outer s H E hr) (gp_n hp)
end
end Q

/-! Comprehensions whose list is owned; y = [..]. -/
namespace Q
open PySem PySem.Spec PyProof.Rows L2
section
variable {X : Cx} {T : Th} {W : WX} {Γ : List Md}
theorem Rel.carryF {g g' : G} {ρ : Env} {S S' : Store} {σ : L2.St} {H H' : Hp} {Fo : Addr → Prop} (R : Rel T g Γ ρ S σ H) (f : FrE g H g' H') (hf : ∀ a, Fo a → g.B a ∨ H a = none) (j : Dj T (g'.plusF ρ.length Fo) S' H') : Rel T (g'.plusF ρ.length Fo) Γ ρ S' σ H' := by
  refine ⟨R.len, fun i d e => ?_, j.dF, j.dFO, j.dFB, j.dOB, j.dom, j.st, j.nt⟩
  have st : Stay g H (g'.plusF ρ.length Fo) H' := ⟨fun a o h hu => f.stay.keep a o h hu, fun a u => by
    rcases G.plusF_U.mp u with u | u
    · exact f.stay.own a u
    · exact (hf a u).imp (fun z => .inr (.inr z)) id, f.N, f.μ, f.Z⟩
  have stb : Stay g.bare H (g'.plusF ρ.length Fo).bare H' := ⟨fun a o h hu => f.bare.keep a o h hu, fun a u => by
    rcases u with u | ⟨j, u | u⟩ | u
    · exact u.elim
    · exact f.bare.own a (.inr (.inl ⟨j, u⟩))
    · exact (hf a u.2).imp (fun z => .inr (.inr z)) id
    · exact f.bare.own a (.inr (.inr u)), f.N, f.μ, f.Z⟩
  obtain ⟨v, h1, h2⟩ := R.slot i d e
  refine ⟨v, h1, ?_⟩
  have wF : ∀ a, g.F i a → (g'.plusF ρ.length Fo).F i a := fun a z => .inl (by rw [f.F]; exact z)
  cases hm : Γ.getD i .s <;> rw [hm] at h2 <;> simp only [RepM] at h2 ⊢
  · exact h2.stay st
  · exact Own.wide _ _ _ _ _ wF (Own.keepF st _ _ _ _ (fun a o z q => f.keep a o q (R.dFB i a z)) h2)
  · have := Own.keepF st _ _ _ _ (fun a o z q => f.keep a o q (R.dOB a z)) h2
    exact Own.wide _ _ _ _ _ (fun a z => by show g'.O a; rw [f.O]; exact z) this
  · exact ⟨h2.1.trans (by show g.P i = g'.P i; rw [f.P]), Own.wide _ _ _ _ _ wF (Own.keepF st _ _ _ _ (fun a o z q => f.keep a o q (R.dFB i a z)) h2.2)⟩
  · exact h2
  · exact h2.stay stb
theorem lc_rd {vs : List Nat} {Γb : List Md} {is : List Nat} {t : TG} {tf : D → Env → Option Env} {FI : FL} {C E : FE} (his : ∀ j, j ∈ is → j ∈ vs) (ht : TgOk T Γ Γb is t tf) (σ : L2.St) (H : Hp) (Q : VK) (hh : tN T W Γ 1 (eLc FI vs tf C E) σ H Q) :
    tLc (tIF T W Γ FI) t (tXT T (fun _ _ _ _ => False) Γb C) (tX T (fun _ _ _ _ => False) Γb E) vs σ H Q := by
  obtain ⟨g, ρ, S, R, h⟩ := hh
  refine ⟨g, ρ, S, R, ?_⟩
  unfold eLc at h
  cases e : FI ρ S with
  | exc x S1 => rw [e] at h; exact h
  | no => rw [e] at h; exact h
  | ok ds S1 =>
    rw [e] at h
    intro It1 g1 H1 R1 f1 io p hp
    have h : GoodN T W Γ 1 ρ σ g H (match lcL tf C E ds (wipeE ρ vs) S1 with | .ok ys S2 => if ds.length ≤ 1000000 then RE.ok (.lst ys) S2 else .no | _ => .no) Q := h
    split at h
    · rename_i ys Sf el
      split at h
      · rename_i hlen
        have Rl := R1.lend vs
        have hpO : ∀ a, a = p → (g1.lend vs).U a → False := fun a ha u => by
          obtain ⟨o, q⟩ := Rl.dom a u
          rw [ha, hp] at q; cases q
        have Dp : Dj T ((g1.lend vs).plus (· = p)) S1 (upd H1 p (.lst [])) := by
          have st : Stay (g1.lend vs) (upd H1 p (.lst [])) ((g1.lend vs).plus (· = p)) (upd H1 p (.lst [])) → True := fun _ => trivial
          have e1 := Rl.ex (Exx.new (o := HO.lst []) hp)
          refine ⟨e1.dF, fun i a z w => w.elim (e1.dFO i a z) fun w => hpO a w (.inr (.inl ⟨i, z⟩)), e1.dFB, fun a w z => w.elim (fun w => e1.dOB a w z) fun w => hpO a w (.inr (.inr z)), fun a u => ?_, ?_, fun a u w r => ?_⟩
          · rcases u with (u | u) | u | u
            · exact e1.dom a (.inl u)
            · exact ⟨_, by rw [u]; exact upd_same⟩
            · exact e1.dom a (.inr (.inl u))
            · exact e1.dom a (.inr (.inr u))
          · refine Rl.st.keep (g' := (g1.lend vs).plus (· = p)) ⟨fun a o q _ => Exx.new hp a o q, fun a u => ?_, Nat.le_refl _, fun _ _ => rfl, rfl⟩ (fun a o _ q => Exx.new hp a o q) rfl rfl rfl fun _ _ => rfl
            rcases u with (u | u) | u | u
            · exact .inl (.inl u)
            · exact .inr (by rw [u]; exact hp)
            · exact .inl (.inr (.inl u))
            · exact .inl (.inr (.inr u))
          · by_cases ha : a = p
            · subst ha
              rcases r with r | ⟨b, r⟩
              · rw [upd_same] at r; cases r
              · rw [upd_same] at r; cases r
            · refine e1.nt a ?_ w r
              rcases u with (u | u) | u | u
              · exact .inl u
              · exact absurd u ha
              · exact .inr (.inl u)
              · exact .inr (.inr u)
        refine ⟨LcW T Γ vs tf C E g1 H1 ρ σ ds ys Sf p, ⟨ds.length, ⟨g1.lend vs, S1, [], [], ys, .ex (Exx.new hp), Dp, upd_same, .nil, by simp, Nat.zero_le _, Nat.zero_le _, by rw [List.drop_zero]; exact el, rfl⟩⟩, ?_⟩
        rintro i m H' ⟨g0, Si, vacc, acc, rest, fr, dj, hacc, sacc, em, hi', ha, hl, hy⟩
        have fO : ∀ a, a = p → H1 a = none := fun a z => by rw [z]; exact hp
        have Rw : Rel T (g0.plus (· = p)) Γ (wipeE ρ vs) Si (wipe σ vs) H' := Rl.carry fr fO dj
        have st0 : Stay g1 H1 g0 H' := ⟨fun a o q hu => fr.stay.keep a o q fun z => hu (G.lend_U.mp z), fun a u => (fr.stay.own a u).imp G.lend_U.mp id, fr.N, fr.μ, fr.Z⟩
        obtain ⟨i1, i2⟩ := io g0 H' i st0 fr.keep
        by_cases hlt : i < ds.length
        · refine .inr ?_
          obtain ⟨d, hd⟩ : ∃ d, ds[i]? = some d := ⟨ds[i], List.getElem?_eq_getElem hlt⟩
          have stp : Stay g1 H1 (g0.plus (· = p)) H' := ⟨st0.keep, fun a u => by
            rcases u with (u | u) | u | u
            · exact st0.own a (.inl u)
            · exact .inr (fO a u)
            · exact st0.own a (.inr (.inl u))
            · exact st0.own a (.inr (.inr u)), st0.N, st0.μ, st0.Z⟩
          obtain ⟨_, i2⟩ := io (g0.plus (· = p)) H' i stp fr.keep
          obtain ⟨go, yl⟩ := i2 d hd
          refine ⟨go, fun H2 => ∃ m', m' < m ∧ LcW T Γ vs tf C E g1 H1 ρ σ ds ys Sf p (i + 1) m' H2, fun H2 ⟨m', l, w⟩ => ⟨m', l, w⟩, fun x H2 y => ?_⟩
          obtain ⟨ex, sx⟩ := yl x H2 y
          have R2 := Rw.ex ex
          have ed : ds.drop i = d :: ds.drop (i + 1) := by
            rw [List.drop_eq_getElem_cons hlt]
            rw [List.getElem?_eq_getElem hlt] at hd
            rw [Option.some.inj hd]
          rw [ed, lcL] at hl
          split at hl
          · cases hl
          · rename_i ρ1 e1
            refine ht _ _ ρ1 Si _ H2 d x _ R2 sx e1 fun σ3 R3 l3 k3 => ⟨(wipe_get (is := is) l3 k3 his).trans wipe_wipe, _, ρ1, Si, R3, ?_⟩
            have fO2 : ∀ (g4 : G) (H4 : Hp), FrE ((g0.plus (· = p)).drops is) H2 g4 H4 → FrE (g1.lend vs) H1 { g4 with O := g0.O, F := g0.F } H4 ∧ ({ g4 with O := g0.O, F := g0.F } : G).plus (· = p) = g4 := fun g4 H4 f4 => by
              refine ⟨(fr.trans (.ex ex)).trans (f4.swap (g2 := g0) rfl rfl rfl rfl), ?_⟩
              have eO := f4.O
              have eF := f4.F
              obtain ⟨N4, μ4, O4, F4, B4, BF4, P4⟩ := g4
              simp only at eO eF
              subst eO eF
              show G.mk N4 μ4 (fun a => g0.O a ∨ a = p) g0.F B4 BF4 P4 = G.mk N4 μ4 (fun a => g0.O a ∨ a = p) (fun j a => j ∉ is ∧ g0.F j a) B4 BF4 P4
              congr 1
              funext j a
              rw [fr.F]
              exact propext ⟨fun z => ⟨fun w => z.1 (his j w), z⟩, fun z => z.2⟩
            have kp : ∀ (g4 : G) (H4 : Hp), FrE ((g0.plus (· = p)).drops is) H2 g4 H4 → g4.O p ∧ H4 p = some (.lst vacc) := fun g4 H4 f4 =>
              ⟨by rw [f4.O]; exact .inr rfl, f4.keep p _ (ex p _ hacc) (dj.dOB p (.inr rfl))⟩
            have sk : ∀ (g4 : G) (H4 : Hp), FrE ((g0.plus (· = p)).drops is) H2 g4 H4 → ShrL T g4 H4 acc vacc := fun g4 H4 f4 =>
              ShrL.stay (((Stay.ex ex).trans FrS.drops.stay).trans f4.stay) _ _ sacc
            split at hl
            · rename_i S2 ec
              rw [ec]
              refine ⟨true, rfl, fun g2 H3 R4 f3 => ?_⟩
              refine iteT ⟨g2, ρ1, S2, R4, ?_⟩
              split at hl
              · rename_i y2 S3 ey
                rw [ey]
                intro v g4 H4 R5 f4 s4
                have f34 := f3.trans f4
                obtain ⟨pO, pH⟩ := kp g4 H4 f34
                obtain ⟨fa, fe⟩ := fO2 g4 H4 f34
                have sa := sk g4 H4 f34
                split at hl
                · rename_i ys' S4 ely
                  cases hl
                  refine ⟨vacc, pH, by rw [← sa.length]; exact sz_lt6 (by omega), ds.length - (i + 1), by omega, ⟨{ g4 with O := g0.O, F := g0.F }, S3, vacc ++ [v], acc ++ [y2], ys', fa.upd hp, ?_, upd_same, ?_, rfl, hlt, by rw [List.length_append]; simp; omega, ely, by rw [hy, List.append_assoc]; rfl⟩⟩
                  · rw [fe]; exact R5.dj.write (fun _ => ⟨nofun, fun _ => nofun⟩) pO
                  · rw [fe]
                    have stw : Stay g4 H4 g4 (upd H4 p (.lst (vacc ++ [v]))) := ⟨fun a u h hu => by rw [upd_ne (fun z => hu (.inl (by rw [z]; exact pO)))]; exact h, fun _ h => .inl h, Nat.le_refl _, fun _ _ => rfl, rfl⟩
                    exact ShrL.append (sa.stay stw) ((ShrL.cons s4 .nil).stay stw)
                · cases hl
              · cases hl
            · rename_i S2 ec
              rw [ec]
              refine ⟨false, rfl, fun g2 H3 R4 f3 => iteF ?_⟩
              obtain ⟨pO, pH⟩ := kp g2 H3 f3
              obtain ⟨fa, fe⟩ := fO2 g2 H3 f3
              exact ⟨ds.length - (i + 1), by omega, ⟨{ g2 with O := g0.O, F := g0.F }, S2, vacc, acc, rest, fa, by rw [fe]; exact R4.dj, pH, by rw [fe]; exact sk g2 H3 f3, rfl, hlt, by omega, hl, hy⟩⟩
            · cases hl
        · have e1 : i = ds.length := by omega
          subst e1
          refine .inl ⟨i1 (Nat.le_refl _), ?_⟩
          rw [List.drop_length, lcL] at hl
          cases hl
          rw [List.append_nil] at hy
          subst hy
          have ff : FrE g1 H1 { g0 with O := g1.O, F := g1.F } H' := fr.swap (g2 := g1) rfl rfl rfl rfl
          have uu : ∀ a, ({ g0 with O := g1.O, F := g1.F } : G).U a → (g0.plus (· = p)).U a := fun a u => by
            rcases u with u | ⟨j, u⟩ | u
            · exact .inl (.inl (by rw [fr.O]; exact .inl u))
            · by_cases hj : j ∈ vs
              · exact .inl (.inl (by rw [fr.O]; exact .inr ⟨j, hj, u⟩))
              · exact .inr (.inl ⟨j, by rw [show (g0.plus (· = p)).F = g0.F from rfl, fr.F]; exact ⟨hj, u⟩⟩)
            · exact .inr (.inr u)
          have dOB' : ∀ a, (g1.O a ∨ ∃ j, g1.F j a) → ¬ g0.B a := fun a u z => by
            have := uu a (u.elim .inl fun w => .inr (.inl w))
            rcases fr.B a z with w | w
            · exact u.elim (fun q => R1.dOB a q w) fun ⟨j, q⟩ => R1.dFB j a q w
            · obtain ⟨o, q⟩ := R1.dom a (u.elim .inl fun q => .inr (.inl q))
              rw [w] at q; cases q
          have stf : Stay (g0.plus (· = p)) H' { g0 with O := g1.O, F := g1.F } H' := ⟨fun _ _ h _ => h, fun a u => .inl (uu a u), Nat.le_refl _, fun _ _ => rfl, rfl⟩
          have np : ¬ ({ g0 with O := g1.O, F := g1.F } : G).U p := fun u => by
            rcases u with u | u | u
            · obtain ⟨o, q⟩ := R1.dom p (.inl u)
              rw [hp] at q; cases q
            · obtain ⟨o, q⟩ := R1.dom p (.inr (.inl u))
              rw [hp] at q; cases q
            · exact dj.dOB p (.inr rfl) u
          have uu2 : ∀ a, (({ g0 with O := g1.O, F := g1.F } : G).plusF ρ.length (· = p)).U a → (g0.plus (· = p)).U a := fun a u => (G.plusF_U.mp u).elim (uu a) fun w => .inl (.inr w)
          have stf2 : Stay (g0.plus (· = p)) H' (({ g0 with O := g1.O, F := g1.F } : G).plusF ρ.length (· = p)) H' := ⟨fun _ _ h _ => h, fun a u => .inl (uu2 a u), Nat.le_refl _, fun _ _ => rfl, rfl⟩
          have djf : Dj T (({ g0 with O := g1.O, F := g1.F } : G).plusF ρ.length (· = p)) Sf H' := by
            refine ⟨fun i j a h h' => ?_, fun i a h u => ?_, fun i a h u => ?_, fun a u z => dOB' a (.inl u) z, fun a u => dj.dom a (uu2 a u), dj.st.keep stf2 (fun _ _ _ q => q) rfl rfl rfl fun _ _ => rfl, fun a u => dj.nt a (uu2 a u)⟩
            · rcases h with h | h <;> rcases h' with h' | h'
              · exact R1.dF i j a h h'
              · exact absurd (.inr (.inl ⟨i, by rw [← h'.2]; exact h⟩)) np
              · exact absurd (.inr (.inl ⟨j, by rw [← h.2]; exact h'⟩)) np
              · rw [h.1, h'.1]
            · rcases h with h | h
              · exact R1.dFO i a h u
              · exact np (.inl (by rw [← h.2]; exact u))
            · rcases h with h | h
              · exact dOB' a (.inr ⟨i, h⟩) u
              · exact dj.dOB a (.inr h.2) u
          refine h (.ref p) _ H' (· = p) (R1.carryF ff (fun a z => .inr (by rw [z]; exact hp)) djf) (f1.trans ff) (fun a z => ⟨by rw [z]; exact np, ?_⟩) (own1_lst.mpr ⟨p, vacc, rfl, rfl, hacc, ShrL.stay stf2 _ _ sacc⟩)
          rw [z]; exact f1.none hp
      · exact h.elim
    · exact h.elim
theorem tn_of {k : Nat} {F : FE} {σ : L2.St} {H : Hp} {Q : VK} (h : tX T W Γ F σ H Q) : tN T W Γ k F σ H Q := by
  obtain ⟨g, ρ, S, R, hg⟩ := h
  refine ⟨g, ρ, S, R, ?_⟩
  cases r : F ρ S with
  | ok d S1 =>
    rw [r] at hg
    exact fun v g' H' Fo R' f' ho hw => hg v g' H' R'.unplus f' (shr_of_own2 stay_unplus k Fo d v (fun a z => (ho a z).1) hw)
  | exc x S1 => rw [r] at hg; exact hg
  | no => rw [r] at hg; exact hg
theorem xf_lc {elt tg iter : Expr} {ifs : List Expr} {scope : Scope} {own : List (Str × Nat)} {pos : Pos} {Γb : List Md} {is : List Nat} {t : TG} {tf : D → Env → Option Env} {FI : FL} {C E : FE} (hc : X.calm = true) (hN : X.N.Nodup) (hi : XIF X T W Γ tg iter FI)
    (ok : BlkOk X.N X.env.scope scope own) (his : ∀ j, j ∈ is → j ∈ own.map (·.2))
    (hg : ∀ (s : Shared) (H : Hp) (C : Addr) (cl : List (Str × Addr)) (fp : List Addr), PG (X.blk s H scope (compEnvC scope cl C X.env) fp) tg t) (ht : TgOk T Γ Γb is t tf)
    (hts : ∀ (s : Shared) (H : Hp) (D : Addr) (cl : List (Str × Addr)) (fp : List Addr), XTs (X.blk s H scope (compEnvC scope cl D X.env) fp) T (fun _ _ _ _ => False) Γb ifs C)
    (he : ∀ (s : Shared) (H : Hp) (D : Addr) (cl : List (Str × Addr)) (fp : List Addr), XE (X.blk s H scope (compEnvC scope cl D X.env) fp) T (fun _ _ _ _ => False) Γb elt E) (hs : ∀ x, foldedSetIterable iter X.env x = pure x := by intro _; rfl) :
    XF X T W Γ 1 (.ListComp elt [⟨tg, iter, ifs, 0⟩] scope pos) (eLc FI (own.map (·.2)) tf C E) := pe_imp (pe_lc hc hN hi ok hg hts he hs) fun σ H Q h => lc_rd his ht σ H Q h
/-- y = [..] -/
theorem ps_lcX {i : Nat} {st : Stmt} {vs : List Nat} {Γb : List Md} {is : List Nat} {t : TG} {tf : D → Env → Option Env} {FI : FL} {C E : FE} (his : ∀ j, j ∈ is → j ∈ vs) (ht : TgOk T Γ Γb is t tf)
    (h : PS X st (tAsg (tLc (tIF T W Γ FI) t (tXT T (fun _ _ _ _ => False) Γb C) (tX T (fun _ _ _ _ => False) Γb E) vs) (gName i))) : PS X st (tAsg (tN T W Γ 1 (eLc FI vs tf C E)) (gName i)) := ps_imp h fun D σ H q => lc_rd his ht σ H _ q
theorem ps_lcS {i : Nat} {st : Stmt} {F : FE} (h : PS X st (tAsg (tN T W Γ 1 F) (gName i))) : PS X st (tAsg (tX T W Γ F) (gName i)) := ps_imp h fun D σ H q => tn_of q
theorem xs_setP {J : Jd} {Γ' : List Md} {i : Nat} {A : FE} {st : Stmt} (hx : J.ΓX Γ) (he : PS X st (tAsg (tX T J.W Γ A) (gName i))) (hΓ : Γ.set i .s = Γ') : XS X T J Γ Γ' st (fSet i A) := ps_imp he fun D σ H ⟨g, ρ, S, R, h⟩ =>
  ⟨g, ρ, S, R, good_bindS R hx h fun d S1 v g1 H1 _ R1 f1 s1 h1 => h1 _ (g1.drop i) H1 (by rw [← hΓ]; exact R1.set s1) .drop⟩
end
end Q

/-! sorted(set(..)), sorted(..), and more of the built-in functions. -/
namespace Q
open PySem PySem.Spec PyProof.Rows L2
/-! ### sorted without doubles -/
def insU (x : Int) : List Int → List Int
  | [] => [x]
  | y :: r => if x < y then x :: y :: r else if x = y then y :: r else y :: insU x r
def usort : List Int → List Int
  | [] => []
  | x :: r => insU x (usort r)
theorem insU_mem {x z : Int} : ∀ {l : List Int}, z ∈ insU x l ↔ z = x ∨ z ∈ l
  | [] => by simp [insU]
  | y :: r => by
    unfold insU
    split
    · simp
    · split
      · rename_i h; subst h; simp
      · simp only [List.mem_cons, insU_mem (l := r)]
        constructor
        · rintro (h | h | h)
          · exact .inr (.inl h)
          · exact .inl h
          · exact .inr (.inr h)
        · rintro (h | h | h)
          · exact .inr (.inl h)
          · exact .inl h
          · exact .inr (.inr h)
theorem insU_sorted {x : Int} : ∀ {l : List Int}, l.Pairwise (· < ·) → (insU x l).Pairwise (· < ·)
  | [], _ => by simp [insU]
  | y :: r, h => by
    unfold insU
    rw [List.pairwise_cons] at h
    split
    · rename_i hx
      rw [List.pairwise_cons, List.pairwise_cons]
      refine ⟨fun z hz => ?_, h⟩
      rcases List.mem_cons.mp hz with e | e
      · rw [e]; exact hx
      · exact Int.lt_trans hx (h.1 z e)
    · split
      · rw [List.pairwise_cons]; exact h
      · rename_i h1 h2
        rw [List.pairwise_cons]
        refine ⟨fun z hz => ?_, insU_sorted h.2⟩
        rcases insU_mem.mp hz with e | e
        · rw [e]; omega
        · exact h.1 z e
theorem usort_mem {z : Int} : ∀ {l : List Int}, z ∈ usort l ↔ z ∈ l
  | [] => by simp [usort]
  | x :: r => by rw [usort, insU_mem, usort_mem (l := r), List.mem_cons]
theorem usort_sorted : ∀ l : List Int, (usort l).Pairwise (· < ·)
  | [] => .nil
  | x :: r => insU_sorted (usort_sorted r)
/-- rising lists of the same members are the same -/
theorem rising_ext : ∀ {a b : List Int}, a.Pairwise (· < ·) → b.Pairwise (· < ·) → (∀ z, z ∈ a ↔ z ∈ b) → a = b
  | [], [], _, _, _ => rfl
  | [], y :: b, _, _, h => by have := (h y).mpr (List.mem_cons_self); simp at this
  | x :: a, [], _, _, h => by have := (h x).mp (List.mem_cons_self); simp at this
  | x :: a, y :: b, ha, hb, h => by
    rw [List.pairwise_cons] at ha hb
    have e : x = y := by
      rcases List.mem_cons.mp ((h x).mp List.mem_cons_self) with e | e
      · exact e
      · rcases List.mem_cons.mp ((h y).mpr List.mem_cons_self) with e2 | e2
        · exact e2.symm
        · have := ha.1 y e2
          have := hb.1 x e
          omega
    subst e
    rw [rising_ext ha.2 hb.2 fun z => ?_]
    constructor
    · intro hz
      rcases List.mem_cons.mp ((h z).mp (List.mem_cons_of_mem _ hz)) with e | e
      · have := ha.1 z hz; omega
      · exact e
    · intro hz
      rcases List.mem_cons.mp ((h z).mpr (List.mem_cons_of_mem _ hz)) with e | e
      · have := hb.1 z hz; omega
      · exact e
theorem usort_eq {a b : List Int} (ha : a.Pairwise (· < ·)) (h : ∀ z, z ∈ a ↔ z ∈ b) : a = usort b := rising_ext ha (usort_sorted b) fun z => (h z).trans usort_mem.symm
/-! ### sorted -/
def insS (x : Int) : List Int → List Int
  | [] => [x]
  | y :: r => if x ≤ y then x :: y :: r else y :: insS x r
def isort : List Int → List Int
  | [] => []
  | x :: r => insS x (isort r)
theorem insS_perm {x : Int} : ∀ {l : List Int}, (insS x l).Perm (x :: l)
  | [] => .refl _
  | y :: r => by
    unfold insS
    split
    · exact .refl _
    · exact (List.Perm.cons y insS_perm).trans (List.Perm.swap x y r)
theorem insS_sorted {x : Int} : ∀ {l : List Int}, l.Pairwise (· ≤ ·) → (insS x l).Pairwise (· ≤ ·)
  | [], _ => by simp [insS]
  | y :: r, h => by
    unfold insS
    rw [List.pairwise_cons] at h
    split
    · rename_i hx
      rw [List.pairwise_cons, List.pairwise_cons]
      refine ⟨fun z hz => ?_, h⟩
      rcases List.mem_cons.mp hz with e | e
      · rw [e]; exact hx
      · exact Int.le_trans hx (h.1 z e)
    · rename_i hx
      rw [List.pairwise_cons]
      refine ⟨fun z hz => ?_, insS_sorted h.2⟩
      rcases List.mem_cons.mp ((insS_perm.mem_iff).mp hz) with e | e
      · rw [e]; omega
      · exact h.1 z e
theorem isort_perm : ∀ l : List Int, (isort l).Perm l
  | [] => .refl _
  | x :: r => insS_perm.trans (.cons x (isort_perm r))
theorem isort_sorted : ∀ l : List Int, (isort l).Pairwise (· ≤ ·)
  | [] => .nil
  | x :: r => insS_sorted (isort_sorted r)
theorem sorted_perm : ∀ {a b : List Int}, a.Pairwise (· ≤ ·) → b.Pairwise (· ≤ ·) → a.Perm b → a = b
  | [], b, _, _, p => (List.nil_perm.mp p).symm
  | x :: a, [], _, _, p => by have := p.length_eq; simp at this
  | x :: a, y :: b, ha, hb, p => by
    rw [List.pairwise_cons] at ha hb
    have h1 : y ∈ x :: a := p.mem_iff.mpr List.mem_cons_self
    have h2 : x ∈ y :: b := p.mem_iff.mp List.mem_cons_self
    have e : x = y := by
      rcases List.mem_cons.mp h1 with e | e
      · exact e.symm
      · rcases List.mem_cons.mp h2 with e2 | e2
        · exact e2
        · have := ha.1 y e
          have := hb.1 x e2
          omega
    subst e
    rw [sorted_perm ha.2 hb.2 (List.perm_cons x |>.mp p)]
theorem isort_eq {a b : List Int} (ha : a.Pairwise (· ≤ ·)) (p : a.Perm b) : a = isort b := sorted_perm ha (isort_sorted b) (p.trans (isort_perm b).symm)
def hSortSet : D → Option D
  | .lst l => match intsOf l with
    | some ns => if ns.length < 63 then some (.lst ((usort ns).map .int)) else none
    | none => none
  | _ => none
def hSort : D → Option D
  | .lst l => (intsOf l).map fun ns => .lst ((isort ns).map .int)
  | _ => none
def rSort1 (K : PySem.W.Frag) : V → Hp → VK → Prop := fun v H Q => rSortedI K [v] H Q
section
variable {T : Th}
theorem ok_sort : UnOk T (rSort1 T.K) hSort := by
  intro g H x z v sx e hd Q q
  cases x <;> simp only [hSort] at e <;> first | cases e | skip
  rename_i l
  obtain ⟨ns, en, e⟩ := Option.map_eq_some_iff.mp e
  subst e
  obtain ⟨a, vs, rfl, la, ra⟩ := shr_lst.mp sx
  obtain ⟨h1, h2⟩ := intsOf_map en ra
  subst h1
  refine ⟨a, ns, rfl, .of la.1, fun ms p hp hs hn => ?_⟩
  rw [isort_eq hs hp]
  refine q _ _ (Exx.new hn) ?_
  refine shr_lst.mpr ⟨p, _, rfl, ⟨upd_same, fun u => ?_⟩, shrL_int _⟩
  obtain ⟨o, ho⟩ := hd p u
  rw [hn] at ho; cases ho
end
end Q

/-! list(), tuple(), sum(), any(), all(), int(), str(), join, split, index, is None. -/
namespace Q
open PySem PySem.Spec PyProof.Rows L2
abbrev r1 (r : List V → Hp → VK → Prop) : V → Hp → VK → Prop := fun v H Q => r [v] H Q
abbrev r2 (r : List V → Hp → VK → Prop) : R2 := fun v w H Q => r [v, w] H Q
section
variable {T : Th}
abbrev rListOf (K : PySem.W.Frag) : List V → Hp → VK → Prop := fun xs H Q => ∃ p ys, xs = [V.ref p] ∧ (SqL K H p ys ∨ SqT K H p ys) ∧ ∀ l, H l = none → Q (.ref l) (upd H l (.lst ys))
abbrev rTupOf (K : PySem.W.Frag) : List V → Hp → VK → Prop := fun xs H Q => ∃ p ys, xs = [V.ref p] ∧ ((SqL K H p ys ∧ ∀ l, H l = none → Q (.ref l) (upd H l (.tup ys))) ∨ (SqT K H p ys ∧ Q (.ref p) H))
def hList : D → Option D
  | .lst l => some (.lst l)
  | .scr l => some (.lst l)
  | .tup l => some (.lst l)
  | _ => none
theorem ok_list : UnOk T (r1 (rListOf T.K)) hList := by
  intro g H x z v sx e hd Q q
  cases x <;> simp only [hList] at e <;> cases e
  · obtain ⟨a, vs, rfl, la, ra⟩ := shr_tup.mp sx
    exact ⟨a, vs, rfl, .inr la.sq, fun p hp => q _ _ (Exx.new hp) (shr_newL ra hp hd)⟩
  · obtain ⟨a, vs, rfl, la, ra⟩ := shr_lst.mp sx
    exact ⟨a, vs, rfl, .inl (.of la.1), fun p hp => q _ _ (Exx.new hp) (shr_newL ra hp hd)⟩
  · obtain ⟨a, vs, rfl, la, ra⟩ := shr_scr.mp sx
    exact ⟨a, vs, rfl, .inl la.sq, fun p hp => q _ _ (Exx.new hp) (shr_newL ra hp hd)⟩
def hTuple : D → Option D
  | .lst l => some (.tup l)
  | .scr l => some (.tup l)
  | .tup l => some (.tup l)
  | _ => none
theorem ok_tuple : UnOk T (r1 (rTupOf T.K)) hTuple := by
  intro g H x z v sx e hd Q q
  cases x <;> simp only [hTuple] at e <;> cases e
  · obtain ⟨a, vs, rfl, la, ra⟩ := shr_tup.mp sx
    exact ⟨a, vs, rfl, .inr ⟨la.sq, q _ H (.refl H) sx⟩⟩
  · obtain ⟨a, vs, rfl, la, ra⟩ := shr_lst.mp sx
    exact ⟨a, vs, rfl, .inl ⟨.of la.1, fun p hp => q _ _ (Exx.new hp) (shr_newT ra hp hd)⟩⟩
  · obtain ⟨a, vs, rfl, la, ra⟩ := shr_scr.mp sx
    exact ⟨a, vs, rfl, .inl ⟨la.sq, fun p hp => q _ _ (Exx.new hp) (shr_newT ra hp hd)⟩⟩
/-! is None -/
theorem isN_none {x y : D} {z : D} (e : hIsN x y = some z) : y = .non := by
  cases y <;> first | rfl | (cases x <;> simp only [hIsN] at e <;> cases e)
theorem ok_isN : OpOk T (fun x y H Q => y = .non ∧ Q (.bl (decide (x = .non))) H) hIsN := by
  intro g H x y z v w sx sy e hd Q q
  have ey := isN_none e
  subst ey
  refine ⟨shr_non.mp sy, ?_⟩
  cases x <;> simp only [hIsN] at e <;> cases e
  · rw [shr_non.mp sx]; exact q _ H (.refl H) (shr_bl.mpr rfl)
  all_goals
    rw [decide_eq_false (shr_ne_non sx (by intro h; cases h) (by intro k h; cases h))]
    exact q _ H (.refl H) (shr_bl.mpr rfl)
theorem notN_none {x y : D} {z : D} (e : hNotN x y = some z) : y = .non := by
  cases y <;> first | rfl | (cases x <;> simp only [hNotN] at e <;> cases e)
theorem ok_notN : OpOk T (fun x y H Q => y = .non ∧ Q (.bl (!decide (x = .non))) H) hNotN := by
  intro g H x y z v w sx sy e hd Q q
  have ey := notN_none e
  subst ey
  refine ⟨shr_non.mp sy, ?_⟩
  cases x <;> simp only [hNotN] at e <;> cases e
  · rw [shr_non.mp sx]; exact q _ H (.refl H) (shr_bl.mpr rfl)
  all_goals
    rw [decide_eq_false (shr_ne_non sx (by intro h; cases h) (by intro k h; cases h))]
    exact q _ H (.refl H) (shr_bl.mpr rfl)
/-! of lists -/
def hSum : D → Option D
  | .lst l => (intsOf l).map fun ns => .int ns.sum
  | _ => none
theorem ok_sum : UnOk T (r1 (rSum T.K)) hSum := by
  intro g H x z v sx e hd Q q
  cases x <;> simp only [hSum] at e <;> first | cases e | skip
  obtain ⟨ns, en, e⟩ := Option.map_eq_some_iff.mp e
  subst e
  obtain ⟨a, vs, rfl, la, ra⟩ := shr_lst.mp sx
  obtain ⟨h1, h2⟩ := intsOf_map en ra
  subst h1
  exact ⟨a, ns, rfl, .of la.1, q _ H (.refl H) (shr_int.mpr rfl)⟩
def blsOf : List D → Option (List Bool)
  | [] => some []
  | .bl i :: r => (blsOf r).map (i :: ·)
  | _ => none
theorem blsOf_map {g : G} {H : Hp} : ∀ {l : List D} {ns : List Bool} {vs : List V}, blsOf l = some ns → ShrL T g H l vs → vs = ns.map V.bl ∧ l = ns.map D.bl
  | [], ns, vs, e, s => by
    cases e
    simp only [ShrL] at s
    subst s
    exact ⟨rfl, rfl⟩
  | d :: r, ns, vs, e, s => by
    cases d <;> simp only [blsOf] at e <;> first | cases e | skip
    rename_i i
    obtain ⟨ms, e1, e2⟩ := Option.map_eq_some_iff.mp e
    subst e2
    simp only [ShrL] at s
    obtain ⟨v, us, rfl, sv, s⟩ := s
    obtain ⟨h1, h2⟩ := blsOf_map e1 s
    rw [shr_bl.mp sv, h1, h2]
    exact ⟨rfl, rfl⟩
def hAny : D → Option D
  | .lst l => (blsOf l).map fun ns => .bl (ns.any id)
  | _ => none
theorem ok_any : UnOk T (r1 (rAny T.K)) hAny := by
  intro g H x z v sx e hd Q q
  cases x <;> simp only [hAny] at e <;> first | cases e | skip
  obtain ⟨ns, en, e⟩ := Option.map_eq_some_iff.mp e
  subst e
  obtain ⟨a, vs, rfl, la, ra⟩ := shr_lst.mp sx
  obtain ⟨h1, h2⟩ := blsOf_map en ra
  subst h1
  exact ⟨a, ns, rfl, .of la.1, q _ H (.refl H) (shr_bl.mpr rfl)⟩
def hAll : D → Option D
  | .lst l => (blsOf l).map fun ns => .bl (ns.all id)
  | _ => none
theorem ok_all : UnOk T (r1 (rAll T.K)) hAll := by
  intro g H x z v sx e hd Q q
  cases x <;> simp only [hAll] at e <;> first | cases e | skip
  obtain ⟨ns, en, e⟩ := Option.map_eq_some_iff.mp e
  subst e
  obtain ⟨a, vs, rfl, la, ra⟩ := shr_lst.mp sx
  obtain ⟨h1, h2⟩ := blsOf_map en ra
  subst h1
  exact ⟨a, ns, rfl, .of la.1, q _ H (.refl H) (shr_bl.mpr rfl)⟩
/-! max, min of two -/
abbrev rMax2 : List V → Hp → VK → Prop := fun xs H Q => ∃ i j, xs = [V.int i, V.int j] ∧ Q (.int (if j > i then j else i)) H
abbrev rMin2 : List V → Hp → VK → Prop := fun xs H Q => ∃ i j, xs = [V.int i, V.int j] ∧ Q (.int (if j < i then j else i)) H
def hMax2 : List D → Option D
  | [.int i, .int j] => some (.int (if j > i then j else i))
  | _ => none
def hMin2 : List D → Option D
  | [.int i, .int j] => some (.int (if j < i then j else i))
  | _ => none
theorem ok_max2 : LsOk T rMax2 hMax2 := by
  intro g H xs z vs s e hd Q q
  match xs, e, s with
  | [.int i, .int j], e, s =>
    simp only [hMax2] at e
    cases e
    simp only [ShrL] at s
    obtain ⟨v, _, rfl, sv, w, _, rfl, sw, rfl⟩ := s
    rw [shr_int.mp sv, shr_int.mp sw]
    exact ⟨i, j, rfl, q _ H (.refl H) (shr_int.mpr rfl)⟩
theorem ok_min2 : LsOk T rMin2 hMin2 := by
  intro g H xs z vs s e hd Q q
  match xs, e, s with
  | [.int i, .int j], e, s =>
    simp only [hMin2] at e
    cases e
    simp only [ShrL] at s
    obtain ⟨v, _, rfl, sv, w, _, rfl, sw, rfl⟩ := s
    rw [shr_int.mp sv, shr_int.mp sw]
    exact ⟨i, j, rfl, q _ H (.refl H) (shr_int.mpr rfl)⟩
/-! texts -/
abbrev rStrI : List V → Hp → VK → Prop := fun xs H Q => ∃ i, xs = [V.int i] ∧ i.natAbs.log2 < 1920 ∧ Q (.str (toString i)) H
def hStr : D → Option D
  | .int i => if i.natAbs.log2 < 1920 then some (.str (toString i)) else none
  | _ => none
theorem ok_str : UnOk T (r1 rStrI) hStr := by
  intro g H x z v sx e hd Q q
  cases x <;> simp only [hStr] at e <;> first | cases e | skip
  split at e
  · rename_i hl
    cases e
    exact ⟨_, by rw [shr_int.mp sx], hl, q _ H (.refl H) (shr_str.mpr rfl)⟩
  · cases e
abbrev rIntS : List V → Hp → VK → Prop := fun xs H Q => ∃ a n, xs = [V.str a] ∧ PySem.intText? a = some n ∧ a.length ≤ 640 ∧ Q (.int n) H
def hIntS : D → Option D
  | .str a => if a.length ≤ 640 then (PySem.intText? a).map .int else none
  | _ => none
theorem ok_intS : UnOk T (r1 rIntS) hIntS := by
  intro g H x z v sx e hd Q q
  cases x <;> simp only [hIntS] at e <;> first | cases e | skip
  split at e
  · rename_i hl
    obtain ⟨n, en, e⟩ := Option.map_eq_some_iff.mp e
    subst e
    exact ⟨_, n, by rw [shr_str.mp sx], en, hl, q _ H (.refl H) (shr_int.mpr rfl)⟩
  · cases e
def strsOf : List D → Option (List Str)
  | [] => some []
  | .str i :: r => (strsOf r).map (i :: ·)
  | _ => none
theorem strsOf_map {g : G} {H : Hp} : ∀ {l : List D} {ns : List Str} {vs : List V}, strsOf l = some ns → ShrL T g H l vs → vs = ns.map V.str ∧ l = ns.map D.str
  | [], ns, vs, e, s => by
    cases e
    simp only [ShrL] at s
    subst s
    exact ⟨rfl, rfl⟩
  | d :: r, ns, vs, e, s => by
    cases d <;> simp only [strsOf] at e <;> first | cases e | skip
    rename_i i
    obtain ⟨ms, e1, e2⟩ := Option.map_eq_some_iff.mp e
    subst e2
    simp only [ShrL] at s
    obtain ⟨v, us, rfl, sv, s⟩ := s
    obtain ⟨h1, h2⟩ := strsOf_map e1 s
    rw [shr_str.mp sv, h1, h2]
    exact ⟨rfl, rfl⟩
theorem shrL_str {g : G} {H : Hp} : ∀ ns : List Str, ShrL T g H (ns.map D.str) (ns.map V.str)
  | [] => .nil
  | n :: r => .cons (shr_str.mpr rfl) (shrL_str r)
/-- a method of a text with one argument -/
abbrev rM1 (r : V → List V → Hp → VK → Prop) : R2 := fun x y H Q => (∃ a, x = .str a) ∧ r x [y] H Q
abbrev rJoin (K : PySem.W.Frag) : V → List V → Hp → VK → Prop := fun x xs H Q => ∃ a p, ∃ ys : List Str, x = .str a ∧ xs = [V.ref p] ∧ (SqL K H p (ys.map V.str) ∨ SqT K H p (ys.map V.str)) ∧
      (ys.map (·.length)).sum + ys.length * a.length ≤ 16777216 ∧ Q (.str (Txt.join a ys)) H
def hJoin : D → D → Option D
  | .str a, .lst l => match strsOf l with
    | some ys => if (ys.map (·.length)).sum + ys.length * a.length ≤ 16777216 then some (.str (Txt.join a ys)) else none
    | none => none
  | _, _ => none
abbrev rSplit : V → List V → Hp → VK → Prop := fun x xs H Q => ∃ a b, x = .str a ∧ xs = [V.str b] ∧ (b.length == 0) = false ∧ a.length + 2 ≤ sizeLine ∧ rNewStrs (Txt.split a b) H Q
def hSplit : D → D → Option D
  | .str a, .str b => if (b.length == 0) = false ∧ a.length ≤ 1000000 then some (.lst ((Txt.split a b).map .str)) else none
  | _, _ => none
theorem ok_split : OpOk T (rM1 rSplit) hSplit := by
  intro g H x y z v w sx sy e hd Q q
  cases x <;> cases y <;> simp only [hSplit] at e <;> first | cases e | skip
  split at e
  · rename_i hl
    cases e
    refine ⟨⟨_, shr_str.mp sx⟩, _, _, shr_str.mp sx, by rw [shr_str.mp sy], hl.1, by rw [sizeLine_eq]; omega, fun p hp => ?_⟩
    exact q _ _ (Exx.new hp) (shr_newL (shrL_str _) hp hd)
  · cases e
abbrev rSIndex : V → List V → Hp → VK → Prop := fun x xs H Q => ∃ a b i rest, x = .str a ∧ xs = [V.str b] ∧ Builtin.Str.occurrences a b 0 a.length 1 = i :: rest ∧ Q (.int (i : Nat)) H
def hSIndex : D → D → Option D
  | .str a, .str b => match Builtin.Str.occurrences a b 0 a.length 1 with
    | i :: _ => some (.int (i : Nat))
    | [] => none
  | _, _ => none
theorem ok_sindex : OpOk T (rM1 rSIndex) hSIndex := by
  intro g H x y z v w sx sy e hd Q q
  cases x <;> cases y <;> simp only [hSIndex] at e <;> first | cases e | skip
  split at e
  · rename_i i rest ho
    cases e
    exact ⟨⟨_, shr_str.mp sx⟩, _, _, i, rest, shr_str.mp sx, by rw [shr_str.mp sy], ho, q _ H (.refl H) (shr_int.mpr rfl)⟩
  · cases e
theorem ok_join : OpOk T (rM1 (rJoin T.K)) hJoin := by
  intro g H x y z v w sx sy e hd Q q
  cases x <;> cases y <;> simp only [hJoin] at e <;> first | cases e | skip
  split at e
  · rename_i ys en
    split at e
    · rename_i hl
      cases e
      obtain ⟨a, vs, rfl, la, ra⟩ := shr_lst.mp sy
      obtain ⟨h1, h2⟩ := strsOf_map en ra
      subst h1
      exact ⟨⟨_, shr_str.mp sx⟩, _, a, ys, shr_str.mp sx, rfl, .inl (.of la.1), hl, q _ H (.refl H) (shr_str.mpr rfl)⟩
    · cases e
  · cases e
end
/-- a method of a text -/
def eM1 (h : D → D → Option D) (a b : FE) : FE := fun ρ S => (a ρ S).bind fun x S1 => match x with
  | .str z => (b ρ S1).bind fun y S2 => .of S2 (h (.str z) y)
  | _ => .no
section
variable {X : Cx} {T : Th} {W : WX} {Γ : List Md}
theorem xe_m1 {e : Expr} {r : V → List V → Hp → VK → Prop} {h : D → D → Option D} {a b : Expr} {A B : FE} (ok : OpOk T (rM1 r) h) (ha : XE X T W Γ a A) (hb : XE X T W Γ b B)
    (he : PE X a (tX T W Γ A) → PE X b (tX T W Γ B) → PE X e (tM1 r (tX T W Γ A) (tX T W Γ B))) : XE X T W Γ e (eM1 h A B) := pe_imp (he ha hb) fun σ H Q ⟨g, ρ, S, R, hg⟩ =>
  ⟨g, ρ, S, R, good_bind hg fun x S1 v g1 H1 _ R1 f1 s1 hg1 => by
    obtain ⟨z, rfl⟩ : ∃ z, x = .str z := by
      cases x <;> first | exact ⟨_, rfl⟩ | exact hg1.elim
    refine ⟨⟨z, shr_str.mp s1⟩, g1, ρ, S1, R1, good_bind hg1 fun y S2 w g2 H2 _ R2 f2 s2 hg2 => ?_⟩
    obtain ⟨z2, ez, hg3⟩ := good_of hg2
    exact (ok g2 H2 _ y z2 v w (s1.stay f2.stay) s2 ez R2.dom Q fun u H' ex su => hg3 u g2 H' (R2.ex ex) (.ex ex) su).2⟩
end
/-! ### fresh copies -/
section
variable {X : Cx} {T : Th} {W : WX} {Γ : List Md}
theorem xf_list {e a : Expr} {A : FE} (hK : X.K = T.K) (ha : XE X T W Γ a A) (he : PE X a (tX T W Γ A) → PE X e (tUn (r1 (rListOf X.K)) (tX T W Γ A))) : XF X T W Γ 1 e (eUn hList A) := pe_imp (he ha) fun σ H Q ⟨g, ρ, S, R, hg⟩ => by
  refine ⟨g, ρ, S, R, ?_⟩
  unfold eUn at hg
  cases r : A ρ S with
  | no => rw [r] at hg; exact hg
  | exc x S1 => rw [r] at hg; exact hg
  | ok d S1 =>
    rw [r] at hg
    intro v g1 H1 R1 f1 s1
    have hg : GoodN T W Γ 1 ρ σ g H (RE.of S1 (hList d)) Q := hg
    have fin : ∀ (l : List D) (vs : List V) (p : Addr), hList d = some (.lst l) → ShrL T g1 H1 l vs → H1 p = none → Q (.ref p) (upd H1 p (.lst vs)) := fun l vs p e sl hp => by
      rw [e] at hg
      refine hg _ g1 _ (· = p) (R1.fresh hp fun _ => ⟨nofun, fun _ => nofun⟩) (f1.trans (.ex (Exx.new hp))) (fun a z => ⟨(R1.fresh_out hp a z).1, ?_⟩) (R1.fresh_lst hp sl)
      rw [z]; exact f1.none hp
    cases d <;> simp only [hList] at hg fin <;> first | exact hg.elim | skip
    · obtain ⟨a, vs, rfl, la, ra⟩ := shr_tup.mp s1
      exact ⟨a, vs, rfl, by rw [hK]; exact .inr la.sq, fun p hp => fin _ vs p rfl ra hp⟩
    · obtain ⟨a, vs, rfl, la, ra⟩ := shr_lst.mp s1
      exact ⟨a, vs, rfl, .inl (.of la.1), fun p hp => fin _ vs p rfl ra hp⟩
    · obtain ⟨a, vs, rfl, la, ra⟩ := shr_scr.mp s1
      exact ⟨a, vs, rfl, by rw [hK]; exact .inl la.sq, fun p hp => fin _ vs p rfl ra hp⟩
end
end Q

/-! More rows for reckoning: owned lists, equality of plain data, comprehensions. -/
namespace Q
open PySem PySem.Spec PyProof.Rows L2
/-! ### plain data: no truths, no dicts; n levels at most -/
mutual
def plD : Nat → D → Bool
  | _, .non => true
  | _, .int _ => true
  | _, .str x => PyData.canLay0 (.str x)
  | n + 1, .tup l => plL n l
  | n + 1, .lst l => plL n l
  | _, _ => false
def plL : Nat → List D → Bool
  | _, [] => true
  | n, d :: r => plD n d && plL n r
end
mutual
theorem plD_py : ∀ (n : Nat) (d : D), plD n d = true → ∃ p, toPy d = some p ∧ p.canLay0 = true ∧ p.depth ≤ n
  | _, .non, _ => ⟨.none, by simp only [toPy], rfl, Nat.zero_le _⟩
  | _, .int i, _ => ⟨.int i, by simp only [toPy], rfl, Nat.zero_le _⟩
  | n, .str x, h => ⟨.str x, by simp only [toPy], by cases n <;> simpa only [plD] using h, by cases n <;> exact Nat.zero_le _⟩
  | 0, .tup l, h => by simp only [plD] at h; cases h
  | n + 1, .tup l, h => by
    simp only [plD] at h
    obtain ⟨ps, h1, h2, h3⟩ := plL_py n l h
    exact ⟨.tuple ps, by simp only [toPy, h1, Option.map_some], by simpa only [PyData.canLay0] using h2, by simp only [PyData.depth]; omega⟩
  | 0, .lst l, h => by simp only [plD] at h; cases h
  | n + 1, .lst l, h => by
    simp only [plD] at h
    obtain ⟨ps, h1, h2, h3⟩ := plL_py n l h
    exact ⟨.list ps, by simp only [toPy, h1, Option.map_some], by simpa only [PyData.canLay0] using h2, by simp only [PyData.depth]; omega⟩
  | 0, .bl _, h => by simp only [plD] at h; cases h
  | n + 1, .bl _, h => by simp only [plD] at h; cases h
  | 0, .scr _, h => by simp only [plD] at h; cases h
  | n + 1, .scr _, h => by simp only [plD] at h; cases h
  | 0, .dct _, h => by simp only [plD] at h; cases h
  | n + 1, .dct _, h => by simp only [plD] at h; cases h
  | 0, .obj _, h => by simp only [plD] at h; cases h
  | n + 1, .obj _, h => by simp only [plD] at h; cases h
  | 0, .fn _ _, h => by simp only [plD] at h; cases h
  | n + 1, .fn _ _, h => by simp only [plD] at h; cases h
  | 0, .gone _, h => by simp only [plD] at h; cases h
  | n + 1, .gone _, h => by simp only [plD] at h; cases h
theorem plL_py : ∀ (n : Nat) (l : List D), plL n l = true → ∃ ps, toPyL l = some ps ∧ PyData.canLayAll0 ps = true ∧ PyData.depthAll ps ≤ n
  | _, [], _ => ⟨[], by simp only [toPyL], rfl, Nat.zero_le _⟩
  | n, d :: r, h => by
    simp only [plL, Bool.and_eq_true] at h
    obtain ⟨p, h1, h2, h3⟩ := plD_py n d h.1
    obtain ⟨ps, k1, k2, k3⟩ := plL_py n r h.2
    refine ⟨p :: ps, by simp only [toPyL, h1, k1], by simp only [PyData.canLayAll0, h2, k2, Bool.and_self], ?_⟩
    simp only [PyData.depthAll]
    omega
end
mutual
theorem eqv_pl : ∀ (n m : Nat) (d e : D) (p q : PyData), plD n d = true → plD m e = true → toPy d = some p → toPy e = some q → (PyData.eqv p q = true ↔ d = e) := by
  intro n m d e p q hd he hp hq
  cases d with
  | non => simp only [toPy] at hp; cases hp; cases e <;> simp only [toPy] at hq <;> first | (cases hq; done) | (cases n <;> cases m <;> simp only [plD] at he hd <;> first | (cases he; done) | (obtain ⟨_, _, rfl⟩ := Option.map_eq_some_iff.mp hq; simp [PyData.eqv]) | (cases hq; simp [PyData.eqv]))
  | int i => simp only [toPy] at hp; cases hp; cases e <;> simp only [toPy] at hq <;> first | (cases hq; done) | (cases n <;> cases m <;> simp only [plD] at he hd <;> first | (cases he; done) | (obtain ⟨_, _, rfl⟩ := Option.map_eq_some_iff.mp hq; simp [PyData.eqv]) | (cases hq; simp [PyData.eqv]))
  | str i => simp only [toPy] at hp; cases hp; cases e <;> simp only [toPy] at hq <;> first | (cases hq; done) | (cases n <;> cases m <;> simp only [plD] at he hd <;> first | (cases he; done) | (obtain ⟨_, _, rfl⟩ := Option.map_eq_some_iff.mp hq; simp [PyData.eqv]) | (cases hq; simp [PyData.eqv]))
  | tup l =>
    cases n with
    | zero => simp only [plD] at hd; cases hd
    | succ n =>
      simp only [plD] at hd
      simp only [toPy] at hp
      obtain ⟨ps, h1, rfl⟩ := Option.map_eq_some_iff.mp hp
      cases e with
      | tup k =>
        cases m with
        | zero => simp only [plD] at he; cases he
        | succ m =>
          simp only [plD] at he
          simp only [toPy] at hq
          obtain ⟨qs, k1, rfl⟩ := Option.map_eq_some_iff.mp hq
          simp only [PyData.eqv, D.tup.injEq]
          exact eqvL_pl n m l k ps qs hd he h1 k1
      | _ => cases m <;> simp only [plD] at he <;> first | (cases he; done) | (simp only [toPy] at hq; first | (cases hq; simp [PyData.eqv]) | (obtain ⟨_, _, rfl⟩ := Option.map_eq_some_iff.mp hq; simp [PyData.eqv]))
  | lst l =>
    cases n with
    | zero => simp only [plD] at hd; cases hd
    | succ n =>
      simp only [plD] at hd
      simp only [toPy] at hp
      obtain ⟨ps, h1, rfl⟩ := Option.map_eq_some_iff.mp hp
      cases e with
      | lst k =>
        cases m with
        | zero => simp only [plD] at he; cases he
        | succ m =>
          simp only [plD] at he
          simp only [toPy] at hq
          obtain ⟨qs, k1, rfl⟩ := Option.map_eq_some_iff.mp hq
          simp only [PyData.eqv, D.lst.injEq]
          exact eqvL_pl n m l k ps qs hd he h1 k1
      | _ => cases m <;> simp only [plD] at he <;> first | (cases he; done) | (simp only [toPy] at hq; first | (cases hq; simp [PyData.eqv]) | (obtain ⟨_, _, rfl⟩ := Option.map_eq_some_iff.mp hq; simp [PyData.eqv]))
  | _ => cases n <;> simp only [plD] at hd <;> cases hd
termination_by n m d e p q => sizeOf d
theorem eqvL_pl : ∀ (n m : Nat) (l k : List D) (ps qs : List PyData), plL n l = true → plL m k = true → toPyL l = some ps → toPyL k = some qs → (PyData.eqvAll ps qs = true ↔ l = k) := by
  intro n m l k ps qs hl hk hp hq
  cases l with
  | nil =>
    simp only [toPyL] at hp; cases hp
    cases k with
    | nil => simp only [toPyL] at hq; cases hq; simp [PyData.eqvAll]
    | cons e r =>
      simp only [toPyL] at hq
      split at hq
      · cases hq; simp [PyData.eqvAll]
      · cases hq
  | cons d l =>
    simp only [toPyL] at hp
    split at hp
    · rename_i p ps' e1 e2
      cases hp
      simp only [plL, Bool.and_eq_true] at hl
      cases k with
      | nil => simp only [toPyL] at hq; cases hq; simp [PyData.eqvAll]
      | cons e r =>
        simp only [toPyL] at hq
        split at hq
        · rename_i q qs' f1 f2
          cases hq
          simp only [plL, Bool.and_eq_true] at hk
          simp only [PyData.eqvAll, Bool.and_eq_true, List.cons.injEq]
          exact and_congr (eqv_pl n m d e p q hl.1 hk.1 e1 f1) (eqvL_pl n m l r ps' qs' hl.2 hk.2 e2 f2)
        · cases hq
    · cases hp
termination_by n m l k ps qs => sizeOf l
end
theorem hEq_pl {x y : D} (hx : plD 60 x = true) (hy : plD 60 y = true) : ∃ b, hEq x y = some (.bl b) ∧ hNe x y = some (.bl !b) ∧ (b = true ↔ x = y) := by
  obtain ⟨p, p1, p2, p3⟩ := plD_py 60 x hx
  obtain ⟨q, q1, q2, q3⟩ := plD_py 60 y hy
  have sp : SeqAt.shaped p = true := by unfold SeqAt.shaped; rw [p2, decide_eq_true (by omega)]; rfl
  have sq : SeqAt.shaped q = true := by unfold SeqAt.shaped; rw [q2, decide_eq_true (by omega)]; rfl
  refine ⟨PyData.eqv p q, ?_, ?_, eqv_pl 60 60 x y p q hx hy p1 q1⟩
  · unfold hEq; rw [p1, q1]; exact if_pos ⟨sp, sq⟩
  · unfold hNe; rw [p1, q1]; exact if_pos ⟨sp, sq⟩
theorem hEq_t {x : D} (hx : plD 60 x = true) : hEq x x = some (.bl true) := by
  obtain ⟨b, h1, _, h3⟩ := hEq_pl hx hx
  rw [h3.mpr rfl] at h1
  exact h1
theorem hNe_t {x : D} (hx : plD 60 x = true) : hNe x x = some (.bl false) := by
  obtain ⟨b, _, h1, h3⟩ := hEq_pl hx hx
  rw [h3.mpr rfl] at h1
  exact h1
theorem hEq_f {x y : D} (hx : plD 60 x = true) (hy : plD 60 y = true) (h : x ≠ y) : hEq x y = some (.bl false) := by
  obtain ⟨b, h1, _, h3⟩ := hEq_pl hx hy
  cases b
  · exact h1
  · exact absurd (h3.mp rfl) h
theorem hNe_f {x y : D} (hx : plD 60 x = true) (hy : plD 60 y = true) (h : x ≠ y) : hNe x y = some (.bl true) := by
  obtain ⟨b, _, h1, h3⟩ := hEq_pl hx hy
  cases b
  · exact h1
  · exact absurd (h3.mp rfl) h
theorem plL_of {n : Nat} {l : List D} (h : ∀ d ∈ l, plD n d = true) : plL n l = true := by
  induction l with
  | nil => cases n <;> rfl
  | cons d r ih =>
    have e : plL n (d :: r) = (plD n d && plL n r) := by cases n <;> simp only [plL]
    rw [e, h d List.mem_cons_self, ih fun x hx => h x (List.mem_cons_of_mem _ hx)]
    rfl
theorem plD_int {n : Nat} {i : Int} : plD n (.int i) = true := by cases n <;> rfl
theorem plD_non {n : Nat} : plD n .non = true := by cases n <;> rfl
theorem plD_lst {n : Nat} {l : List D} (h : ∀ d ∈ l, plD n d = true) : plD (n + 1) (.lst l) = true := by simp only [plD]; exact plL_of h
theorem plD_tup {n : Nat} {l : List D} (h : ∀ d ∈ l, plD n d = true) : plD (n + 1) (.tup l) = true := by simp only [plD]; exact plL_of h
theorem plD_ints {ns : List Int} : plD 60 (.lst (ns.map .int)) = true := plD_lst fun d h => by
  obtain ⟨i, _, rfl⟩ := List.mem_map.mp h
  exact plD_int
theorem ints_inj {a b : List Int} : a.map D.int = b.map D.int ↔ a = b := by
  constructor
  · intro h
    have : Function.Injective D.int := fun x y e => by cases e; rfl
    exact (List.map_inj_right (fun x y e => by cases e; rfl)).mp h
  · rintro rfl; rfl
/-- x in a list of ints -/
theorem hIn_ints {k : Int} {ns : List Int} {neg : Bool} : hIn neg (.int k) (.lst (ns.map .int)) = some (.bl (if neg then !decide (k ∈ ns) else decide (k ∈ ns))) := by
  show inL neg (.int k) (ns.map .int) = _
  unfold inL
  have h1 : (ns.map D.int).all flatD = true := by
    rw [List.all_eq_true]
    intro d hd
    obtain ⟨i, _, rfl⟩ := List.mem_map.mp hd
    rfl
  rw [if_pos ⟨rfl, h1⟩]
  have h2 : ((ns.map D.int).any fun y => eqD y (.int k)) = decide (k ∈ ns) := by
    induction ns with
    | nil => simp
    | cons a r ih =>
      rw [List.map_cons, List.any_cons, ih (by
        rw [List.all_eq_true]
        intro d hd
        obtain ⟨i, _, rfl⟩ := List.mem_map.mp hd
        rfl)]
      show ((a == k) || decide (k ∈ r)) = _
      by_cases h : a = k
      · subst h; simp
      · have h' : ¬ k = a := fun z => h z.symm
        simp [h, h']
  rw [h2]
theorem intsOf_ints : ∀ ns : List Int, intsOf (ns.map .int) = some ns
  | [] => rfl
  | n :: r => by rw [List.map_cons, intsOf, intsOf_ints r]; rfl
theorem blsOf_bls : ∀ ns : List Bool, blsOf (ns.map .bl) = some ns
  | [] => rfl
  | n :: r => by rw [List.map_cons, blsOf, blsOf_bls r]; rfl
theorem strsOf_strs : ∀ ns : List Str, strsOf (ns.map .str) = some ns
  | [] => rfl
  | n :: r => by rw [List.map_cons, strsOf, strsOf_strs r]; rfl
theorem hSortSet_ints {ns : List Int} (h : ns.length < 63) : hSort (.lst (ns.map .int)) = some (.lst ((isort ns).map .int)) := by
  show (intsOf (ns.map .int)).map _ = _
  rw [intsOf_ints]; rfl
/-! ### owned lists -/
section
variable {ρ : Env} {S : Store} {d z x y : D} {l l' : List D} {o : Option (Option D)}
def mutK (o : Option (Option D)) (ρ : Env) (k : List D → RS) : RS := match o with
  | some (some (.lst l)) => k l
  | _ => .no
def mutR (o : Option (D × List D)) (k : D → List D → RS) : RS := match o with
  | some (z, l') => k z l'
  | none => .no
theorem ev_mut {i : Nat} {h : HM} {a : FL} : fMut i h a ρ S = mutK ρ[i]? ρ fun l => (a ρ S).bindS ρ fun ds S1 => mutR (h l ds) fun _ l' => .nx (ρ.set i (some (.lst l'))) S1 := by
  unfold fMut mutK mutR RL.bindS
  rfl
theorem ev_mutset {j i : Nat} {h : HM} {a : FL} : fMutSet j i h a ρ S = mutK ρ[i]? ρ fun l => (a ρ S).bindS ρ fun ds S1 => mutR (h l ds) fun z l' => .nx ((ρ.set i (some (.lst l'))).set j (some z)) S1 := by
  unfold fMutSet mutK mutR RL.bindS
  rfl
theorem mutK_lst {k : List D → RS} : mutK (some (some (.lst l))) ρ k = k l := rfl
theorem mutR_some {k : D → List D → RS} : mutR (some (z, l')) k = k z l' := rfl
theorem mAppend_lt (h : l.length < 1000000) : mAppend l [d] = some (.non, l ++ [d]) := if_pos h
theorem mExtend_le {m : List D} (h : l.length + m.length ≤ 1000000) : mExtend l [.lst m] = some (.non, l ++ m) := if_pos h
theorem mPop0_cons : mPop0 (d :: l) [.int 0] = some (d, l) := rfl
def flatK (d : D) (S : Store) : RE := if immD d = true then .ok d S else .no
theorem ev_flat {a : FE} : eFlat a ρ S = (a ρ S).bind flatK := rfl
theorem flatK_int {i : Int} : flatK (.int i) S = .ok (.int i) S := if_pos (by simp only [immD])
theorem flatK_bl {i : Bool} : flatK (.bl i) S = .ok (.bl i) S := if_pos (by simp only [immD])
theorem flatK_str {i : Str} : flatK (.str i) S = .ok (.str i) S := if_pos (by simp only [immD])
theorem flatK_non : flatK .non S = .ok .non S := if_pos (by simp only [immD])
def m1K (d : D) (k : Str → RE) : RE := match d with
  | .str z => k z
  | _ => .no
theorem ev_m1 {h : D → D → Option D} {a b : FE} : eM1 h a b ρ S = (a ρ S).bind fun x S1 => m1K x fun z => (b ρ S1).bind fun y S2 => .of S2 (h (.str z) y) := rfl
theorem m1K_str {z : Str} {k : Str → RE} : m1K (.str z) k = k z := rfl
end
/-! ### comprehensions -/
/-- each item by itself, the store stands -/
theorem lcL_eq {tf : D → Env → Option Env} {C E : FE} {ρ : Env} {S : Store} (p : D → Bool) (f : D → D) : ∀ {ds : List D}, (∀ d ∈ ds, ∃ ρ1, tf d ρ = some ρ1 ∧ C ρ1 S = .ok (.bl (p d)) S ∧ (p d = true → E ρ1 S = .ok (f d) S)) →
    lcL tf C E ds ρ S = .ok ((ds.filter p).map f) S
  | [], _ => rfl
  | d :: r, h => by
    obtain ⟨ρ1, h1, h2, h3⟩ := h d List.mem_cons_self
    have ih := lcL_eq p f (ds := r) fun x hx => h x (List.mem_cons_of_mem _ hx)
    rw [lcL, h1]
    cases hp : p d with
    | true =>
      rw [hp] at h2
      simp only [h2, h3 hp, ih]
      rw [List.filter_cons_of_pos (by rw [hp]), List.map_cons]
    | false =>
      rw [hp] at h2
      simp only [h2, ih]
      rw [List.filter_cons_of_neg (by rw [hp]; decide)]
theorem eLc_eq {it : FL} {vs : List Nat} {tf : D → Env → Option Env} {C E : FE} {ρ : Env} {S S1 : Store} {ds : List D} (p : D → Bool) (f : D → D) (hi : it ρ S = .ok ds S1) (hl : ds.length ≤ 1000000)
    (h : ∀ d ∈ ds, ∃ ρ1, tf d (wipeE ρ vs) = some ρ1 ∧ C ρ1 S1 = .ok (.bl (p d)) S1 ∧ (p d = true → E ρ1 S1 = .ok (f d) S1)) : eLc it vs tf C E ρ S = .ok (.lst ((ds.filter p).map f)) S1 := by
  unfold eLc
  rw [hi]
  simp only [lcL_eq p f h]
  rw [if_pos hl]
end Q

/-! Values of the module. -/
namespace Q
open PySem PySem.Spec PyProof.Rows L2
theorem shr_wrt {T : Th} {g : G} {H : Hp} {a : Addr} {ns : List Int} (h : WrT T.K a (ns.map V.int)) : Shr T g H (.tup (ns.map .int)) (.ref a) := shr_tup.mpr ⟨a, _, rfl, .inr h, shrL_int ns⟩
end Q

/-! Texts of figures. -/
namespace Q
open PySem PySem.Spec PyProof.Rows L2
theorem occ_fig (c : Nat) : Builtin.Str.occurrences ("0123456789" : Str) ⟨#[c]⟩ 0 ("0123456789" : Str).length 1 = if 48 ≤ c ∧ c ≤ 57 then [c - 48] else [] := by
  by_cases h : 48 ≤ c ∧ c ≤ 57
  · rw [if_pos h]
    obtain ⟨h1, h2⟩ := h
    have : c = 48 ∨ c = 49 ∨ c = 50 ∨ c = 51 ∨ c = 52 ∨ c = 53 ∨ c = 54 ∨ c = 55 ∨ c = 56 ∨ c = 57 := by omega
    rcases this with e | e | e | e | e | e | e | e | e | e <;> subst e <;> decide +kernel
  · rw [if_neg h]
    refine PySem.W.occ_nil_of_no _ _ 1 fun i hi => ?_
    have hi : i + 1 ≤ 10 := hi
    have key : ∀ k : Nat, ¬ c = k → ((#[k] : Array Nat) == #[c]) = false := fun k hk => by
      simp
      omega
    have : i = 0 ∨ i = 1 ∨ i = 2 ∨ i = 3 ∨ i = 4 ∨ i = 5 ∨ i = 6 ∨ i = 7 ∨ i = 8 ∨ i = 9 := by omega
    rcases this with e | e | e | e | e | e | e | e | e | e <;> subst e
    · exact key 48 (by omega)
    · exact key 49 (by omega)
    · exact key 50 (by omega)
    · exact key 51 (by omega)
    · exact key 52 (by omega)
    · exact key 53 (by omega)
    · exact key 54 (by omega)
    · exact key 55 (by omega)
    · exact key 56 (by omega)
    · exact key 57 (by omega)
def dig (c : Nat) : Bool := decide (48 ≤ c ∧ c ≤ 57)
theorem hIn_fig {neg : Bool} {c : Nat} : hIn neg (.str ⟨#[c]⟩) (.str "0123456789") = some (.bl (if neg = true then !(dig c) else dig c)) := by
  show (if neg then some (D.bl !!(Builtin.Str.occurrences ("0123456789" : Str) ⟨#[c]⟩ 0 ("0123456789" : Str).length 1).isEmpty) else some (D.bl !(Builtin.Str.occurrences ("0123456789" : Str) ⟨#[c]⟩ 0 ("0123456789" : Str).length 1).isEmpty)) = _
  rw [occ_fig]
  unfold dig
  by_cases h : 48 ≤ c ∧ c ≤ 57
  · rw [if_pos h, decide_eq_true h]; cases neg <;> rfl
  · rw [if_neg h, decide_eq_false h]; cases neg <;> rfl
theorem hSIndex_fig {c : Nat} (h : dig c = true) : hSIndex (.str "0123456789") (.str ⟨#[c]⟩) = some (.int ((c - 48 : Nat) : Int)) := by
  show (match Builtin.Str.occurrences ("0123456789" : Str) ⟨#[c]⟩ 0 ("0123456789" : Str).length 1 with | i :: _ => some (D.int (i : Nat)) | [] => none) = _
  rw [occ_fig, if_pos (of_decide_eq_true h)]
/-- the signs of a text -/
def signs (t : Str) : List D := t.cps.toList.map fun c => .str ⟨#[c]⟩
theorem hLen_str {t : Str} (h : t.length ≤ 1000000) : hLen [.str t] = some (.int t.length) := if_pos h
end Q

/-! Texts that are built: their signs, their size. -/
namespace Q
open PySem PySem.Spec PyProof.Rows L2
/-- n signs at most, each a sign -/
def oks (n : Nat) (t : Str) : Prop := (∀ c ∈ t.cps.toList, c < 1114112) ∧ t.cps.toList.length ≤ n
theorem oks_len {n : Nat} {t : Str} (h : oks n t) : t.length ≤ n := by
  have := h.2
  rw [Array.length_toList] at this
  exact this
theorem oks_lay {n : Nat} {t : Str} (h : oks n t) : PyData.canLay0 (.str t) = true := by
  simp only [PyData.canLay0, PyData.strOk]
  rw [Array.all_eq_true_iff_forall_mem]
  intro c hc
  exact decide_eq_true (h.1 c (Array.mem_toList_iff.mpr hc))
theorem oks_mono {n m : Nat} {t : Str} (h : oks n t) (hm : n ≤ m) : oks m t := ⟨h.1, Nat.le_trans h.2 hm⟩
theorem app_list (a b : Str) : (a ++ b).cps.toList = a.cps.toList ++ b.cps.toList := by
  show (a.cps ++ b.cps).toList = _
  exact Array.toList_append
theorem oks_app {n m : Nat} {a b : Str} (ha : oks n a) (hb : oks m b) : oks (n + m) (a ++ b) := by
  unfold oks
  rw [app_list]
  refine ⟨fun c hc => ?_, by rw [List.length_append]; have := ha.2; have := hb.2; omega⟩
  rcases List.mem_append.mp hc with h | h
  · exact ha.1 c h
  · exact hb.1 c h
theorem oks_one {c : Nat} (h : c < 1114112) : oks 1 ⟨#[c]⟩ := ⟨fun d hd => by
  have : d = c := by simpa using hd
  rw [this]; exact h, Nat.le_refl _⟩
theorem oks_cut {n : Nat} {t : Str} (h : oks n t) (lo hi : Option Int) : oks n (cutS t lo hi) := by
  unfold cutS oks
  refine ⟨fun c hc => ?_, ?_⟩
  · exact h.1 c (List.mem_of_mem_drop (List.mem_of_mem_take hc))
  · show ((t.cps.toList.drop _).take _).length ≤ n
    rw [List.length_take, List.length_drop]
    have := h.2
    omega
theorem oks_at {n : Nat} {t : Str} (h : oks n t) (hn : n ≤ 1000000) {i : Nat} (hi : i < t.cps.toList.length) : ∃ s, oks 1 s ∧ hIx (.str t) (.int i) = some (.str s) := by
  refine ⟨⟨#[t.cps.toList[i]]⟩, oks_one (h.1 _ (List.getElem_mem hi)), ?_⟩
  show (if t.length ≤ 1000000 then (atI t.cps.toList (i : Int)).map fun c => D.str ⟨#[c]⟩ else none) = _
  rw [if_pos (by have := oks_len h; omega), atI_nat (List.getElem?_eq_getElem hi)]
  rfl
theorem oks_nil : oks 0 ("" : Str) := by
  refine ⟨fun c hc => ?_, Nat.le_refl _⟩
  cases hc
theorem oks_join : ∀ {l : List Str}, (∀ t ∈ l, oks 1 t) → oks l.length (Str.join "" l)
  | [], _ => oks_nil
  | [x], h => h x List.mem_cons_self
  | x :: y :: r, h => by
    have ih := oks_join (l := y :: r) fun t ht => h t (List.mem_cons_of_mem _ ht)
    have e : Str.join "" (x :: y :: r) = x ++ "" ++ Str.join "" (y :: r) := rfl
    rw [e]
    have := oks_app (oks_app (h x List.mem_cons_self) oks_nil) ih
    refine oks_mono this ?_
    simp
    omega
theorem hAdd_str {a b : Str} (h : a.length + b.length ≤ 1000000) : hAdd (.str a) (.str b) = some (.str (a ++ b)) := if_pos h
theorem hSl_str {z : Str} {lo hi : Option Int} (h : z.length ≤ 1000000) : hSl (.str z) lo hi = some (.str (cutS z lo hi)) := if_pos h
/-- a comprehension without an if, each item some one of a kind -/
theorem lcL_ex {tf : D → Env → Option Env} {C E : FE} {ρ : Env} {S : Store} (Pr : D → Prop) : ∀ {ds : List D}, (∀ d ∈ ds, ∃ ρ1 y, tf d ρ = some ρ1 ∧ C ρ1 S = .ok (.bl true) S ∧ E ρ1 S = .ok y S ∧ Pr y) →
    ∃ ys, lcL tf C E ds ρ S = .ok ys S ∧ ys.length = ds.length ∧ ∀ y ∈ ys, Pr y
  | [], _ => ⟨[], rfl, rfl, fun _ h => nomatch h⟩
  | d :: r, h => by
    obtain ⟨ρ1, y, h1, h2, h3, h4⟩ := h d List.mem_cons_self
    obtain ⟨ys, e, el, ep⟩ := lcL_ex Pr (ds := r) fun x hx => h x (List.mem_cons_of_mem _ hx)
    refine ⟨y :: ys, ?_, by simp [el], fun z hz => ?_⟩
    · rw [lcL, h1]
      simp only [h2, h3, e]
    · rcases List.mem_cons.mp hz with q | q
      · rw [q]; exact h4
      · exact ep z q
theorem eLc_ex {it : FL} {vs : List Nat} {tf : D → Env → Option Env} {C E : FE} {ρ : Env} {S S1 : Store} {ds : List D} (Pr : D → Prop) (hi : it ρ S = .ok ds S1) (hl : ds.length ≤ 1000000)
    (h : ∀ d ∈ ds, ∃ ρ1 y, tf d (wipeE ρ vs) = some ρ1 ∧ C ρ1 S1 = .ok (.bl true) S1 ∧ E ρ1 S1 = .ok y S1 ∧ Pr y) : ∃ ys, eLc it vs tf C E ρ S = .ok (.lst ys) S1 ∧ ys.length = ds.length ∧ ∀ y ∈ ys, Pr y := by
  obtain ⟨ys, e, el, ep⟩ := lcL_ex Pr h
  refine ⟨ys, ?_, el, ep⟩
  unfold eLc
  rw [hi]
  simp only [e]
  rw [if_pos hl]
theorem strs_of {ys : List D} {n : Nat} (h : ∀ y ∈ ys, ∃ s, oks n s ∧ y = .str s) : ∃ l : List Str, ys = l.map D.str ∧ ∀ s ∈ l, oks n s := by
  induction ys with
  | nil => exact ⟨[], rfl, fun _ h => nomatch h⟩
  | cons y r ih =>
    obtain ⟨s, hs, e⟩ := h y List.mem_cons_self
    obtain ⟨l, e2, hl⟩ := ih fun z hz => h z (List.mem_cons_of_mem _ hz)
    refine ⟨s :: l, by rw [e, e2]; rfl, fun z hz => ?_⟩
    rcases List.mem_cons.mp hz with q | q
    · rw [q]; exact hs
    · exact hl z q
/-- "".join of signs -/
theorem hJoin_signs {l : List Str} (h : ∀ s ∈ l, oks 1 s) (hl : l.length ≤ 1000) : hJoin (.str "") (.lst (l.map .str)) = some (.str (Str.join "" l)) := by
  show (match strsOf (l.map D.str) with | some ys => if (ys.map (fun s : Str => s.length)).sum + ys.length * ("" : Str).length ≤ 16777216 then some (D.str (Txt.join "" ys)) else none | none => none) = _
  rw [strsOf_strs]
  have hs : (l.map (fun s : Str => s.length)).sum ≤ l.length := by
    clear hl
    induction l with
    | nil => exact Nat.le_refl _
    | cons a r ih =>
      rw [List.map_cons, List.sum_cons, List.length_cons]
      have := oks_len (h a List.mem_cons_self)
      have := ih fun s hs => h s (List.mem_cons_of_mem _ hs)
      omega
  have h0 : ("" : Str).length = 0 := rfl
  refine (if_pos (by rw [h0]; omega)).trans ?_
  rw [TL.join_eq]
end Q

/-! Calm readings: nothing is written meanwhile. -/
namespace Q
open PySem PySem.Spec PyProof.Rows L2
/-- nothing is anybody's -/
def G.vv (g : G) : G := { g with O := fun _ => False, F := fun _ _ => False, B := fun _ => False }
theorem G.vv_U {g : G} {a : Addr} : ¬ g.vv.U a := fun h => by
  rcases h with h | ⟨_, h⟩ | h
  · exact h
  · exact h
  · exact h
section
variable {T : Th} {g g' g2 : G} {H H' : Hp}
theorem stay_vv : Stay g H g.vv H := ⟨fun _ _ h _ => h, fun a h => (G.vv_U h).elim, Nat.le_refl _, fun _ _ => rfl, rfl⟩
theorem Shr.vv {d : D} {v : V} (s : Shr T g H d v) : Shr T g.vv H d v := Shr.stay stay_vv _ _ s
theorem shrL_vv {ds : List D} {vs : List V} (s : ShrL T g H ds vs) : ShrL T g.vv H ds vs := ShrL.stay stay_vv _ _ s
end
def GoodC (T : Th) (W : WX) (Γ : List Md) (ρ : Env) (σ : L2.St) (g : G) (S : Store) (H : Hp) : RE → VK → Prop
  | .ok d S', Q => S' = S → ∀ v H', Exx H H' → Shr T g H' d v → Q v H'
  | .exc x S', _ => ∀ c dd g' H', Rel T g' Γ ρ S' σ H' → FrE g H g' H' → ExcR T g' H' x c dd → W c dd σ H'
  | .no, _ => False
def GoodV (T : Th) (W : WX) (Γ : List Md) (ρ : Env) (σ : L2.St) (g : G) (S : Store) (H : Hp) : RE → VK → Prop
  | .ok d S', Q => S' = S → ∀ v H', Exx H H' → Shr T g.vv H' d v → Q v H'
  | .exc x S', _ => ∀ c dd g' H', Rel T g' Γ ρ S' σ H' → FrE g H g' H' → ExcR T g' H' x c dd → W c dd σ H'
  | .no, _ => False
def GoodVL (T : Th) (W : WX) (Γ : List Md) (ρ : Env) (σ : L2.St) (g : G) (S : Store) (H : Hp) : RL → (List V → Hp → Prop) → Prop
  | .ok d S', Q => S' = S → ∀ v H', Exx H H' → ShrL T g.vv H' d v → Q v H'
  | .exc x S', _ => ∀ c dd g' H', Rel T g' Γ ρ S' σ H' → FrE g H g' H' → ExcR T g' H' x c dd → W c dd σ H'
  | .no, _ => False
def GoodCL (T : Th) (W : WX) (Γ : List Md) (ρ : Env) (σ : L2.St) (g : G) (S : Store) (H : Hp) : RL → (List V → Hp → Prop) → Prop
  | .ok d S', Q => S' = S → ∀ v H', Exx H H' → ShrL T g H' d v → Q v H'
  | .exc x S', _ => ∀ c dd g' H', Rel T g' Γ ρ S' σ H' → FrE g H g' H' → ExcR T g' H' x c dd → W c dd σ H'
  | .no, _ => False
def tC1 (T : Th) (W : WX) (Γ : List Md) (F : FE) : TE := fun σ H Q => ∃ g ρ S, Rel T g Γ ρ S σ H ∧ GoodC T W Γ ρ σ g S H (F ρ S) Q
def tV (T : Th) (W : WX) (Γ : List Md) (F : FE) : TE := fun σ H Q => ∃ g ρ S, Rel T g Γ ρ S σ H ∧ GoodV T W Γ ρ σ g S H (F ρ S) Q
def tVL (T : Th) (W : WX) (Γ : List Md) (F : FL) : TA := fun σ H Q => ∃ g ρ S, Rel T g Γ ρ S σ H ∧ GoodVL T W Γ ρ σ g S H (F ρ S) Q
def tCL (T : Th) (W : WX) (Γ : List Md) (F : FL) : TA := fun σ H Q => ∃ g ρ S, Rel T g Γ ρ S σ H ∧ GoodCL T W Γ ρ σ g S H (F ρ S) Q
/-- calm, strict; calm, however it is owned -/
abbrev XC (X : Cx) (T : Th) (W : WX) (Γ : List Md) (e : Expr) (F : FE) : Prop := PE X e (tC1 T W Γ F)
abbrev XV (X : Cx) (T : Th) (W : WX) (Γ : List Md) (e : Expr) (F : FE) : Prop := PE X e (tV T W Γ F)
abbrev XVL (X : Cx) (T : Th) (W : WX) (Γ : List Md) (e : List Expr) (F : FL) : Prop := PA X e (tVL T W Γ F)
abbrev XCL (X : Cx) (T : Th) (W : WX) (Γ : List Md) (e : List Expr) (F : FL) : Prop := PA X e (tCL T W Γ F)
section
variable {X : Cx} {T : Th} {W : WX} {Γ : List Md}
theorem exc_ex {x : Exc} {ρ : Env} {σ : L2.St} {g : G} {H H1 : Hp} {S' : Store} (e : Exx H H1) (h : ∀ c dd g' H', Rel T g' Γ ρ S' σ H' → FrE g H g' H' → ExcR T g' H' x c dd → W c dd σ H') : ∀ c dd g' H', Rel T g' Γ ρ S' σ H' → FrE g H1 g' H' → ExcR T g' H' x c dd → W c dd σ H' :=
  fun c dd g' H' R f q => h c dd g' H' R ((FrE.ex e).trans f) q
/-- .. behind a part -/
theorem goodC_bind {ρ : Env} {σ : L2.St} {g : G} {S : Store} {H : Hp} {r : RE} {k : D → Store → RE} {Q Q' : VK} (h : GoodC T W Γ ρ σ g S H (r.bind k) Q)
    (hk : ∀ d v H', r = .ok d S → Exx H H' → Shr T g H' d v → GoodC T W Γ ρ σ g S H' (k d S) Q → Q' v H') : GoodC T W Γ ρ σ g S H r Q' := by
  cases r with
  | ok d S1 =>
    intro es v H' e s
    subst es
    refine hk d v H' rfl e s ?_
    have h : GoodC T W Γ ρ σ g S1 H (k d S1) Q := h
    cases q : k d S1 with
    | ok d2 S2 => rw [q] at h; exact fun es v2 H2 e2 s2 => h es v2 H2 (e.trans e2) s2
    | exc x S2 => rw [q] at h; exact exc_ex e h
    | no => rw [q] at h; exact h
  | exc x S1 => exact h
  | no => exact h
theorem goodV_bind {ρ : Env} {σ : L2.St} {g : G} {S : Store} {H : Hp} {r : RE} {k : D → Store → RE} {Q Q' : VK} (h : GoodV T W Γ ρ σ g S H (r.bind k) Q)
    (hk : ∀ d v H', r = .ok d S → Exx H H' → Shr T g.vv H' d v → GoodV T W Γ ρ σ g S H' (k d S) Q → Q' v H') : GoodV T W Γ ρ σ g S H r Q' := by
  cases r with
  | ok d S1 =>
    intro es v H' e s
    subst es
    refine hk d v H' rfl e s ?_
    have h : GoodV T W Γ ρ σ g S1 H (k d S1) Q := h
    cases q : k d S1 with
    | ok d2 S2 => rw [q] at h; exact fun es v2 H2 e2 s2 => h es v2 H2 (e.trans e2) s2
    | exc x S2 => rw [q] at h; exact exc_ex e h
    | no => rw [q] at h; exact h
  | exc x S1 => exact h
  | no => exact h
/-- a strict part of a loose whole -/
theorem goodVC_bind {ρ : Env} {σ : L2.St} {g : G} {S : Store} {H : Hp} {r : RE} {k : D → Store → RE} {Q Q' : VK} (h : GoodV T W Γ ρ σ g S H (r.bind k) Q)
    (hk : ∀ d v H', r = .ok d S → Exx H H' → Shr T g H' d v → GoodV T W Γ ρ σ g S H' (k d S) Q → Q' v H') : GoodC T W Γ ρ σ g S H r Q' := by
  cases r with
  | ok d S1 =>
    intro es v H' e s
    subst es
    refine hk d v H' rfl e s ?_
    have h : GoodV T W Γ ρ σ g S1 H (k d S1) Q := h
    cases q : k d S1 with
    | ok d2 S2 => rw [q] at h; exact fun es v2 H2 e2 s2 => h es v2 H2 (e.trans e2) s2
    | exc x S2 => rw [q] at h; exact exc_ex e h
    | no => rw [q] at h; exact h
  | exc x S1 => exact h
  | no => exact h
theorem xe_ofC {e : Expr} {F : FE} (h : XC X T W Γ e F) : XE X T W Γ e F := pe_imp h fun σ H Q ⟨g, ρ, S, R, hg⟩ => by
  refine ⟨g, ρ, S, R, ?_⟩
  cases r : F ρ S with
  | ok d S1 => rw [r] at hg; exact fun es v H' e s => hg v g H' (by subst es; exact R.ex e) (.ex e) s
  | exc x S1 => rw [r] at hg; exact hg
  | no => rw [r] at hg; exact hg
theorem xv_ofC {e : Expr} {F : FE} (h : XC X T W Γ e F) : XV X T W Γ e F := pe_imp h fun σ H Q ⟨g, ρ, S, R, hg⟩ => by
  refine ⟨g, ρ, S, R, ?_⟩
  cases r : F ρ S with
  | ok d S1 => rw [r] at hg; exact fun es v H' e s => hg es v H' e s.vv
  | exc x S1 => rw [r] at hg; exact hg
  | no => rw [r] at hg; exact hg
theorem xc_flat {e : Expr} {F : FE} (h : XV X T W Γ e F) : XC X T W Γ e (eFlat F) := pe_imp h fun σ H Q ⟨g, ρ, S, R, hg⟩ => by
  refine ⟨g, ρ, S, R, ?_⟩
  unfold eFlat at hg
  cases r : F ρ S with
  | ok d S1 =>
    rw [r] at hg
    have hg : GoodC T W Γ ρ σ g S H (if immD d = true then RE.ok d S1 else .no) Q := hg
    split at hg
    · rename_i hd
      exact fun es v H' e s => hg es v H' e (imm_shr (e.nt R.dom R.nt) d v hd s)
    · exact hg.elim
  | exc x S1 => rw [r] at hg; exact hg
  | no => rw [r] at hg; exact hg
theorem xc_of {d : D} {v : V} {e : Expr} (he : PE X e (tC v)) (hs : ∀ g H, Shr T g H d v) : XC X T W Γ e (eC d) := pe_imp he fun σ H Q ⟨g, ρ, S, R, h⟩ => h rfl v H (.refl H) (hs g H)
theorem xc_int {i : Int} {j : Nat} {pos : Pos} : XC X T W Γ (.Constant (.int i) j pos) (eC (.int i)) := xc_of pe_int fun _ _ => by simp only [Shr]
theorem xc_str {x : Str} {j : Nat} {pos : Pos} : XC X T W Γ (.Constant (.str x) j pos) (eC (.str x)) := xc_of pe_str fun _ _ => by simp only [Shr]
theorem xc_bl {b : Bool} {j : Nat} {pos : Pos} : XC X T W Γ (.Constant (.bool b) j pos) (eC (.bl b)) := xc_of pe_bl fun _ _ => by simp only [Shr]
theorem xc_non {j : Nat} {pos : Pos} : XC X T W Γ (.Constant .none j pos) (eC .non) := xc_of pe_non fun _ _ => by simp only [Shr]
theorem xc_var {i : Nat} {e : Expr} (he : PE X e (tVar i)) (hm : Γ.getD i .s = .s) : XC X T W Γ e (eVar i) := pe_imp he fun σ H Q ⟨g, ρ, S, R, h⟩ => by
  have h : GoodC T W Γ ρ σ g S H (match ρ[i]? with | some (some d) => RE.ok d S | _ => .no) Q := h
  split at h
  · rename_i d e
    obtain ⟨v, h1, h2⟩ := R.slot i d e
    rw [hm] at h2
    exact ⟨v, h1, h rfl v H (.refl H) h2⟩
  · exact h.elim
theorem Rel.vvs {g : G} {ρ : Env} {S : Store} {σ : L2.St} {H : Hp} (R : Rel T g Γ ρ S σ H) {i : Nat} {d : D} (e : ρ[i]? = some (some d)) (hm : ∀ v, Γ.getD i .s ≠ .e v) : ∃ v, σ[i]? = some (some v) ∧ Shr T g.vv H d v := by
  obtain ⟨v, h1, h2⟩ := R.slot i d e
  refine ⟨v, h1, ?_⟩
  have no : ∀ F : Addr → Prop, ∀ a, F a → ¬ g.vv.U a := fun _ _ _ => G.vv_U
  cases hq : Γ.getD i .s <;> rw [hq] at h2 <;> simp only [RepM] at h2
  · exact h2.vv
  · exact shr_of_own2 stay_vv _ _ _ _ (no _) h2
  · exact shr_of_own2 stay_vv _ _ _ _ (no _) h2
  · exact shr_of_own2 stay_vv _ _ _ _ (no _) h2.2
  · exact absurd hq (hm _)
  · exact Shr.stay (g := g.bare) (g' := g.vv) ⟨fun _ _ h _ => h, fun a h => (G.vv_U h).elim, Nat.le_refl _, fun _ _ => rfl, rfl⟩ _ _ h2
theorem xv_var {i : Nat} {e : Expr} (he : PE X e (tVar i)) (hm : ∀ v, Γ.getD i .s ≠ .e v) : XV X T W Γ e (eVar i) := pe_imp he fun σ H Q ⟨g, ρ, S, R, h⟩ => by
  have h : GoodV T W Γ ρ σ g S H (match ρ[i]? with | some (some d) => RE.ok d S | _ => .no) Q := h
  split at h
  · rename_i d e
    obtain ⟨v, h1, h2⟩ := R.vvs e hm
    exact ⟨v, h1, h rfl v H (.refl H) h2⟩
  · exact h.elim
theorem goodC_of {ρ : Env} {σ : L2.St} {g : G} {S S0 : Store} {H : Hp} {o : Option D} {Q : VK} (h : GoodC T W Γ ρ σ g S0 H (.of S o) Q) : ∃ d, o = some d ∧ GoodC T W Γ ρ σ g S0 H (.ok d S) Q := by
  cases o with
  | none => exact h.elim
  | some d => exact ⟨d, rfl, h⟩
theorem goodV_of {ρ : Env} {σ : L2.St} {g : G} {S S0 : Store} {H : Hp} {o : Option D} {Q : VK} (h : GoodV T W Γ ρ σ g S0 H (.of S o) Q) : ∃ d, o = some d ∧ GoodV T W Γ ρ σ g S0 H (.ok d S) Q := by
  cases o with
  | none => exact h.elim
  | some d => exact ⟨d, rfl, h⟩
theorem xc_op {e : Expr} {r : R2} {h : D → D → Option D} {a b : Expr} {A B : FE} (ok : OpOk T r h) (ha : XC X T W Γ a A) (hb : XC X T W Γ b B)
    (he : PE X a (tC1 T W Γ A) → PE X b (tC1 T W Γ B) → PE X e (tOp r (tC1 T W Γ A) (tC1 T W Γ B))) : XC X T W Γ e (eOp h A B) := pe_imp (he ha hb) fun σ H Q ⟨g, ρ, S, R, hg⟩ =>
  ⟨g, ρ, S, R, goodC_bind hg fun x v H1 _ e1 s1 hg1 => ⟨g, ρ, S, R.ex e1, goodC_bind hg1 fun y w H2 _ e2 s2 hg2 => by
    obtain ⟨z, ez, hg3⟩ := goodC_of hg2
    exact ok g H2 x y z v w (Shr.stay (.ex e2) _ _ s1) s2 ez ((R.ex e1).ex e2).dom Q fun u H' ex su => hg3 rfl u H' ex su⟩⟩
theorem xv_op {e : Expr} {r : R2} {h : D → D → Option D} {a b : Expr} {A B : FE} (ok : OpOk T r h) (ha : XV X T W Γ a A) (hb : XV X T W Γ b B)
    (he : PE X a (tV T W Γ A) → PE X b (tV T W Γ B) → PE X e (tOp r (tV T W Γ A) (tV T W Γ B))) : XV X T W Γ e (eOp h A B) := pe_imp (he ha hb) fun σ H Q ⟨g, ρ, S, R, hg⟩ =>
  ⟨g, ρ, S, R, goodV_bind hg fun x v H1 _ e1 s1 hg1 => ⟨g, ρ, S, R.ex e1, goodV_bind hg1 fun y w H2 _ e2 s2 hg2 => by
    obtain ⟨z, ez, hg3⟩ := goodV_of hg2
    exact ok g.vv H2 x y z v w (Shr.stay (.ex e2) _ _ s1) s2 ez (fun a u => (G.vv_U u).elim) Q fun u H' ex su => hg3 rfl u H' ex su⟩⟩
theorem xc_un {e : Expr} {r : V → Hp → VK → Prop} {h : D → Option D} {a : Expr} {A : FE} (ok : UnOk T r h) (ha : XC X T W Γ a A) (he : PE X a (tC1 T W Γ A) → PE X e (tUn r (tC1 T W Γ A))) : XC X T W Γ e (eUn h A) := pe_imp (he ha) fun σ H Q ⟨g, ρ, S, R, hg⟩ =>
  ⟨g, ρ, S, R, goodC_bind hg fun x v H1 _ e1 s1 hg1 => by
    obtain ⟨z, ez, hg3⟩ := goodC_of hg1
    exact ok g H1 x z v s1 ez (R.ex e1).dom Q fun u H' ex su => hg3 rfl u H' ex su⟩
theorem xv_un {e : Expr} {r : V → Hp → VK → Prop} {h : D → Option D} {a : Expr} {A : FE} (ok : UnOk T r h) (ha : XV X T W Γ a A) (he : PE X a (tV T W Γ A) → PE X e (tUn r (tV T W Γ A))) : XV X T W Γ e (eUn h A) := pe_imp (he ha) fun σ H Q ⟨g, ρ, S, R, hg⟩ =>
  ⟨g, ρ, S, R, goodV_bind hg fun x v H1 _ e1 s1 hg1 => by
    obtain ⟨z, ez, hg3⟩ := goodV_of hg1
    exact ok g.vv H1 x z v s1 ez (fun a u => (G.vv_U u).elim) Q fun u H' ex su => hg3 rfl u H' ex su⟩
theorem xvl_nil : XVL X T W Γ [] lNil := pa_imp pa_nil fun σ H Q ⟨g, ρ, S, R, hg⟩ => hg rfl [] H (.refl H) .nil
theorem xcl_nil : XCL X T W Γ [] lNil := pa_imp pa_nil fun σ H Q ⟨g, ρ, S, R, hg⟩ => hg rfl [] H (.refl H) .nil
theorem goodVL_ex {ρ : Env} {σ : L2.St} {g : G} {S : Store} {H H1 : Hp} {r : RL} {Q : List V → Hp → Prop} (e : Exx H H1) (h : GoodVL T W Γ ρ σ g S H r Q) : GoodVL T W Γ ρ σ g S H1 r Q := by
  cases r with
  | ok d S' => exact fun es v H' x s => h es v H' (e.trans x) s
  | exc x S' => exact exc_ex e h
  | no => exact h
theorem goodCL_ex {ρ : Env} {σ : L2.St} {g : G} {S : Store} {H H1 : Hp} {r : RL} {Q : List V → Hp → Prop} (e : Exx H H1) (h : GoodCL T W Γ ρ σ g S H r Q) : GoodCL T W Γ ρ σ g S H1 r Q := by
  cases r with
  | ok d S' => exact fun es v H' x s => h es v H' (e.trans x) s
  | exc x S' => exact exc_ex e h
  | no => exact h
theorem xvl_cons {e : Expr} {es : List Expr} {A : FE} {B : FL} (ha : XV X T W Γ e A) (hb : XVL X T W Γ es B) (hx : PE X e (tV T W Γ A) → PA X es (tVL T W Γ B) → PA X (e :: es) (tCons (tV T W Γ A) (tVL T W Γ B))) : XVL X T W Γ (e :: es) (lCons A B) := pa_imp (hx ha hb) fun σ H Q ⟨g, ρ, S, R, hg⟩ => by
  refine ⟨g, ρ, S, R, ?_⟩
  unfold lCons at hg
  cases e : A ρ S with
  | ok x S1 =>
    rw [e] at hg
    intro es v H1 e1 s1
    subst es
    refine ⟨g, ρ, S1, R.ex e1, ?_⟩
    have hg : GoodVL T W Γ ρ σ g S1 H1 (match B ρ S1 with | .ok xs S2 => .ok (x :: xs) S2 | .exc x S2 => .exc x S2 | .no => .no) Q := goodVL_ex e1 hg
    cases e2 : B ρ S1 with
    | ok xs S2 =>
      rw [e2] at hg
      exact fun es vs H2 e3 s2 => hg es (v :: vs) H2 e3 (.cons (Shr.stay (.ex e3) _ _ s1) s2)
    | exc y S2 => rw [e2] at hg; exact hg
    | no => rw [e2] at hg; exact hg
  | exc y S1 => rw [e] at hg; exact hg
  | no => rw [e] at hg; exact hg
theorem xcl_cons {e : Expr} {es : List Expr} {A : FE} {B : FL} (ha : XC X T W Γ e A) (hb : XCL X T W Γ es B) (hx : PE X e (tC1 T W Γ A) → PA X es (tCL T W Γ B) → PA X (e :: es) (tCons (tC1 T W Γ A) (tCL T W Γ B))) : XCL X T W Γ (e :: es) (lCons A B) := pa_imp (hx ha hb) fun σ H Q ⟨g, ρ, S, R, hg⟩ => by
  refine ⟨g, ρ, S, R, ?_⟩
  unfold lCons at hg
  cases e : A ρ S with
  | ok x S1 =>
    rw [e] at hg
    intro es v H1 e1 s1
    subst es
    refine ⟨g, ρ, S1, R.ex e1, ?_⟩
    have hg : GoodCL T W Γ ρ σ g S1 H1 (match B ρ S1 with | .ok xs S2 => .ok (x :: xs) S2 | .exc x S2 => .exc x S2 | .no => .no) Q := goodCL_ex e1 hg
    cases e2 : B ρ S1 with
    | ok xs S2 =>
      rw [e2] at hg
      exact fun es vs H2 e3 s2 => hg es (v :: vs) H2 e3 (.cons (Shr.stay (.ex e3) _ _ s1) s2)
    | exc y S2 => rw [e2] at hg; exact hg
    | no => rw [e2] at hg; exact hg
  | exc y S1 => rw [e] at hg; exact hg
  | no => rw [e] at hg; exact hg
theorem goodVL_then {ρ : Env} {σ : L2.St} {g : G} {H : Hp} {A : FL} {h : List D → Option D} {S : Store} {Q : VK} {Q' : List V → Hp → Prop} (hg : GoodV T W Γ ρ σ g S H (eL h A ρ S) Q)
    (hk : ∀ ds z vs H', h ds = some z → Exx H H' → ShrL T g.vv H' ds vs → GoodV T W Γ ρ σ g S H' (.ok z S) Q → Q' vs H') : GoodVL T W Γ ρ σ g S H (A ρ S) Q' := by
  unfold eL at hg
  cases e : A ρ S with
  | ok ds S' =>
    rw [e] at hg
    intro es vs H' ex s
    subst es
    obtain ⟨z, ez, hg⟩ := goodV_of hg
    exact hk ds z vs H' ez ex s fun es v2 H2 e2 s2 => hg es v2 H2 (ex.trans e2) s2
  | exc x S' => rw [e] at hg; exact hg
  | no => rw [e] at hg; exact hg
theorem goodCL_then {ρ : Env} {σ : L2.St} {g : G} {H : Hp} {A : FL} {h : List D → Option D} {S : Store} {Q : VK} {Q' : List V → Hp → Prop} (hg : GoodC T W Γ ρ σ g S H (eL h A ρ S) Q)
    (hk : ∀ ds z vs H', h ds = some z → Exx H H' → ShrL T g H' ds vs → GoodC T W Γ ρ σ g S H' (.ok z S) Q → Q' vs H') : GoodCL T W Γ ρ σ g S H (A ρ S) Q' := by
  unfold eL at hg
  cases e : A ρ S with
  | ok ds S' =>
    rw [e] at hg
    intro es vs H' ex s
    subst es
    obtain ⟨z, ez, hg⟩ := goodC_of hg
    exact hk ds z vs H' ez ex s fun es v2 H2 e2 s2 => hg es v2 H2 (ex.trans e2) s2
  | exc x S' => rw [e] at hg; exact hg
  | no => rw [e] at hg; exact hg
theorem xv_L {e : Expr} {r : List V → Hp → VK → Prop} {h : List D → Option D} {as : List Expr} {A : FL} (ok : LsOk T r h) (ha : XVL X T W Γ as A) (he : PA X as (tVL T W Γ A) → PE X e (tCB r (tVL T W Γ A))) : XV X T W Γ e (eL h A) := pe_imp (he ha) fun σ H Q ⟨g, ρ, S, R, hg⟩ =>
  ⟨g, ρ, S, R, goodVL_then hg fun ds z vs H1 ez e1 s1 hg1 => ok g.vv H1 ds z vs s1 ez (fun a u => (G.vv_U u).elim) Q fun u H' ex su => hg1 rfl u H' ex su⟩
theorem xc_L {e : Expr} {r : List V → Hp → VK → Prop} {h : List D → Option D} {as : List Expr} {A : FL} (ok : LsOk T r h) (ha : XCL X T W Γ as A) (he : PA X as (tCL T W Γ A) → PE X e (tCB r (tCL T W Γ A))) : XC X T W Γ e (eL h A) := pe_imp (he ha) fun σ H Q ⟨g, ρ, S, R, hg⟩ =>
  ⟨g, ρ, S, R, goodCL_then hg fun ds z vs H1 ez e1 s1 hg1 => ok g H1 ds z vs s1 ez (R.ex e1).dom Q fun u H' ex su => hg1 rfl u H' ex su⟩
theorem xc_tup {es : List Expr} {A : FL} (ha : XCL X T W Γ es A) {x1} {pos : Pos} : XC X T W Γ (.Tuple es x1 pos) (eTup A) := pe_imp (pe_tup ha) fun σ H Q ⟨g, ρ, S, R, hg⟩ =>
  ⟨g, ρ, S, R, goodCL_then hg fun ds z vs H1 ez e1 s1 hg1 => by
    split at ez
    · rename_i hl
      cases ez
      exact ⟨by rw [← s1.length]; exact sz6 hl, fun p hp => hg1 rfl _ _ (Exx.new hp) (shr_newT s1 hp (R.ex e1).dom)⟩
    · cases ez⟩
theorem xc_lst {es : List Expr} {A : FL} (ha : XCL X T W Γ es A) {pos : Pos} : XC X T W Γ (.List es pos) (eLst A) := pe_imp (pe_lst ha) fun σ H Q ⟨g, ρ, S, R, hg⟩ =>
  ⟨g, ρ, S, R, goodCL_then hg fun ds z vs H1 ez e1 s1 hg1 => by
    split at ez
    · rename_i hl
      cases ez
      exact ⟨by rw [← s1.length]; exact sz6 hl, fun p hp => hg1 rfl _ _ (Exx.new hp) (shr_newL s1 hp (R.ex e1).dom)⟩
    · cases ez⟩
end
end Q

/-! Calls that see no object; fields. -/
namespace Q
open PySem PySem.Spec PyProof.Rows L2
mutual
/-- no object in it -/
def noObj : D → Bool
  | .tup l => noObjL l
  | .lst l => noObjL l
  | .scr l => noObjL l
  | .dct l => noObjK l
  | .obj _ => false
  | .fn _ _ => false
  | _ => true
def noObjL : List D → Bool
  | [] => true
  | d :: r => noObj d && noObjL r
def noObjK : List (D × D) → Bool
  | [] => true
  | (k, d) :: r => noObj k && noObj d && noObjK r
end
section
variable {T : Th} {g g2 : G} {H : Hp}
mutual
theorem noObj_shr (hU : ∀ a, g2.U a → g.U a) (hZ : g2.Z = g.Z) : ∀ (d : D) (v : V), noObj d = true → Shr T g H d v → Shr T g2 H d v
  | .non, _, _, h => by simpa only [Shr] using h
  | .bl _, _, _, h => by simpa only [Shr] using h
  | .int _, _, _, h => by simpa only [Shr] using h
  | .str _, _, _, h => by simpa only [Shr] using h
  | .tup l, v, e, h => by
    simp only [noObj] at e
    simp only [Shr] at h ⊢
    obtain ⟨a, vs, e2, q, r⟩ := h
    exact ⟨a, vs, e2, q.imp (fun z => ⟨z.1, fun u => z.2 (hU _ u)⟩) id, noObj_shrL hU hZ l vs e r⟩
  | .lst l, v, e, h => by
    simp only [noObj] at e
    simp only [Shr] at h ⊢
    obtain ⟨a, vs, e2, q, r⟩ := h
    exact ⟨a, vs, e2, ⟨q.1, fun u => q.2 (hU _ u)⟩, noObj_shrL hU hZ l vs e r⟩
  | .scr l, v, e, h => by
    simp only [noObj] at e
    simp only [Shr] at h ⊢
    obtain ⟨a, vs, e2, q, r⟩ := h
    exact ⟨a, vs, e2, q.imp (fun z => ⟨z.1, fun u => z.2 (hU _ u)⟩) id, noObj_shrL hU hZ l vs e r⟩
  | .dct l, v, e, h => by
    simp only [noObj] at e
    simp only [Shr] at h ⊢
    obtain ⟨a, vs, e2, q, r⟩ := h
    exact ⟨a, vs, e2, ⟨q.1, fun u => q.2 (hU _ u)⟩, noObj_shrK hU hZ l vs e r⟩
  | .obj _, _, e, _ => by simp only [noObj] at e; cases e
  | .fn _ _, _, e, _ => by simp only [noObj] at e; cases e
  | .gone _, _, _, h => by simp only [Shr] at h
theorem noObj_shrL (hU : ∀ a, g2.U a → g.U a) (hZ : g2.Z = g.Z) : ∀ (d : List D) (v : List V), noObjL d = true → ShrL T g H d v → ShrL T g2 H d v
  | [], _, _, h => by simpa only [ShrL] using h
  | d :: ds, vs, e, h => by
    simp only [noObjL, Bool.and_eq_true] at e
    simp only [ShrL] at h ⊢
    obtain ⟨v, ws, e2, q, r⟩ := h
    exact ⟨v, ws, e2, noObj_shr hU hZ d v e.1 q, noObj_shrL hU hZ ds ws e.2 r⟩
theorem noObj_shrK (hU : ∀ a, g2.U a → g.U a) (hZ : g2.Z = g.Z) : ∀ (d : List (D × D)) (v : List (V × V)), noObjK d = true → ShrK T g H d v → ShrK T g2 H d v
  | [], _, _, h => by simpa only [ShrK] using h
  | (k, d) :: ds, vs, e, h => by
    simp only [noObjK, Bool.and_eq_true] at e
    simp only [ShrK] at h ⊢
    obtain ⟨u, v, ws, e2, p, q, r⟩ := h
    exact ⟨u, v, ws, e2, noObj_shr hU hZ k u e.1.1 p, noObj_shr hU hZ d v e.1.2 q, noObj_shrK hU hZ ds ws e.2 r⟩
end
end
/-- all is others', there are no objects -/
def G.zero (g : G) : G := { g with N := 0, O := g.U, F := fun _ _ => False, B := fun _ => False, BF := fun _ _ _ => False }
theorem G.zero_U {g : G} {a : Addr} : g.zero.U a ↔ g.U a := ⟨fun h => h.elim id fun h => h.elim (fun ⟨_, h⟩ => h.elim) False.elim, fun h => .inl h⟩
def eCall0 (Φ : FF) (as : FL) : FE := fun ρ S => match as ρ S with
  | .ok ds S1 => if noObjL ds = true then (match Φ ds [] with
    | .ok d _ [] => .ok d S1
    | _ => .no) else .no
  | .exc x S1 => .exc x S1
  | .no => .no
section
variable {X : Cx} {T : Th} {W : WX} {Γ : List Md}
theorem xc_call0 {k n : Nat} {f : Addr} {fd : FuncData} {ps : List Str} {sg : Sig} {Φ : FF} {e : Expr} {es : List Expr} {A : FL} (F : FnOk X.prog X.w X.K X.mg X.base (L2.CX X.prog X.w) k f fd ps (spD T n sg Φ)) (hm : ∀ i, sg.ms.getD i .s = .s ∨ sg.ms.getD i .s = .l) (hA : ∀ ρ S ds S1, A ρ S = .ok ds S1 → ds.length = n)
    (ha : XCL X T W Γ es A) (he : PA X es (tCL T W Γ A) → PE X e (tCallS (spD T n sg Φ) (WE W) (tCL T W Γ A))) : XC X T W Γ e (eCall0 Φ A) := pe_imp (he ha) fun σ H Q ⟨g, ρ, S, R, hg⟩ => by
  refine ⟨g, ρ, S, R, ?_⟩
  unfold eCall0 at hg
  cases ea : A ρ S with
  | exc x S1 => rw [ea] at hg; exact hg
  | no => rw [ea] at hg; exact hg
  | ok ds S1 =>
    rw [ea] at hg
    intro es vs H1 e1 s1
    subst es
    have hg : GoodC T W Γ ρ σ g S1 H (if noObjL ds = true then (match Φ ds [] with | .ok d _ [] => RE.ok d S1 | _ => .no) else .no) Q := hg
    split at hg
    · rename_i hno
      have R1 := R.ex e1
      refine ⟨by rw [← s1.length]; exact hA ρ S1 ds S1 ea, g.zero, ds, [], ?_, ?_⟩
      · refine ⟨by simp [s1.length], fun i d e => ?_, fun _ _ _ h => h.elim, fun _ _ h => h.elim, fun _ _ h => h.elim, fun _ _ h => h, fun a h => R1.dom a (G.zero_U.mp h), ⟨rfl, fun _ _ h => absurd h (Nat.not_lt_zero _), fun _ h => absurd h (Nat.not_lt_zero _), fun _ _ _ h => h.elim, fun _ _ _ _ _ h => h.elim, fun n o h => by simp at h, fun n o h => by simp at h⟩, fun a h => R1.nt a (G.zero_U.mp h)⟩
        rw [List.getElem?_map] at e
        cases q : ds[i]? with
        | none => rw [q] at e; cases e
        | some d' =>
          rw [q] at e
          cases e
          have s2 := noObj_shrL (g2 := g.zero) (fun a h => G.zero_U.mp h) rfl _ _ hno s1
          obtain ⟨v, h1, h2⟩ := s2.get q
          refine ⟨v, by rw [List.getElem?_map, h1]; rfl, ?_⟩
          rcases hm i with z | z
          · rw [z]; exact h2
          · rw [z]
            exact Shr.stay (g := g.zero) (g' := g.zero.bare) ⟨fun _ _ h _ => h, fun a h => .inl (G.bare_U h), Nat.le_refl _, fun _ _ => rfl, rfl⟩ _ _ h2
      · cases ef : Φ ds [] with
        | no => rw [ef] at hg; exact hg.elim
        | exc x outs S2 => rw [ef] at hg; exact hg.elim
        | ok d outs S2 =>
          rw [ef] at hg
          cases S2 with
          | cons _ _ => exact hg.elim
          | nil =>
            intro v g' H' Fo R' f' nf ho hw
            have ex : Exx H1 H' := fun a o h => f'.keep a o h (by
              by_cases hz : g.zero.O a
              · exact .inr hz
              · exact .inl fun u => hz (by rcases u with u | ⟨_, u⟩ | u <;> first | exact u | exact u.elim))
            have hN : g'.N = 0 := R'.st.N
            have st : Stay (g'.plus Fo) H' g H' := ⟨fun _ _ h _ => h, fun a h => .inl (.inl (.inl (by rw [f'.O]; exact h))), by show g'.N ≤ g.N; rw [hN]; exact Nat.zero_le _, fun n h => absurd (show n < g'.N from h) (by rw [hN]; exact Nat.not_lt_zero _), by
              have : g'.Z = g.zero.Z := f'.Z
              exact this.symm⟩
            refine hg rfl v H' (e1.trans ex) (shr_of_own2 st sg.kr Fo d v (fun a z u => (ho a z).1 u) hw)
    · exact hg.elim
end
/-! ### fields -/
def getF (S : Store) (n : Nat) (f : Str) : Option (Nat × D) := (S[n]?).bind fun o => (o.fs.lookup f).map fun d => (o.cls, d)
theorem lookup_pair {β γ : Type} {f : Str} {d : β} : ∀ {l : List (Str × β)} {m : List (Str × γ)}, m.map (·.1) = l.map (·.1) → l.lookup f = some d → ∃ (j : Nat) (w : γ), l[j]? = some (f, d) ∧ m[j]? = some (f, w) ∧ m.lookup f = some w
  | [], _, _, h => by cases h
  | (k, x) :: l, [], e, _ => by simp at e
  | (k, x) :: l, (k', y) :: m, e, h => by
    simp only [List.map_cons, List.cons.injEq] at e
    obtain ⟨e1, e2⟩ := e
    subst e1
    by_cases hk : f = k'
    · subst hk
      rw [List.lookup_cons_self] at h
      cases h
      exact ⟨0, y, rfl, rfl, by rw [List.lookup_cons_self]⟩
    · have hb : (f == k') = false := beq_eq_false_iff_ne.mpr hk
      rw [List.lookup_cons, hb] at h
      obtain ⟨j, w, h1, h2, h3⟩ := lookup_pair e2 h
      exact ⟨j + 1, w, h1, h2, by rw [List.lookup_cons, hb]; exact h3⟩
section
variable {T : Th} {g : G} {S : Store} {H : Hp} {n : Nat} {f : Str} {c : Nat} {d : D}
theorem SR.fld (r : SR T g S H) (e : getF S n f = some (c, d)) : n < g.N ∧ ∃ dx fs v, H (g.μ n) = some (.ins (T.cA c) dx fs) ∧ fs.lookup f = some v ∧ Own T g H (T.fm c f) (g.BF n f) d v := by
  unfold getF at e
  obtain ⟨o, e1, e2⟩ := Option.bind_eq_some_iff.mp e
  obtain ⟨d', e3, e4⟩ := Option.map_eq_some_iff.mp e2
  cases e4
  refine ⟨by rw [r.N]; exact (List.getElem?_eq_some_iff.mp e1).1, ?_⟩
  obtain ⟨dx, fs, h1, h2, h3⟩ := r.ob n o e1
  obtain ⟨j, w, j1, j2, j3⟩ := lookup_pair h2 e3
  exact ⟨dx, fs, w, h1, j3, h3 j (f, d) (f, w) j1 j2⟩
end
def fldK (fm : Nat → Str → Nat) (cs : List Nat) (f : Str) (x : D) (S : Store) : RE := match x with
  | .obj n => (match getF S n f with
    | some (c, d) => if c ∈ cs ∧ fm c f = 0 then .ok d S else .no
    | none => .no)
  | _ => .no
def fldV (cs : List Nat) (f : Str) (x : D) (S : Store) : RE := match x with
  | .obj n => (match getF S n f with
    | some (c, d) => if c ∈ cs then .ok d S else .no
    | none => .no)
  | _ => .no
def eFld (fm : Nat → Str → Nat) (cs : List Nat) (f : Str) (a : FE) : FE := fun ρ S => (a ρ S).bind fun x S1 => fldK fm cs f x S1
def eFldV (cs : List Nat) (f : Str) (a : FE) : FE := fun ρ S => (a ρ S).bind fun x S1 => fldV cs f x S1
/-- what the classes must say of a field -/
def FldOk (K : PySem.W.Frag) (T : Th) (cs : List Nat) (f : Str) : Prop := ∀ c ∈ cs, Cls K (T.cA c) ∧ NoAttr K (T.cA c) f
section
variable {X : Cx} {T : Th} {W : WX} {Γ : List Md} {fm : Nat → Str → Nat} {cs : List Nat} {f : Str}
theorem fldK_get {x z : D} {S S2 : Store} (h : fldK fm cs f x S = .ok z S2) : ∃ n c, x = .obj n ∧ getF S n f = some (c, z) ∧ c ∈ cs ∧ fm c f = 0 ∧ S2 = S := by
  unfold fldK at h
  split at h
  · rename_i n
    split at h
    · rename_i c d e
      split at h
      · rename_i hc
        cases h
        exact ⟨n, c, rfl, e, hc.1, hc.2, rfl⟩
      · cases h
    · cases h
  · cases h
theorem fldV_get {x z : D} {S S2 : Store} (h : fldV cs f x S = .ok z S2) : ∃ n c, x = .obj n ∧ getF S n f = some (c, z) ∧ c ∈ cs ∧ S2 = S := by
  unfold fldV at h
  split at h
  · rename_i n
    split at h
    · rename_i c d e
      split at h
      · rename_i hc
        cases h
        exact ⟨n, c, rfl, e, hc, rfl⟩
      · cases h
    · cases h
  · cases h
theorem fldK_exc {x : D} {S S2 : Store} {y : Exc} (h : fldK fm cs f x S = .exc y S2) : False := by
  unfold fldK at h
  repeat' split at h
  all_goals cases h
theorem fldV_exc {x : D} {S S2 : Store} {y : Exc} (h : fldV cs f x S = .exc y S2) : False := by
  unfold fldV at h
  repeat' split at h
  all_goals cases h
theorem xe_fld {e a : Expr} {A : FE} (hK : X.K = T.K) (hfm : T.fm = fm) (hc : FldOk X.K T cs f) (ha : XE X T W Γ a A) (he : PE X a (tX T W Γ A) → PE X e (tFld X.K (tX T W Γ A) f)) : XE X T W Γ e (eFld fm cs f A) := pe_imp (he ha) fun σ H Q ⟨g, ρ, S, R, hg⟩ =>
  ⟨g, ρ, S, R, good_bind hg fun x S1 v g1 H1 _ R1 f1 s1 hg1 => by
    cases ez : fldK fm cs f x S1 with
    | no => rw [ez] at hg1; exact hg1.elim
    | exc y S2 => exact (fldK_exc ez).elim
    | ok z S2 =>
      obtain ⟨n, c, rfl, eF, hcs, h0, rfl⟩ := fldK_get ez
      rw [ez] at hg1
      obtain ⟨hn, dx, fs, w, h1, h2, h3⟩ := R1.st.fld eF
      simp only [Shr] at s1
      rw [hfm, h0] at h3
      have h3 : Shr T g1 H1 z w := by simpa only [Own] using h3
      exact ⟨g1.μ n, _, dx, fs, w, s1.2, h1, (hc c hcs).1, (hc c hcs).2, h2, hg1 w g1 H1 R1 (.refl _ _) h3⟩⟩
theorem xc_fld {e a : Expr} {A : FE} (hfm : T.fm = fm) (hc : FldOk X.K T cs f) (ha : XC X T W Γ a A) (he : PE X a (tC1 T W Γ A) → PE X e (tFld X.K (tC1 T W Γ A) f)) : XC X T W Γ e (eFld fm cs f A) := pe_imp (he ha) fun σ H Q ⟨g, ρ, S, R, hg⟩ =>
  ⟨g, ρ, S, R, goodC_bind hg fun x v H1 _ e1 s1 hg1 => by
    cases ez : fldK fm cs f x S with
    | no => rw [ez] at hg1; exact hg1.elim
    | exc y S2 => exact (fldK_exc ez).elim
    | ok z S2 =>
      obtain ⟨n, c, rfl, eF, hcs, h0, rfl⟩ := fldK_get ez
      rw [ez] at hg1
      obtain ⟨hn, dx, fs, w, h1, h2, h3⟩ := (R.ex e1).st.fld eF
      simp only [Shr] at s1
      rw [hfm, h0] at h3
      have h3 : Shr T g H1 z w := by simpa only [Own] using h3
      exact ⟨g.μ n, _, dx, fs, w, s1.2, h1, (hc c hcs).1, (hc c hcs).2, h2, hg1 rfl w H1 (.refl _) h3⟩⟩
theorem xv_fld {e a : Expr} {A : FE} (hc : FldOk X.K T cs f) (ha : XC X T W Γ a A) (he : PE X a (tC1 T W Γ A) → PE X e (tFld X.K (tC1 T W Γ A) f)) : XV X T W Γ e (eFldV cs f A) := pe_imp (he ha) fun σ H Q ⟨g, ρ, S, R, hg⟩ =>
  ⟨g, ρ, S, R, goodVC_bind hg fun x v H1 _ e1 s1 hg1 => by
    cases ez : fldV cs f x S with
    | no => rw [ez] at hg1; exact hg1.elim
    | exc y S2 => exact (fldV_exc ez).elim
    | ok z S2 =>
      obtain ⟨n, c, rfl, eF, hcs, rfl⟩ := fldV_get ez
      rw [ez] at hg1
      obtain ⟨hn, dx, fs, w, h1, h2, h3⟩ := (R.ex e1).st.fld eF
      simp only [Shr] at s1
      exact ⟨g.μ n, _, dx, fs, w, s1.2, h1, (hc c hcs).1, (hc c hcs).2, h2, hg1 rfl w H1 (.refl _) (shr_of_own2 stay_vv _ _ _ _ (fun _ _ => G.vv_U) h3)⟩⟩
end
end Q

/-! Calls with defaults, methods, instances made; fields stored. -/
namespace Q
open PySem PySem.Spec PyProof.Rows L2
section
variable {X : Cx} {CX : CXT} {k : Nat} {f C : Addr} {fd : FuncData} {ps : List Str} {sp : Sp} {E : L2.St → XK} {x m : Str} {p pos apos : Pos} {e o : Expr} {es : List Expr} {ta : TE} {t : TA}
/-- a def that may be called so: sp says what it does of the given arguments, its defaults behind them -/
def Def1 (X : Cx) (f : Addr) (sp : Sp) : Prop := ∃ (k : Nat) (fd : FuncData) (ps : List Str) (ds : List Value) (dvs : List V) (sp0 : Sp), FnOk X.prog X.w X.K X.mg X.base (L2.CX X.prog X.w) k f fd ps sp0 ∧ Room (k + 1) X.A ∧ Binds X.K fd ps ds ∧ Vals dvs ds ∧ ∀ vs H Q E, sp vs H Q E → sp0 (vs ++ dvs) H Q E
theorem def1_run {pins : List (Addr × Obj)} {σ : L2.St} {H : Hp} {s : Shared} {Q : VK} {us : List Value} {vs : List V} (D : Def1 X f sp) (hx : PassesAt (L2.CX X.prog X.w) X σ (E σ)) (I : Inv X pins σ H s) (r : Vals vs us) (h : sp vs H Q (E σ)) :
    wpAny (model X.prog X.w) X.A (call (.ref f) us) (EP X pins σ Q) X.xe s := by
  obtain ⟨k, fd, ps, ds, dvs, sp0, F, hr, hb, hd, hs⟩ := D
  have h0 := hs _ _ _ _ h
  have r2 : Vals (vs ++ dvs) (us ++ ds) := r.append hd
  have hl : (us ++ ds).length = ps.length := by rw [← r2.length]; exact F.len _ _ _ _ h0
  refine wpAny_call (codeAny_mono (F.run X.A X.stack s H ⟨us, []⟩ (us ++ ds) (vs ++ dvs) Q (E σ) (hr.mono (Nat.le_succ _)) I.env0 (hb s us I.kIn hl) r2 h0) fun r s' hq => ?_)
  cases r with
  | ok fl => cases fl with
    | next => exact hq.elim
    | brk => exact hq.elim
    | cont => exact hq.elim
    | ret u => exact I.after hq
  | error e => exact hx pins H s e s' I hq
theorem pe_def (D : Def1 X f sp) (hg : Gl X x) (hm : X.mg x = some (.ref f)) (hk : PySem.W.keepIn X.K (.ref f) = true) (hx : ∀ σ, PassesAt (L2.CX X.prog X.w) X σ (E σ)) (ha : PA X (e :: es) t)
    (hdb : (x == ("__debug__" : Str)) = false := by decide) (he : starEach (e :: es) X.env = (false, eval e X.env) :: starEach es X.env := by rfl) (hpl : (backTo pos (starEach es X.env)).any (·.1) = false := by rfl) :
    PE X (.Call (.Name x p) (e :: es) [] pos) (tCallS sp E t) := ⟨fun pins s σ H Q I h =>
  wpAny_Call_Name_kw (ld_glob I hg hm (PySem.W.callWith_K (h₀ := X.base) I.ok.mod.kin hk (thn (ha.run pos pins s σ H _ I h) fun us s1 ⟨vs, H1, I1, r, q⟩ => ⟨I1.kIn, def1_run D (hx σ) I1 r q⟩) he hpl) hdb)⟩
theorem pe_def0 (D : Def1 X f sp) (hg : Gl X x) (hm : X.mg x = some (.ref f)) (hk : PySem.W.keepIn X.K (.ref f) = true) (hx : ∀ σ, PassesAt (L2.CX X.prog X.w) X σ (E σ)) (hdb : (x == ("__debug__" : Str)) = false := by decide) :
    PE X (.Call (.Name x p) [] [] pos) (tCallS sp E tNil) := ⟨fun pins s σ H Q I h =>
  wpAny_Call_Name_kw (ld_glob I hg hm (PySem.W.callWith_K0 I.kIn hk (def1_run (us := []) D (hx σ) I .nil h)) hdb)⟩
/-- o.m(..): by the object's class -/
def tMethD (m : Str) (Ms : Addr → Sp → Prop) (E : L2.St → XK) (ta : TE) (t : TA) : TE := fun σ H Q => ta σ H fun x H1 => ∃ a C dx fs sp, x = .ref a ∧ H1 a = some (.ins C dx fs) ∧ Ms C sp ∧ fs.lookup m = none ∧ t σ H1 fun vs H2 => sp (x :: vs) H2 Q (E σ)
def MethsOk (X : Cx) (m : Str) (Ms : Addr → Sp → Prop) : Prop := ∀ C sp, Ms C sp → Cls X.K C ∧ ∃ f, Meth X.K C m f ∧ Def1 X f sp
theorem pe_methD {pl : Sem Bool} {Ms : Addr → Sp → Prop} (he : PE X o ta) (M : MethsOk X m Ms) (hx : ∀ σ, PassesAt (L2.CX X.prog X.w) X σ (E σ)) (ha : PA X (e :: es) t)
    (hst : starEach (e :: es) X.env = (false, eval e X.env) :: starEach es X.env := by rfl) (hpl : (backTo pos (starEach es X.env)).any (·.1) = false := by rfl)
    (ht : eval (.Call (.Attribute o m apos) (e :: es) [] pos) X.env = (do
      let ov ← eval o X.env; standAt apos.atName
      let (f, first) ← holding [ov] (getMethod ov m pl)
      callWith pos f first (backTo pos (starEach (e :: es) X.env)) (backToKw pos (keywordEach [] X.env))) := by rfl) :
    PE X (.Call (.Attribute o m apos) (e :: es) [] pos) (tMethD m Ms E ta t) := ⟨fun pins s σ H Q I h => by
  refine PySem.W.methodCall_KW (pl := pl) (thn (he.run pins s σ H _ I h) fun u s1 ⟨x, H1, I1, rx, a, C, dx, fs, sp, ex, ea, ms, l, q⟩ => ?_) ht
  subst ex
  cases (show u = Value.ref a from rx)
  obtain ⟨c, f, hm, D⟩ := M C sp ms
  exact getmeth_ok I1 ea c hm l (PySem.W.callWith_K (first := [.ref a]) (h₀ := X.base) I.ok.mod.kin hm.kp (thn (ha.run pos pins s1 σ H1 _ I1 q) fun us s2 ⟨vs, H2, I2, r, q2⟩ => ⟨I2.kIn, def1_run (us := .ref a :: us) (vs := .ref a :: vs) D (hx σ) I2 (.cons rfl r) q2⟩) hst hpl)⟩
theorem pe_methD0 {pl : Sem Bool} {Ms : Addr → Sp → Prop} (he : PE X o ta) (M : MethsOk X m Ms) (hx : ∀ σ, PassesAt (L2.CX X.prog X.w) X σ (E σ))
    (ht : eval (.Call (.Attribute o m apos) [] [] pos) X.env = (do
      let ov ← eval o X.env; standAt apos.atName
      let (f, first) ← holding [ov] (getMethod ov m pl)
      callWith pos f first (backTo pos (starEach [] X.env)) (backToKw pos (keywordEach [] X.env))) := by rfl) :
    PE X (.Call (.Attribute o m apos) [] [] pos) (tMethD m Ms E ta tNil) := ⟨fun pins s σ H Q I h => by
  refine PySem.W.methodCall_KW (pl := pl) (thn (he.run pins s σ H _ I h) fun u s1 ⟨x, H1, I1, rx, a, C, dx, fs, sp, ex, ea, ms, l, q⟩ => ?_) ht
  subst ex
  cases (show u = Value.ref a from rx)
  obtain ⟨c, f, hm, D⟩ := M C sp ms
  exact getmeth_ok I1 ea c hm l (PySem.W.callWith_K0 (first := [.ref a]) I1.kIn hm.kp (def1_run (us := [.ref a]) (vs := [.ref a]) D (hx σ) I1 (.cons rfl .nil) q))⟩
/-- C(..) -/
def tMakeD (C : Addr) (sp : Sp) (E : L2.St → XK) (t : TA) : TE := fun σ H Q => t σ H fun vs H1 => ∀ x dx, H1 x = none → H1 dx = none → dx ≠ x → sp (.ref x :: vs) (upd (upd H1 dx (.own x)) x (.ins C dx [])) (fun v H2 => v = .non ∧ Q (.ref x) H2) (E σ)
theorem make_runD {pins : List (Addr × Obj)} {σ : L2.St} {H : Hp} {s : Shared} {Q : VK} {us : List Value} {vs : List V} (M : Mk X.K C f) (D : Def1 X f sp) (hx : PassesAt (L2.CX X.prog X.w) X σ (E σ)) (I : Inv X pins σ H s) (r : Vals vs us)
    (h : ∀ x dx, H x = none → H dx = none → dx ≠ x → sp (.ref x :: vs) (upd (upd H dx (.own x)) x (.ins C dx [])) (fun v H2 => v = .non ∧ Q (.ref x) H2) (E σ)) :
    wpAny (model X.prog X.w) X.A (call (.ref C) us) (EP X pins σ Q) X.xe s := by
  obtain ⟨k, fd, ps, ds, dvs, sp0, F, hr, hb, hd, hs⟩ := D
  have hq := hs _ _ _ _ (h (s.heap.objs.size + 1) s.heap.objs.size (I.hok.fresh (Nat.le_succ _)) (I.hok.fresh (Nat.le_refl _)) (Nat.ne_of_lt (Nat.lt_succ_self _)))
  have I2 := Inv.made (C := C) I
  have r2 : Vals (V.ref (s.heap.objs.size + 1) :: vs ++ dvs) (Value.ref (s.heap.objs.size + 1) :: us ++ ds) := Vals.append (.cons rfl r) hd
  have hl : (Value.ref (s.heap.objs.size + 1) :: us ++ ds).length = ps.length := by rw [← r2.length]; exact F.len _ _ _ _ hq
  have go := F.run _ X.stack _ _ ⟨Value.ref (s.heap.objs.size + 1) :: us, []⟩ (Value.ref (s.heap.objs.size + 1) :: us ++ ds) _ _ (E σ) (hr.make C us []) (I2.env0.make C us []) (hb _ (Value.ref (s.heap.objs.size + 1) :: us) I2.kIn hl) r2 hq
  refine wpAny_call (make_map (f := f) I.kIn M.makes M.init (beq_iff_eq.mp M.fn) (codeAny_mono go fun r s' hq' => ?_))
  cases r with
  | ok fl => cases fl with
    | next => exact hq'.elim
    | brk => exact hq'.elim
    | cont => exact hq'.elim
    | ret u =>
      obtain ⟨v, H', I3, rv, ev, q3⟩ := I2.after hq'
      cases ev
      exact ⟨rv, ⟨V.ref (s.heap.objs.size + 1), H', I3, rfl, q3⟩⟩
  | error e => exact hx pins _ _ e s' I2 hq'
theorem pe_makeD1 (M : Mk X.K C f) (D : Def1 X f sp) (hg : Gl X x) (hm : X.mg x = some (.ref C)) (hx : ∀ σ, PassesAt (L2.CX X.prog X.w) X σ (E σ)) (ha : PA X (e :: es) t)
    (hdb : (x == ("__debug__" : Str)) = false := by decide) (he : starEach (e :: es) X.env = (false, eval e X.env) :: starEach es X.env := by rfl) (hpl : (backTo pos (starEach es X.env)).any (·.1) = false := by rfl) :
    PE X (.Call (.Name x p) (e :: es) [] pos) (tMakeD C sp E t) := ⟨fun pins s σ H Q I h =>
  wpAny_Call_Name_kw (ld_glob I hg hm (PySem.W.callWith_K (h₀ := X.base) I.ok.mod.kin M.kp (thn (ha.run pos pins s σ H _ I h) fun us s1 ⟨vs, H1, I1, r, q⟩ => ⟨I1.kIn, make_runD M D (hx σ) I1 r q⟩) he hpl) hdb)⟩
theorem pe_makeD0 (M : Mk X.K C f) (D : Def1 X f sp) (hg : Gl X x) (hm : X.mg x = some (.ref C)) (hx : ∀ σ, PassesAt (L2.CX X.prog X.w) X σ (E σ)) (hdb : (x == ("__debug__" : Str)) = false := by decide) :
    PE X (.Call (.Name x p) [] [] pos) (tMakeD C sp E tNil) := ⟨fun pins s σ H Q I h =>
  wpAny_Call_Name_kw (ld_glob I hg hm (PySem.W.callWith_K0 I.kIn M.kp (make_runD (us := []) M D (hx σ) I .nil h)) hdb)⟩
end
end Q

/-! Calls with defaults, methods, instances made: over the data. -/
namespace Q
open PySem PySem.Spec PyProof.Rows L2
section
variable {X : Cx} {T : Th} {W : WX} {Γ : List Md} {bs : List Bool}
theorem ShrM.app {g : G} {H : Hp} {dd : List D} {dvs : List V} (hd : ∀ g H, ShrL T g H dd dvs) : ∀ {bs : List Bool} {ds : List D} {vs : List V}, ShrM T g H bs ds vs → ShrM T g H bs (ds ++ dd) (vs ++ dvs)
  | bs, [], vs, h => by
    simp only [ShrM] at h
    subst h
    show ShrM T g H bs dd dvs
    have key : ∀ (dd : List D) (dvs : List V) (bs : List Bool), (∀ g H, ShrL T g H dd dvs) → ShrM T g H bs dd dvs := by
      intro dd
      induction dd with
      | nil => intro dvs bs h; have := h g H; simp only [ShrL] at this; simp only [ShrM]; exact this
      | cons d r ih =>
        intro dvs bs h
        have h0 := h g H
        simp only [ShrL] at h0
        obtain ⟨v, ws, rfl, _, _⟩ := h0
        simp only [ShrM]
        refine ⟨v, ws, rfl, ?_, ih ws bs.tail fun g' H' => ?_⟩
        · have h1 := h (if bs.headD false = true then g.bb else g) H
          simp only [ShrL] at h1
          obtain ⟨v', ws', e, s, _⟩ := h1
          cases e
          exact s
        · have h1 := h g' H'
          simp only [ShrL] at h1
          obtain ⟨v', ws', e, _, r'⟩ := h1
          cases e
          exact r'
    exact key dd dvs bs hd
  | bs, d :: ds, vs, h => by
    simp only [ShrM] at h
    obtain ⟨v, ws, rfl, q, r⟩ := h
    show ShrM T g H bs (d :: (ds ++ dd)) (v :: (ws ++ dvs))
    simp only [ShrM]
    exact ⟨v, _, rfl, q, ShrM.app hd r⟩
def RFE (r : RF) : RE := match r with
  | .ok d _ S => .ok d S
  | .exc x _ S => .exc x S
  | .no => .no
/-- from the arguments to the call's promise -/
theorem call_core {n : Nat} {sg : Sig} {Φ : FF} {g g1 : G} {H H1 : Hp} {ρ : Env} {σ : L2.St} {S1 : Store} {ds : List D} {vs : List V} {Q : VK} (R1 : Rel T g1 Γ ρ S1 σ H1) (f1 : FrE g H g1 H1) (s1 : ShrM T g1 H1 bs ds vs) (hm : ∀ i, sg.ms.getD i .s = mdOf (bs.getD i false))
    (hn : ds.length = n) (hg : GoodN T W Γ sg.kr ρ σ g H (RFE (Φ ds S1)) Q) : spD T n sg Φ vs H1 Q (WE W σ) := by
  refine ⟨by rw [← s1.length]; exact hn, g1.callee, ds, S1, rel_argsM R1 s1 hm, ?_⟩
  have npin : ∀ (i k : Nat), sg.ms.getD i .s ≠ .p k := fun i k h => by
    rw [hm] at h
    unfold mdOf at h
    split at h <;> cases h
  cases ef : Φ ds S1 with
  | no => rw [ef] at hg; exact hg
  | ok d outs S2 =>
    rw [ef] at hg
    intro v g' H' Fo R' f' nf ho hw
    have nf' : ∀ i a, ¬ g'.F i a := fun i a z => by
      obtain ⟨k, e⟩ := nf i a z
      exact npin i k e
    obtain ⟨R2, f2, hU⟩ := call_back R1 R' f' nf'
    obtain ⟨R3, out⟩ := call_fresh R1 R' f' nf' ho
    refine hg v (g1.back g') H' Fo R3 (f1.trans f2) (fun a z => ⟨(out a z).1, ?_⟩) ?_
    · rcases (out a z).2 with w | w
      · exact f1.B a w
      · exact f1.none w
    · have st : Stay (g'.plus Fo) H' ((g1.back g').plusF ρ.length Fo) H' := ⟨fun _ _ h _ => h, fun a h => .inl (by
        rcases G.plusF_U.mp h with h | h
        · exact hU a h
        · exact G.plus_U.mpr (.inr h)), Nat.le_refl _, fun _ _ => rfl, rfl⟩
      exact Own.keepF st _ _ _ _ (fun _ _ _ q => q) hw
  | exc x outs S2 =>
    rw [ef] at hg
    intro c dd g' H' R' f' nf ex
    have nf' : ∀ i a, ¬ g'.F i a := fun i a z => by
      obtain ⟨k, e⟩ := nf i a z
      exact npin i k e
    obtain ⟨R2, f2, hU⟩ := call_back R1 (plus_none R') f' nf'
    refine hg c dd (g1.back g') H' R2 (f1.trans f2) ?_
    obtain ⟨e0, e1, e2⟩ := ex
    refine ⟨e0, e1, e2.imp id fun ⟨d, fs, h1, h2, h3, h4, h5⟩ => ⟨d, fs, h1, h2, h3, h4, ?_⟩⟩
    have st : Stay g' H' (g1.back g') H' := ⟨fun _ _ h _ => h, fun a h => .inl (by
      rcases hU a h with (h | h) | h | h
      · exact .inl h
      · exact h.elim
      · exact .inr (.inl h)
      · exact .inr (.inr h)), Nat.le_refl _, fun _ _ => rfl, rfl⟩
    exact ShrL.stay st _ _ h5
/-- the promise, its defaults' values behind -/
def spDD (T : Th) (n : Nat) (sg : Sig) (Φ : FF) (dvs : List V) : Sp := fun vs H Q E => spD T n sg Φ (vs ++ dvs) H Q E
def eCallD (Φ : FF) (dd : List D) (as : FL) : FE := fun ρ S => match as ρ S with
  | .ok ds S1 => RFE (Φ (ds ++ dd) S1)
  | .exc x S1 => .exc x S1
  | .no => .no
theorem xf_callD {n m : Nat} {sg : Sig} {Φ : FF} {e : Expr} {es : List Expr} {A : FL} {dd : List D} {dvs : List V} (hd : ∀ g H, ShrL T g H dd dvs) (hm : ∀ i, sg.ms.getD i .s = mdOf (bs.getD i false)) (hA : ∀ ρ S ds S1, A ρ S = .ok ds S1 → ds.length = m) (hn : m + dd.length = n)
    (ha : XM X T W Γ bs es A) (he : PA X es (tM T W Γ bs A) → PE X e (tCallS (spDD T n sg Φ dvs) (WE W) (tM T W Γ bs A))) : XF X T W Γ sg.kr e (eCallD Φ dd A) := pe_imp (he ha) fun σ H Q ⟨g, ρ, S, R, hg⟩ => by
  refine ⟨g, ρ, S, R, ?_⟩
  unfold eCallD at hg
  cases ea : A ρ S with
  | exc x S1 => rw [ea] at hg; exact hg
  | no => rw [ea] at hg; exact hg
  | ok ds S1 =>
    rw [ea] at hg
    intro vs g1 H1 R1 f1 s1
    exact call_core R1 f1 (s1.app hd) hm (by rw [List.length_append, hA ρ S ds S1 ea]; exact hn) hg
/-! ### methods -/
def methK (m : Str) (tbl : List (Nat × FF)) (dd : List D) (x : D) (S1 : Store) (k : Store → RL) : RE := match x with
  | .obj n => (match S1[n]? with
    | some ob => if (ob.fs.lookup m).isNone = true then (match tbl.lookup ob.cls with
      | some Φ => (match k S1 with
        | .ok ds S2 => RFE (Φ (.obj n :: (ds ++ dd)) S2)
        | .exc y S2 => .exc y S2
        | .no => .no)
      | none => .no) else .no
    | none => .no)
  | _ => .no
def eMeth (m : Str) (tbl : List (Nat × FF)) (dd : List D) (a : FE) (as : FL) : FE := fun ρ S => (a ρ S).bind fun x S1 => methK m tbl dd x S1 (as ρ)
def Ms (T : Th) (tbl : List (Nat × FF)) (n : Nat) (sg : Sig) (dvs : List V) : Addr → Sp → Prop := fun C sp => ∃ c Φ, tbl.lookup c = some Φ ∧ C = T.cA c ∧ sp = spDD T n sg Φ dvs
/-- what a class must say of a method -/
def MethOk (X : Cx) (T : Th) (m : Str) (n : Nat) (sg : Sig) (dvs : List V) (c : Nat) (Φ : FF) : Prop := Cls X.K (T.cA c) ∧ ∃ f, Meth X.K (T.cA c) m f ∧ Def1 X f (spDD T n sg Φ dvs)
def TblOk (X : Cx) (T : Th) (m : Str) (n : Nat) (sg : Sig) (dvs : List V) (tbl : List (Nat × FF)) : Prop := ∀ c Φ, tbl.lookup c = some Φ → MethOk X T m n sg dvs c Φ
theorem tbl_nil {m : Str} {n : Nat} {sg : Sig} {dvs : List V} : TblOk X T m n sg dvs [] := fun _ _ h => by cases h
theorem tbl_cons {m : Str} {n : Nat} {sg : Sig} {dvs : List V} {c : Nat} {Φ : FF} {r : List (Nat × FF)} (h : MethOk X T m n sg dvs c Φ) (hr : TblOk X T m n sg dvs r) : TblOk X T m n sg dvs ((c, Φ) :: r) := fun c' Φ' e => by
  by_cases hc : c' = c
  · subst hc
    rw [List.lookup_cons_self] at e
    cases e
    exact h
  · have hb : (c' == c) = false := beq_eq_false_iff_ne.mpr hc
    rw [List.lookup_cons, hb] at e
    exact hr c' Φ' e
theorem tbl_meths {m : Str} {n : Nat} {sg : Sig} {dvs : List V} {tbl : List (Nat × FF)} (h : TblOk X T m n sg dvs tbl) : MethsOk X m (Ms T tbl n sg dvs) := fun C sp ⟨c, Φ, e, hC, hs⟩ => by
  subst hC hs
  exact h c Φ e
theorem def1_of {n : Nat} {sg : Sig} {Φ : FF} {f : Addr} {k : Nat} {fd : FuncData} {ps : List Str} {ds : List Value} {dvs : List V} (F : FnOk X.prog X.w X.K X.mg X.base (L2.CX X.prog X.w) k f fd ps (spD T n sg Φ)) (hr : Room (k + 1) X.A) (hb : Binds X.K fd ps ds) (hd : Vals dvs ds) : Def1 X f (spDD T n sg Φ dvs) :=
  ⟨k, fd, ps, ds, dvs, _, F, hr, hb, hd, fun _ _ _ _ h => h⟩
theorem goodN_bindE {ρ : Env} {σ : L2.St} {g : G} {H : Hp} {k : Nat} {r : RE} {c : D → Store → RE} {Q Q' : VK} (h : GoodN T W Γ k ρ σ g H (r.bind c) Q)
    (hk : ∀ d S v g' H', r = .ok d S → Rel T g' Γ ρ S σ H' → FrE g H g' H' → Shr T g' H' d v → GoodN T W Γ k ρ σ g H (c d S) Q → Q' v H') : GoodE T W Γ ρ σ g H r Q' := by
  cases r with
  | ok d S => exact fun v g' H' R f s => hk d S v g' H' rfl R f s h
  | exc x S => exact h
  | no => exact h
theorem lookup_off {β γ : Type} {f : Str} : ∀ {l : List (Str × β)} {m : List (Str × γ)}, m.map (·.1) = l.map (·.1) → l.lookup f = none → m.lookup f = none
  | [], [], _, _ => rfl
  | [], _ :: _, e, _ => by simp at e
  | _ :: _, [], e, _ => by simp at e
  | (k, x) :: l, (k', y) :: m, e, h => by
    simp only [List.map_cons, List.cons.injEq] at e
    obtain ⟨e1, e2⟩ := e
    subst e1
    rw [List.lookup_cons] at h ⊢
    cases hb : f == k' with
    | true => rw [hb] at h; cases h
    | false => rw [hb] at h; exact lookup_off e2 h
theorem xf_meth {m : Str} {n j : Nat} {sg : Sig} {dd : List D} {dvs : List V} {tbl : List (Nat × FF)} {e o : Expr} {es : List Expr} {A : FE} {B : FL} (hd : ∀ g H, ShrL T g H dd dvs) (hm : ∀ i, sg.ms.getD i .s = mdOf ((false :: bs).getD i false)) (hB : ∀ ρ S ds S1, B ρ S = .ok ds S1 → ds.length = j) (hn : j + dd.length + 1 = n)
    (M : TblOk X T m n sg dvs tbl) (ho : XE X T W Γ o A) (ha : XM X T W Γ bs es B) (he : PE X o (tX T W Γ A) → MethsOk X m (Ms T tbl n sg dvs) → PA X es (tM T W Γ bs B) → PE X e (tMethD m (Ms T tbl n sg dvs) (WE W) (tX T W Γ A) (tM T W Γ bs B))) : XF X T W Γ sg.kr e (eMeth m tbl dd A B) :=
  pe_imp (he ho (tbl_meths M) ha) fun σ H Q ⟨g, ρ, S, R, hg⟩ => ⟨g, ρ, S, R, goodN_bindE hg fun x S1 v g1 H1 eR R1 f1 s1 hg1 => by
    clear eR
    unfold methK at hg1
    split at hg1
    · rename_i no
      split at hg1
      · rename_i ob e1
        split at hg1
        · rename_i hl
          split at hg1
          · rename_i Φ e2
            simp only [Shr] at s1
            obtain ⟨dx, fs, h1, h2, h3⟩ := R1.st.ob no ob e1
            have hlook : fs.lookup m = none := lookup_off h2 (by simpa using hl)
            refine ⟨g1.μ no, _, dx, fs, _, s1.2, h1, ⟨ob.cls, Φ, e2, rfl, rfl⟩, hlook, g1, ρ, S1, R1, ?_⟩
            cases eb : B ρ S1 with
            | no => rw [eb] at hg1; exact hg1
            | exc y S2 => rw [eb] at hg1; exact fun c dd' g' H' R' f' ex => hg1 c dd' g' H' R' (f1.trans f') ex
            | ok ds S2 =>
              rw [eb] at hg1
              intro vs g2 H2 R2 f2 s2
              refine call_core (bs := false :: bs) R2 (f1.trans f2) (ds := .obj no :: (ds ++ dd)) ?_ hm (by rw [List.length_cons, List.length_append, hB ρ S1 ds S2 eb]; exact hn) hg1
              show ShrM T g2 H2 (false :: bs) (.obj no :: (ds ++ dd)) (v :: (vs ++ dvs))
              simp only [ShrM]
              refine ⟨v, _, rfl, ?_, s2.app hd⟩
              simp only [List.headD_cons, Bool.false_eq_true, if_false, Shr]
              exact ⟨Nat.lt_of_lt_of_le s1.1 f2.N, by rw [f2.μ _ s1.1]; exact s1.2⟩
          · exact hg1.elim
        · exact hg1.elim
      · exact hg1.elim
    · exact hg1.elim⟩
/-! ### instances made -/
def G.newObj (g : G) (x : Addr) : G := { g with N := g.N + 1, μ := fun n => if n = g.N then x else g.μ n, B := fun a => g.B a ∨ a = x }
theorem Rel.newObj {g : G} {ρ : Env} {S : Store} {σ : L2.St} {H : Hp} {c : Nat} {x dx : Addr} (R : Rel T g Γ ρ S σ H) (hx : H x = none) (hdx : H dx = none) (ne : dx ≠ x) :
    Rel T (g.newObj x) Γ ρ (S ++ [⟨c, []⟩]) σ (upd (upd H dx (.own x)) x (.ins (T.cA c) dx [])) ∧ FrE g H (g.newObj x) (upd (upd H dx (.own x)) x (.ins (T.cA c) dx [])) := by
  have e1 : Exx H (upd H dx (.own x)) := Exx.new hdx
  have hx1 : upd H dx (.own x) x = none := by rw [upd_ne ne.symm]; exact hx
  have ex : Exx H (upd (upd H dx (.own x)) x (.ins (T.cA c) dx [])) := e1.trans (Exx.new hx1)
  have np : ∀ a, g.U a → a ≠ x := fun a u z => by
    obtain ⟨o, q⟩ := R.dom a u
    rw [z, hx] at q; cases q
  have ndx : ∀ a, g.U a → a ≠ dx := fun a u z => by
    obtain ⟨o, q⟩ := R.dom a u
    rw [z, hdx] at q; cases q
  have hU : ∀ a, (g.newObj x).U a → g.U a ∨ a = x := fun a u => by
    rcases u with u | u | u | u
    · exact .inl (.inl u)
    · exact .inl (.inr (.inl u))
    · exact .inl (.inr (.inr u))
    · exact .inr u
  have fe : FrE g H (g.newObj x) (upd (upd H dx (.own x)) x (.ins (T.cA c) dx [])) := ⟨fun a o h _ => ex a o h, fun a h => h.imp id fun z => by rw [z]; exact hx, rfl, rfl, rfl, Nat.le_succ _, fun n h => if_neg (Nat.ne_of_lt h), fun a o h => ⟨o, ex a o h⟩⟩
  refine ⟨⟨R.len, fun i d e => ?_, R.dF, R.dFO, fun i a h u => ?_, fun a h u => ?_, fun a u => ?_, ?_, fun a u w r => ?_⟩, fe⟩
  · obtain ⟨v, h1, h2⟩ := R.slot i d e
    refine ⟨v, h1, ?_⟩
    have st := fe.stay
    cases hm : Γ.getD i .s <;> rw [hm] at h2 <;> simp only [RepM] at h2 ⊢
    · exact h2.stay st
    · exact Own.keepF st _ _ _ _ (fun a o z q => ex a o q) h2
    · exact Own.keepF st _ _ _ _ (fun a o z q => ex a o q) h2
    · exact ⟨h2.1, Own.keepF st _ _ _ _ (fun a o z q => ex a o q) h2.2⟩
    · exact h2
    · exact h2.stay fe.bare
  · rcases u with u | u
    · exact R.dFB i a h u
    · exact np a (.inr (.inl ⟨i, h⟩)) u
  · rcases u with u | u
    · exact R.dOB a h u
    · exact np a (.inl h) u
  · rcases hU a u with u | u
    · obtain ⟨o, q⟩ := R.dom a u
      exact ⟨o, ex a o q⟩
    · exact ⟨_, by rw [u]; exact upd_same⟩
  · have st := fe.stay
    have r := R.st
    have hN : g.N = S.length := r.N
    have μo : ∀ n, n < g.N → (g.newObj x).μ n = g.μ n := fun n h => if_neg (Nat.ne_of_lt h)
    have μn : (g.newObj x).μ g.N = x := if_pos rfl
    refine ⟨by show g.N + 1 = _; rw [hN]; simp, fun m n hm hn e => ?_, fun n hn => ?_, fun n f a h => ⟨.inl (r.bB n f a h).1, fun m hm => ?_⟩, r.bd, fun n o e => ?_, fun n o e => ?_⟩
    · have hm : m < g.N + 1 := hm
      have hn : n < g.N + 1 := hn
      by_cases h1 : m = g.N <;> by_cases h2 : n = g.N
      · rw [h1, h2]
      · subst h1
        rw [μn, μo n (by omega)] at e
        exact absurd e.symm (np _ (.inr (.inr (r.mB n (by omega)))))
      · subst h2
        rw [μn, μo m (by omega)] at e
        exact absurd e (np _ (.inr (.inr (r.mB m (by omega)))))
      · rw [μo m (by omega), μo n (by omega)] at e
        exact r.inj m n (by omega) (by omega) e
    · have hn : n < g.N + 1 := hn
      by_cases h2 : n = g.N
      · subst h2; rw [μn]; exact .inr rfl
      · rw [μo n (by omega)]; exact .inl (r.mB n (by omega))
    · have hm : m < g.N + 1 := hm
      by_cases h2 : m = g.N
      · subst h2; rw [μn]; exact np a (.inr (.inr (r.bB n f a h).1))
      · rw [μo m (by omega)]; exact (r.bB n f a h).2 m (by omega)
    · rw [List.getElem?_append] at e
      split at e
      · exact r.nd n o e
      · rename_i h
        cases hk : n - S.length with
        | zero => rw [hk] at e; cases e; exact List.nodup_nil
        | succ j => rw [hk] at e; simp at e
    · by_cases h2 : n < S.length
      · rw [List.getElem?_append_left h2] at e
        obtain ⟨dx', fs, h1, h3, h4⟩ := r.ob n o e
        refine ⟨dx', fs, by rw [μo n (by omega)]; exact ex _ _ h1, h3, fun j d w a b => ?_⟩
        exact Own.keepF st _ _ _ _ (fun a o _ q => ex a o q) (h4 j d w a b)
      · rw [List.getElem?_append_right (by omega)] at e
        cases hk : n - S.length with
        | zero =>
          rw [hk] at e
          cases e
          have : n = g.N := by omega
          subst this
          exact ⟨dx, [], by rw [μn]; exact upd_same, rfl, fun j d w a => by simp at a⟩
        | succ j => rw [hk] at e; simp at e
  · rcases hU a u with u | u
    · exact ex.nt R.dom R.nt a u w r
    · rw [u] at r
      rcases r with r | ⟨b, r⟩
      · rw [upd_same] at r; cases r
      · rw [upd_same] at r; cases r
def makeR (n : Nat) (r : RF) : RE := match r with
  | .ok .non _ S => .ok (.obj n) S
  | .exc x _ S => .exc x S
  | _ => .no
def eMake (c : Nat) (Φ : FF) (dd : List D) (as : FL) : FE := fun ρ S => match as ρ S with
  | .ok ds S1 => makeR S1.length (Φ (.obj S1.length :: (ds ++ dd)) (S1 ++ [⟨c, []⟩]))
  | .exc x S1 => .exc x S1
  | .no => .no
theorem xe_make {n j c : Nat} {sg : Sig} {Φ : FF} {dd : List D} {dvs : List V} {e : Expr} {es : List Expr} {A : FL} (hd : ∀ g H, ShrL T g H dd dvs) (hm : ∀ i, sg.ms.getD i .s = mdOf ((false :: bs).getD i false)) (hA : ∀ ρ S ds S1, A ρ S = .ok ds S1 → ds.length = j) (hn : j + dd.length + 1 = n)
    (ha : XM X T W Γ bs es A) (he : PA X es (tM T W Γ bs A) → PE X e (tMakeD (T.cA c) (spDD T n sg Φ dvs) (WE W) (tM T W Γ bs A))) : XE X T W Γ e (eMake c Φ dd A) := pe_imp (he ha) fun σ H Q ⟨g, ρ, S, R, hg⟩ => by
  refine ⟨g, ρ, S, R, ?_⟩
  unfold eMake at hg
  cases ea : A ρ S with
  | exc x S1 => rw [ea] at hg; exact hg
  | no => rw [ea] at hg; exact hg
  | ok ds S1 =>
    rw [ea] at hg
    intro vs g1 H1 R1 f1 s1 x dx hx hdx ne
    obtain ⟨R2, f2⟩ := R1.newObj (c := c) hx hdx ne
    have hN : g1.N = S1.length := R1.st.N
    refine call_core (bs := false :: bs) R2 (.refl _ _) (ds := .obj S1.length :: (ds ++ dd)) (vs := .ref x :: (vs ++ dvs)) ?_ hm (by rw [List.length_cons, List.length_append, hA ρ S ds S1 ea]; exact hn) ?_
    · show ShrM T _ _ (false :: bs) (.obj S1.length :: (ds ++ dd)) (.ref x :: (vs ++ dvs))
      simp only [ShrM]
      refine ⟨_, _, rfl, ?_, (s1.stayE f2).app hd⟩
      simp only [List.headD_cons, Bool.false_eq_true, if_false, Shr]
      exact ⟨by show S1.length < g1.N + 1; omega, by show V.ref x = V.ref (if S1.length = g1.N then x else _); rw [if_pos hN.symm]⟩
    · have hg : GoodE T W Γ ρ σ g H (makeR S1.length (Φ (.obj S1.length :: (ds ++ dd)) (S1 ++ [⟨c, []⟩]))) Q := hg
      cases ef : Φ (.obj S1.length :: (ds ++ dd)) (S1 ++ [⟨c, []⟩]) with
      | no => rw [ef] at hg; exact hg
      | exc y o S2 => rw [ef] at hg; exact fun c' dd' g' H' R' f' ex => hg c' dd' g' H' R' ((f1.trans f2).trans f') ex
      | ok d o S2 =>
        rw [ef] at hg
        cases d <;> first | exact hg.elim | skip
        intro v g' H' Fo R' f' ho hw
        have hw : Own T (g'.plusF ρ.length Fo) H' sg.kr Fo .non v := hw
        have ev : v = .non := by
          cases hk : sg.kr with
          | zero => rw [hk] at hw; simpa only [Own, Shr] using hw
          | succ k => rw [hk] at hw; simpa only [Own, Shr] using hw
        refine ⟨ev, hg _ g' H' R'.unplus ((f1.trans f2).trans f') ?_⟩
        have lt : S1.length < (g1.newObj x).N := by show S1.length < g1.N + 1; omega
        simp only [Shr]
        exact ⟨Nat.lt_of_lt_of_le lt f'.N, by rw [f'.μ _ lt]; show V.ref x = V.ref (if S1.length = g1.N then x else _); rw [if_pos hN.symm]⟩
end
end Q

/-! Fields stored. -/
namespace Q
open PySem PySem.Spec PyProof.Rows L2
def putD (f : Str) (d : D) : List (Str × D) → List (Str × D)
  | [] => [(f, d)]
  | (g, x) :: r => if g = f then (g, d) :: r else (g, x) :: putD f d r
theorem putD_keys {f : Str} {d : D} {y : V} : ∀ {l : List (Str × D)} {m : List (Str × V)}, m.map (·.1) = l.map (·.1) → (putF f y m).map (·.1) = (putD f d l).map (·.1)
  | [], [], _ => rfl
  | [], _ :: _, e => by simp at e
  | _ :: _, [], e => by simp at e
  | (k, x) :: l, (k', z) :: m, e => by
    simp only [List.map_cons, List.cons.injEq] at e
    obtain ⟨e1, e2⟩ := e
    subst e1
    unfold putD putF
    split
    · simp only [List.map_cons]; rw [e2]
    · simp only [List.map_cons]; rw [putD_keys e2]
theorem putD_mem {f : Str} {d : D} : ∀ {l : List (Str × D)} {k : Str}, k ∈ (putD f d l).map (·.1) → k = f ∨ k ∈ l.map (·.1)
  | [], k, h => by simp [putD] at h; exact .inl h
  | (k', x) :: l, k, h => by
    unfold putD at h
    split at h
    · exact .inr h
    · simp only [List.map_cons, List.mem_cons] at h ⊢
      rcases h with h | h
      · exact .inr (.inl h)
      · rcases putD_mem h with h | h
        · exact .inl h
        · exact .inr (.inr h)
theorem putD_nodup {f : Str} {d : D} : ∀ {l : List (Str × D)}, (l.map (·.1)).Nodup → ((putD f d l).map (·.1)).Nodup
  | [], _ => by simp [putD]
  | (k', x) :: l, h => by
    unfold putD
    split
    · exact h
    · rename_i hk
      simp only [List.map_cons, List.nodup_cons] at h ⊢
      refine ⟨fun z => ?_, putD_nodup h.2⟩
      rcases putD_mem z with z | z
      · exact hk z
      · exact h.1 z
/-- the parts of a list with one field anew -/
theorem put_pair {f : Str} {d : D} {y : V} : ∀ {l : List (Str × D)} {m : List (Str × V)} {j : Nat} {p : Str × D} {q : Str × V}, m.map (·.1) = l.map (·.1) → (l.map (·.1)).Nodup → (putD f d l)[j]? = some p → (putF f y m)[j]? = some q →
    (p = (f, d) ∧ q = (f, y)) ∨ (p.1 ≠ f ∧ l[j]? = some p ∧ m[j]? = some q)
  | [], [], j, p, q, _, _, h1, h2 => by
    cases j with
    | zero => cases h1; cases h2; exact .inl ⟨rfl, rfl⟩
    | succ j => simp [putD] at h1
  | [], _ :: _, _, _, _, e, _, _, _ => by simp at e
  | _ :: _, [], _, _, _, e, _, _, _ => by simp at e
  | (k, x) :: l, (k', z) :: m, j, p, q, e, hn, h1, h2 => by
    simp only [List.map_cons, List.cons.injEq] at e
    obtain ⟨e1, e2⟩ := e
    subst e1
    simp only [List.map_cons, List.nodup_cons] at hn
    unfold putD at h1
    unfold putF at h2
    by_cases hk : k' = f
    · rw [if_pos hk] at h1 h2
      cases j with
      | zero => cases h1; cases h2; rw [hk]; exact .inl ⟨rfl, rfl⟩
      | succ j =>
        refine .inr ⟨fun z => ?_, h1, h2⟩
        have : p ∈ l := List.mem_of_getElem? h1
        exact hn.1 (List.mem_map.mpr ⟨p, this, by rw [z, hk]⟩)
    · rw [if_neg hk] at h1 h2
      cases j with
      | zero => cases h1; exact .inr ⟨hk, rfl, h2⟩
      | succ j =>
        rcases put_pair (j := j) e2 hn.2 h1 h2 with h | ⟨h, h3, h4⟩
        · exact .inl h
        · exact .inr ⟨h, h3, h4⟩
theorem plusF_none {g : G} {n : Nat} : g.plusF n (fun _ => False) = g := by
  unfold G.plusF
  congr 1
  funext j a
  simp
/-- the fresh part becomes a field's -/
def G.putf (g : G) (n : Nat) (f : Str) (Fo : Addr → Prop) : G := { g with B := fun a => g.B a ∨ Fo a, BF := fun m e a => (m = n ∧ e = f ∧ Fo a) ∨ (¬ (m = n ∧ e = f) ∧ g.BF m e a) }
section
variable {T : Th} {Γ : List Md} {g : G} {ρ : Env} {S : Store} {σ : L2.St} {H : Hp} {Fo : Addr → Prop}
theorem Rel.putf {n : Nat} {f : Str} {ob : Ob} {dx : Addr} {fs : List (Str × V)} {d : D} {y : V} (R : Rel T (g.plusF ρ.length Fo) Γ ρ S σ H) (hFo : ∀ a, Fo a → ¬ g.U a) (e1 : S[n]? = some ob) (h1 : H (g.μ n) = some (.ins (T.cA ob.cls) dx fs)) (h2 : fs.map (·.1) = ob.fs.map (·.1))
    (hw : Own T (g.plusF ρ.length Fo) H (T.fm ob.cls f) Fo d y) : Rel T (g.putf n f Fo) Γ ρ (S.set n ⟨ob.cls, putD f d ob.fs⟩) σ (upd H (g.μ n) (.ins (T.cA ob.cls) dx (putF f y fs))) ∧ Stay (g.plusF ρ.length Fo) H (g.putf n f Fo) (upd H (g.μ n) (.ins (T.cA ob.cls) dx (putF f y fs))) := by
  have r := R.st
  have hn : n < g.N := by have : g.N = S.length := r.N; rw [this]; exact (List.getElem?_eq_some_iff.mp e1).1
  have hB : g.B (g.μ n) := r.mB n hn
  have hUU : ∀ a, (g.putf n f Fo).U a → (g.plusF ρ.length Fo).U a := fun a u => by
    rcases u with u | u | u | u
    · exact G.plusF_U.mpr (.inl (.inl u))
    · exact G.plusF_U.mpr (.inl (.inr (.inl u)))
    · exact G.plusF_U.mpr (.inl (.inr (.inr u)))
    · exact G.plusF_U.mpr (.inr u)
  have kp : ∀ a o, a ≠ g.μ n → H a = some o → upd H (g.μ n) (.ins (T.cA ob.cls) dx (putF f y fs)) a = some o := fun a o h e => by rw [upd_ne h]; exact e
  have st : Stay (g.plusF ρ.length Fo) H (g.putf n f Fo) (upd H (g.μ n) (.ins (T.cA ob.cls) dx (putF f y fs))) := ⟨fun a o e hu => kp a o (fun z => hu (by rw [z]; exact .inr (.inr hB))) e, fun a h => .inl (hUU a h), Nat.le_refl _, fun _ _ => rfl, rfl⟩
  have stb : Stay (g.plusF ρ.length Fo).bare H (g.putf n f Fo).bare (upd H (g.μ n) (.ins (T.cA ob.cls) dx (putF f y fs))) := ⟨fun a o e hu => kp a o (fun z => hu (by rw [z]; exact .inr (.inr hB))) e, fun a h => .inl (by
    rcases h with h | ⟨i, h⟩ | h | h
    · exact h.elim
    · exact .inr (.inl ⟨i, .inl h⟩)
    · exact .inr (.inr h)
    · exact .inr (.inl ⟨ρ.length, .inr ⟨rfl, h⟩⟩)), Nat.le_refl _, fun _ _ => rfl, rfl⟩
  refine ⟨⟨R.len, fun i d' e => ?_, fun i j a h h' => R.dF i j a (.inl h) (.inl h'), fun i a h => R.dFO i a (.inl h), fun i a h u => ?_, fun a h u => ?_, fun a u => ?_, ?_, nt_upd (fun a u => R.nt a (hUU a u)) (fun _ => ⟨nofun, fun _ => nofun⟩)⟩, st⟩
  · obtain ⟨v, q1, q2⟩ := R.slot i d' e
    have hi : i < ρ.length := (List.getElem?_eq_some_iff.mp e).1
    refine ⟨v, q1, ?_⟩
    have wF : ∀ a, (g.plusF ρ.length Fo).F i a → (g.putf n f Fo).F i a := fun a z => z.elim id fun z => absurd z.1 (by omega)
    have kF : ∀ a o, (g.plusF ρ.length Fo).F i a → H a = some o → upd H (g.μ n) (.ins (T.cA ob.cls) dx (putF f y fs)) a = some o := fun a o z q => kp a o (fun w => R.dFB i a z (by rw [w]; exact hB)) q
    cases hm : Γ.getD i .s <;> rw [hm] at q2 <;> simp only [RepM] at q2 ⊢
    · exact q2.stay st
    · exact Own.wide _ _ _ _ _ wF (Own.keepF st _ _ _ _ kF q2)
    · exact Own.keepF st _ _ _ _ (fun a o z q => kp a o (fun w => R.dOB a z (by rw [w]; exact hB)) q) q2
    · exact ⟨q2.1, Own.wide _ _ _ _ _ wF (Own.keepF st _ _ _ _ kF q2.2)⟩
    · exact q2
    · exact q2.stay stb
  · rcases u with u | u
    · exact R.dFB i a (.inl h) u
    · exact hFo a u (.inr (.inl ⟨i, h⟩))
  · rcases u with u | u
    · exact R.dOB a h u
    · exact hFo a u (.inl h)
  · by_cases ha : a = g.μ n
    · exact ⟨_, by rw [ha]; exact upd_same⟩
    · obtain ⟨o, q⟩ := R.dom a (hUU a u)
      exact ⟨o, kp a o ha q⟩
  · refine ⟨by show g.N = _; rw [List.length_set]; exact r.N, r.inj, fun m hm => .inl (r.mB m hm), fun m e a h => ?_, fun m e m' e' a h h' => ?_, fun m o e => ?_, fun m o e => ?_⟩
    · rcases h with h | h
      · exact ⟨.inr h.2.2, fun m' hm' z => hFo a h.2.2 (by rw [z]; exact .inr (.inr (r.mB m' hm')))⟩
      · exact ⟨.inl (r.bB m e a h.2).1, (r.bB m e a h.2).2⟩
    · rcases h with h | h <;> rcases h' with h' | h'
      · exact ⟨h.1.trans h'.1.symm, h.2.1.trans h'.2.1.symm⟩
      · exact absurd (.inr (.inr (r.bB m' e' a h'.2).1)) (hFo a h.2.2)
      · exact absurd (.inr (.inr (r.bB m e a h.2).1)) (hFo a h'.2.2)
      · exact r.bd m e m' e' a h.2 h'.2
    · by_cases hm : n = m
      · subst hm
        rw [List.getElem?_set_self (by rw [← r.N]; exact hn)] at e
        cases e
        exact putD_nodup (r.nd n ob e1)
      · rw [List.getElem?_set_ne hm] at e
        exact r.nd m o e
    · by_cases hm : n = m
      · subst hm
        rw [List.getElem?_set_self (by rw [← r.N]; exact hn)] at e
        cases e
        refine ⟨dx, putF f y fs, upd_same, putD_keys h2, fun j p q a b => ?_⟩
        rcases put_pair h2 (r.nd n ob e1) a b with ⟨rfl, rfl⟩ | ⟨hp, a', b'⟩
        · refine Own.wide _ Fo _ _ _ (fun a z => .inl ⟨rfl, rfl, z⟩) ?_
          exact Own.keepF st _ _ _ _ (fun a o z q => kp a o (fun w => hFo a z (by rw [w]; exact .inr (.inr hB))) q) hw
        · obtain ⟨dx', fs', k1, k2, k3⟩ := r.ob n ob e1
          have : HO.ins (T.cA ob.cls) dx' fs' = .ins (T.cA ob.cls) dx fs := Option.some.inj ((show H (g.μ n) = _ from k1).symm.trans h1)
          cases this
          have hw' := k3 j p q a' b'
          refine Own.wide _ (g.BF n p.1) _ _ _ (fun a z => .inr ⟨fun w => hp w.2, z⟩) ?_
          exact Own.keepF st _ _ _ _ (fun a o z q => kp a o ((r.bB n p.1 a z).2 n hn) q) hw'
      · rw [List.getElem?_set_ne hm] at e
        obtain ⟨dx', fs', k1, k2, k3⟩ := r.ob m o e
        have hmN : m < g.N := by have : g.N = S.length := r.N; rw [this]; exact (List.getElem?_eq_some_iff.mp e).1
        refine ⟨dx', fs', kp _ _ (fun w => hm (r.inj n m hn hmN w.symm)) k1, k2, fun j p q a b => ?_⟩
        refine Own.wide _ (g.BF m p.1) _ _ _ (fun a z => .inr ⟨fun w => hm w.1.symm, z⟩) ?_
        exact Own.keepF st _ _ _ _ (fun a o z q => kp a o ((r.bB m p.1 a z).2 n hn) q) (k3 j p q a b)
end
def fldPut (fm : Nat → Str → Nat) (cs : List Nat) (k : Nat) (f : Str) (x d : D) (ρ : Env) (S : Store) : RS := match x with
  | .obj n => (match S[n]? with
    | some ob => if ob.cls ∈ cs ∧ fm ob.cls f = k ∧ ob.fs.length < 1000 then .nx ρ (S.set n ⟨ob.cls, putD f d ob.fs⟩) else .no
    | none => .no)
  | _ => .no
def fFld (fm : Nat → Str → Nat) (cs : List Nat) (k : Nat) (f : Str) (o e : FE) : FS := fun ρ S => (e ρ S).bindS ρ fun d S1 => (o ρ S1).bindS ρ fun x S2 => fldPut fm cs k f x d ρ S2
section
variable {X : Cx} {T : Th} {J : Jd} {Γ : List Md} {fm : Nat → Str → Nat} {cs : List Nat} {f : Str}
theorem fld_core {g g1 : G} {ρ : Env} {S2 : Store} {σ : L2.St} {H H1 : Hp} {Fo : Addr → Prop} {k : Nat} {x d : D} {v y : V} {D : Ends} (hfm : T.fm = fm) (hc : FldOk X.K T cs f) (R1 : Rel T (g1.plusF ρ.length Fo) Γ ρ S2 σ H1) (f1 : FrS g H g1 H1) (ho : ∀ a, Fo a → ¬ g1.U a ∧ (g.U a ∨ H a = none))
    (hw : Own T (g1.plusF ρ.length Fo) H1 k Fo d y) (sx : Shr T (g1.plusF ρ.length Fo) H1 x v) (hg : GoodS T J Γ g H (fldPut fm cs k f x d ρ S2) D) :
    ∃ a C dx fs, v = .ref a ∧ H1 a = some (.ins C dx fs) ∧ Cls X.K C ∧ NoAttr X.K C f ∧ fs.length < 1000 ∧ D.nx σ (upd H1 a (.ins C dx (putF f y fs))) := by
  unfold fldPut at hg
  split at hg
  · rename_i n
    split at hg
    · rename_i ob e1
      split at hg
      · rename_i hh
        obtain ⟨hcs, hk, hl⟩ := hh
        simp only [Shr] at sx
        obtain ⟨dx, fs, h1, h2, h3⟩ := R1.st.ob n ob e1
        have hw : Own T (g1.plusF ρ.length Fo) H1 (T.fm ob.cls f) Fo d y := by rw [hfm, hk]; exact hw
        obtain ⟨R2, st⟩ := R1.putf (fun a z => (ho a z).1) e1 h1 h2 hw
        refine ⟨g1.μ n, _, dx, fs, sx.2, h1, (hc _ hcs).1, (hc _ hcs).2, by
          have := congrArg List.length h2
          rw [List.length_map, List.length_map] at this
          omega, hg σ _ _ R2 ?_⟩
        have hB : g1.B (g1.μ n) := R1.st.mB n sx.1
        have f2 : FrS g1 H1 (g1.putf n f Fo) (upd H1 (g1.μ n) (.ins (T.cA ob.cls) dx (putF f y fs))) → True := fun _ => trivial
        refine ⟨fun a o e hu => ?_, fun a u => ?_, f1.O, f1.P, f1.N, f1.μ, fun a o e => ?_⟩
        · have e' := f1.keep a o e hu
          have : a ≠ g1.μ n := fun w => by
            rcases hu with hu | hu
            · exact f1.stay.off e hu (by rw [w]; exact .inr (.inr hB))
            · exact R1.dOB a (show g1.O a by rw [f1.O]; exact hu) (by rw [w]; exact hB)
          rw [upd_ne this]; exact e'
        · rcases u with u | u | u | u
          · exact f1.own a (.inl u)
          · exact f1.own a (.inr (.inl u))
          · exact f1.own a (.inr (.inr u))
          · exact (ho a u).2
        · obtain ⟨o', e'⟩ := f1.dom a o e
          by_cases ha : a = g1.μ n
          · exact ⟨_, by rw [ha]; exact upd_same⟩
          · exact ⟨o', by rw [upd_ne ha]; exact e'⟩
      · exact hg.elim
    · exact hg.elim
  · exact hg.elim
/-- o.f = e, e a fresh value -/
theorem xs_fldF {k : Nat} {o e : Expr} {A B : FE} {st : Stmt} (hfm : T.fm = fm) (hc : FldOk X.K T cs f) (hx : J.ΓX Γ) (ho : XC X T J.W Γ o A) (hv : XF X T J.W Γ k e B) (he : PE X o (tC1 T J.W Γ A) → PE X e (tN T J.W Γ k B) → PS X st (sFld X.K (tC1 T J.W Γ A) (tN T J.W Γ k B) f)) : XS X T J Γ Γ st (fFld fm cs k f A B) := ps_imp (he ho hv) fun D σ H ⟨g, ρ, S, R, hg⟩ => by
  refine ⟨g, ρ, S, R, ?_⟩
  unfold fFld at hg
  cases r : B ρ S with
  | no => rw [r] at hg; exact hg
  | exc x S1 => rw [r] at hg; exact fun c dd g' H' R' f' e => hg Γ c dd σ g' H' hx R' (f'.frs R.dOB) e
  | ok d S1 =>
    rw [r] at hg
    intro y g1 H1 Fo R1 f1 hfo hw
    refine ⟨g1.plusF ρ.length Fo, ρ, S1, R1, ?_⟩
    replace hg : GoodS T J Γ g H ((A ρ S1).bindS ρ fun x S2 => fldPut fm cs k f x d ρ S2) D := hg
    cases r2 : A ρ S1 with
    | no => rw [r2] at hg; exact hg
    | exc x S2 =>
      rw [r2] at hg
      intro c dd g' H' R' f' e
      refine hg Γ c dd σ g' H' hx R' ?_ e
      have f1' := f1.frs R.dOB
      have f2' := f'.frs R1.dOB
      refine ⟨fun a o e hu => ?_, fun a u => ?_, ?_, ?_, ?_, ?_, ?_⟩
      · refine f2'.keep a o (f1'.keep a o e hu) ?_
        rcases hu with hu | hu
        · refine .inl fun w => ?_
          rcases G.plusF_U.mp w with w | w
          · exact f1'.stay.off e hu w
          · rcases (hfo a w).2 with z | z
            · exact hu (.inr (.inr z))
            · rw [e] at z; cases z
        · exact .inr (by show g1.O a; rw [f1.O]; exact hu)
      · rcases f2'.own a u with w | w
        · rcases G.plusF_U.mp w with w | w
          · exact f1'.own a w
          · exact (hfo a w).2.imp (fun z => .inr (.inr z)) id
        · cases e : H a with
          | none => exact .inr rfl
          | some o =>
            obtain ⟨o', e'⟩ := f1.dom a o e
            rw [w] at e'; cases e'
      · exact f2'.O.trans f1.O
      · exact f2'.P.trans f1.P
      · exact Nat.le_trans f1.N f2'.N
      · exact fun n h => (f2'.μ n (Nat.lt_of_lt_of_le h f1.N)).trans (f1.μ n h)
      · intro a o e
        obtain ⟨o', e'⟩ := f1.dom a o e
        exact f2'.dom a o' e'
    | ok x S2 =>
      rw [r2] at hg
      intro es v H2 e2 sx
      subst es
      have R2 := R1.ex e2
      have f2 : FrS g H g1 H2 := (f1.frs R.dOB).trans ((FrE.ex e2).frs (fun a h => R1.dOB a h))
      exact fld_core hfm hc R2 f2 (fun a z => ⟨(hfo a z).1, (hfo a z).2.imp (fun z => .inr (.inr z)) id⟩) (Own.keepF (.ex e2) _ _ _ _ (fun a o _ q => e2 a o q) hw) sx hg
/-- o.f = e, e shared -/
theorem xs_fldS {o e : Expr} {A B : FE} {st : Stmt} (hfm : T.fm = fm) (hc : FldOk X.K T cs f) (hx : J.ΓX Γ) (ho : XC X T J.W Γ o A) (hv : XE X T J.W Γ e B) (he : PE X o (tC1 T J.W Γ A) → PE X e (tX T J.W Γ B) → PS X st (sFld X.K (tC1 T J.W Γ A) (tX T J.W Γ B) f)) : XS X T J Γ Γ st (fFld fm cs 0 f A B) := ps_imp (he ho hv) fun D σ H ⟨g, ρ, S, R, hg⟩ => by
  refine ⟨g, ρ, S, R, ?_⟩
  unfold fFld at hg
  cases r : B ρ S with
  | no => rw [r] at hg; exact hg
  | exc x S1 => rw [r] at hg; exact fun c dd g' H' R' f' e => hg Γ c dd σ g' H' hx R' (f'.frs R.dOB) e
  | ok d S1 =>
    rw [r] at hg
    intro y g1 H1 R1 f1 sy
    refine ⟨g1, ρ, S1, R1, ?_⟩
    replace hg : GoodS T J Γ g H ((A ρ S1).bindS ρ fun x S2 => fldPut fm cs 0 f x d ρ S2) D := hg
    cases r2 : A ρ S1 with
    | no => rw [r2] at hg; exact hg
    | exc x S2 => rw [r2] at hg; exact fun c dd g' H' R' f' e => hg Γ c dd σ g' H' hx R' ((f1.trans f').frs R.dOB) e
    | ok x S2 =>
      rw [r2] at hg
      intro es v H2 e2 sx
      subst es
      have R2 := R1.ex e2
      have f2 : FrS g H g1 H2 := (f1.trans (.ex e2)).frs R.dOB
      refine fld_core (Fo := fun _ => False) (k := 0) hfm hc (by rw [plusF_none]; exact R2) f2 (fun a z => z.elim) ?_ (by rw [plusF_none]; exact sx) hg
      rw [plusF_none]
      simp only [Own]
      exact Shr.stay (.ex e2) _ _ sy
end
end Q

/-! Places: a part of what is owned. -/
namespace Q
open PySem PySem.Spec PyProof.Rows L2
/-- from a value down to a part of it -/
def Focus (T : Th) (H : Hp) : List Nat → D → V → D → V → Prop
  | [], d, v, d', v' => d' = d ∧ v' = v
  | j :: js, .lst l, v, d', v' => ∃ p vs d1 w, v = .ref p ∧ H p = some (.lst vs) ∧ l[j]? = some d1 ∧ vs[j]? = some w ∧ Focus T H js d1 w d' v'
  | j :: js, .dct l, v, d', v' => ∃ p kd w, v = .ref p ∧ (∃ kvs, DRep T H p l kvs) ∧ (∀ kvs, DRep T H p l kvs → ∃ u, kvs[j]? = some (u, w)) ∧ l[j]? = some kd ∧ Focus T H js kd.2 w d' v'
  | _ :: _, _, _, _, _ => False
/-- the part anew -/
def setAt : List Nat → D → D → D
  | [], _, x => x
  | j :: js, .lst l, x => (match l[j]? with
    | some d => .lst (l.set j (setAt js d x))
    | none => .lst l)
  | j :: js, .dct l, x => (match l[j]? with
    | some kd => .dct (l.set j (kd.1, setAt js kd.2 x))
    | none => .dct l)
  | _ :: _, d, _ => d
section
variable {T : Th} {g g' : G} {H H' : Hp}
theorem Focus.ex (e : Exx H H') : ∀ {js : List Nat} {d : D} {v : V} {d' : D} {v' : V}, Focus T H js d v d' v' → Focus T H' js d v d' v'
  | [], _, _, _, _, h => h
  | j :: js, .lst l, v, d', v', h => by
    obtain ⟨p, vs, d1, w, e1, e2, e3, e4, e5⟩ := h
    exact ⟨p, vs, d1, w, e1, e p _ e2, e3, e4, Focus.ex e e5⟩
  | j :: js, .dct l, v, d', v', h => by
    obtain ⟨p, d1, w, e1, ⟨kvs, e2⟩, e3, e4, e5⟩ := h
    refine ⟨p, d1, w, e1, ⟨kvs, e2.at fun o z => e p o z⟩, fun kvs' h' => e3 kvs' ?_, e4, Focus.ex e e5⟩
    obtain ⟨o, ho⟩ := e2.there
    exact h'.at fun o' z => by rw [e p o ho] at z; cases z; exact ho
  | _ :: _, .non, _, _, _, h => h.elim
  | _ :: _, .bl _, _, _, _, h => h.elim
  | _ :: _, .int _, _, _, _, h => h.elim
  | _ :: _, .str _, _, _, _, h => h.elim
  | _ :: _, .tup _, _, _, _, h => h.elim
  | _ :: _, .scr _, _, _, _, h => h.elim
  | _ :: _, .obj _, _, _, _, h => h.elim
  | _ :: _, .fn _ _, _, _, _, h => h.elim
  | _ :: _, .gone _, _, _, _, h => h.elim
theorem drep_set {a : Addr} {l : List (D × D)} {kvs : List (V × V)} {j : Nat} {kd : D × D} {x : D} (h : DRep T H a l kvs) (e : l[j]? = some kd) : DRep T H a (l.set j (kd.1, x)) kvs := by
  rcases h with ⟨ks, h1, h2⟩ | ⟨ps, h1, h2, h3, h4⟩
  · exact .inl ⟨ks, h1, h2⟩
  · refine .inr ⟨ps, h1, h2, ?_, h4⟩
    rw [h3, List.map_set]
    apply List.ext_getElem?
    intro i
    by_cases hi : j = i
    · subst hi
      rw [List.getElem?_map, e]
      by_cases hl : j < (l.map fun p => nk p.1).length
      · rw [List.getElem?_set_self hl]; rfl
      · have := (List.getElem?_eq_some_iff.mp e).1
        rw [List.length_map] at hl
        exact absurd this hl
    · rw [List.getElem?_set_ne hi]
/-- a part of what is owned is owned; the whole again, when the part is anew -/
theorem Own.focus {d' : D} {v' : V} : ∀ (js : List Nat) (k : Nat) (F : Addr → Prop) (d : D) (v : V), Own T g H k F d v → Focus T H js d v d' v' → js.length ≤ k →
    ∃ F' : Addr → Prop, (∀ a, F' a → F a) ∧ Own T g H (k - js.length) F' d' v' ∧ ∀ (g2 : G) (H2 : Hp) (Fo F2 : Addr → Prop) (x : D), Stay g H g2 H2 → (∀ a o, F a → ¬ F' a → H a = some o → H2 a = some o) → (∀ a, Fo a → ¬ F a) → (∀ a, F2 a → F' a ∨ Fo a) → Own T g2 H2 (k - js.length) F2 x v' → Own T g2 H2 k (fun a => F a ∨ Fo a) (setAt js d x) v
  | [], k, F, d, v, hw, hf, _ => by
    obtain ⟨rfl, rfl⟩ := hf
    exact ⟨F, fun _ z => z, hw, fun g2 H2 Fo F2 x st kp hd h2 hx => Own.wide _ F2 _ _ _ h2 hx⟩
  | j :: js, 0, F, d, v, hw, hf, hl => absurd hl (by simp)
  | j :: js, k + 1, F, .lst l, v, hw, hf, hl => by
    obtain ⟨p0, vs0, d1, w, e0, e1, e2, e3, e4⟩ := hf
    simp only [Own] at hw
    obtain ⟨p, vs, e00, hF, hH, hlen, Gs, h1, h2, h3⟩ := hw
    have ep : p = p0 := V.ref.inj (e00.symm.trans e0)
    subst ep
    have evs : vs = vs0 := by rw [hH] at e1; cases e1; rfl
    subst evs
    have hl' : js.length ≤ k := by simpa using hl
    obtain ⟨F', q1, q2, q3⟩ := Own.focus js k (Gs j) d1 w (h3 j d1 w e2 e3) e4 hl'
    have hk : k + 1 - (j :: js).length = k - js.length := by simp
    refine ⟨F', fun a z => (h1 j a (q1 a z)).1, by rw [hk]; exact q2, fun g2 H2 Fo F2 x st kp hd hf2 hx => ?_⟩
    rw [hk] at hx
    simp only [setAt, e2, Own]
    have hj : j < l.length := (List.getElem?_eq_some_iff.mp e2).1
    refine ⟨p, vs, e00, .inl hF, kp p _ hF (fun z => (h1 j p (q1 p z)).2 rfl) hH, by rw [List.length_set]; exact hlen, fun i a => Gs i a ∨ (i = j ∧ Fo a), fun i a z => ?_, fun i i' a z z' => ?_, fun i d2 w2 a b => ?_⟩
    · rcases z with z | ⟨_, z⟩
      · exact ⟨.inl (h1 i a z).1, (h1 i a z).2⟩
      · exact ⟨.inr z, fun w => hd a z (by rw [w]; exact hF)⟩
    · rcases z with z | ⟨z0, z⟩ <;> rcases z' with z' | ⟨z0', z'⟩
      · exact h2 i i' a z z'
      · exact absurd (h1 i a z).1 (hd a z')
      · exact absurd (h1 i' a z').1 (hd a z)
      · rw [z0, z0']
    · by_cases hi : j = i
      · subst hi
        rw [List.getElem?_set_self hj] at a
        cases a
        rw [e3] at b
        cases b
        refine Own.wide _ (fun a => Gs j a ∨ Fo a) _ _ _ (fun a z => z.imp id fun z => ⟨rfl, z⟩) ?_
        exact q3 g2 H2 Fo F2 x st (fun a o z n e => kp a o (h1 j a z).1 n e) (fun a z w => hd a z (h1 j a w).1) hf2 hx
      · rw [List.getElem?_set_ne hi] at a
        refine Own.wide _ (Gs i) _ _ _ (fun a z => .inl z) ?_
        exact Own.keepF st _ _ _ _ (fun a o z e => kp a o (h1 i a z).1 (fun w => hi (h2 j i a (q1 a w) z)) e) (h3 i d2 w2 a b)
  | j :: js, k + 1, F, .dct l, v, hw, hf, hl => by
    obtain ⟨p0, d1, w0, e0, _, e3, e2, e4⟩ := hf
    simp only [Own] at hw
    obtain ⟨p, vs0, e00, hF, hH, hlen, Gs, h1, h2, h3⟩ := hw
    have ep : p = p0 := V.ref.inj (e00.symm.trans e0)
    subst ep
    obtain ⟨u0, e3⟩ := e3 vs0 hH
    have hl' : js.length ≤ k := by simpa using hl
    obtain ⟨F', q1, q2, q3⟩ := Own.focus js k (Gs j) d1.2 w0 (h3 j d1 (u0, w0) e2 e3).2 e4 hl'
    have hk : k + 1 - (j :: js).length = k - js.length := by simp
    refine ⟨F', fun a z => (h1 j a (q1 a z)).1, by rw [hk]; exact q2, fun g2 H2 Fo F2 x st kp hd hf2 hx => ?_⟩
    rw [hk] at hx
    simp only [setAt, e2, Own]
    have hj : j < l.length := (List.getElem?_eq_some_iff.mp e2).1
    refine ⟨p, vs0, e00, .inl hF, (drep_set hH e2).at fun o z => kp p o hF (fun z => (h1 j p (q1 p z)).2 rfl) z, by rw [List.length_set]; exact hlen, fun i a => Gs i a ∨ (i = j ∧ Fo a), fun i a z => ?_, fun i i' a z z' => ?_, fun i d2 w2 a b => ?_⟩
    · rcases z with z | ⟨_, z⟩
      · exact ⟨.inl (h1 i a z).1, (h1 i a z).2⟩
      · exact ⟨.inr z, fun w => hd a z (by rw [w]; exact hF)⟩
    · rcases z with z | ⟨z0, z⟩ <;> rcases z' with z' | ⟨z0', z'⟩
      · exact h2 i i' a z z'
      · exact absurd (h1 i a z).1 (hd a z')
      · exact absurd (h1 i' a z').1 (hd a z)
      · rw [z0, z0']
    · by_cases hi : j = i
      · subst hi
        rw [List.getElem?_set_self hj] at a
        cases a
        rw [e3] at b
        cases b
        refine ⟨(h3 j d1 (u0, w0) e2 e3).1.stay st, ?_⟩
        refine Own.wide _ (fun a => Gs j a ∨ Fo a) _ _ _ (fun a z => z.imp id fun z => ⟨rfl, z⟩) ?_
        exact q3 g2 H2 Fo F2 x st (fun a o z n e => kp a o (h1 j a z).1 n e) (fun a z w => hd a z (h1 j a w).1) hf2 hx
      · rw [List.getElem?_set_ne hi] at a
        refine ⟨(h3 i d2 w2 a b).1.stay st, ?_⟩
        refine Own.wide _ (Gs i) _ _ _ (fun a z => .inl z) ?_
        exact Own.keepF st _ _ _ _ (fun a o z e => kp a o (h1 i a z).1 (fun w => hi (h2 j i a (q1 a w) z)) e) (h3 i d2 w2 a b).2
  | _ :: _, _ + 1, _, .non, _, _, h, _ => h.elim
  | _ :: _, _ + 1, _, .bl _, _, _, h, _ => h.elim
  | _ :: _, _ + 1, _, .int _, _, _, h, _ => h.elim
  | _ :: _, _ + 1, _, .str _, _, _, h, _ => h.elim
  | _ :: _, _ + 1, _, .tup _, _, _, h, _ => h.elim
  | _ :: _, _ + 1, _, .scr _, _, _, h, _ => h.elim
  | _ :: _, _ + 1, _, .obj _, _, _, h, _ => h.elim
  | _ :: _, _ + 1, _, .fn _ _, _, _, h, _ => h.elim
  | _ :: _, _ + 1, _, .gone _, _, _, h, _ => h.elim
end
end Q

/-! Places in fields: read, written. -/
namespace Q
open PySem PySem.Spec PyProof.Rows L2
inductive RP where
  | ok (n : Nat) (f : Str) (js : List Nat) (d : D) (S : Store)
  | exc (x : Exc) (S : Store)
  | no
abbrev FP := Env → Store → RP
def PlAt (T : Th) (g : G) (S : Store) (H : Hp) (n : Nat) (f : Str) (js : List Nat) (d : D) (v : V) : Prop := ∃ c d0 dx fs v0, getF S n f = some (c, d0) ∧ H (g.μ n) = some (.ins (T.cA c) dx fs) ∧ fs.lookup f = some v0 ∧ Focus T H js d0 v0 d v
def GoodP (T : Th) (W : WX) (Γ : List Md) (ρ : Env) (σ : L2.St) (g : G) (S : Store) (H : Hp) : RP → VK → Prop
  | .ok n f js d S', Q => S' = S → ∀ v H', Exx H H' → PlAt T g S H' n f js d v → Q v H'
  | .exc x S', _ => ∀ c dd g' H', Rel T g' Γ ρ S' σ H' → FrE g H g' H' → ExcR T g' H' x c dd → W c dd σ H'
  | .no, _ => False
def tP (T : Th) (W : WX) (Γ : List Md) (F : FP) : TE := fun σ H Q => ∃ g ρ S, Rel T g Γ ρ S σ H ∧ GoodP T W Γ ρ σ g S H (F ρ S) Q
abbrev XP (X : Cx) (T : Th) (W : WX) (Γ : List Md) (e : Expr) (F : FP) : Prop := PE X e (tP T W Γ F)
theorem PlAt.ex {T : Th} {g : G} {S : Store} {H H' : Hp} {n : Nat} {f : Str} {js : List Nat} {d : D} {v : V} (h : PlAt T g S H n f js d v) (e : Exx H H') : PlAt T g S H' n f js d v := by
  obtain ⟨c, d0, dx, fs, v0, h1, h2, h3, h4⟩ := h
  exact ⟨c, d0, dx, fs, v0, h1, e _ _ h2, h3, h4.ex e⟩
def pFldK (cs : List Nat) (f : Str) (x : D) (S : Store) : RP := match x with
  | .obj n => (match getF S n f with
    | some (c, d) => if c ∈ cs then .ok n f [] d S else .no
    | none => .no)
  | _ => .no
def pFld (cs : List Nat) (f : Str) (a : FE) : FP := fun ρ S => match a ρ S with
  | .ok x S1 => pFldK cs f x S1
  | .exc y S1 => .exc y S1
  | .no => .no
/-- where a part stands -/
def posOf : D → D → Option (Nat × D)
  | .lst l, .int i => (ixN l.length i).bind fun j => (l[j]?).map fun d => (j, d)
  | _, _ => none
/-- there is a level more to write -/
def deep (fm : Nat → Str → Nat) (S : Store) (n : Nat) (f : Str) (k : Nat) : Bool := match getF S n f with
  | some (c, _) => decide (k ≤ fm c f)
  | none => false
def pIxK (fm : Nat → Str → Nat) (n : Nat) (f : Str) (js : List Nat) (S : Store) (o : Option (Nat × D)) : RP := match o with
  | some (j, d) => if deep fm S n f (js.length + 1) = true then .ok n f (js ++ [j]) d S else .no
  | none => .no
def pIx (fm : Nat → Str → Nat) (p : FP) (e : FE) : FP := fun ρ S => match p ρ S with
  | .ok n f js d S1 => (match e ρ S1 with
    | .ok k S2 => pIxK fm n f js S2 (posOf d k)
    | .exc y S2 => .exc y S2
    | .no => .no)
  | .exc y S1 => .exc y S1
  | .no => .no
section
variable {X : Cx} {T : Th} {W : WX} {Γ : List Md} {fm : Nat → Str → Nat} {cs : List Nat} {f : Str}
theorem xp_fld {e a : Expr} {A : FE} (hc : FldOk X.K T cs f) (ha : XC X T W Γ a A) (he : PE X a (tC1 T W Γ A) → PE X e (tFld X.K (tC1 T W Γ A) f)) : XP X T W Γ e (pFld cs f A) := pe_imp (he ha) fun σ H Q ⟨g, ρ, S, R, hg⟩ => by
  refine ⟨g, ρ, S, R, ?_⟩
  unfold pFld at hg
  cases ea : A ρ S with
  | no => rw [ea] at hg; exact hg.elim
  | exc y S1 => rw [ea] at hg; exact hg
  | ok x S1 =>
    rw [ea] at hg
    intro es v H1 e1 s1
    subst es
    replace hg : GoodP T W Γ ρ σ g S1 H (pFldK cs f x S1) Q := hg
    unfold pFldK at hg
    split at hg
    · rename_i n
      split at hg
      · rename_i c d eF
        split at hg
        · rename_i hcs
          obtain ⟨hn, dx, fs, w, h1, h2, h3⟩ := (R.ex e1).st.fld eF
          simp only [Shr] at s1
          exact ⟨g.μ n, _, dx, fs, w, s1.2, h1, (hc c hcs).1, (hc c hcs).2, h2, hg rfl w H1 e1 ⟨c, d, dx, fs, w, eF, h1, h2, rfl, rfl⟩⟩
        · exact hg.elim
      · exact hg.elim
    · exact hg.elim
theorem Focus.snocL {H : Hp} : ∀ {js : List Nat} {d0 : D} {v0 : V} {l : List D} {p : Addr} {vs : List V} {j : Nat} {d1 : D} {w : V}, Focus T H js d0 v0 (.lst l) (.ref p) → H p = some (.lst vs) → l[j]? = some d1 → vs[j]? = some w → Focus T H (js ++ [j]) d0 v0 d1 w
  | [], d0, v0, l, p, vs, j, d1, w, h, h1, h2, h3 => by
    obtain ⟨rfl, rfl⟩ := h
    exact ⟨p, vs, d1, w, rfl, h1, h2, h3, rfl, rfl⟩
  | i :: js, .lst l0, v0, l, p, vs, j, d1, w, h, h1, h2, h3 => by
    obtain ⟨p0, vs0, x, y, e1, e2, e3, e4, e5⟩ := h
    exact ⟨p0, vs0, x, y, e1, e2, e3, e4, Focus.snocL e5 h1 h2 h3⟩
  | i :: js, .dct l0, v0, l, p, vs, j, d1, w, h, h1, h2, h3 => by
    obtain ⟨p0, x, y, e1, e2, e3, e4, e5⟩ := h
    exact ⟨p0, x, y, e1, e2, e3, e4, Focus.snocL e5 h1 h2 h3⟩
  | _ :: _, .non, _, _, _, _, _, _, _, h, _, _, _ => h.elim
  | _ :: _, .bl _, _, _, _, _, _, _, _, h, _, _, _ => h.elim
  | _ :: _, .int _, _, _, _, _, _, _, _, h, _, _, _ => h.elim
  | _ :: _, .str _, _, _, _, _, _, _, _, h, _, _, _ => h.elim
  | _ :: _, .tup _, _, _, _, _, _, _, _, h, _, _, _ => h.elim
  | _ :: _, .scr _, _, _, _, _, _, _, _, h, _, _, _ => h.elim
  | _ :: _, .obj _, _, _, _, _, _, _, _, h, _, _, _ => h.elim
  | _ :: _, .fn _ _, _, _, _, _, _, _, _, h, _, _, _ => h.elim
  | _ :: _, .gone _, _, _, _, _, _, _, _, h, _, _, _ => h.elim
/-- the value's own shape at a place -/
theorem own_at {g : G} {S : Store} {ρ : Env} {σ : L2.St} {H : Hp} {n : Nat} {js : List Nat} {d : D} {v : V} (R : Rel T g Γ ρ S σ H) (h : PlAt T g S H n f js d v) (hl : ∀ c d0, getF S n f = some (c, d0) → js.length ≤ T.fm c f) :
    ∃ c d0 dx fs v0 F', getF S n f = some (c, d0) ∧ n < g.N ∧ H (g.μ n) = some (.ins (T.cA c) dx fs) ∧ fs.lookup f = some v0 ∧ (∀ a, F' a → g.BF n f a) ∧ Own T g H (T.fm c f - js.length) F' d v ∧
    ∀ (g2 : G) (H2 : Hp) (Fo F2 : Addr → Prop) (x : D), Stay g H g2 H2 → (∀ a o, g.BF n f a → ¬ F' a → H a = some o → H2 a = some o) → (∀ a, Fo a → ¬ g.BF n f a) → (∀ a, F2 a → F' a ∨ Fo a) → Own T g2 H2 (T.fm c f - js.length) F2 x v → Own T g2 H2 (T.fm c f) (fun a => g.BF n f a ∨ Fo a) (setAt js d0 x) v0 := by
  obtain ⟨c, d0, dx, fs, v0, h1, h2, h3, h4⟩ := h
  obtain ⟨hn, dx', fs', v0', k1, k2, k3⟩ := R.st.fld h1
  have : HO.ins (T.cA c) dx' fs' = .ins (T.cA c) dx fs := Option.some.inj (k1.symm.trans h2)
  cases this
  rw [h3] at k2
  cases k2
  obtain ⟨F', q1, q2, q3⟩ := Own.focus js _ _ _ _ k3 h4 (hl c d0 h1)
  exact ⟨c, d0, dx, fs, v0, F', h1, hn, h2, h3, q1, q2, q3⟩
theorem deep_le {fm : Nat → Str → Nat} {S : Store} {n k : Nat} (h : deep fm S n f k = true) : ∀ c d0, getF S n f = some (c, d0) → k ≤ fm c f := fun c d0 e => by
  unfold deep at h
  rw [e] at h
  exact of_decide_eq_true h
theorem goodP_ex {ρ : Env} {σ : L2.St} {g : G} {S : Store} {H H1 : Hp} {r : RP} {Q : VK} (e : Exx H H1) (h : GoodP T W Γ ρ σ g S H r Q) : GoodP T W Γ ρ σ g S H1 r Q := by
  cases r with
  | ok n f js d S' => exact fun es v H' x s => h es v H' (e.trans x) s
  | exc x S' => exact exc_ex e h
  | no => exact h
theorem xp_ix {o e i : Expr} {P : FP} {A : FE} (hK : X.K = T.K) (hfm : T.fm = fm) (ho : XP X T W Γ o P) (hi : XC X T W Γ i A) (he : PE X o (tP T W Γ P) → PE X i (tC1 T W Γ A) → PE X e (tOp (rIxA X.K) (tP T W Γ P) (tC1 T W Γ A))) : XP X T W Γ e (pIx fm P A) := pe_imp (he ho hi) fun σ H Q ⟨g, ρ, S, R, hg⟩ => by
  refine ⟨g, ρ, S, R, ?_⟩
  unfold pIx at hg
  cases ep : P ρ S with
  | no => rw [ep] at hg; exact hg.elim
  | exc y S1 => rw [ep] at hg; exact hg
  | ok n f js d S1 =>
    rw [ep] at hg
    intro es v H1 e1 pl
    subst es
    refine ⟨g, ρ, S1, R.ex e1, ?_⟩
    replace hg : GoodP T W Γ ρ σ g S1 H1 (match A ρ S1 with | .ok k S2 => pIxK fm n f js S2 (posOf d k) | .exc y S2 => .exc y S2 | .no => .no) Q := goodP_ex e1 hg
    cases ea : A ρ S1 with
    | no => rw [ea] at hg; exact hg.elim
    | exc y S2 => rw [ea] at hg; exact hg
    | ok k S2 =>
      rw [ea] at hg
      intro es w H2 e2 s2
      subst es
      replace hg : GoodP T W Γ ρ σ g S2 H1 (pIxK fm n f js S2 (posOf d k)) Q := hg
      cases epos : posOf d k with
      | none => rw [epos] at hg; exact hg.elim
      | some jd =>
        obtain ⟨j, d1⟩ := jd
        rw [epos] at hg
        unfold pIxK at hg
        dsimp only at hg
        split at hg
        · rename_i hdp
          have pl2 := pl.ex e2
          have R2 := (R.ex e1).ex e2
          have dl := deep_le hdp
          rw [← hfm] at dl
          obtain ⟨c, d0, dx, fs, v0, F', k1, k2, k3, k4, k5, k6, k7⟩ := own_at R2 pl2 fun c d0 h => Nat.le_of_succ_le (dl c d0 h)
          have hk : T.fm c f - js.length = (T.fm c f - js.length - 1) + 1 := by have := dl c d0 k1; omega
          rw [hk] at k6
          unfold posOf at epos
          split at epos
          · rename_i l i0
            obtain ⟨j', e3, e4⟩ := Option.bind_eq_some_iff.mp epos
            obtain ⟨d1', e5, e6⟩ := Option.map_eq_some_iff.mp e4
            cases e6
            simp only [Own] at k6
            obtain ⟨p, vs, rfl, hF, hH, hl, _⟩ := k6
            have hj : j < l.length := (List.getElem?_eq_some_iff.mp e5).1
            obtain ⟨u, hu⟩ : ∃ u, vs[j]? = some u := ⟨vs[j], List.getElem?_eq_getElem (by omega)⟩
            rw [shr_int.mp s2]
            refine .inl ⟨p, vs, i0, u, rfl, rfl, .of hH, ?_, ?_⟩
            · unfold atI
              rw [← hl, e3]
              exact hu
            · refine hg rfl u H2 e2 ?_
              obtain ⟨c', d0', dx', fs', v0', p1, p2, p3, p4⟩ := pl2
              exact ⟨c', d0', dx', fs', v0', p1, p2, p3, p4.snocL hH e5 hu⟩
          · cases epos
        · exact hg.elim
end
/-! ### writing -/
def setF (S : Store) (n : Nat) (f : Str) (d : D) : Store := match S[n]? with
  | some ob => S.set n ⟨ob.cls, putD f d ob.fs⟩
  | none => S
/-- a field owns more -/
def G.growf (g : G) (n : Nat) (f : Str) (Fo : Addr → Prop) : G := { g with B := fun a => g.B a ∨ Fo a, BF := fun m e a => g.BF m e a ∨ (m = n ∧ e = f ∧ Fo a) }
theorem growf_none {g : G} {n : Nat} {f : Str} : g.growf n f (fun _ => False) = g := by
  unfold G.growf
  congr 1
  · funext a; simp
  · funext m e a; simp
theorem put_same {f : Str} {d d1 : D} {y : V} : ∀ {l : List (Str × D)} {m : List (Str × V)} {j : Nat} {p : Str × D} {q : Str × V}, m.map (·.1) = l.map (·.1) → (l.map (·.1)).Nodup → l.lookup f = some d → m.lookup f = some y → (putD f d1 l)[j]? = some p → m[j]? = some q → (p = (f, d1) ∧ q = (f, y)) ∨ (p.1 ≠ f ∧ l[j]? = some p)
  | [], _, _, _, _, _, _, h, _, _, _ => by cases h
  | _ :: _, [], _, _, _, e, _, _, _, _, _ => by simp at e
  | (k, x) :: l, (k', z) :: m, j, p, q, e, hn, h1, h2, h3, h4 => by
    simp only [List.map_cons, List.cons.injEq] at e
    obtain ⟨e1, e2⟩ := e
    subst e1
    simp only [List.map_cons, List.nodup_cons] at hn
    unfold putD at h3
    by_cases hk : k' = f
    · rw [if_pos hk] at h3
      subst hk
      rw [List.lookup_cons_self] at h2
      cases h2
      cases j with
      | zero => cases h3; cases h4; exact .inl ⟨rfl, rfl⟩
      | succ j =>
        refine .inr ⟨fun z => ?_, h3⟩
        exact hn.1 (List.mem_map.mpr ⟨p, List.mem_of_getElem? h3, z⟩)
    · rw [if_neg hk] at h3
      have hb : (f == k') = false := beq_eq_false_iff_ne.mpr fun z => hk z.symm
      rw [List.lookup_cons, hb] at h1 h2
      cases j with
      | zero => cases h3; exact .inr ⟨hk, rfl⟩
      | succ j =>
        rcases put_same (j := j) e2 hn.2 h1 h2 h3 h4 with h | ⟨h, h'⟩
        · exact .inl h
        · exact .inr ⟨h, h'⟩
theorem putD_keys_in {f : Str} {d d1 : D} : ∀ {l : List (Str × D)}, l.lookup f = some d → (putD f d1 l).map (·.1) = l.map (·.1)
  | [], h => by cases h
  | (k, x) :: l, h => by
    unfold putD
    by_cases hk : k = f
    · rw [if_pos hk, List.map_cons, List.map_cons]
    · rw [if_neg hk, List.map_cons, List.map_cons]
      have hb : (f == k) = false := beq_eq_false_iff_ne.mpr fun z => hk z.symm
      rw [List.lookup_cons, hb] at h
      rw [putD_keys_in h]
section
variable {T : Th} {Γ : List Md} {g : G} {ρ : Env} {S : Store} {σ : L2.St} {H : Hp} {Fo : Addr → Prop}
theorem Rel.wrf {n c : Nat} {f : Str} {d0 d1 : D} {dx p : Addr} {fs : List (Str × V)} {v0 : V} {o : HO} (R : Rel T (g.plusF ρ.length Fo) Γ ρ S σ H) (hFo : ∀ a, Fo a → ¬ g.U a) (eF : getF S n f = some (c, d0)) (h1 : H (g.μ n) = some (.ins (T.cA c) dx fs)) (h2 : fs.lookup f = some v0) (hp : g.BF n f p) (hno : ∀ u, o ≠ .tup u ∧ ∀ b, o ≠ .frz b (.tup u))
    (hw : Stay (g.plusF ρ.length Fo) H (g.growf n f Fo) (upd H p o) → Own T (g.growf n f Fo) (upd H p o) (T.fm c f) (fun a => g.BF n f a ∨ Fo a) d1 v0) : Rel T (g.growf n f Fo) Γ ρ (setF S n f d1) σ (upd H p o) ∧ Stay (g.plusF ρ.length Fo) H (g.growf n f Fo) (upd H p o) := by
  have r := R.st
  obtain ⟨ob, e1, e2⟩ := Option.bind_eq_some_iff.mp eF
  obtain ⟨d0', e3, e4⟩ := Option.map_eq_some_iff.mp e2
  cases e4
  have hn : n < g.N := by have : g.N = S.length := r.N; rw [this]; exact (List.getElem?_eq_some_iff.mp e1).1
  have hB : g.B p := (r.bB n f p hp).1
  have hpμ : ∀ m, m < g.N → p ≠ g.μ m := (r.bB n f p hp).2
  have hUU : ∀ a, (g.growf n f Fo).U a → (g.plusF ρ.length Fo).U a := fun a u => by
    rcases u with u | u | u | u
    · exact G.plusF_U.mpr (.inl (.inl u))
    · exact G.plusF_U.mpr (.inl (.inr (.inl u)))
    · exact G.plusF_U.mpr (.inl (.inr (.inr u)))
    · exact G.plusF_U.mpr (.inr u)
  have kp : ∀ a u, a ≠ p → H a = some u → upd H p o a = some u := fun a u h e => by rw [upd_ne h]; exact e
  have st : Stay (g.plusF ρ.length Fo) H (g.growf n f Fo) (upd H p o) := ⟨fun a u e hu => kp a u (fun z => hu (by rw [z]; exact .inr (.inr hB))) e, fun a h => .inl (hUU a h), Nat.le_refl _, fun _ _ => rfl, rfl⟩
  have stb : Stay (g.plusF ρ.length Fo).bare H (g.growf n f Fo).bare (upd H p o) := ⟨fun a u e hu => kp a u (fun z => hu (by rw [z]; exact .inr (.inr hB))) e, fun a h => .inl (by
    rcases h with h | ⟨i, h⟩ | h | h
    · exact h.elim
    · exact .inr (.inl ⟨i, .inl h⟩)
    · exact .inr (.inr h)
    · exact .inr (.inl ⟨ρ.length, .inr ⟨rfl, h⟩⟩)), Nat.le_refl _, fun _ _ => rfl, rfl⟩
  have eset : setF S n f d1 = S.set n ⟨ob.cls, putD f d1 ob.fs⟩ := by unfold setF; rw [e1]
  rw [eset]
  refine ⟨⟨R.len, fun i d' e => ?_, fun i j a h h' => R.dF i j a (.inl h) (.inl h'), fun i a h => R.dFO i a (.inl h), fun i a h u => ?_, fun a h u => ?_, fun a u => ?_, ?_, nt_upd (fun a u => R.nt a (hUU a u)) hno⟩, st⟩
  · obtain ⟨v, q1, q2⟩ := R.slot i d' e
    have hi : i < ρ.length := (List.getElem?_eq_some_iff.mp e).1
    refine ⟨v, q1, ?_⟩
    have wF : ∀ a, (g.plusF ρ.length Fo).F i a → (g.growf n f Fo).F i a := fun a z => z.elim id fun z => absurd z.1 (by omega)
    have kF : ∀ a u, (g.plusF ρ.length Fo).F i a → H a = some u → upd H p o a = some u := fun a u z q => kp a u (fun w => R.dFB i a z (by rw [w]; exact hB)) q
    cases hm : Γ.getD i .s <;> rw [hm] at q2 <;> simp only [RepM] at q2 ⊢
    · exact q2.stay st
    · exact Own.wide _ _ _ _ _ wF (Own.keepF st _ _ _ _ kF q2)
    · exact Own.keepF st _ _ _ _ (fun a u z q => kp a u (fun w => R.dOB a z (by rw [w]; exact hB)) q) q2
    · exact ⟨q2.1, Own.wide _ _ _ _ _ wF (Own.keepF st _ _ _ _ kF q2.2)⟩
    · exact q2
    · exact q2.stay stb
  · rcases u with u | u
    · exact R.dFB i a (.inl h) u
    · exact hFo a u (.inr (.inl ⟨i, h⟩))
  · rcases u with u | u
    · exact R.dOB a h u
    · exact hFo a u (.inl h)
  · by_cases ha : a = p
    · exact ⟨_, by rw [ha]; exact upd_same⟩
    · obtain ⟨o', q⟩ := R.dom a (hUU a u)
      exact ⟨o', kp a o' ha q⟩
  · refine ⟨by show g.N = _; rw [List.length_set]; exact r.N, r.inj, fun m hm => .inl (r.mB m hm), fun m e a h => ?_, fun m e m' e' a h h' => ?_, fun m o' e => ?_, fun m o' e => ?_⟩
    · rcases h with h | h
      · exact ⟨.inl (r.bB m e a h).1, (r.bB m e a h).2⟩
      · exact ⟨.inr h.2.2, fun m' hm' z => hFo a h.2.2 (by rw [z]; exact .inr (.inr (r.mB m' hm')))⟩
    · rcases h with h | h <;> rcases h' with h' | h'
      · exact r.bd m e m' e' a h h'
      · exact absurd (.inr (.inr (r.bB m e a h).1)) (hFo a h'.2.2)
      · exact absurd (.inr (.inr (r.bB m' e' a h').1)) (hFo a h.2.2)
      · exact ⟨h.1.trans h'.1.symm, h.2.1.trans h'.2.1.symm⟩
    · by_cases hm : n = m
      · subst hm
        rw [List.getElem?_set_self (by rw [← r.N]; exact hn)] at e
        cases e
        exact putD_nodup (r.nd n ob e1)
      · rw [List.getElem?_set_ne hm] at e
        exact r.nd m o' e
    · by_cases hm : n = m
      · subst hm
        rw [List.getElem?_set_self (by rw [← r.N]; exact hn)] at e
        cases e
        obtain ⟨dx', fs', k1, k2, k3⟩ := r.ob n ob e1
        have : HO.ins (T.cA ob.cls) dx' fs' = .ins (T.cA ob.cls) dx fs := Option.some.inj ((show H (g.μ n) = _ from k1).symm.trans h1)
        cases this
        refine ⟨dx, fs, kp _ _ (fun z => hpμ n hn z.symm) h1, by rw [k2, putD_keys_in e3], fun j q q' a b => ?_⟩
        rcases put_same k2 (r.nd n ob e1) e3 h2 a b with ⟨rfl, rfl⟩ | ⟨hq, a'⟩
        · exact Own.wide _ (fun a => g.BF n f a ∨ Fo a) _ _ _ (fun a z => z.imp id fun z => ⟨rfl, rfl, z⟩) (hw st)
        · refine Own.wide _ (g.BF n q.1) _ _ _ (fun a z => .inl z) ?_
          exact Own.keepF st _ _ _ _ (fun a u z e => kp a u (fun w => hq ((r.bd n q.1 n f p (by rw [← w]; exact z) hp).2)) e) (k3 j q q' a' b)
      · rw [List.getElem?_set_ne hm] at e
        obtain ⟨dx', fs', k1, k2, k3⟩ := r.ob m o' e
        have hmN : m < g.N := by have : g.N = S.length := r.N; rw [this]; exact (List.getElem?_eq_some_iff.mp e).1
        refine ⟨dx', fs', kp _ _ (fun z => hpμ m hmN z.symm) k1, k2, fun j q q' a b => ?_⟩
        refine Own.wide _ (g.BF m q.1) _ _ _ (fun a z => .inl z) ?_
        exact Own.keepF st _ _ _ _ (fun a u z e => kp a u (fun w => hm ((r.bd m q.1 n f p (by rw [← w]; exact z) hp).1.symm)) e) (k3 j q q' a b)
end
end Q

/-! Statements at places in fields. -/
namespace Q
open PySem PySem.Spec PyProof.Rows L2
def plPut (fm : Nat → Str → Nat) (k : Nat) (n : Nat) (f : Str) (js : List Nat) (x : D) (S : Store) (ρ : Env) : RS := match getF S n f with
  | some (c, d0) => if fm c f = js.length + k then .nx ρ (setF S n f (setAt js d0 x)) else .no
  | none => .no
/-- what is at the place, further -/
def RP.bindS (ρ : Env) (r : RP) (k : Nat → Str → List Nat → D → Store → RS) : RS := match r with
  | .ok n f js d S => k n f js d S
  | .exc x S => .exc x ρ S
  | .no => .no
def RL.bindR (ρ : Env) (r : RL) (k : List D → Store → RS) : RS := match r with
  | .ok ds S => k ds S
  | .exc x S => .exc x ρ S
  | .no => .no
def lstK (d : D) (k : List D → RS) : RS := match d with
  | .lst l => k l
  | _ => .no
def optK {α : Type} (o : Option α) (k : α → RS) : RS := match o with
  | some x => k x
  | none => .no
def fPMut (fm : Nat → Str → Nat) (p : FP) (h : HM) (a : FL) : FS := fun ρ S => (p ρ S).bindS ρ fun n f js d S1 => lstK d fun l => if deep fm S1 n f (js.length + 1) = true then (a ρ S1).bindR ρ fun ds S2 => optK (h l ds) fun zl => plPut fm 1 n f js (.lst zl.2) S2 ρ else .no
def fPSet (fm : Nat → Str → Nat) (p : FP) (e v : FE) : FS := fun ρ S => (v ρ S).bindS ρ fun x S1 => (p ρ S1).bindS ρ fun n f js d S2 => (e ρ S2).bindS ρ fun k S3 => lstK d fun l => optK (posOf (.lst l) k) fun jd => plPut fm 1 n f js (.lst (l.set jd.1 x)) S3 ρ
def fPApp (fm : Nat → Str → Nat) (p : FP) (v : FE) : FS := fun ρ S => (p ρ S).bindS ρ fun n f js d S1 => lstK d fun l => if deep fm S1 n f (js.length + 2) = true ∧ l.length < 1000000 then (v ρ S1).bindS ρ fun x S2 => plPut fm 2 n f js (.lst (l ++ [x])) S2 ρ else .no
/-! ### calm and fresh -/
def GoodNC (T : Th) (W : WX) (Γ : List Md) (k : Nat) (ρ : Env) (σ : L2.St) (g : G) (S : Store) (H : Hp) : RE → VK → Prop
  | .ok d S', Q => S' = S → ∀ v H' Fo, Exx H H' → (∀ a, Fo a → H a = none) → Rel T (g.plusF ρ.length Fo) Γ ρ S σ H' → Own T (g.plusF ρ.length Fo) H' k Fo d v → Q v H'
  | .exc x S', _ => ∀ c dd g' H', Rel T g' Γ ρ S' σ H' → FrE g H g' H' → ExcR T g' H' x c dd → W c dd σ H'
  | .no, _ => False
def tNC (T : Th) (W : WX) (Γ : List Md) (k : Nat) (F : FE) : TE := fun σ H Q => ∃ g ρ S, Rel T g Γ ρ S σ H ∧ GoodNC T W Γ k ρ σ g S H (F ρ S) Q
abbrev XNC (X : Cx) (T : Th) (W : WX) (Γ : List Md) (k : Nat) (e : Expr) (F : FE) : Prop := PE X e (tNC T W Γ k F)
section
variable {X : Cx} {T : Th} {W : WX} {Γ : List Md}
theorem Exx.none {H H1 : Hp} {a : Addr} (e : Exx H H1) (h : H1 a = Option.none) : H a = Option.none := by
  cases q : H a with
  | none => rfl
  | some o => rw [e a o q] at h; cases h
theorem goodNC_ex {k : Nat} {ρ : Env} {σ : L2.St} {g : G} {S : Store} {H H1 : Hp} {r : RE} {Q : VK} (e : Exx H H1) (h : GoodNC T W Γ k ρ σ g S H r Q) : GoodNC T W Γ k ρ σ g S H1 r Q := by
  cases r with
  | ok d S' => exact fun es v H' Fo x hf => h es v H' Fo (e.trans x) fun a z => e.none (hf a z)
  | exc x S' => exact exc_ex e h
  | no => exact h
theorem goodNC_bind {k0 : Nat} {ρ : Env} {σ : L2.St} {g : G} {S : Store} {H : Hp} {r : RE} {k : D → Store → RE} {Q Q' : VK} (h : GoodNC T W Γ k0 ρ σ g S H (r.bind k) Q)
    (hk : ∀ d v H', r = .ok d S → Exx H H' → Shr T g H' d v → GoodNC T W Γ k0 ρ σ g S H' (k d S) Q → Q' v H') : GoodC T W Γ ρ σ g S H r Q' := by
  cases r with
  | ok d S1 =>
    intro es v H' e s
    subst es
    exact hk d v H' rfl e s (goodNC_ex e h)
  | exc x S1 => exact h
  | no => exact h
def hRep : D → D → Option D
  | .lst l, .int k => if 0 ≤ k ∧ k ≤ 1000000 ∧ l.length * k.toNat ≤ 1000000 then some (.lst (rep l k.toNat)) else none
  | _, _ => none
theorem xnc_rep {e a b : Expr} {A B : FE} (ha : XC X T W Γ a A) (hb : XC X T W Γ b B) (he : PE X a (tC1 T W Γ A) → PE X b (tC1 T W Γ B) → PE X e (tOp rRep (tC1 T W Γ A) (tC1 T W Γ B))) : XNC X T W Γ 1 e (eOp hRep A B) := pe_imp (he ha hb) fun σ H Q ⟨g, ρ, S, R, hg⟩ =>
  ⟨g, ρ, S, R, goodNC_bind hg fun x v H1 _ e1 s1 hg1 => ⟨g, ρ, S, R.ex e1, goodNC_bind hg1 fun y w H2 _ e2 s2 hg2 => by
    cases ez : hRep x y with
    | none => rw [ez] at hg2; exact hg2.elim
    | some z =>
      rw [ez] at hg2
      have R2 := (R.ex e1).ex e2
      unfold hRep at ez
      split at ez
      · split at ez
        · rename_i hl
          cases ez
          obtain ⟨a, vs, rfl, la, ra⟩ := shr_lst.mp s1
          have la2 := e2 _ _ la.1
          have ra2 := ShrL.stay (.ex e2) _ _ ra
          refine ⟨a, _, vs, rfl, shr_int.mp s2, la2, by omega, by omega, by rw [← ra.length]; exact sz6 hl.2.2, fun p hp => ?_⟩
          exact hg2 rfl _ _ (· = p) (Exx.new hp) (fun a z => by rw [z]; exact hp) (R2.fresh hp fun _ => ⟨nofun, fun _ => nofun⟩) (R2.fresh_lst hp (shrL_rep ra2 _))
        · cases ez
      · cases ez⟩⟩
theorem own_nilL {g : G} {H : Hp} {k : Nat} {F : Addr → Prop} {p : Addr} (hF : F p) (hH : H p = some (.lst [])) : Own T g H (k + 1) F (.lst []) (.ref p) := by
  simp only [Own]
  exact ⟨p, [], rfl, hF, hH, rfl, fun _ _ => False, fun _ _ z => z.elim, fun _ _ _ z => z.elim, fun j d w a => by simp at a⟩
/-- [] at any depth -/
theorem xnc_nil {k : Nat} {pos : Pos} : XNC X T W Γ (k + 1) (.List [] pos) (eC (.lst [])) := pe_imp (pe_lst pa_nil) fun σ H Q ⟨g, ρ, S, R, hg⟩ =>
  ⟨Nat.zero_le _, fun p hp => hg rfl _ _ (· = p) (Exx.new hp) (fun a z => by rw [z]; exact hp) (R.fresh hp fun _ => ⟨nofun, fun _ => nofun⟩) (own_nilL rfl upd_same)⟩
theorem xf_ofNC {k : Nat} {e : Expr} {F : FE} (h : XNC X T W Γ k e F) : XF X T W Γ k e F := pe_imp h fun σ H Q ⟨g, ρ, S, R, hg⟩ => by
  refine ⟨g, ρ, S, R, ?_⟩
  cases r : F ρ S with
  | ok d S1 =>
    rw [r] at hg
    intro es v H' Fo ex hf R' hw
    subst es
    exact hg v g H' Fo R' (.ex ex) (fun a z => ⟨fun u => (by obtain ⟨o, q⟩ := R.dom a u; rw [hf a z] at q; cases q), .inr (hf a z)⟩) hw
  | exc x S1 => rw [r] at hg; exact hg
  | no => rw [r] at hg; exact hg
/-! ### the statements -/
variable {J : Jd} {fm : Nat → Str → Nat} {f : Str}
theorem put_core {k : Nat} {g g1 : G} {ρ : Env} {S : Store} {σ : L2.St} {H H1 : Hp} {n : Nat} {js : List Nat} {d x : D} {v : V} {D : Ends} {Fo F2 : Addr → Prop} (hfm : T.fm = fm) (R1 : Rel T (g1.plusF ρ.length Fo) Γ ρ S σ H1) (f1 : FrS g H g1 H1) (ho : ∀ a, Fo a → ¬ g1.U a ∧ (g.U a ∨ H a = none))
    (pl : PlAt T g1 S H1 n f js d v) (hk : ∀ c d0, getF S n f = some (c, d0) → fm c f = js.length + (k + 1)) :
    ∃ F' : Addr → Prop, (∀ a, F' a → g1.BF n f a) ∧ Own T (g1.plusF ρ.length Fo) H1 (k + 1) F' d v ∧ ∀ (p : Addr) (o : HO) (F2 : Addr → Prop), F' p → (∀ u, o ≠ .tup u ∧ ∀ b, o ≠ .frz b (.tup u)) → (∀ a, F2 a → F' a ∨ Fo a) →
      (Stay (g1.plusF ρ.length Fo) H1 (g1.growf n f Fo) (upd H1 p o) → Own T (g1.growf n f Fo) (upd H1 p o) (k + 1) F2 x v) → GoodS T J Γ g H (plPut fm (k + 1) n f js x S ρ) D → D.nx σ (upd H1 p o) := by
  have pl2 : PlAt T (g1.plusF ρ.length Fo) S H1 n f js d v := pl
  obtain ⟨c, d0, dx, fs, v0, F', k1, k2, k3, k4, k5, k6, k7⟩ := own_at R1 pl2 fun c d0 h => by rw [hfm, hk c d0 h]; omega
  have ek : T.fm c f - js.length = k + 1 := by rw [hfm, hk c d0 k1]; omega
  rw [ek] at k6 k7
  refine ⟨F', k5, k6, fun p o F2 hp hno hF2 hx hg => ?_⟩
  have hFo : ∀ a, Fo a → ¬ g1.BF n f a := fun a z w => (ho a z).1 (.inr (.inr (R1.st.bB n f a w).1))
  obtain ⟨R2, st⟩ := R1.wrf (fun a z => (ho a z).1) k1 k3 k4 (k5 p hp) hno (d1 := setAt js d0 x) fun st => k7 _ _ Fo F2 x st (fun a u z nz e => by rw [upd_ne (fun w => nz (by rw [w]; exact hp))]; exact e) hFo hF2 (hx st)
  unfold plPut at hg
  rw [k1] at hg
  dsimp only at hg
  rw [if_pos (hk c d0 k1)] at hg
  refine hg σ _ _ R2 ?_
  have hB : g1.B p := (R1.st.bB n f p (k5 p hp)).1
  refine ⟨fun a o' e hu => ?_, fun a u => ?_, f1.O, f1.P, f1.N, f1.μ, fun a o' e => ?_⟩
  · have e' := f1.keep a o' e hu
    have : a ≠ p := fun w => by
      rcases hu with hu | hu
      · exact f1.stay.off e hu (by rw [w]; exact .inr (.inr hB))
      · exact R1.dOB a (show g1.O a by rw [f1.O]; exact hu) (by rw [w]; exact hB)
    rw [upd_ne this]; exact e'
  · rcases u with u | u | u | u
    · exact f1.own a (.inl u)
    · exact f1.own a (.inr (.inl u))
    · exact f1.own a (.inr (.inr u))
    · exact (ho a u).2
  · obtain ⟨o2, e'⟩ := f1.dom a o' e
    by_cases ha : a = p
    · exact ⟨_, by rw [ha]; exact upd_same⟩
    · exact ⟨o2, by rw [upd_ne ha]; exact e'⟩
theorem plPut_k {k n : Nat} {js : List Nat} {x : D} {S : Store} {ρ : Env} {g : G} {H : Hp} {D : Ends} (h : GoodS T J Γ g H (plPut fm k n f js x S ρ) D) : ∀ c d0, getF S n f = some (c, d0) → fm c f = js.length + k := fun c d0 e => by
  unfold plPut at h
  rw [e] at h
  dsimp only at h
  split at h
  · assumption
  · exact h.elim
theorem lstK_get {d : D} {k : List D → RS} {g : G} {H : Hp} {D : Ends} (h : GoodS T J Γ g H (lstK d k) D) : ∃ l, d = .lst l ∧ GoodS T J Γ g H (k l) D := by
  unfold lstK at h
  split at h
  · exact ⟨_, rfl, h⟩
  · exact h.elim
theorem optK_get {α : Type} {o : Option α} {k : α → RS} {g : G} {H : Hp} {D : Ends} (h : GoodS T J Γ g H (optK o k) D) : ∃ x, o = some x ∧ GoodS T J Γ g H (k x) D := by
  unfold optK at h
  split at h
  · exact ⟨_, rfl, h⟩
  · exact h.elim
/-- the list at a place -/
theorem place_list {g : G} {S : Store} {ρ : Env} {σ : L2.St} {H : Hp} {n k : Nat} {js : List Nat} {l : List D} {v : V} (hfm : T.fm = fm) (R : Rel T g Γ ρ S σ H) (h : PlAt T g S H n f js (.lst l) v) (hd : deep fm S n f (js.length + (k + 1)) = true) : ∃ p vs, v = .ref p ∧ H p = some (.lst vs) ∧ l.length = vs.length := by
  have dl := deep_le hd
  rw [← hfm] at dl
  obtain ⟨c, d0, dx, fs, v0, F', k1, k2, k3, k4, k5, k6, k7⟩ := own_at R h fun c d0 h => by have := dl c d0 h; omega
  have hk : T.fm c f - js.length = (T.fm c f - js.length - 1) + 1 := by have := dl c d0 k1; omega
  rw [hk] at k6
  simp only [Own] at k6
  obtain ⟨p, vs, rfl, hF, hH, hl, _⟩ := k6
  exact ⟨p, vs, rfl, hH, hl⟩
/-- PLACE.m(..), the list's items shared -/
theorem xs_pmut {st : Stmt} {o : Expr} {es : List Expr} {P : FP} {A : FL} {r : V → List V → Hp → VK → Prop} {h : HM} (hK : X.K = T.K) (hfm : T.fm = fm) (hx : J.ΓX Γ) (ok : MutOk T r h) (ho : XP X T J.W Γ o P) (ha : XCL X T J.W Γ es A)
    (he : PE X o (tP T J.W Γ P) → PA X es (tCL T J.W Γ A) → PS X st (tDrop (tBM X.K "list" r (tP T J.W Γ P) (tCL T J.W Γ A)))) : XS X T J Γ Γ st (fPMut fm P h A) := ps_imp (he ho ha) fun D σ H ⟨g, ρ, S, R, hg⟩ => by
  refine ⟨g, ρ, S, R, ?_⟩
  unfold fPMut at hg
  cases ep : P ρ S with
  | no => rw [ep] at hg; exact hg
  | exc y S1 => rw [ep] at hg; exact fun c dd g' H' R' f' e => hg Γ c dd σ g' H' hx R' (f'.frs R.dOB) e
  | ok n f js d S1 =>
    rw [ep] at hg
    intro es v H1 e1 pl
    subst es
    obtain ⟨l, rfl, hg2⟩ := lstK_get (show GoodS T J Γ g H (lstK d _) D from hg)
    clear hg
    have hg := hg2
    split at hg
    · rename_i hd
      have R1 := R.ex e1
      obtain ⟨p, vs, rfl, hH, hl⟩ := place_list (k := 0) hfm R1 pl hd
      refine ⟨.inl ⟨rfl, vs, SqL.of hH⟩, g, ρ, S1, R1, ?_⟩
      cases ea : A ρ S1 with
      | no => rw [ea] at hg; exact hg.elim
      | exc y S2 => rw [ea] at hg; exact fun c dd g' H' R' f' e => hg Γ c dd σ g' H' hx R' (((FrE.ex e1).trans f').frs R.dOB) e
      | ok ds S2 =>
        rw [ea] at hg
        intro es ws H2 e2 sw
        subst es
        obtain ⟨zl, ez, hg2⟩ := optK_get (show GoodS T J Γ g H (optK (h l ds) _) D from hg)
        clear hg
        have hg := hg2
        obtain ⟨z, l'⟩ := zl
        have R2 := R1.ex e2
        have f2 : FrS g H g H2 := (FrE.ex (e1.trans e2)).frs R.dOB
        have hk := plPut_k hg
        obtain ⟨F', q1, q2, q3⟩ := put_core (k := 0) (x := .lst l') (Fo := fun _ => False) (D := D) hfm (by rw [plusF_none]; exact R2) f2 (fun a z => z.elim) (pl.ex e2) hk (F2 := fun _ => False)
        rw [plusF_none] at q2 q3
        obtain ⟨p', vs', e3, hF, hH2, s3⟩ := own1_lst.mp q2
        cases e3
        refine ok g H2 p l ds l' z vs' ws hH2 s3 sw (.inr (.inr (R2.st.bB n f p (q1 p hF)).1)) ez _ fun u vs2 s2 su => ?_
        refine q3 p _ F' hF (fun _ => ⟨nofun, fun _ => nofun⟩) (fun a z => .inl z) (fun st => ?_) hg
        exact own1_lst.mpr ⟨p, vs2, rfl, hF, upd_same, ShrL.stay st _ _ s2⟩
    · exact hg.elim
theorem posOf_lst {l : List D} {k d : D} {j : Nat} (h : posOf (.lst l) k = some (j, d)) : ∃ i, k = .int i ∧ ixN l.length i = some j ∧ l[j]? = some d := by
  cases k <;> simp only [posOf] at h <;> first | cases h | skip
  obtain ⟨j', e5, e6⟩ := Option.bind_eq_some_iff.mp h
  obtain ⟨d1', e7, e8⟩ := Option.map_eq_some_iff.mp e6
  cases e8
  exact ⟨_, rfl, e5, e7⟩
/-- PLACE[e] = v, the list's items shared -/
theorem xs_pset {o e v : Expr} {st : Stmt} {P : FP} {A B : FE} (hfm : T.fm = fm) (hx : J.ΓX Γ) (ho : XP X T J.W Γ o P) (hi : XC X T J.W Γ e A) (hv : XE X T J.W Γ v B)
    (he : PE X v (tX T J.W Γ B) → PE X o (tP T J.W Γ P) → PE X e (tC1 T J.W Γ A) → PS X st (tAsg (tX T J.W Γ B) (gSub (tP T J.W Γ P) (tC1 T J.W Γ A) rSetL))) : XS X T J Γ Γ st (fPSet fm P A B) := ps_imp (he hv ho hi) fun D σ H ⟨g, ρ, S, R, hg⟩ => by
  refine ⟨g, ρ, S, R, ?_⟩
  unfold fPSet at hg
  refine good_bindS R hx hg fun x S1 w g1 H1 eR R1 f1 s1 hg1 => ?_
  clear hg eR
  refine ⟨g1, ρ, S1, R1, ?_⟩
  cases ep : P ρ S1 with
  | no => rw [ep] at hg1; exact hg1.elim
  | exc y S2 => rw [ep] at hg1; exact fun c dd g' H' R' f' e => hg1 Γ c dd σ g' H' hx R' (f'.frs R1.dOB) e
  | ok n f js d S2 =>
    rw [ep] at hg1
    intro es v1 H2 e2 pl
    subst es
    refine ⟨g1, ρ, S2, R1.ex e2, ?_⟩
    replace hg1 : GoodS T J Γ g1 H1 ((A ρ S2).bindS ρ fun k S3 => lstK d fun l => optK (posOf (.lst l) k) fun jd => plPut fm 1 n f js (.lst (l.set jd.1 x)) S3 ρ) D := hg1
    cases ea : A ρ S2 with
    | no => rw [ea] at hg1; exact hg1.elim
    | exc y S3 => rw [ea] at hg1; exact fun c dd g' H' R' f' e => hg1 Γ c dd σ g' H' hx R' (((FrE.ex e2).trans f').frs R1.dOB) e
    | ok k S3 =>
      rw [ea] at hg1
      intro es u H3 e3 su
      subst es
      obtain ⟨l, rfl, hg2⟩ := lstK_get (show GoodS T J Γ g1 H1 (lstK d _) D from hg1)
      clear hg1
      obtain ⟨jd, epos, hg1⟩ := optK_get hg2
      clear hg2
      obtain ⟨j, d1⟩ := jd
      have R3 := (R1.ex e2).ex e3
      have f3 : FrS g1 H1 g1 H3 := (FrE.ex (e2.trans e3)).frs R1.dOB
      obtain ⟨F', q1, q2, q3⟩ := put_core (k := 0) (x := .lst (l.set j x)) (Fo := fun _ => False) (D := D) hfm (by rw [plusF_none]; exact R3) f3 (fun a z => z.elim) (pl.ex e3) (plPut_k hg1) (F2 := fun _ => False)
      rw [plusF_none] at q2 q3
      obtain ⟨p', vs', rfl, hF, hH2, s3⟩ := own1_lst.mp q2
      obtain ⟨i0, rfl, e5, e7⟩ := posOf_lst epos
      refine ⟨p', vs', i0, j, rfl, shr_int.mp su, hH2, by rw [← s3.length]; exact e5, ?_⟩
      refine q3 p' _ F' hF (fun _ => ⟨nofun, fun _ => nofun⟩) (fun a z => .inl z) (fun st => ?_) hg1
      refine own1_lst.mpr ⟨p', _, rfl, hF, upd_same, ?_⟩
      have sx := Shr.stay st _ _ (Shr.stay (.ex (e2.trans e3)) _ _ s1)
      have s4 := ShrL.stay st _ _ s3
      refine .of (by rw [List.length_set, List.length_set]; exact s4.length) fun i a b ha hb => ?_
      by_cases hij : j = i
      · subst hij
        have hj : j < l.length := (List.getElem?_eq_some_iff.mp e7).1
        rw [List.getElem?_set_self hj] at ha
        rw [List.getElem?_set_self (by rw [← s3.length]; exact hj)] at hb
        cases ha; cases hb
        exact sx
      · rw [List.getElem?_set_ne hij] at ha hb
        obtain ⟨w', h1, h2⟩ := s4.get ha
        rw [hb] at h1; cases h1
        exact h2
/-- PLACE.append(e), e fresh -/
theorem xs_papp {st : Stmt} {o e : Expr} {P : FP} {B : FE} (hK : X.K = T.K) (hfm : T.fm = fm) (hx : J.ΓX Γ) (ho : XP X T J.W Γ o P) (hv : XNC X T J.W Γ 1 e B)
    (he : PE X o (tP T J.W Γ P) → PE X e (tNC T J.W Γ 1 B) → PS X st (tDrop (tBM X.K "list" rAppend (tP T J.W Γ P) (tCons (tNC T J.W Γ 1 B) tNil)))) : XS X T J Γ Γ st (fPApp fm P B) := ps_imp (he ho hv) fun D σ H ⟨g, ρ, S, R, hg⟩ => by
  refine ⟨g, ρ, S, R, ?_⟩
  unfold fPApp at hg
  cases ep : P ρ S with
  | no => rw [ep] at hg; exact hg
  | exc y S1 => rw [ep] at hg; exact fun c dd g' H' R' f' e => hg Γ c dd σ g' H' hx R' (f'.frs R.dOB) e
  | ok n f js d S1 =>
    rw [ep] at hg
    intro es v H1 e1 pl
    subst es
    obtain ⟨l, rfl, hg2⟩ := lstK_get (show GoodS T J Γ g H (lstK d _) D from hg)
    clear hg
    have hg := hg2
    split at hg
    · rename_i hd
      have R1 := R.ex e1
      obtain ⟨p, vs, rfl, hH, hl⟩ := place_list (k := 1) hfm R1 pl hd.1
      refine ⟨.inl ⟨rfl, vs, SqL.of hH⟩, g, ρ, S1, R1, ?_⟩
      cases ea : B ρ S1 with
      | no => rw [ea] at hg; exact hg.elim
      | exc y S2 => rw [ea] at hg; exact fun c dd g' H' R' f' e => hg Γ c dd σ g' H' hx R' (((FrE.ex e1).trans f').frs R.dOB) e
      | ok x S2 =>
        rw [ea] at hg
        intro es w H2 Fo e2 hfo R2 hw
        subst es
        replace hg : GoodS T J Γ g H (plPut fm 2 n f js (.lst (l ++ [x])) S2 ρ) D := hg
        have f2 : FrS g H g H2 := (FrE.ex (e1.trans e2)).frs R.dOB
        have hFo : ∀ a, Fo a → ¬ g.U a := fun a z u => by
          obtain ⟨o, q⟩ := R1.dom a u
          rw [hfo a z] at q; cases q
        obtain ⟨F', q1, q2, q3⟩ := put_core (k := 1) (x := .lst (l ++ [x])) (Fo := Fo) (D := D) hfm R2 f2 (fun a z => ⟨hFo a z, .inr (e1.none (hfo a z))⟩) (pl.ex e2) (plPut_k hg) (F2 := fun _ => False)
        simp only [Own] at q2
        obtain ⟨p', vs', e3, hF, hH2, hl2, Gs, h1, h2, h3⟩ := q2
        cases e3
        refine ⟨p, vs', w, rfl, rfl, hH2, by rw [← hl2]; exact sz_lt6 hd.2, ?_⟩
        refine q3 p _ (fun a => F' a ∨ Fo a) hF (fun _ => ⟨nofun, fun _ => nofun⟩) (fun a z => z) (fun st => ?_) hg
        simp only [Own]
        have pF : ∀ a, Fo a → a ≠ p := fun a z e => hFo a z (by rw [e]; exact .inr (.inr (R2.st.bB n f p (q1 p hF)).1))
        refine ⟨p, _, rfl, .inl hF, upd_same, by simp [hl2], fun i a => Gs i a ∧ i < l.length ∨ i = l.length ∧ Fo a, fun i a z => ?_, fun i j a z z' => ?_, fun i d' w' a b => ?_⟩
        · rcases z with z | z
          · exact ⟨.inl (h1 i a z.1).1, (h1 i a z.1).2⟩
          · exact ⟨.inr z.2, pF a z.2⟩
        · rcases z with z | z <;> rcases z' with z' | z'
          · exact h2 i j a z.1 z'.1
          · exact absurd (.inr (.inr (R2.st.bB n f a (q1 a (h1 i a z.1).1)).1)) (hFo a z'.2)
          · exact absurd (.inr (.inr (R2.st.bB n f a (q1 a (h1 j a z'.1).1)).1)) (hFo a z.2)
          · rw [z.1, z'.1]
        · by_cases hi : i < l.length
          · rw [List.getElem?_append_left hi] at a
            rw [List.getElem?_append_left (by omega)] at b
            refine Own.wide _ (Gs i) _ _ _ (fun a z => .inl ⟨z, hi⟩) ?_
            exact Own.keepF st _ _ _ _ (fun a u z e => by rw [upd_ne (h1 i a z).2]; exact e) (h3 i d' w' a b)
          · have hil : i = l.length := by
              have := (List.getElem?_eq_some_iff.mp a).1
              simp at this
              omega
            subst hil
            rw [List.getElem?_append_right (Nat.le_refl _), Nat.sub_self] at a
            rw [hl2, List.getElem?_append_right (Nat.le_refl _), Nat.sub_self] at b
            cases a; cases b
            refine Own.wide _ Fo _ _ _ (fun a z => .inr ⟨rfl, z⟩) ?_
            exact Own.keepF st _ _ _ _ (fun a u z e => by rw [upd_ne (pF a z)]; exact e) hw
    · exact hg.elim
end
end Q

/-! Loops over what a field owns. -/
namespace Q
open PySem PySem.Spec PyProof.Rows L2
def GoodSC (T : Th) (J : Jd) (Γ' : List Md) (g : G) (S : Store) (H : Hp) : RS → Ends → Prop
  | .nx ρ' S', D => S' = S → ∀ σ' g' H', Rel T g' Γ' ρ' S σ' H' → FrS g H g' H' → Exx H H' → D.nx σ' H'
  | .exc x ρ' S', _ => ∀ Γ'' c dd σ' g' H', J.ΓX Γ'' → Rel T g' Γ'' ρ' S' σ' H' → FrS g H g' H' → ExcR T g' H' x c dd → J.W c dd σ' H'
  | _, _ => False
def tSC (T : Th) (J : Jd) (Γ Γ' : List Md) (F : FS) : TS := fun D σ H => ∃ g ρ S, Rel T g Γ ρ S σ H ∧ GoodSC T J Γ' g S H (F ρ S) D
/-- calm statements -/
abbrev XSC (X : Cx) (T : Th) (J : Jd) (Γ Γ' : List Md) (st : Stmt) (F : FS) : Prop := PS X st (tSC T J Γ Γ' F)
abbrev XBC (X : Cx) (T : Th) (J : Jd) (Γ Γ' : List Md) (st : List Stmt) (F : FS) : Prop := PSs X st (tSC T J Γ Γ' F)
def forC (tf : D → Env → Option Env) (b : FS) : List D → Env → Store → RS
  | [], ρ, S => .nx ρ S
  | d :: ds, ρ, S => match tf d ρ with
    | none => .no
    | some ρ1 => match b ρ1 S with
      | .nx ρ2 _ => forC tf b ds ρ2 S
      | .exc x ρ2 S2 => .exc x ρ2 S2
      | _ => .no
def fForP (fm : Nat → Str → Nat) (p : FP) (tf : D → Env → Option Env) (b : FS) : FS := fun ρ S => (p ρ S).bindS ρ fun n f js d S1 => lstK d fun l => if deep fm S1 n f (js.length + 1) = true ∧ deep fm S1 n f (js.length + 2) = false then forC tf b l ρ S1 else .no
section
variable {X : Cx} {T : Th} {J : Jd} {Γ Γ' Γ1 : List Md} {fm : Nat → Str → Nat}
theorem GoodSC.after {g g1 : G} {S : Store} {H H1 : Hp} {r : RS} {D : Ends} (h : GoodSC T J Γ' g S H r D) (f : FrS g H g1 H1) (e : Exx H H1) : GoodSC T J Γ' g1 S H1 r D := by
  cases r with
  | nx ρ' S' => exact fun es σ' g' H' R f' e' => h es σ' g' H' R (f.trans f') (e.trans e')
  | exc x ρ' S' => exact fun Γ'' c dd σ' g' H' a R f' ex => h Γ'' c dd σ' g' H' a R (f.trans f') ex
  | bk _ _ => exact h
  | ct _ _ => exact h
  | rt _ _ _ => exact h
  | no => exact h
theorem xbc_one {st : Stmt} {A : FS} (ha : XSC X T J Γ Γ' st A) : XBC X T J Γ Γ' [st] A := pss_one ha
theorem xbc_cons {st : Stmt} {rest : List Stmt} {A B : FS} (ha : XSC X T J Γ Γ1 st A) (hb : XBC X T J Γ1 Γ' rest B) : XBC X T J Γ Γ' (st :: rest) (fSeq A B) := pss_imp (pss_cons ha hb) fun D σ H ⟨g, ρ, S, R, h⟩ => by
  refine ⟨g, ρ, S, R, ?_⟩
  unfold fSeq at h
  cases e : A ρ S with
  | nx ρ' S' =>
    rw [e] at h
    intro es σ' g' H' R' f' ex
    subst es
    exact ⟨g', ρ', S', R', GoodSC.after h f' ex⟩
  | bk ρ' S' => rw [e] at h; exact h
  | ct ρ' S' => rw [e] at h; exact h
  | rt d ρ' S' => rw [e] at h; exact h
  | exc x ρ' S' => rw [e] at h; exact h
  | no => rw [e] at h; exact h
theorem xsc_set {i : Nat} {e : Expr} {A : FE} {st : Stmt} (hx : J.ΓX Γ) (ha : XC X T J.W Γ e A) (he : PE X e (tC1 T J.W Γ A) → PS X st (tAsg (tC1 T J.W Γ A) (gName i))) (hΓ : Γ.set i .s = Γ') : XSC X T J Γ Γ' st (fSet i A) := ps_imp (he ha) fun D σ H ⟨g, ρ, S, R, h⟩ => by
  refine ⟨g, ρ, S, R, ?_⟩
  unfold fSet at h
  cases r : A ρ S with
  | no => rw [r] at h; exact h
  | exc x S1 => rw [r] at h; exact fun c dd g' H' R' f' e => h Γ c dd σ g' H' hx R' (f'.frs R.dOB) e
  | ok d S1 =>
    rw [r] at h
    intro es v H1 e1 s1
    subst es
    exact h rfl _ (g.drop i) H1 (by rw [← hΓ]; exact (R.ex e1).set s1) (((FrE.ex e1).frs R.dOB).trans .drop) e1
/-- for x in PLACE: ..; the body is calm -/
theorem xs_forP {tg it : Expr} {body : List Stmt} {P : FP} {B : FS} {tf : D → Env → Option Env} {t : TG} {is : List Nat} {pos : Pos} (hK : X.K = T.K) (hfm : T.fm = fm) (hx : J.ΓX Γ) (hp : PassesOwn (model X.prog X.w) X.A X.env X.xe) (hc : X.calm = true) (ho : XP X T J.W Γ it P) (hg : PG X tg t) (ht : TgOk T Γ Γ is t tf)
    (hb : XBC X T J Γ Γ body B) (hi : PE X it (tP T J.W Γ P) → PI X tg it (fun σ H R => tP T J.W Γ P σ H fun x H1 => ∃ a, x = .ref a ∧ (∃ xs, SqL X.K H1 a xs) ∧ R (Itl X.K a) H1)) (hs : ∀ x, foldedSetIterable it X.env x = pure x := by intro _; rfl) : XS X T J Γ Γ (.For tg it body [] pos) (fForP fm P tf B) := ps_imp (ps_for hp hc (hi ho) hg hb hs) fun D σ H ⟨g, ρ, S, R, h⟩ => by
  refine ⟨g, ρ, S, R, ?_⟩
  unfold fForP at h
  cases ep : P ρ S with
  | no => rw [ep] at h; exact h
  | exc y S1 => rw [ep] at h; exact fun c dd g' H' R' f' e => h Γ c dd σ g' H' hx R' (f'.frs R.dOB) e
  | ok n f js d S1 =>
    rw [ep] at h
    intro es v H1 e1 pl
    subst es
    obtain ⟨l, rfl, h2⟩ := lstK_get (show GoodS T J Γ g H (lstK d _) D from h)
    clear h
    split at h2
    · rename_i hd
      have R1 := R.ex e1
      have dl := deep_le hd.1
      rw [← hfm] at dl
      obtain ⟨c, d0, dx, fs, v0, F', k1, k2, k3, k4, k5, k6, k7⟩ := own_at R1 pl fun c d0 h => Nat.le_of_succ_le (dl c d0 h)
      have hk : T.fm c f - js.length = 1 := by
        have a := dl c d0 k1
        have b := hd.2
        unfold deep at b
        rw [k1] at b
        have b := of_decide_eq_false b
        rw [← hfm] at b
        omega
      rw [hk] at k6
      obtain ⟨p, vs, rfl, hF, hH, s3⟩ := own1_lst.mp k6
      have h0 : GoodS T J Γ g H1 (forC tf B l ρ S1) D := GoodS.then h2 ((FrE.ex e1).frs R.dOB)
      generalize hr : forC tf B l ρ S1 = r at h0
      clear h2
      refine ⟨p, rfl, ⟨vs, SqL.of hH⟩, ?_⟩
      refine ⟨fun i m σ' H' => ∃ g' ρ', Rel T g' Γ ρ' S1 σ' H' ∧ FrS g H1 g' H' ∧ Exx H1 H' ∧ m = l.length - i ∧ i ≤ l.length ∧ forC tf B (l.drop i) ρ' S1 = r, ⟨l.length, g, ρ, R1, .refl _ _, .refl _, by simp, Nat.zero_le _, by rw [List.drop_zero]; exact hr⟩, fun i m σ' H' ⟨g', ρ', R', f', x', em, hi', er⟩ => ?_⟩
      have hH' : H' p = some (.lst vs) := x' p _ hH
      have h2 := GoodS.then h0 f'
      by_cases hlt : i < l.length
      · obtain ⟨d, hd⟩ : ∃ d, l[i]? = some d := ⟨l[i], List.getElem?_eq_getElem hlt⟩
        obtain ⟨w, hw1, hw2⟩ := s3.get hd
        refine .inr ⟨⟨vs, w, .of hH', hw1⟩, fun σ2 H2 => ∃ m', m' < m ∧ ∃ g' ρ', Rel T g' Γ ρ' S1 σ2 H2 ∧ FrS g H1 g' H2 ∧ Exx H1 H2 ∧ m' = l.length - (i + 1) ∧ i + 1 ≤ l.length ∧ forC tf B (l.drop (i + 1)) ρ' S1 = r, fun σ2 H2 ⟨m', l', w'⟩ => ⟨m', l', w'⟩, fun x H2 y => ?_⟩
        obtain ⟨y1, y2⟩ := y
        subst y1
        have := y2 vs (.of hH')
        rw [hw1] at this
        cases this
        have sx : Shr T g' H2 d w := Shr.stay f'.stay _ _ hw2
        have ed : l.drop i = d :: l.drop (i + 1) := by
          rw [List.drop_eq_getElem_cons hlt]
          rw [List.getElem?_eq_getElem hlt] at hd
          rw [Option.some.inj hd]
        rw [ed] at er
        rw [forC] at er
        split at er
        · rw [← er] at h2
          exact h2.elim
        · rename_i ρ1 e1'
          refine ht g' ρ' ρ1 S1 σ' H2 d w _ R' sx e1' fun σ3 R3 _ _ => ⟨g'.drops is, ρ1, S1, R3, ?_⟩
          have f3 : FrS g' H2 (g'.drops is) H2 := .drops
          have h3 := GoodS.then h2 f3
          split at er
          · rename_i ρ2 S2 eb
            rw [eb]
            intro es σ4 g4 H4 R4 f4 x4
            exact ⟨l.length - (i + 1), by omega, g4, ρ2, R4, (f'.trans f3).trans f4, x'.trans x4, rfl, hlt, er⟩
          · rename_i y ρ2 S2 eb
            rw [eb]
            rw [← er] at h3
            exact h3
          · rw [← er] at h3
            exact h3.elim
      · have ei : i = l.length := by omega
        subst ei
        refine .inl ⟨⟨vs, .of hH', by rw [← s3.length]; exact Nat.le_refl _⟩, ?_⟩
        rw [List.drop_length, forC] at er
        rw [← er] at h2
        exact h2 σ' g' H' R' (.refl _ _)
    · exact h2.elim
/-! ### a statement that is not reached -/
def fNo : FS := fun _ _ => .no
theorem xs_no {st : Stmt} (h : PS X st (fun _ _ _ => False)) : XS X T J Γ Γ' st fNo := ps_imp h fun D σ H ⟨g, ρ, S, R, h⟩ => h
end
end Q

/-! for row in o.f: row.append(c) -/
namespace Q
open PySem PySem.Spec PyProof.Rows L2
def appD (c : D) : D → D
  | .lst r => .lst (r ++ [c])
  | d => d
def shortL : D → Bool
  | .lst r => decide (r.length < 1000000)
  | _ => false
def fForApp (fm : Nat → Str → Nat) (p : FP) (i : Nat) (c : D) : FS := fun ρ S => (p ρ S).bindS ρ fun n f js d S1 => lstK d fun l => if js = [] ∧ deep fm S1 n f 2 = true ∧ deep fm S1 n f 3 = false ∧ l.all shortL = true ∧ i < ρ.length then .nx (if l.isEmpty = true then ρ else ρ.set i none) (setF S1 n f (.lst (l.map (appD c)))) else .no
theorem take_set {l : List D} {a : D → D} {t : Nat} {x : D} (h : l[t]? = some x) : ((l.take t).map a ++ l.drop t).set t (a x) = (l.take (t + 1)).map a ++ l.drop (t + 1) := by
  have ht : t < l.length := (List.getElem?_eq_some_iff.mp h).1
  have hl : ((l.take t).map a).length = t := by rw [List.length_map, List.length_take]; omega
  rw [List.set_append_right _ _ (by omega), hl, Nat.sub_self, List.drop_eq_getElem_cons ht, List.set_cons_zero, List.take_add_one, h, List.map_append, List.append_assoc]
  rfl
theorem getF_setF {S : Store} {n c : Nat} {f : Str} {d0 d : D} (h : getF S n f = some (c, d0)) : getF (setF S n f d) n f = some (c, d) := by
  unfold getF at h ⊢
  obtain ⟨o, e1, e2⟩ := Option.bind_eq_some_iff.mp h
  obtain ⟨d', e3, e4⟩ := Option.map_eq_some_iff.mp e2
  cases e4
  unfold setF
  rw [e1]
  dsimp only
  rw [List.getElem?_set_self (List.getElem?_eq_some_iff.mp e1).1]
  have key : ∀ l : List (Str × D), (l.lookup f = some d0) → (putD f d l).lookup f = some d := by
    intro l
    induction l with
    | nil => intro h; cases h
    | cons p l ih =>
      obtain ⟨k, x⟩ := p
      intro h
      unfold putD
      by_cases hk : k = f
      · rw [if_pos hk, hk, List.lookup_cons_self]
      · rw [if_neg hk]
        have hb : (f == k) = false := beq_eq_false_iff_ne.mpr fun z => hk z.symm
        rw [List.lookup_cons, hb] at h ⊢
        exact ih h
  show ((putD f d o.fs).lookup f).map _ = _
  rw [key _ e3]
  rfl
theorem putD_put {f : Str} {a b : D} : ∀ l : List (Str × D), putD f b (putD f a l) = putD f b l
  | [] => by simp [putD]
  | (k, x) :: l => by
    by_cases hk : k = f
    · simp [putD, hk]
    · simp only [putD, if_neg hk, putD_put l]
theorem setF_setF {S : Store} {n : Nat} {f : Str} {a b : D} : setF (setF S n f a) n f b = setF S n f b := by
  unfold setF
  cases e : S[n]? with
  | none => dsimp only; rw [e]
  | some o =>
    dsimp only
    rw [List.getElem?_set_self (List.getElem?_eq_some_iff.mp e).1]
    dsimp only
    rw [List.set_set, putD_put]
theorem setF_same {S : Store} {n c : Nat} {f : Str} {d : D} (h : getF S n f = some (c, d)) : setF S n f d = S := by
  unfold getF at h
  obtain ⟨o, e1, e2⟩ := Option.bind_eq_some_iff.mp h
  obtain ⟨d', e3, e4⟩ := Option.map_eq_some_iff.mp e2
  cases e4
  unfold setF
  rw [e1]
  dsimp only
  have key : ∀ l : List (Str × D), l.lookup f = some d → putD f d l = l := by
    intro l
    induction l with
    | nil => intro h; cases h
    | cons p l ih =>
      obtain ⟨k, x⟩ := p
      intro h
      unfold putD
      by_cases hk : k = f
      · subst hk
        rw [List.lookup_cons_self] at h
        cases h
        rw [if_pos rfl]
      · rw [if_neg hk]
        have hb : (f == k) = false := beq_eq_false_iff_ne.mpr fun z => hk z.symm
        rw [List.lookup_cons, hb] at h
        rw [ih h]
  rw [key _ e3]
  obtain ⟨hn, hg⟩ := List.getElem?_eq_some_iff.mp e1
  rw [show (⟨o.cls, o.fs⟩ : Ob) = S[n] from hg.symm]
  exact List.set_getElem_self hn
section
variable {X : Cx} {T : Th} {J : Jd} {Γ : List Md} {fm : Nat → Str → Nat}
/-- a slot holds what nobody asks for -/
theorem Rel.hide {g : G} {ρ : Env} {S : Store} {σ : L2.St} {H : Hp} {i : Nat} {w : Option V} (R : Rel T g Γ ρ S σ H) : Rel T (g.drop i) Γ (ρ.set i none) S (σ.set i w) H := by
  refine R.shift rfl rfl rfl rfl (fun a h => G.drop_U h) (fun j k a h h' => R.dF j k a h.2 h'.2) (fun j a h => R.dFO j a h.2) (fun a h => .inl h) (fun j a h => .inl ⟨j, h.2⟩) (by simp [R.len]) fun st j d' e => ?_
  by_cases hj : i = j
  · subst hj
    by_cases hlt : i < ρ.length
    · rw [List.getElem?_set_self hlt] at e; cases e
    · rw [List.getElem?_eq_none (by simpa using hlt)] at e
      cases e
  · rw [List.getElem?_set_ne hj] at e
    obtain ⟨v, h1, h2⟩ := R.slot j d' e
    exact ⟨v, by rw [List.getElem?_set_ne hj]; exact h1, h2.stay st (fun a z => ⟨fun q => hj q.symm, z⟩) (fun a z => z) rfl (bare_sub rfl rfl (fun i a z => ⟨i, z.2⟩) fun _ z => z)⟩
/-- one list of a field's list grows -/
theorem row_core {g : G} {ρ : Env} {S : Store} {σ : L2.St} {H : Hp} {n c t : Nat} {f : Str} {l r : List D} {p q : Addr} {cd : D} {v : V} (hfm : T.fm = fm) (hs : ∀ g H, Shr T g H cd v) (R : Rel T g Γ ρ S σ H) (pl : PlAt T g S H n f [] (.lst l) (.ref p)) (hc : getF S n f = some (c, .lst l)) (hk : fm c f = 2) (er : l[t]? = some (.lst r))
    (hq : ∃ vs, H p = some (.lst vs) ∧ vs[t]? = some (.ref q)) : ∃ us, H q = some (.lst us) ∧ us.length = r.length ∧ ∃ g', Rel T g' Γ ρ (setF S n f (.lst (l.set t (.lst (r ++ [cd]))))) σ (upd H q (.lst (us ++ [v]))) ∧ FrS g H g' (upd H q (.lst (us ++ [v]))) ∧ PlAt T g' (setF S n f (.lst (l.set t (.lst (r ++ [cd]))))) (upd H q (.lst (us ++ [v]))) n f [] (.lst (l.set t (.lst (r ++ [cd])))) (.ref p) := by
  obtain ⟨vs, hp1, hp2⟩ := hq
  have pl2 : PlAt T g S H n f [t] (.lst r) (.ref q) := by
    obtain ⟨c', d0, dx, fs, v0, p1, p2, p3, p4⟩ := pl
    exact ⟨c', d0, dx, fs, v0, p1, p2, p3, Focus.snocL (js := []) p4 hp1 er hp2⟩
  have hk' : ∀ c' d0, getF S n f = some (c', d0) → fm c' f = [t].length + (0 + 1) := fun c' d0 e => by
    rw [hc] at e; cases e; exact hk
  let S' := setF S n f (.lst (l.set t (.lst (r ++ [cd]))))
  obtain ⟨F', q1, q2, q3⟩ := put_core (k := 0) (g := g) (H := H) (ρ := ρ) (x := .lst (r ++ [cd])) (Fo := fun _ => False) (D := ⟨fun σ' H' => ∃ g', Rel T g' Γ ρ S' σ' H' ∧ FrS g H g' H', fun _ _ => False, fun _ _ => False, fun _ _ => False⟩) (J := ⟨fun _ _ _ _ => False, fun _ => False, fun _ => False, 0, []⟩) hfm (by rw [plusF_none]; exact R) (.refl _ _) (fun a z => z.elim) pl2 hk' (F2 := fun _ => False)
  rw [plusF_none] at q2 q3
  obtain ⟨q', us, e1, hF, hH2, s3⟩ := own1_lst.mp q2
  cases e1
  refine ⟨us, hH2, s3.length.symm, ?_⟩
  have := q3 q (.lst (us ++ [v])) F' hF (fun _ => ⟨nofun, fun _ => nofun⟩) (fun a z => .inl z) (fun st => own1_lst.mpr ⟨q, us ++ [v], rfl, hF, upd_same, ShrL.append (ShrL.stay st _ _ s3) (.cons (hs _ _) .nil)⟩) (by
    unfold plPut
    rw [hc]
    dsimp only
    rw [if_pos (by exact hk)]
    have es : setAt [t] (.lst l) (.lst (r ++ [cd])) = .lst (l.set t (.lst (r ++ [cd]))) := by simp only [setAt, er]
    rw [es]
    exact fun σ' g' H' R' f' => ⟨g', R', f'⟩)
  obtain ⟨g', R', f'⟩ := this
  refine ⟨g', R', f', ?_⟩
  obtain ⟨c', d0, dx, fs, v0, p1, p2, p3, p4⟩ := pl
  have hn : n < g.N := (R.st.fld hc).1
  have hne : g.μ n ≠ q := fun e => by rw [e, hH2] at p2; cases p2
  refine ⟨c, _, dx, fs, v0, getF_setF hc, ?_, p3, ?_⟩
  · rw [f'.μ n hn, upd_ne hne, p2]
    rw [hc] at p1
    cases p1
    rfl
  · exact ⟨rfl, p4.2⟩
theorem xs_forApp {tg it : Expr} {body : List Stmt} {P : FP} {i : Nat} {cd : D} {v : V} {pos : Pos} (hK : X.K = T.K) (hfm : T.fm = fm) (hx : J.ΓX Γ) (hs : ∀ g H, Shr T g H cd v) (ho : XP X T J.W Γ it P)
    (he : PE X it (tP T J.W Γ P) → PS X (.For tg it body [] pos) (tFor (iList X.K (tP T J.W Γ P)) (gName i) (tDrop (tBM X.K "list" rAppend (tVar i) (tCons (tC v) tNil))))) : XS X T J Γ Γ (.For tg it body [] pos) (fForApp fm P i cd) := ps_imp (he ho) fun D σ H ⟨g, ρ, S, R, h⟩ => by
  refine ⟨g, ρ, S, R, ?_⟩
  unfold fForApp at h
  cases ep : P ρ S with
  | no => rw [ep] at h; exact h
  | exc y S1 => rw [ep] at h; exact fun c dd g' H' R' f' e => h Γ c dd σ g' H' hx R' (f'.frs R.dOB) e
  | ok n f js d S1 =>
    rw [ep] at h
    intro es w H1 e1 pl
    subst es
    obtain ⟨l, rfl, h2⟩ := lstK_get (show GoodS T J Γ g H (lstK d _) D from h)
    clear h
    split at h2
    · rename_i hd
      obtain ⟨rfl, hd1, hd2, hall, hi⟩ := hd
      have R1 := R.ex e1
      have f1 : FrS g H g H1 := (FrE.ex e1).frs R.dOB
      obtain ⟨c, d0, dx, fs, v0, p1, p2, p3, p4⟩ := id pl
      obtain ⟨rfl, rfl⟩ := p4
      have hk : fm c f = 2 := by
        have a := deep_le hd1 _ _ p1
        have b := hd2
        unfold deep at b
        rw [p1] at b
        have b := of_decide_eq_false b
        omega
      obtain ⟨p, vs, rfl, hH, hl⟩ := place_list (k := 1) hfm R1 pl hd1
      refine ⟨p, rfl, ⟨vs, SqL.of hH⟩, ?_⟩
      refine ⟨fun t m σ' H' => ∃ g', Rel T g' Γ (if t = 0 then ρ else ρ.set i none) (setF S1 n f (.lst ((l.take t).map (appD cd) ++ l.drop t))) σ' H' ∧ FrS g H g' H' ∧ PlAt T g' (setF S1 n f (.lst ((l.take t).map (appD cd) ++ l.drop t))) H' n f [] (.lst ((l.take t).map (appD cd) ++ l.drop t)) (.ref p) ∧ m = l.length - t ∧ t ≤ l.length, ⟨l.length, g, ?_, f1, ?_, by simp, Nat.zero_le _⟩, fun t m σ' H' ⟨g', R', f', pl', em, ht⟩ => ?_⟩
      · rw [if_pos rfl, List.take_zero, List.map_nil, List.nil_append, List.drop_zero, setF_same p1]; exact R1
      · rw [List.take_zero, List.map_nil, List.nil_append, List.drop_zero, setF_same p1]; exact pl
      · have gF : getF (setF S1 n f (.lst ((l.take t).map (appD cd) ++ l.drop t))) n f = some (c, .lst ((l.take t).map (appD cd) ++ l.drop t)) := getF_setF p1
        have hdp : deep fm (setF S1 n f (.lst ((l.take t).map (appD cd) ++ l.drop t))) n f (([] : List Nat).length + (1 + 1)) = true := by
          unfold deep
          rw [gF]
          exact decide_eq_true (by rw [hk]; exact Nat.le_refl _)
        obtain ⟨p', vs', e3, hH', hl'⟩ := place_list (js := []) (k := 1) hfm R' pl' hdp
        cases e3
        have hlen : ((l.take t).map (appD cd) ++ l.drop t).length = l.length := by
          rw [List.length_append, List.length_map, List.length_take, List.length_drop]; omega
        by_cases hlt : t < l.length
        · obtain ⟨d, hd⟩ : ∃ d, l[t]? = some d := ⟨l[t], List.getElem?_eq_getElem hlt⟩
          have hsh : shortL d = true := List.all_eq_true.mp hall d (List.mem_of_getElem? hd)
          obtain ⟨r, rfl, hr⟩ : ∃ r, d = .lst r ∧ r.length < 1000000 := by
            cases d <;> simp only [shortL] at hsh <;> first | cases hsh | exact ⟨_, rfl, of_decide_eq_true hsh⟩
          have hdt : ((l.take t).map (appD cd) ++ l.drop t)[t]? = some (.lst r) := by
            have hl0 : ((l.take t).map (appD cd)).length = t := by rw [List.length_map, List.length_take]; omega
            rw [List.getElem?_append_right (by omega), hl0, Nat.sub_self, List.getElem?_drop, Nat.add_zero]
            exact hd
          obtain ⟨u, hu⟩ : ∃ u, vs'[t]? = some u := ⟨vs'[t], List.getElem?_eq_getElem (by omega)⟩
          refine .inr ⟨⟨vs', u, .of hH', hu⟩, fun σ2 H2 => ∃ m', m' < m ∧ ∃ g', Rel T g' Γ (if t + 1 = 0 then ρ else ρ.set i none) (setF S1 n f (.lst ((l.take (t + 1)).map (appD cd) ++ l.drop (t + 1)))) σ2 H2 ∧ FrS g H g' H2 ∧ PlAt T g' (setF S1 n f (.lst ((l.take (t + 1)).map (appD cd) ++ l.drop (t + 1)))) H2 n f [] (.lst ((l.take (t + 1)).map (appD cd) ++ l.drop (t + 1))) (.ref p) ∧ m' = l.length - (t + 1) ∧ t + 1 ≤ l.length, fun σ2 H2 ⟨m', a, b⟩ => ⟨m', a, b⟩, fun x H2 y => ?_⟩
          obtain ⟨y1, y2⟩ := y
          subst y1
          have := y2 vs' (.of hH')
          rw [hu] at this
          cases this
          have R3 : Rel T (g'.drop i) Γ (ρ.set i none) (setF S1 n f (.lst ((l.take t).map (appD cd) ++ l.drop t))) (σ'.set i (some u)) H2 := by
            have := R'.hide (i := i) (w := some u)
            split at this
            · exact this
            · rw [List.set_set] at this; exact this
          have f3 : FrS g H (g'.drop i) H2 := f'.trans .drop
          have hq : ∃ q, u = .ref q := by
            obtain ⟨c2, d2, dx2, fs2, w2, F2, k1, k2, k3, k4, k5, k6, k7⟩ := own_at R' pl' fun c' d' e => by simp
            rw [gF] at k1
            cases k1
            rw [hfm, hk] at k6
            simp only [List.length_nil, Nat.sub_zero, Own] at k6
            obtain ⟨p2, vs2, e5, hF5, hH5, hl5, Gs, g1', g2', g3'⟩ := k6
            cases e5
            rw [hH'] at hH5
            cases hH5
            have := g3' t _ _ hdt hu
            simp only [Own] at this
            obtain ⟨q, us, e6, _⟩ := this
            exact ⟨q, e6⟩
          obtain ⟨q, rfl⟩ := hq
          obtain ⟨us, hq1, hq2, g4, R4, f4, pl4⟩ := row_core hfm hs R3 pl' gF hk hdt ⟨vs', hH', hu⟩
          rw [setF_setF] at R4 pl4
          have et : ((l.take t).map (appD cd) ++ l.drop t).set t (.lst (r ++ [cd])) = (l.take (t + 1)).map (appD cd) ++ l.drop (t + 1) := take_set (a := appD cd) hd
          rw [et] at R4 pl4
          have hil : i < σ'.length := by
            have := R'.len
            have e0 : (if t = 0 then ρ else ρ.set i none).length = ρ.length := by split <;> simp
            rw [e0] at this
            omega
          refine ⟨.ref q, List.getElem?_set_self hil, .inl ⟨rfl, us, .of hq1⟩, q, us, v, rfl, rfl, hq1, by rw [hq2]; exact sz_lt6 hr, ?_⟩
          refine ⟨l.length - (t + 1), by omega, g4, by rw [if_neg (Nat.succ_ne_zero t)]; exact R4, f3.trans f4, pl4, rfl, hlt⟩
        · have et : t = l.length := by omega
          subst et
          refine .inl ⟨⟨vs', .of hH', by rw [← hl', hlen]; exact Nat.le_refl _⟩, ?_⟩
          rw [List.take_length, List.drop_length, List.append_nil] at R'
          refine h2 σ' g' H' ?_ f'
          have : (if l.isEmpty = true then ρ else ρ.set i none) = (if l.length = 0 then ρ else ρ.set i none) := by cases l <;> rfl
          rw [this]
          exact R'
    · exact h2.elim
end
end Q

/-! Defs with defaults; parts of fields read. -/
namespace Q
open PySem PySem.Spec PyProof.Rows L2
section
variable {P : Program} {w : World} {K : PySem.W.Frag} {mg : Str → Option Value} {base : Heap}
theorem okRule_funD {x qual : Str} {st : Stmt} {dvs : List V} {f : Addr} {fd : FuncData} (F : FunD K x qual (defArgs st) (defBody st) (defScope st) dvs [] f fd) : OkRule P w K mg base qual st f fd := fun Sc len h => F.ok Sc len h
theorem funD_mk {x qual : Str} {st : Stmt} {f T : Addr} {oc : Value} {od an odT : Option Addr} {osl slT : Array (Option Value)} {kV doc pm cdv ct cT : Value} {its : List Value} {m : Nat} {dvs : List V} (l : K.lookup f = some ⟨oc, od, .func (PySem.W.fnOf x qual (defArgs st) (defBody st) (defScope st) (.ref T) kV doc pm an cdv ct), osl⟩)
    (c : PySem.W.codeIn K cdv qual = true) (k : PySem.W.keepIn K (.ref f) = true) (lT : K.lookup T = some ⟨cT, odT, .seq its.toArray m, slT⟩) (r : Vals dvs its) (hne : dvs ≠ []) : FunD K x qual (defArgs st) (defBody st) (defScope st) dvs [] f (PySem.W.fnOf x qual (defArgs st) (defBody st) (defScope st) (.ref T) kV doc pm an cdv ct) :=
  ⟨⟨oc, od, .ref T, kV, doc, pm, an, cdv, ct, osl, rfl, l, c, .inr ⟨hne, T, _, its, m, rfl, lT, rfl, r⟩, .inl rfl⟩, k⟩
end
/-- the defaults of the last parameters -/
def BindsD (K : PySem.W.Frag) (fd : FuncData) (ps : List Str) (dvs : List V) : Prop := ∃ ds, Vals dvs ds ∧ Binds K fd ps ds
section
variable {X : Cx} {T : Th} {W : WX} {Γ : List Md} {fm : Nat → Str → Nat} {f : Str}
theorem def1_ofD {n : Nat} {sg : Sig} {Φ : FF} {f : Addr} {k : Nat} {fd : FuncData} {ps : List Str} {dvs : List V} (F : FnOk X.prog X.w X.K X.mg X.base (L2.CX X.prog X.w) k f fd ps (spD T n sg Φ)) (hr : Room (k + 1) X.A) (hb : BindsD X.K fd ps dvs) : Def1 X f (spDD T n sg Φ dvs) := by
  obtain ⟨ds, hd, hb⟩ := hb
  exact def1_of F hr hb hd
/-- the value at a place, where nothing below is owned -/
def eAt (fm : Nat → Str → Nat) (p : FP) : FE := fun ρ S => match p ρ S with
  | .ok n f js d S1 => if deep fm S1 n f js.length = true ∧ deep fm S1 n f (js.length + 1) = false then .ok d S1 else .no
  | .exc x S1 => .exc x S1
  | .no => .no
theorem xc_at {e : Expr} {P : FP} (hfm : T.fm = fm) (ho : XP X T W Γ e P) : XC X T W Γ e (eAt fm P) := pe_imp ho fun σ H Q ⟨g, ρ, S, R, hg⟩ => by
  refine ⟨g, ρ, S, R, ?_⟩
  unfold eAt at hg
  cases ep : P ρ S with
  | no => rw [ep] at hg; exact hg.elim
  | exc y S1 => rw [ep] at hg; exact hg
  | ok n f js d S1 =>
    rw [ep] at hg
    intro es v H1 e1 pl
    subst es
    replace hg : GoodC T W Γ ρ σ g S1 H (if deep fm S1 n f js.length = true ∧ deep fm S1 n f (js.length + 1) = false then .ok d S1 else .no) Q := hg
    split at hg
    · rename_i hd
      have dl := deep_le hd.1
      rw [← hfm] at dl
      obtain ⟨c, d0, dx, fs, v0, F', k1, k2, k3, k4, k5, k6, k7⟩ := own_at (R.ex e1) pl dl
      have hk : T.fm c f - js.length = 0 := by
        have b := hd.2
        unfold deep at b
        rw [k1] at b
        have b := of_decide_eq_false b
        rw [← hfm] at b
        omega
      rw [hk] at k6
      exact hg rfl v H1 e1 (by simpa only [Own] using k6)
    · exact hg.elim
end
end Q

/-! For the printer. -/
namespace Q
open PySem PySem.Spec PyProof.Rows L2
theorem fldok_nil {K : PySem.W.Frag} {T : Th} {f : Str} : FldOk K T [] f := fun c h => by cases h
theorem fldok_cons {K : PySem.W.Frag} {T : Th} {f : Str} {c : Nat} {cs : List Nat} (h : Cls K (T.cA c) ∧ NoAttr K (T.cA c) f) (r : FldOk K T cs f) : FldOk K T (c :: cs) f := fun d hd => by
  rcases List.mem_cons.mp hd with e | hd
  · subst e; exact h
  · exact r d hd
theorem sgS_rows {n : Nat} {bs : List Bool} (h : bs.all (· = false) = true := by rfl) : ∀ i, (sgS n).ms.getD i .s = mdOf (bs.getD i false) := fun i => by
  have : bs.getD i false = false := by
    by_cases hi : i < bs.length
    · have := List.all_eq_true.mp h bs[i] (List.getElem_mem hi)
      simpa [List.getD, hi] using this
    · simp [List.getD, List.getElem?_eq_none (Nat.le_of_not_lt hi)]
  rw [this]
  exact rep_s
theorem modes_sl {ms : List Md} (h : (ms.all fun m => match m with | .s => true | .l => true | _ => false) = true) : ∀ i, ms.getD i .s = .s ∨ ms.getD i .s = .l := fun i => by
  by_cases hi : i < ms.length
  · have := List.all_eq_true.mp h ms[i] (List.getElem_mem hi)
    have e : ms.getD i .s = ms[i] := by simp [List.getD, hi]
    rw [e]
    generalize ms[i] = m at this
    cases m <;> simp at this <;> simp
  · left
    simp [List.getD, List.getElem?_eq_none (Nat.le_of_not_lt hi)]
section
variable {X : Cx} {T : Th} {W : WX} {Γ : List Md} {bs : List Bool}
theorem tm_nil {σ : L2.St} {H : Hp} {K : List V → Hp → Prop} (h : tM T W Γ bs lNil σ H K) : K [] H := by
  obtain ⟨g, ρ, S, R, hg⟩ := h
  exact hg [] g H R (.refl _ _) (by simp only [ShrM])
theorem pe_call_nil {e : Expr} {sp : Sp} {E : L2.St → XK} (h : PE X e (tCallS sp E tNil)) : PE X e (tCallS sp E (tM T W Γ bs lNil)) := pe_imp h fun σ H Q q => tm_nil q
theorem pe_make_nil {e : Expr} {sp : Sp} {E : L2.St → XK} {C : Addr} (h : PE X e (tMakeD C sp E tNil)) : PE X e (tMakeD C sp E (tM T W Γ bs lNil)) := pe_imp h fun σ H Q q => tm_nil q
theorem pe_meth_nil {e : Expr} {m : Str} {Ms : Addr → Sp → Prop} {A : FE} {E : L2.St → XK} (h : PE X e (tMethD m Ms E (tX T W Γ A) tNil)) : PE X e (tMethD m Ms E (tX T W Γ A) (tM T W Γ bs lNil)) := pe_imp h fun σ H Q ⟨g, ρ, S, R, hg⟩ => by
  refine ⟨g, ρ, S, R, ?_⟩
  cases r : A ρ S with
  | no => rw [r] at hg; exact hg
  | exc x S1 => rw [r] at hg; exact hg
  | ok d S1 =>
    rw [r] at hg
    intro v g' H' R' f' s'
    obtain ⟨a, C, dx, fs, sp, h1, h2, h3, h4, h5⟩ := hg v g' H' R' f' s'
    exact ⟨a, C, dx, fs, sp, h1, h2, h3, h4, tm_nil h5⟩
end
section
variable {P : Program} {w : World} {K : PySem.W.Frag} {mg : Str → Option Value} {base : Heap} {T : Th}
theorem fn_okSR {qual : Str} {st : Stmt} {f : Addr} {fd : FuncData} {N ps : List Str} {k n : Nat} {B : FS} {Γ' : List Md} (F : OkRule P w K mg base qual st f fd) (Sc : FnScope N ps (defScope st)) (hn : ps.length = n) (hN : n ≤ N.length)
    (hbody : ∀ (cdv : Value) (A : Around) (outer : List PySem.Env) (s : Shared) (H : Hp) (E : XK), Room k (A.deeper (envOfC qual (defScope st) s.heap.objs.size f cdv)) →
      XB (cxOf (L2.CX P w) P w K mg base N qual (defScope st) f cdv A outer s H E) T (jdS n E) (ΓS N.length) Γ' (defBody st) B) :
    FnOk P w K mg base (L2.CX P w) (k + 1) f fd ps (spD T n (sgS n) (fBody N.length n (ΓS n) B)) := by
  refine fn_okR (sg := sgS n) F Sc hn hN (Γ' := Γ') (fun cdv A outer s H E hr => ?_) gp_s
  have e : (sgS n).ms ++ List.replicate (N.length - (sgS n).ms.length) .s = ΓS N.length := by
    show List.replicate n Md.s ++ List.replicate (N.length - (List.replicate n Md.s).length) .s = List.replicate N.length .s
    rw [List.length_replicate, List.replicate_append_replicate]
    congr 1; omega
  rw [e]; exact hbody cdv A outer s H E hr
end
end Q

/-! Dicts, their keys whole numbers and texts, or tuples. -/
namespace Q
open PySem PySem.Spec PyProof.Rows L2
mutual
/-- the value is the key -/
def NK (K : PySem.W.Frag) (H : Hp) : NestedKey → V → Prop
  | .none, v => v = .non
  | .num i, v => v = .int i ∨ ∃ b : Bool, v = .bl b ∧ i = (if b = true then 1 else 0)
  | .text x, v => v = .str x
  | .tup ks, v => ∃ a vs, v = .ref a ∧ SqT K H a vs ∧ NKL K H ks vs
def NKL (K : PySem.W.Frag) (H : Hp) : List NestedKey → List V → Prop
  | [], vs => vs = []
  | k :: ks, vs => ∃ v ws, vs = v :: ws ∧ NK K H k v ∧ NKL K H ks ws
end
mutual
theorem nk_shr {T : Th} {g : G} {H : Hp} : ∀ (d : D) (k : NestedKey) (v : V), nk d = some k → Shr T g H d v → NK T.K H k v
  | .non, k, v, e, s => by simp only [nk] at e; cases e; simp only [NK]; exact shr_non.mp s
  | .bl b, k, v, e, s => by simp only [nk] at e; cases e; simp only [NK]; exact .inr ⟨b, shr_bl.mp s, rfl⟩
  | .int i, k, v, e, s => by simp only [nk] at e; cases e; simp only [NK]; exact .inl (shr_int.mp s)
  | .str x, k, v, e, s => by simp only [nk] at e; cases e; simp only [NK]; exact shr_str.mp s
  | .tup l, k, v, e, s => by
    simp only [nk] at e
    obtain ⟨ks, e1, e2⟩ := Option.map_eq_some_iff.mp e
    subst e2
    obtain ⟨a, vs, h1, h2, h3⟩ := shr_tup.mp s
    simp only [NK]
    exact ⟨a, vs, h1, h2.sq, nkL_shr l ks vs e1 h3⟩
  | .lst l, k, v, e, s => by simp only [nk] at e; cases e
  | .scr l, k, v, e, s => by simp only [nk] at e; cases e
  | .dct l, k, v, e, s => by simp only [nk] at e; cases e
  | .obj n, k, v, e, s => by simp only [nk] at e; cases e
  | .fn n l, k, v, e, s => by simp only [nk] at e; cases e
  | .gone n, k, v, e, s => by simp only [nk] at e; cases e
theorem nkL_shr {T : Th} {g : G} {H : Hp} : ∀ (l : List D) (ks : List NestedKey) (vs : List V), nkL l = some ks → ShrL T g H l vs → NKL T.K H ks vs
  | [], ks, vs, e, s => by
    simp only [nkL] at e
    cases e
    simp only [ShrL] at s
    simp only [NKL]
    exact s
  | d :: r, ks, vs, e, s => by
    simp only [nkL] at e
    split at e
    · rename_i k ks' e1 e2
      cases e
      simp only [ShrL] at s
      obtain ⟨v, ws, h1, h2, h3⟩ := s
      simp only [NKL]
      exact ⟨v, ws, h1, nk_shr d k v e1 h2, nkL_shr r ks' ws e2 h3⟩
    · cases e
end
section
variable {X : Cx} {pins : List (Addr × Obj)} {σ : L2.St} {H : Hp} {s : Shared}
mutual
theorem nk_is (I : Inv X pins σ H s) : ∀ (k : NestedKey) (v : V) (u : Value), NK X.K H k v → RelV v u → NestedIs s.heap k u
  | .none, v, u, h, r => by
    simp only [NK] at h
    subst h
    obtain rfl : u = Value.none := r
    exact .none
  | .num i, v, u, h, r => by
    simp only [NK] at h
    rcases h with h | ⟨b, h, e⟩
    · subst h
      obtain ⟨t, rfl⟩ := (show ∃ t, u = Value.int i t from r)
      exact .int i t
    · subst h
      obtain rfl : u = Value.bool b := r
      exact .bool e
  | .text x, v, u, h, r => by
    simp only [NK] at h
    subst h
    obtain ⟨t, rfl⟩ := (show ∃ t, u = Value.str x t from r)
    exact .text x t
  | .tup ks, v, u, h, r => by
    simp only [NK] at h
    obtain ⟨a, vs, h1, h2, h3⟩ := h
    subst h1
    obtain rfl : u = Value.ref a := r
    obtain ⟨its, rv, pl, hz⟩ := I.tuple h2
    obtain ⟨o, ho, hc, n, hd⟩ := pl
    exact .tup ho hc hd (by simpa using nkL_is I ks vs its h3 rv)
theorem nkL_is (I : Inv X pins σ H s) : ∀ (ks : List NestedKey) (vs : List V) (us : List Value), NKL X.K H ks vs → Vals vs us → NestedAll s.heap ks us
  | [], vs, us, h, r => by
    simp only [NKL] at h
    subst h
    cases r
    exact .nil
  | k :: ks, vs, us, h, r => by
    simp only [NKL] at h
    obtain ⟨v, ws, h1, h2, h3⟩ := h
    subst h1
    cases r with
    | cons h4 h5 => exact .cons (nk_is I k v _ h2 h4) (nkL_is I ks ws _ h3 h5)
end
end
/-- what stands at the key -/
def valN (ps : List (NestedKey × Addr × V)) (k : NestedKey) : Option V := (ps.find? fun p => decide (p.1 = k)).map (·.2.2)
def putNAt (k : NestedKey) (v : V) (p : NestedKey × Addr × V) : NestedKey × Addr × V := if p.1 = k then (p.1, p.2.1, v) else p
def putN (ps : List (NestedKey × Addr × V)) (k : NestedKey) (b : Addr) (v : V) : List (NestedKey × Addr × V) := if (valN ps k).isSome then ps.map (putNAt k v) else ps ++ [(k, b, v)]
abbrev PN (ps : List (NestedKey × Addr × V)) (xs : List (NestedKey × Addr × Value)) : Prop := Paired (fun (p : NestedKey × Addr × V) (x : NestedKey × Addr × Value) => p.1 = x.1 ∧ p.2.1 = x.2.1 ∧ RelV p.2.2 x.2.2) ps xs
theorem PN.val {ps : List (NestedKey × Addr × V)} {xs : List (NestedKey × Addr × Value)} (r : PN ps xs) (k : NestedKey) : RelO (valN ps k) ((atKey xs k).map (·.2)) := by
  induction r with
  | nil => exact True.intro
  | @cons p q ps qs h t ih =>
    obtain ⟨h1, _, h2⟩ := h
    by_cases e : p.1 = k
    · have e' : q.1 = k := h1.symm.trans e
      have b : atKey (q :: qs) k = some q.2 := by simp [atKey, List.find?_cons, e']
      have c : valN (p :: ps) k = some p.2.2 := by simp [valN, List.find?_cons, e]
      rw [c, b]; exact h2
    · have e' : ¬ q.1 = k := fun z => e (h1.trans z)
      have b : atKey (q :: qs) k = atKey qs k := by simp [atKey, List.find?_cons, e']
      have c : valN (p :: ps) k = valN ps k := by simp [valN, List.find?_cons, e]
      rw [c, b]; exact ih
theorem PN.put {ps : List (NestedKey × Addr × V)} {xs : List (NestedKey × Addr × Value)} (r : PN ps xs) (k : NestedKey) (b : Addr) {y : V} {u : Value} (ry : RelV y u) : PN (putN ps k b y) (storedH xs k b u) := by
  have e : (valN ps k).isSome = (atKey xs k).isSome := by rw [(r.val k).isSome_eq, Option.isSome_map]
  unfold putN storedH
  rw [e]
  by_cases q : (atKey xs k).isSome = true
  · rw [if_pos q, if_pos q]
    clear q e
    induction r with
    | nil => exact .nil
    | @cons p q ps qs h t ih =>
      rw [List.map_cons, List.map_cons]
      refine .cons ?_ ih
      obtain ⟨h1, h2, h3⟩ := h
      unfold putAt putNAt
      by_cases e : p.1 = k
      · rw [if_pos e, if_pos (h1.symm.trans e)]; exact ⟨h1, h2, ry⟩
      · rw [if_neg e, if_neg (fun z => e (h1.trans z))]; exact ⟨h1, h2, h3⟩
  · rw [if_neg q, if_neg q]; exact Paired.snoc r ⟨rfl, rfl, ry⟩
/-- what the dict at a holds at the key y -/
def NGet (P : Program) (w : World) (K : PySem.W.Frag) (H : Hp) (a : Addr) (y : V) (r : Option V) : Prop :=
  (∃ ks k, H a = some (.dK ks) ∧ y = kV k ∧ r = valV ks k) ∨
  (∃ ps k b, H a = some (dN P w a ps) ∧ y = .ref b ∧ NK K H k y ∧ k.depth ≤ 8 ∧ (∀ p ∈ ps, NK K H p.1 (.ref p.2.1) ∧ p.1.depth ≤ 8) ∧ r = valN ps k) ∨
  (∃ k b, H a = some (.dK []) ∧ y = .ref b ∧ NK K H k y ∧ k.depth ≤ 8 ∧ r = none)
section
variable {X : Cx} {pins : List (Addr × Obj)} {σ : L2.St} {H : Hp} {s : Shared} {a : Addr} {y v : V} {u r : Value} {o : Option V} {A : Around} {E : Value → Shared → Prop}
theorem dn_of {ps : List (NestedKey × Addr × V)} (I : Inv X pins σ H s) (e : H a = some (dN X.prog X.w a ps)) (hk : ∀ p ∈ ps, NK X.K H p.1 (.ref p.2.1) ∧ p.1.depth ≤ 8) :
    ps.length ≤ sizeLine ∧ (a == sysModules) = false ∧ ∃ xs, PN ps xs ∧ s.heap.DictOfH (nestedKind X.prog X.w) a xs := by
  obtain ⟨⟨z, y, o, es, ep, xs, h1, h2, h3, h4, h5, h6⟩, _⟩ := (show ObjOk X.prog X.w H s.heap a (dN X.prog X.w a ps) from I.hok a _ e)
  refine ⟨z, y, xs, h6, o, es, ep, h1, h2, h3, h4, fun x hx => ?_, h5⟩
  have all : ∀ {l : List (NestedKey × Addr × V)} {m : List (NestedKey × Addr × Value)}, PN l m → (∀ p ∈ l, NK X.K H p.1 (.ref p.2.1) ∧ p.1.depth ≤ 8) → ∀ x ∈ m, (nestedKind X.prog X.w).is s.heap x.1 x.2.1 := by
    intro l m q hl
    induction q with
    | nil => intro x hx; exact nomatch hx
    | @cons p q ps qs hq t ih =>
      intro x hx
      rcases List.mem_cons.mp hx with e | hx
      · subst e
        obtain ⟨h1, h2⟩ := hl p (List.mem_cons_self ..)
        rw [← hq.1, ← hq.2.1]
        exact ⟨nk_is I _ _ _ h1 rfl, h2⟩
      · exact ih (fun p hp => hl p (List.mem_cons_of_mem _ hp)) x hx
  exact all h6 hk x hx
theorem pairs_nil {P : Program} {w : World} {l : List DictEntry} (h : Pairs (mixKind P w) l ([] : List (Key × Value))) : l = [] := by cases h; rfl
theorem dn_empty (I : Inv X pins σ H s) (e : H a = some (.dK [])) : (a == sysModules) = false ∧ s.heap.DictOfH (nestedKind X.prog X.w) a [] := by
  obtain ⟨z, hd, vs, rel, o, es, ep, h1, h2, h3, h4, h5, h6⟩ := dk_of I.hok e
  cases rel
  exact ⟨hd, o, es, ep, h1, h2, h3, pairs_nil h5, fun x hx => (nomatch hx), List.nodup_nil⟩
end
end Q

/-! d[y], y in d, d[y] = v. -/
namespace Q
open PySem PySem.Spec PyProof.Rows L2
theorem kind_room {P : Program} {w : World} {A : Around} (hu : A.units + 16 < cLine) : (nestedKind P w).room A.in1 := by
  show A.in1.units + 8 < cLine
  have : A.in1.units ≤ A.units + 1 := by
    unfold Around.in1
    show _ ≤ _
    simp
  omega
section
variable {X : Cx} {pins : List (Addr × Obj)} {σ : L2.St} {H : Hp} {s : Shared} {a : Addr} {y v : V} {u r : Value} {o : Option V} {A : Around} {E : Value → Shared → Prop}
theorem n_getItem {Q : Value → Shared → Prop} (hu : A.units + 16 < cLine) (I : Inv X pins σ H s) (g : NGet X.prog X.w X.K H a y (some v)) (ry : RelV y u) (h : ∀ w' s', Inv X pins σ H s' → RelV v w' → Q w' s') :
    wpAny (model X.prog X.w) A (getItem (.ref a) u) Q E s := by
  rcases g with ⟨ks, k, e, ey, l⟩ | ⟨ps, k, b, e, ey, nk, dk, al, l⟩ | ⟨_, _, _, _, _, _, l⟩
  · exact d_getItem (by omega) I (.inl ⟨ks, k, .inl e, ey, l⟩) ry h
  · subst ey
    cases (show u = Value.ref b from ry)
    obtain ⟨z, hd, xs, rel, dd⟩ := dn_of I e al
    obtain ⟨w', hw, rw'⟩ := RelO.some_of (v := v) (o := (atKey xs k).map (·.2)) (by rw [l]; exact rel.val k)
    obtain ⟨p, hp, hp2⟩ := Option.map_eq_some_iff.mp hw
    refine wpAny_getItem_heap (kind_room hu) ⟨nk_is I _ _ _ nk rfl, dk⟩ dd hp ?_
    rw [hp2]
    exact h w' _ (I.tok _) rw'
  · cases l
theorem n_in {Q : Value → Shared → Prop} (hu : A.units + 16 < cLine) (I : Inv X pins σ H s) (g : NGet X.prog X.w X.K H a y o) (ry : RelV y u) (h : ∀ s', Inv X pins σ H s' → Q (.bool o.isSome) s') :
    wpAny (model X.prog X.w) A (compareOp .In u (.ref a)) Q E s := by
  rcases g with ⟨ks, k, e, ey, l⟩ | ⟨ps, k, b, e, ey, nk, dk, al, l⟩ | ⟨k, b, e, ey, nk, dk, l⟩
  · exact d_in (by omega) I (.inl ⟨ks, k, .inl e, ey, l⟩) ry h
  · subst ey
    cases (show u = Value.ref b from ry)
    obtain ⟨z, hd, xs, rel, dd⟩ := dn_of I e al
    refine wpAny_in_heap (kind_room hu) ⟨nk_is I _ _ _ nk rfl, dk⟩ hd dd ?_
    have q := (rel.val k).isSome_eq
    rw [Option.isSome_map] at q
    rw [← q, ← l]
    exact h _ (I.tok _)
  · subst ey
    cases (show u = Value.ref b from ry)
    obtain ⟨hd, dd⟩ := dn_empty I e
    refine wpAny_in_heap (kind_room hu) ⟨nk_is I _ _ _ nk rfl, dk⟩ hd dd ?_
    rw [l] at h
    exact h _ (I.tok _)
theorem n_notIn {Q : Value → Shared → Prop} (hu : A.units + 16 < cLine) (I : Inv X pins σ H s) (g : NGet X.prog X.w X.K H a y o) (ry : RelV y u) (h : ∀ s', Inv X pins σ H s' → Q (.bool (!o.isSome)) s') :
    wpAny (model X.prog X.w) A (compareOp .NotIn u (.ref a)) Q E s := by
  rcases g with ⟨ks, k, e, ey, l⟩ | ⟨ps, k, b, e, ey, nk, dk, al, l⟩ | ⟨k, b, e, ey, nk, dk, l⟩
  · exact d_notIn (by omega) I (.inl ⟨ks, k, .inl e, ey, l⟩) ry h
  · subst ey
    cases (show u = Value.ref b from ry)
    obtain ⟨z, hd, xs, rel, dd⟩ := dn_of I e al
    refine wpAny_notIn_heap (kind_room hu) ⟨nk_is I _ _ _ nk rfl, dk⟩ hd dd ?_
    have q := (rel.val k).isSome_eq
    rw [Option.isSome_map] at q
    rw [← q, ← l]
    exact h _ (I.tok _)
  · subst ey
    cases (show u = Value.ref b from ry)
    obtain ⟨hd, dd⟩ := dn_empty I e
    refine wpAny_notIn_heap (kind_room hu) ⟨nk_is I _ _ _ nk rfl, dk⟩ hd dd ?_
    rw [l] at h
    exact h _ (I.tok _)
theorem ndict_typeIs (I : Inv X pins σ H s) (g : NGet X.prog X.w X.K H a y o) : s.TypeIs (.ref a) "dict" := by
  rcases g with ⟨ks, k, e, ey, l⟩ | ⟨ps, k, b, e, ey, nk, dk, al, l⟩ | ⟨k, b, e, ey, nk, dk, l⟩
  · exact dict_typeIs I (o := o) (.inl ⟨ks, k, .inl e, ey, l⟩)
  · obtain ⟨z, hd, xs, rel, dd⟩ := dn_of I e al
    exact dd.typeIs
  · obtain ⟨hd, dd⟩ := dn_empty I e
    exact dd.typeIs
/-- the heap behind a[y] = v -/
def NPut (P : Program) (w : World) (K : PySem.W.Frag) (H : Hp) (a : Addr) (y v : V) (H' : Hp) : Prop :=
  (∃ ks k, H a = some (.dK ks) ∧ y = kV k ∧ ks.length < sizeLine ∧ H' = upd H a (.dK (putK ks k v))) ∨
  (∃ ps k b, H a = some (dN P w a ps) ∧ y = .ref b ∧ NK K H k y ∧ k.depth ≤ 8 ∧ (∀ p ∈ ps, NK K H p.1 (.ref p.2.1) ∧ p.1.depth ≤ 8) ∧ ps.length < sizeLine ∧ H' = upd H a (dN P w a (putN ps k b v))) ∨
  (∃ k b, H a = some (.dK []) ∧ y = .ref b ∧ NK K H k y ∧ k.depth ≤ 8 ∧ H' = upd H a (dN P w a [(k, b, v)]))
theorem putN_length (ps : List (NestedKey × Addr × V)) (k : NestedKey) (b : Addr) (v : V) : (putN ps k b v).length ≤ ps.length + 1 := by
  unfold putN
  split
  · rw [List.length_map]; omega
  · rw [List.length_append]; exact Nat.le_refl _
theorem dn_ok {h' : Heap} {H' : Hp} {ps : List (NestedKey × Addr × V)} {xs : List (NestedKey × Addr × Value)} (z : ps.length ≤ sizeLine) (hd : (a == sysModules) = false) (rel : PN ps xs) (dd : h'.DictOfH (nestedKind X.prog X.w) a xs) : ObjOk X.prog X.w H' h' a (dN X.prog X.w a ps) := by
  obtain ⟨o, es, ep, h1, h2, h3, h4, _, h5⟩ := dd
  exact ⟨⟨z, hd, o, es, ep, xs, h1, h2, h3, h4, h5, rel⟩, ⟨o, h1⟩, fun k1 k2 ⟨z, hd, o, es, ep, xs, h1, h2, h3, h4, h5, rel⟩ kp => ⟨z, hd, o, es, ep, xs, kp o h1, h2, h3, h4, h5, rel⟩⟩
theorem n_setItem {H' : Hp} {Q : Unit → Shared → Prop} (hu : A.units + 16 < cLine) (I : Inv X pins σ H s) (g : NPut X.prog X.w X.K H a y v H') (ry : RelV y u) (rv : RelV v r) (h : ∀ s', Inv X pins σ H' s' → Q () s') :
    wpAny (model X.prog X.w) A (setItem (.ref a) u r) Q E s := by
  rcases g with ⟨ks, k, e, ey, l, eH⟩ | ⟨ps, k, b, e, ey, nk, dk, al, l, eH⟩ | ⟨k, b, e, ey, nk, dk, eH⟩
  · exact d_setItem (by omega) I (.inl ⟨ks, k, e, ey, l, eH⟩) ry rv h
  · subst ey eH
    cases (show u = Value.ref b from ry)
    obtain ⟨z, hd, xs, rel, dd⟩ := dn_of I e al
    have hz : xs.length ≤ sizeLine := by rw [← Paired.length rel]; exact z
    have hl : (putN ps k b v).length ≤ sizeLine := by have := putN_length ps k b v; omega
    refine wpAny_setItem_heap (hsz := hz) (kind_room hu) ⟨nk_is I _ _ _ nk rfl, dk⟩ dd fun h' dd' hs => h _ ?_
    have he : ∃ q, h'.get? a = some q := let ⟨q, _, _, hq, _⟩ := dd'; ⟨q, hq⟩
    exact d_write I (by rw [e]; exact True.intro) hs he (dn_ok hl hd (rel.put k b rv) dd')
  · subst ey eH
    cases (show u = Value.ref b from ry)
    obtain ⟨hd, dd⟩ := dn_empty I e
    refine wpAny_setItem_heap (hsz := Nat.zero_le _) (kind_room hu) ⟨nk_is I _ _ _ nk rfl, dk⟩ dd fun h' dd' hs => h _ ?_
    have he : ∃ q, h'.get? a = some q := let ⟨q, _, _, hq, _⟩ := dd'; ⟨q, hq⟩
    exact d_write I (by rw [e]; exact True.intro) hs he (dn_ok (xs := [(k, b, r)]) (Nat.succ_le_of_lt (by rw [sizeLine_eq]; decide)) hd (.cons ⟨rfl, rfl, rv⟩ .nil) dd')
end
end Q

/-! Dicts as data: d[k], k in d. -/
namespace Q
open PySem PySem.Spec PyProof.Rows L2
def kEq (a b : D) : Bool := match nk a, nk b with
  | some x, some y => decide (x = y)
  | _, _ => false
def dlook (l : List (D × D)) (k : D) : Option D := (l.find? fun p => kEq p.1 k).map (·.2)
/-- what is a key: a whole number, a text, a tuple of such (to depth 8) -/
def keyF (k : D) : Bool := match k with
  | .int _ => true
  | .str _ => true
  | .tup _ => (nk k).any fun x => decide (x.depth ≤ 8)
  | _ => false
def keyD : Key → D
  | .inl i => .int i
  | .inr x => .str x
section
variable {T : Th} {g : G} {H : Hp}
theorem shr_kV {d : D} {k : Key} (s : Shr T g H d (kV k)) : d = keyD k := by
  cases k with
  | inl i =>
    cases d <;> simp only [Shr, kV] at s <;> first | (cases s; done) | (cases s; rfl) | skip
    all_goals (first | (obtain ⟨_, _, z, _⟩ := s; cases z; done) | (obtain ⟨_, z⟩ := s; cases z; done) | (exact s.elim))
  | inr i =>
    cases d <;> simp only [Shr, kV] at s <;> first | (cases s; done) | (cases s; rfl) | skip
    all_goals (first | (obtain ⟨_, _, z, _⟩ := s; cases z; done) | (obtain ⟨_, z⟩ := s; cases z; done) | (exact s.elim))
theorem kEq_keyD (a b : Key) : kEq (keyD a) (keyD b) = decide (a = b) := by
  cases a <;> cases b <;> unfold kEq keyD <;> simp only [nk] <;> simp
theorem dlook_cons_t {p : D × D} {l : List (D × D)} {k : D} (h : kEq p.1 k = true) : dlook (p :: l) k = some p.2 := by simp [dlook, List.find?_cons, h]
theorem dlook_cons_f {p : D × D} {l : List (D × D)} {k : D} (h : kEq p.1 k = false) : dlook (p :: l) k = dlook l k := by simp [dlook, List.find?_cons, h]
theorem dk_look {k : Key} : ∀ (ks : List (Key × V)) (l : List (D × D)), ShrK T g H l (ks.map fun p => (kV p.1, p.2)) → (dlook l (keyD k)).isSome = (valV ks k).isSome ∧ ∀ z, dlook l (keyD k) = some z → ∃ v, valV ks k = some v ∧ Shr T g H z v
  | [], [], _ => ⟨rfl, fun z h => by cases h⟩
  | [], (a, d) :: l, s => by
    simp only [List.map_nil, ShrK] at s
    obtain ⟨_, _, _, z, _⟩ := s
    cases z
  | p :: ks, [], s => by
    simp only [List.map_cons, ShrK] at s
    cases s
  | p :: ks, (a, d) :: l, s => by
    simp only [List.map_cons, ShrK] at s
    obtain ⟨u, v, ws, e, s1, s2, s3⟩ := s
    cases e
    have ea := shr_kV s1
    subst ea
    have ih := dk_look (k := k) ks l s3
    by_cases e : p.1 = k
    · have h1 : kEq (keyD p.1) (keyD k) = true := by rw [kEq_keyD, decide_eq_true e]
      rw [dlook_cons_t (p := (keyD p.1, d)) h1, valV_pos e]
      exact ⟨rfl, fun z h => by cases h; exact ⟨_, rfl, s2⟩⟩
    · have h1 : kEq (keyD p.1) (keyD k) = false := by rw [kEq_keyD, decide_eq_false e]
      rw [dlook_cons_f (p := (keyD p.1, d)) h1, valV_neg e]
      exact ih
theorem dn_look {k : D} {kk : NestedKey} (hk : nk k = some kk) : ∀ (ps : List (NestedKey × Addr × V)) (l : List (D × D)), ShrK T g H l (ps.map fun p => (V.ref p.2.1, p.2.2)) → ps.map (fun p => some p.1) = l.map (fun p => nk p.1) →
    (dlook l k).isSome = (valN ps kk).isSome ∧ (∀ z, dlook l k = some z → ∃ v, valN ps kk = some v ∧ Shr T g H z v) ∧ ∀ p ∈ ps, NK T.K H p.1 (.ref p.2.1)
  | [], [], _, _ => ⟨rfl, fun z h => (by cases h), fun p hp => (nomatch hp)⟩
  | [], (a, d) :: l, s, _ => by
    simp only [List.map_nil, ShrK] at s
    obtain ⟨_, _, _, z, _⟩ := s
    cases z
  | p :: ps, [], s, _ => by
    simp only [List.map_cons, ShrK] at s
    cases s
  | p :: ps, (a, d) :: l, s, e0 => by
    simp only [List.map_cons, ShrK] at s
    obtain ⟨u, v, ws, e, s1, s2, s3⟩ := s
    cases e
    simp only [List.map_cons, List.cons.injEq] at e0
    obtain ⟨i1, i2, i3⟩ := dn_look hk ps l s3 e0.2
    have ea : nk a = some p.1 := e0.1.symm
    have hn := nk_shr a p.1 _ ea s1
    have al : ∀ q ∈ p :: ps, NK T.K H q.1 (.ref q.2.1) := fun q hq => by
      rcases List.mem_cons.mp hq with h | h
      · rw [h]; exact hn
      · exact i3 q h
    by_cases e : p.1 = kk
    · have h1 : kEq a k = true := by unfold kEq; rw [ea, hk]; exact decide_eq_true e
      have h2 : valN (p :: ps) kk = some p.2.2 := by simp [valN, List.find?_cons, e]
      rw [dlook_cons_t (p := (a, d)) h1, h2]
      exact ⟨rfl, fun z h => (by cases h; exact ⟨_, rfl, s2⟩), al⟩
    · have h1 : kEq a k = false := by unfold kEq; rw [ea, hk]; exact decide_eq_false e
      have h2 : valN (p :: ps) kk = valN ps kk := by simp [valN, List.find?_cons, e]
      rw [dlook_cons_f (p := (a, d)) h1, h2]
      exact ⟨i1, i2, al⟩
/-- the keys are of the sort of k -/
def sortOk (l : List (D × D)) (k : D) : Bool := match k with
  | .tup _ => l.all fun p => match p.1 with
    | .tup _ => true
    | _ => false
  | _ => flatKs l
theorem shr_key {k : D} {y : V} (hk : keyF k = true) (s : Shr T g H k y) : (∃ q, k = keyD q ∧ y = kV q) ∨ ∃ l kk b, k = .tup l ∧ nk k = some kk ∧ kk.depth ≤ 8 ∧ y = .ref b ∧ NK T.K H kk y := by
  cases k <;> unfold keyF at hk <;> try (cases hk; done)
  · rename_i i
    exact .inl ⟨.inl i, rfl, shr_int.mp s⟩
  · rename_i x
    exact .inl ⟨.inr x, rfl, shr_str.mp s⟩
  · rename_i l
    obtain ⟨kk, e1, e2⟩ : ∃ kk, nk (.tup l) = some kk ∧ decide (kk.depth ≤ 8) = true := by
      cases e : nk (.tup l) with
      | none => rw [e] at hk; cases hk
      | some kk => rw [e] at hk; exact ⟨kk, rfl, hk⟩
    obtain ⟨a, vs, e3, _, _⟩ := shr_tup.mp s
    exact .inr ⟨l, kk, a, rfl, e1, of_decide_eq_true e2, e3, nk_shr _ kk y e1 s⟩
/-- what the dict holds, as data and as it lies there -/
theorem nget_shr {a : Addr} {l : List (D × D)} {kvs : List (V × V)} {k : D} {y : V} (hD : DRep T H a l kvs) (hs : ShrK T g H l kvs) (hk : keyF k = true) (hy : Shr T g H k y) (hl : sortOk l k = true ∨ (dlook l k).isSome = true) :
    ∃ o, NGet T.pr T.w T.K H a y o ∧ (dlook l k).isSome = o.isSome ∧ ∀ z, dlook l k = some z → ∃ v, o = some v ∧ Shr T g H z v := by
  rcases shr_key hk hy with ⟨q, e1, e2⟩ | ⟨kl, kk, b, e1, e2, e3, e4, e5⟩
  · subst e1 e2
    rcases hD with ⟨ks, h1, h2⟩ | ⟨ps, h1, h2, h3, h4, h5⟩
    · subst h2
      obtain ⟨i1, i2⟩ := dk_look (k := q) ks l hs
      exact ⟨valV ks q, .inl ⟨ks, q, h1, rfl, rfl⟩, i1, i2⟩
    · exfalso
      subst h2
      cases ps with
      | nil => exact h4 rfl
      | cons p ps =>
        have allT : ∀ x ∈ l, ∃ t, x.1 = .tup t := by
          have gen : ∀ (ps : List (NestedKey × Addr × V)) (l : List (D × D)), ShrK T g H l (ps.map fun p => (V.ref p.2.1, p.2.2)) → ps.map (fun p => some p.1) = l.map (fun p => nk p.1) → ∀ x ∈ l, ∃ t, x.1 = .tup t := by
            intro ps
            induction ps with
            | nil => intro l s e x hx; cases l with
              | nil => nomatch hx
              | cons d l => simp at e
            | cons p ps ih => intro l s e x hx; cases l with
              | nil => nomatch hx
              | cons d l =>
                obtain ⟨d1, d2⟩ := d
                simp only [List.map_cons, ShrK] at s
                obtain ⟨u, v, ws, e', s1, s2, s3⟩ := s
                cases e'
                simp only [List.map_cons, List.cons.injEq] at e
                rcases List.mem_cons.mp hx with h | h
                · subst h
                  have en := e.1
                  cases d1 <;> simp only [nk] at en <;> first | (cases en; done) | (simp only [Shr] at s1; cases s1; done) | exact ⟨_, rfl⟩
                · exact ih l s3 e.2 x h
          exact gen (p :: ps) l hs h3
        have hl0 : l ≠ [] := by intro z; subst z; simp at h3
        rcases hl with hl | hl
        · cases l with
          | nil => exact hl0 rfl
          | cons x l =>
            obtain ⟨t, et⟩ := allT x (List.mem_cons_self ..)
            have : flatKs (x :: l) = true := by cases q <;> exact hl
            unfold flatKs at this
            rw [List.all_cons, et] at this
            cases this
        · obtain ⟨z, hz⟩ := Option.isSome_iff_exists.mp hl
          unfold dlook at hz
          obtain ⟨x, hx, _⟩ := Option.map_eq_some_iff.mp hz
          obtain ⟨t, et⟩ := allT x (List.mem_of_find?_eq_some hx)
          have hq := List.find?_some hx
          rw [et] at hq
          cases q <;> unfold kEq keyD at hq <;> simp only [nk] at hq <;> (cases ht : nkL t <;> rw [ht] at hq <;> simp at hq)
  · subst e1 e4
    rcases hD with ⟨ks, h1, h2⟩ | ⟨ps, h1, h2, h3, h4, h5⟩
    · subst h2
      have fl : ∀ (ks : List (Key × V)) (l : List (D × D)), ShrK T g H l (ks.map fun p => (kV p.1, p.2)) → ∀ x ∈ l, ∃ q, x.1 = keyD q := by
        intro ks
        induction ks with
        | nil => intro l s x hx; cases l with
          | nil => nomatch hx
          | cons d l =>
            obtain ⟨d1, d2⟩ := d
            simp only [List.map_nil, ShrK] at s
            obtain ⟨_, _, _, z, _⟩ := s
            cases z
        | cons p ks ih => intro l s x hx; cases l with
          | nil => nomatch hx
          | cons d l =>
            obtain ⟨d1, d2⟩ := d
            simp only [List.map_cons, ShrK] at s
            obtain ⟨u, v, ws, e', s1, s2, s3⟩ := s
            cases e'
            rcases List.mem_cons.mp hx with h | h
            · subst h; exact ⟨_, shr_kV s1⟩
            · exact ih l s3 x h
      have fl := fl ks l hs
      have l0 : l = [] := by
        cases l with
        | nil => rfl
        | cons x l =>
          exfalso
          rcases hl with hl | hl
          · obtain ⟨q, eq⟩ := fl x (List.mem_cons_self ..)
            unfold sortOk at hl
            simp only [List.all_cons] at hl
            rw [eq] at hl
            cases q <;> simp [keyD] at hl
          · obtain ⟨z, hz⟩ := Option.isSome_iff_exists.mp hl
            unfold dlook at hz
            obtain ⟨x, hx, _⟩ := Option.map_eq_some_iff.mp hz
            obtain ⟨q, eq⟩ := fl x (List.mem_of_find?_eq_some hx)
            have hq := List.find?_some hx
            rw [eq] at hq
            unfold kEq at hq
            rw [e2] at hq
            simp only [nk] at e2
            obtain ⟨kt, _, e6⟩ := Option.map_eq_some_iff.mp e2
            subst e6
            cases q <;> simp [keyD, nk] at hq
      subst l0
      have k0 : ks = [] := by
        cases ks with
        | nil => rfl
        | cons p ks => simp only [List.map_cons, ShrK] at hs; cases hs
      subst k0
      exact ⟨none, .inr (.inr ⟨kk, b, h1, rfl, e5, e3, rfl⟩), rfl, fun z h => by cases h⟩
    · subst h2
      obtain ⟨i1, i2, i3⟩ := dn_look e2 ps l hs h3
      exact ⟨valN ps kk, .inr (.inl ⟨ps, kk, b, h1, rfl, e5, e3, fun p hp => ⟨i3 p hp, h5 p hp⟩, rfl⟩), i1, i2⟩
end
end Q

/-! d[k], k in d: readings. -/
namespace Q
open PySem PySem.Spec PyProof.Rows L2
theorem room16 {k : Nat} {A : Around} (r : Room k A) : A.units + 16 < cLine := by have := r.un; omega
abbrev rNGet (P : Program) (w : World) (K : PySem.W.Frag) : R2 := fun x y H Q => ∃ a v, x = .ref a ∧ NGet P w K H a y (some v) ∧ Q v H
section
variable {X : Cx}
theorem ix_dct (hu : X.A.units + 16 < cLine) : IxR X (rNGet X.prog X.w X.K) := by
  intro value slice pins s σ H x y v u Q I rx ry h hs
  obtain ⟨a, r, rfl, gt, q⟩ := h
  obtain rfl : v = Value.ref a := rx
  exact tail_any (ndict_typeIs I gt) PySem.F.slot_dict_getitem.lookup (n_getItem hu I gt ry fun w' s' I' rw' => ⟨r, H, I', rw', q⟩) hs
abbrev rIxAD (P : Program) (w : World) (K : PySem.W.Frag) : R2 := fun x y H Q => rIxA K x y H Q ∨ rNGet P w K x y H Q
theorem ix_AD (hu : X.A.units + 16 < cLine) : IxR X (rIxAD X.prog X.w X.K) := ixr_or ix_A (ix_dct hu)
abbrev rNIn (P : Program) (w : World) (K : PySem.W.Frag) (neg : Bool) : R2 := fun x y H Q => ∃ a o, y = .ref a ∧ NGet P w K H a x o ∧ Q (.bl (if neg = true then !o.isSome else o.isSome)) H
theorem op_inN (hu : X.A.units + 16 < cLine) : OpR X (compareOp .In) (rNIn X.prog X.w X.K false) := by
  intro pins s σ H x y v u Q I rx ry h
  obtain ⟨a, o, rfl, gt, q⟩ := h
  obtain rfl : u = Value.ref a := ry
  exact n_in hu I gt rx fun s' I' => ⟨.bl o.isSome, H, I', rfl, q⟩
theorem op_notinN (hu : X.A.units + 16 < cLine) : OpR X (compareOp .NotIn) (rNIn X.prog X.w X.K true) := by
  intro pins s σ H x y v u Q I rx ry h
  obtain ⟨a, o, rfl, gt, q⟩ := h
  obtain rfl : u = Value.ref a := ry
  exact n_notIn hu I gt rx fun s' I' => ⟨.bl (!o.isSome), H, I', rfl, q⟩
abbrev rInAD (P : Program) (w : World) (K : PySem.W.Frag) : R2 := fun x y H Q => rInA0 K x y H Q ∨ rNIn P w K false x y H Q
abbrev rNotInAD (P : Program) (w : World) (K : PySem.W.Frag) : R2 := fun x y H Q => rInA1 K x y H Q ∨ rNIn P w K true x y H Q
theorem op_inAD (hu : X.A.units + 16 < cLine) : OpR X (compareOp .In) (rInAD X.prog X.w X.K) := opr_or op_inA (op_inN hu)
theorem op_notinAD (hu : X.A.units + 16 < cLine) : OpR X (compareOp .NotIn) (rNotInAD X.prog X.w X.K) := opr_or op_notinA (op_notinN hu)
end
/-- x[k], x a dict too -/
def hIxD (x k : D) : Option D := match x with
  | .dct l => if keyF k = true then dlook l k else none
  | _ => hIx x k
/-- k in x, x a dict too -/
def hInD (neg : Bool) (k x : D) : Option D := match x with
  | .dct l => if keyF k = true ∧ sortOk l k = true then some (.bl (if neg = true then !(dlook l k).isSome else (dlook l k).isSome)) else none
  | _ => hIn neg k x
section
variable {T : Th}
theorem shr_dct {g : G} {H : Hp} {l : List (D × D)} {v : V} : Shr T g H (.dct l) v ↔ ∃ a kvs, v = .ref a ∧ (DRep T H a l kvs ∧ ¬ g.U a) ∧ ShrK T g H l kvs := by simp only [Shr]
theorem hIxD_not {x k : D} (h : ∀ l, x ≠ .dct l) : hIxD x k = hIx x k := by
  cases x <;> first | rfl | exact absurd rfl (h _)
theorem ok_ixD : OpOk T (rIxAD T.pr T.w T.K) hIxD := by
  intro g H x y z v w sx sy e hd Q q
  by_cases hx : ∃ l, x = .dct l
  · obtain ⟨l, rfl⟩ := hx
    have e : (if keyF y = true then dlook l y else none) = some z := e
    split at e
    · rename_i hk
      obtain ⟨a, kvs, rfl, ⟨hD, _⟩, hs⟩ := shr_dct.mp sx
      obtain ⟨o, h1, h2, h3⟩ := nget_shr hD hs hk sy (.inr (by rw [e]; rfl))
      obtain ⟨u, rfl, su⟩ := h3 z e
      exact .inr ⟨a, u, rfl, h1, q u H (.refl H) su⟩
    · cases e
  · rw [hIxD_not (fun l h => hx ⟨l, h⟩)] at e
    exact .inl (ok_ix g H x y z v w sx sy e hd Q q)
theorem hInD_not {neg : Bool} {x k : D} (h : ∀ l, x ≠ .dct l) : hInD neg k x = hIn neg k x := by
  cases x <;> first | rfl | exact absurd rfl (h _)
theorem ok_inD : OpOk T (rInAD T.pr T.w T.K) (hInD false) := by
  intro g H x y z v w sx sy e hd Q q
  by_cases hy : ∃ l, y = .dct l
  · obtain ⟨l, rfl⟩ := hy
    have e : (if keyF x = true ∧ sortOk l x = true then some (D.bl (dlook l x).isSome) else none) = some z := e
    split at e
    · rename_i hk
      obtain ⟨a, kvs, rfl, ⟨hD, _⟩, hs⟩ := shr_dct.mp sy
      obtain ⟨o, h1, h2, h3⟩ := nget_shr hD hs hk.1 sx (.inl hk.2)
      cases e
      exact .inr ⟨a, o, rfl, h1, q _ H (.refl H) (by rw [← h2]; exact shr_bl.mpr rfl)⟩
    · cases e
  · rw [hInD_not (fun l h => hy ⟨l, h⟩)] at e
    exact .inl (ok_in0 g H x y z v w sx sy e hd Q q)
theorem ok_notinD : OpOk T (rNotInAD T.pr T.w T.K) (hInD true) := by
  intro g H x y z v w sx sy e hd Q q
  by_cases hy : ∃ l, y = .dct l
  · obtain ⟨l, rfl⟩ := hy
    have e : (if keyF x = true ∧ sortOk l x = true then some (D.bl (!(dlook l x).isSome)) else none) = some z := e
    split at e
    · rename_i hk
      obtain ⟨a, kvs, rfl, ⟨hD, _⟩, hs⟩ := shr_dct.mp sy
      obtain ⟨o, h1, h2, h3⟩ := nget_shr hD hs hk.1 sx (.inl hk.2)
      cases e
      exact .inr ⟨a, o, rfl, h1, q _ H (.refl H) (by rw [← h2]; exact shr_bl.mpr rfl)⟩
    · cases e
  · rw [hInD_not (fun l h => hy ⟨l, h⟩)] at e
    exact .inl (ok_in1 g H x y z v w sx sy e hd Q q)
end
end Q

/-! Places rooted in a slot. -/
namespace Q
open PySem PySem.Spec PyProof.Rows L2
/-- where the key stands -/
def dpos : List (D × D) → D → Option (Nat × D)
  | [], _ => none
  | p :: l, k => if kEq p.1 k = true then some (0, p.2) else (dpos l k).map fun q => (q.1 + 1, q.2)
section
variable {T : Th} {g : G} {H : Hp}
/-- only the keys -/
def ShrKs (T : Th) (g : G) (H : Hp) (l : List (D × D)) (kvs : List (V × V)) : Prop := l.length = kvs.length ∧ ∀ (j : Nat) (d : D × D) (w : V × V), l[j]? = some d → kvs[j]? = some w → Shr T g H d.1 w.1
theorem dk_pos {k : Key} : ∀ (ks : List (Key × V)) (l : List (D × D)), ShrKs T g H l (ks.map fun p => (kV p.1, p.2)) → ∀ j z, dpos l (keyD k) = some (j, z) → ∃ v a, valV ks k = some v ∧ ks[j]? = some (k, v) ∧ l[j]? = some (a, z)
  | [], [], _, j, z, h => by cases h
  | [], d :: l, s, j, z, h => by have := s.1; simp at this
  | p :: ks, [], s, j, z, h => by cases h
  | p :: ks, d :: l, s, j, z, h => by
    have ea := shr_kV (s.2 0 d (kV p.1, p.2) rfl rfl)
    have s' : ShrKs T g H l (ks.map fun p => (kV p.1, p.2)) := ⟨by have := s.1; simpa using this, fun j d' w e1 e2 => s.2 (j + 1) d' w e1 e2⟩
    unfold dpos at h
    rw [ea, kEq_keyD] at h
    by_cases e : p.1 = k
    · rw [if_pos (decide_eq_true e)] at h
      cases h
      obtain ⟨pk, pv⟩ := p
      dsimp only at e
      subst e
      exact ⟨pv, d.1, valV_pos rfl, rfl, rfl⟩
    · rw [if_neg (by rw [decide_eq_false e]; decide)] at h
      obtain ⟨q, h1, h2⟩ := Option.map_eq_some_iff.mp h
      cases h2
      obtain ⟨v, a, h3, h4, h5⟩ := dk_pos ks l s' q.1 q.2 h1
      exact ⟨v, a, by rw [valV_neg e]; exact h3, h4, h5⟩
theorem ks_flat {l : List (D × D)} {a : Addr} {kvs : List (V × V)} (hD : DRep T H a l kvs) (hs : ShrKs T g H l kvs) (f : flatKs l = true) : ∃ ks : List (Key × V), H a = some (.dK ks) ∧ kvs = ks.map fun p => (kV p.1, p.2) := by
  rcases hD with h | ⟨ps, h1, h2, h3, h4, _⟩
  · exact h
  · exfalso
    cases ps with
    | nil => exact h4 rfl
    | cons p ps =>
      subst h2
      cases l with
      | nil => simp at h3
      | cons d l =>
        have q := hs.2 0 d (V.ref p.2.1, p.2.2) rfl rfl
        unfold flatKs at f
        rw [List.all_cons, Bool.and_eq_true] at f
        have f := f.1
        obtain ⟨k, d⟩ := d
        dsimp only at q f
        cases k <;> simp only [Shr] at q <;> first | (cases q; done) | (cases f)
end
inductive RV where
  | ok (js : List Nat) (d : D) (S : Store)
  | exc (x : Exc) (S : Store)
  | no
abbrev FV := Env → Store → RV
def PlV (T : Th) (ρ : Env) (σ : L2.St) (H : Hp) (i : Nat) (js : List Nat) (d : D) (v : V) : Prop := ∃ d0 v0, ρ[i]? = some (some d0) ∧ σ[i]? = some (some v0) ∧ Focus T H js d0 v0 d v
def GoodPV (T : Th) (W : WX) (Γ : List Md) (i : Nat) (ρ : Env) (σ : L2.St) (g : G) (S : Store) (H : Hp) : RV → VK → Prop
  | .ok js d S', Q => S' = S → ∀ v H', Exx H H' → PlV T ρ σ H' i js d v → Q v H'
  | .exc x S', _ => ∀ c dd g' H', Rel T g' Γ ρ S' σ H' → FrE g H g' H' → ExcR T g' H' x c dd → W c dd σ H'
  | .no, _ => False
def tPV (T : Th) (W : WX) (Γ : List Md) (i : Nat) (F : FV) : TE := fun σ H Q => ∃ g ρ S, Rel T g Γ ρ S σ H ∧ GoodPV T W Γ i ρ σ g S H (F ρ S) Q
abbrev XPV (X : Cx) (T : Th) (W : WX) (Γ : List Md) (i : Nat) (e : Expr) (F : FV) : Prop := PE X e (tPV T W Γ i F)
theorem PlV.ex {T : Th} {ρ : Env} {σ : L2.St} {H H' : Hp} {i : Nat} {js : List Nat} {d : D} {v : V} (h : PlV T ρ σ H i js d v) (e : Exx H H') : PlV T ρ σ H' i js d v := by
  obtain ⟨d0, v0, h1, h2, h3⟩ := h
  exact ⟨d0, v0, h1, h2, h3.ex e⟩
def pVar (i : Nat) : FV := fun ρ S => match ρ[i]? with
  | some (some d) => .ok [] d S
  | _ => .no
/-- of a dict by a key that is a text -/
def posT (d : D) (k : Str) : Option (Nat × D) := match d with
  | .dct l => if flatKs l = true then dpos l (.str k) else none
  | _ => none
def pKeyK (K : Nat) (js : List Nat) (S : Store) (o : Option (Nat × D)) : RV := match o with
  | some (j, d) => if js.length + 1 ≤ K then .ok (js ++ [j]) d S else .no
  | none => .no
def pKey (K : Nat) (p : FV) (k : Str) : FV := fun ρ S => match p ρ S with
  | .ok js d S1 => pKeyK K js S1 (posT d k)
  | .exc y S1 => .exc y S1
  | .no => .no
section
variable {X : Cx} {T : Th} {W : WX} {Γ : List Md} {i K : Nat}
theorem xpv_var {e : Expr} (he : PE X e (tVar i)) (hm : Γ.getD i .s = .o K) : XPV X T W Γ i e (pVar i) := pe_imp he fun σ H Q ⟨g, ρ, S, R, h⟩ => by
  have h : GoodPV T W Γ i ρ σ g S H (match ρ[i]? with | some (some d) => RV.ok [] d S | _ => .no) Q := h
  split at h
  · rename_i d e
    obtain ⟨v, h1, h2⟩ := R.slot i d e
    exact ⟨v, h1, h rfl v H (.refl H) ⟨d, v, e, h1, rfl, rfl⟩⟩
  · exact h.elim
theorem Focus.snocD {H : Hp} {kvs : List (V × V)} : ∀ {js : List Nat} {d0 : D} {v0 : V} {l : List (D × D)} {p : Addr} {j : Nat} {kd : D × D} {w : V}, Focus T H js d0 v0 (.dct l) (.ref p) → DRep T H p l kvs → (∀ kvs, DRep T H p l kvs → ∃ u, kvs[j]? = some (u, w)) → l[j]? = some kd → Focus T H (js ++ [j]) d0 v0 kd.2 w
  | [], d0, v0, l, p, j, kd, w, h, h1, h2, h3 => by
    obtain ⟨rfl, rfl⟩ := h
    exact ⟨p, kd, w, rfl, ⟨kvs, h1⟩, h2, h3, rfl, rfl⟩
  | i :: js, .lst l0, v0, l, p, j, d1, w, h, h1, h2, h3 => by
    obtain ⟨p0, vs0, x, y, e1, e2, e3, e4, e5⟩ := h
    exact ⟨p0, vs0, x, y, e1, e2, e3, e4, Focus.snocD e5 h1 h2 h3⟩
  | i :: js, .dct l0, v0, l, p, j, d1, w, h, h1, h2, h3 => by
    obtain ⟨p0, x, y, e1, e2, e3, e4, e5⟩ := h
    exact ⟨p0, x, y, e1, e2, e3, e4, Focus.snocD e5 h1 h2 h3⟩
  | _ :: _, .non, _, _, _, _, _, _, h, _, _, _ => h.elim
  | _ :: _, .bl _, _, _, _, _, _, _, h, _, _, _ => h.elim
  | _ :: _, .int _, _, _, _, _, _, _, h, _, _, _ => h.elim
  | _ :: _, .str _, _, _, _, _, _, _, h, _, _, _ => h.elim
  | _ :: _, .tup _, _, _, _, _, _, _, h, _, _, _ => h.elim
  | _ :: _, .scr _, _, _, _, _, _, _, h, _, _, _ => h.elim
  | _ :: _, .obj _, _, _, _, _, _, _, h, _, _, _ => h.elim
  | _ :: _, .fn _ _, _, _, _, _, _, _, h, _, _, _ => h.elim
  | _ :: _, .gone _, _, _, _, _, _, _, h, _, _, _ => h.elim
/-- the value's own shape at a place of a slot -/
theorem own_atV {g : G} {S : Store} {ρ : Env} {σ : L2.St} {H : Hp} {js : List Nat} {d : D} {v : V} (R : Rel T g Γ ρ S σ H) (hm : Γ.getD i .s = .o K) (h : PlV T ρ σ H i js d v) (hl : js.length ≤ K) :
    ∃ d0 v0 F', ρ[i]? = some (some d0) ∧ σ[i]? = some (some v0) ∧ (∀ a, F' a → g.F i a) ∧ Own T g H (K - js.length) F' d v ∧
    ∀ (g2 : G) (H2 : Hp) (Fo F2 : Addr → Prop) (x : D), Stay g H g2 H2 → (∀ a o, g.F i a → ¬ F' a → H a = some o → H2 a = some o) → (∀ a, Fo a → ¬ g.F i a) → (∀ a, F2 a → F' a ∨ Fo a) → Own T g2 H2 (K - js.length) F2 x v → Own T g2 H2 K (fun a => g.F i a ∨ Fo a) (setAt js d0 x) v0 := by
  obtain ⟨d0, v0, h1, h2, h3⟩ := h
  obtain ⟨v0', k1, k2⟩ := R.slot i d0 h1
  rw [h2] at k1
  cases k1
  rw [hm] at k2
  obtain ⟨F', q1, q2, q3⟩ := Own.focus js K _ _ _ k2 h3 hl
  exact ⟨d0, v0, F', h1, h2, q1, q2, q3⟩
theorem goodPV_ex {ρ : Env} {σ : L2.St} {g : G} {S : Store} {H H1 : Hp} {r : RV} {Q : VK} (e : Exx H H1) (h : GoodPV T W Γ i ρ σ g S H r Q) : GoodPV T W Γ i ρ σ g S H1 r Q := by
  cases r with
  | ok js d S' => exact fun es v H' x s => h es v H' (e.trans x) s
  | exc x S' => exact exc_ex e h
  | no => exact h
theorem own_keys {g : G} {H : Hp} {k : Nat} {F : Addr → Prop} {l : List (D × D)} {v : V} (h : Own T g H (k + 1) F (.dct l) v) : ∃ p kvs, v = .ref p ∧ F p ∧ DRep T H p l kvs ∧ ShrKs T g H l kvs := by
  simp only [Own] at h
  obtain ⟨p, kvs, h1, h2, h3, h4, Gs, _, _, h5⟩ := h
  exact ⟨p, kvs, h1, h2, h3, h4, fun j d w e1 e2 => (h5 j d w e1 e2).1⟩
theorem xpv_key {o e c : Expr} {P : FV} {k : Str} (hP : X.prog = T.pr) (hw : X.w = T.w) (hK : X.K = T.K) (hm : Γ.getD i .s = .o K) (ho : XPV X T W Γ i o P) (hc : XC X T W Γ c (eC (.str k)))
    (he : PE X o (tPV T W Γ i P) → PE X c (tC1 T W Γ (eC (.str k))) → PE X e (tOp (rIxAD X.prog X.w X.K) (tPV T W Γ i P) (tC1 T W Γ (eC (.str k))))) : XPV X T W Γ i e (pKey K P k) := pe_imp (he ho hc) fun σ H Q ⟨g, ρ, S, R, hg⟩ => by
  refine ⟨g, ρ, S, R, ?_⟩
  unfold pKey at hg
  cases ep : P ρ S with
  | no => rw [ep] at hg; exact hg.elim
  | exc y S1 => rw [ep] at hg; exact hg
  | ok js d S1 =>
    rw [ep] at hg
    intro es v H1 e1 pl
    subst es
    refine ⟨g, ρ, S1, R.ex e1, ?_⟩
    replace hg : GoodPV T W Γ i ρ σ g S1 H1 (pKeyK K js S1 (posT d k)) Q := goodPV_ex e1 hg
    intro es w H2 e2 s2
    have R2 := (R.ex e1).ex e2
    have pl2 := pl.ex e2
    cases epos : posT d k with
    | none => rw [epos] at hg; exact hg.elim
    | some jd =>
      obtain ⟨j, z⟩ := jd
      rw [epos] at hg
      unfold pKeyK at hg
      dsimp only at hg
      split at hg
      · rename_i hd
        unfold posT at epos
        split at epos
        · rename_i l
          split at epos
          · rename_i hf
            obtain ⟨d0, v0, F', k1, k2, k3, k4, k5⟩ := own_atV R2 hm pl2 (Nat.le_of_succ_le hd)
            have hk : K - js.length = (K - js.length - 1) + 1 := by omega
            rw [hk] at k4
            obtain ⟨p, kvs, rfl, hF, hD, hs⟩ := own_keys k4
            obtain ⟨ks, hH, rfl⟩ := ks_flat hD hs hf
            obtain ⟨u, a, h3, h4, h5⟩ := dk_pos (k := .inr k) ks l hs j z epos
            have hv : w = .str k := shr_str.mp s2
            subst hv
            refine .inr ⟨p, u, rfl, .inl ⟨ks, .inr k, hH, rfl, h3.symm⟩, hg rfl u H2 e2 ?_⟩
            obtain ⟨d0', v0', p1, p2, p3⟩ := pl2
            refine ⟨d0', v0', p1, p2, Focus.snocD (kd := (a, z)) p3 hD (fun kvs' hD' => ?_) h5⟩
            rcases hD' with ⟨ks', q1, q2⟩ | ⟨ps, q1, _⟩
            · rw [hH] at q1
              cases q1
              subst q2
              exact ⟨kV (.inr k), by rw [List.getElem?_map, h4]; rfl⟩
            · rw [hH] at q1
              cases q1
          · cases epos
        · cases epos
      · exact hg.elim
end
end Q

/-! Writing at a place of a slot. -/
namespace Q
open PySem PySem.Spec PyProof.Rows L2
def slotPut (K k i : Nat) (js : List Nat) (x : D) (S : Store) (ρ : Env) : RS := match ρ[i]? with
  | some (some d0) => if K = js.length + k then .nx (ρ.set i (some (setAt js d0 x))) S else .no
  | _ => .no
def RV.bindS (ρ : Env) (r : RV) (k : List Nat → D → Store → RS) : RS := match r with
  | .ok js d S => k js d S
  | .exc x S => .exc x ρ S
  | .no => .no
def fVMut (K i : Nat) (p : FV) (h : HM) (a : FL) : FS := fun ρ S => (p ρ S).bindS ρ fun js d S1 => lstK d fun l => if K = js.length + 1 then (a ρ S1).bindR ρ fun ds S2 => optK (h l ds) fun zl => slotPut K 1 i js (.lst zl.2) S2 ρ else .no
section
variable {X : Cx} {T : Th} {Γ : List Md} {J : Jd} {i K : Nat}
theorem slotPut_k {k : Nat} {js : List Nat} {x : D} {S : Store} {ρ : Env} {g : G} {H : Hp} {D : Ends} (h : GoodS T J Γ g H (slotPut K k i js x S ρ) D) : K = js.length + k := by
  unfold slotPut at h
  split at h
  · split at h
    · assumption
    · exact h.elim
  · exact h.elim
theorem putv_core {k : Nat} {g g1 : G} {ρ : Env} {S : Store} {σ : L2.St} {H H1 : Hp} {js : List Nat} {d : D} {v : V} {De : Ends} (hm : Γ.getD i .s = .o K) (R1 : Rel T g1 Γ ρ S σ H1) (f1 : FrS g H g1 H1) (pl : PlV T ρ σ H1 i js d v) (hk : K = js.length + (k + 1)) :
    ∃ F' : Addr → Prop, (∀ a, F' a → g1.F i a) ∧ Own T g1 H1 (k + 1) F' d v ∧ ∀ (p : Addr) (o : HO) (F2 : Addr → Prop) (x : D), F' p → (∀ u, o ≠ .tup u ∧ ∀ b, o ≠ .frz b (.tup u)) → (∀ a, F2 a → F' a) →
      (Stay g1 H1 g1 (upd H1 p o) → Own T g1 (upd H1 p o) (k + 1) F2 x v) → GoodS T J Γ g H (slotPut K (k + 1) i js x S ρ) De → De.nx σ (upd H1 p o) := by
  obtain ⟨d0, v0, F', k1, k2, k3, k4, k5⟩ := own_atV R1 hm pl (by omega)
  have ek : K - js.length = k + 1 := by omega
  rw [ek] at k4 k5
  refine ⟨F', k3, k4, fun p o F2 x hp hno hF2 hx hg => ?_⟩
  have R2 := R1.write (d := setAt js d0 x) (k3 p hp) hno k2 fun st => by
    rw [hm]
    exact Own.wide _ _ _ _ _ (fun a z => z.elim id fun z => z.elim) (k5 g1 (upd H1 p o) (fun _ => False) F2 x st (fun a u z nz e => by rw [upd_ne (fun w => nz (by rw [w]; exact hp))]; exact e) (fun a z => z.elim) (fun a z => .inl (hF2 a z)) (hx st))
  unfold slotPut at hg
  rw [k1] at hg
  dsimp only at hg
  rw [if_pos hk] at hg
  exact hg σ g1 _ R2 (f1.trans (R1.wrote (k3 p hp)))
/-- PLACE.m(..), the list's items shared -/
theorem xs_vmut {st : Stmt} {o : Expr} {es : List Expr} {P : FV} {A : FL} {r : V → List V → Hp → VK → Prop} {h : HM} (hK : X.K = T.K) (hx : J.ΓX Γ) (hm : Γ.getD i .s = .o K) (ok : MutOk T r h) (ho : XPV X T J.W Γ i o P) (ha : XCL X T J.W Γ es A)
    (he : PE X o (tPV T J.W Γ i P) → PA X es (tCL T J.W Γ A) → PS X st (tDrop (tBM X.K "list" r (tPV T J.W Γ i P) (tCL T J.W Γ A)))) : XS X T J Γ Γ st (fVMut K i P h A) := ps_imp (he ho ha) fun D σ H ⟨g, ρ, S, R, hg⟩ => by
  refine ⟨g, ρ, S, R, ?_⟩
  unfold fVMut at hg
  cases ep : P ρ S with
  | no => rw [ep] at hg; exact hg
  | exc y S1 => rw [ep] at hg; exact fun c dd g' H' R' f' e => hg Γ c dd σ g' H' hx R' (f'.frs R.dOB) e
  | ok js d S1 =>
    rw [ep] at hg
    intro es v H1 e1 pl
    subst es
    obtain ⟨l, rfl, hg2⟩ := lstK_get (show GoodS T J Γ g H (lstK d _) D from hg)
    clear hg
    have hg := hg2
    split at hg
    · rename_i hd
      have R1 := R.ex e1
      have hlist : ∃ p vs, v = .ref p ∧ H1 p = some (.lst vs) := by
        obtain ⟨d0, v0, F', k1, k2, k3, k4, k5⟩ := own_atV R1 hm pl (by omega)
        have ek : K - js.length = 0 + 1 := by omega
        rw [ek] at k4
        simp only [Own] at k4
        obtain ⟨p, vs, rfl, hF, hH, _⟩ := k4
        exact ⟨p, vs, rfl, hH⟩
      obtain ⟨p, vs, rfl, hH⟩ := hlist
      refine ⟨.inl ⟨rfl, vs, SqL.of hH⟩, g, ρ, S1, R1, ?_⟩
      cases ea : A ρ S1 with
      | no => rw [ea] at hg; exact hg.elim
      | exc y S2 => rw [ea] at hg; exact fun c dd g' H' R' f' e => hg Γ c dd σ g' H' hx R' (((FrE.ex e1).trans f').frs R.dOB) e
      | ok ds S2 =>
        rw [ea] at hg
        intro es ws H2 e2 sw
        subst es
        obtain ⟨zl, ez, hg2⟩ := optK_get (show GoodS T J Γ g H (optK (h l ds) _) D from hg)
        clear hg
        have hg := hg2
        obtain ⟨z, l'⟩ := zl
        have R2 := R1.ex e2
        have f2 : FrS g H g H2 := (FrE.ex (e1.trans e2)).frs R.dOB
        obtain ⟨F', q1, q2, q3⟩ := putv_core (k := 0) (De := D) hm R2 f2 (pl.ex e2) (slotPut_k hg)
        obtain ⟨p', vs', e3, hF, hH2, s3⟩ := own1_lst.mp q2
        cases e3
        refine ok g H2 p l ds l' z vs' ws hH2 s3 sw (.inr (.inl ⟨i, q1 p hF⟩)) ez _ fun u vs2 s2 su => ?_
        refine q3 p _ F' (.lst l') hF (fun _ => ⟨nofun, fun _ => nofun⟩) (fun a z => z) (fun st => ?_) hg
        exact own1_lst.mpr ⟨p, vs2, rfl, hF, upd_same, ShrL.stay st _ _ s2⟩
    · exact hg.elim
end
end Q

/-! d[k] = x, d owned. -/
namespace Q
open PySem PySem.Spec PyProof.Rows L2
def dput (l : List (D × D)) (k x : D) : List (D × D) := if (l.any fun p => kEq p.1 k) = true then l.map (fun p => if kEq p.1 k = true then (p.1, x) else p) else l ++ [(k, x)]
/-- no list, no dict -/
def plainV (x : D) : Bool := match x with
  | .lst _ => false
  | .dct _ => false
  | _ => true
section
variable {T : Th} {g : G} {H : Hp}
theorem own_plain {m : Nat} {F : Addr → Prop} {x : D} {u : V} (h : m = 0 ∨ plainV x = true) (s : Shr T g H x u) : Own T g H m F x u := by
  rcases h with h | h
  · subst h
    cases x <;> exact s
  · cases m with
    | zero => cases x <;> exact s
    | succ m => cases x <;> first | exact s | cases h
/-- pairs of dicts, one by one: keys shared, what is at j owned by Gs j -/
def Prs (T : Th) (g : G) (H : Hp) (m : Nat) (Gs : Nat → Addr → Prop) (l : List (D × D)) (kvs : List (V × V)) : Prop := l.length = kvs.length ∧ ∀ (j : Nat) (d : D × D) (w : V × V), l[j]? = some d → kvs[j]? = some w → Shr T g H d.1 w.1 ∧ Own T g H m (Gs j) d.2 w.2
theorem Prs.put {α : Type} {m : Nat} {Gs : Nat → Addr → Prop} {k x : D} {y u : V} (hx : m = 0 ∨ plainV x = true) (sy : Shr T g H k y) (sx : Shr T g H x u) (f : α → V × V) (hit : α → Bool) (rep : α → α) (new : α) (hr : ∀ a, (f (rep a)) = ((f a).1, u)) (hn : f new = (y, u))
    {l : List (D × D)} {ks : List α} (h : Prs T g H m Gs l (ks.map f)) (hh : ∀ (j : Nat) (d : D × D) (a : α), l[j]? = some d → ks[j]? = some a → kEq d.1 k = hit a) (hnew : l.any (fun p => kEq p.1 k) = ks.any hit) :
    Prs T g H m (fun j a => Gs j a ∧ j < l.length) (dput l k x) ((if ks.any hit = true then ks.map (fun a => if hit a = true then rep a else a) else ks ++ [new]).map f) := by
  obtain ⟨h1, h2⟩ := h
  rw [List.length_map] at h1
  unfold dput
  rw [hnew]
  by_cases q : ks.any hit = true
  · rw [if_pos q, if_pos q]
    refine ⟨by simp [h1], fun j d w e1 e2 => ?_⟩
    rw [List.getElem?_map] at e1 e2
    obtain ⟨d0, e3, e4⟩ := Option.map_eq_some_iff.mp e1
    obtain ⟨a0, e5, e6⟩ := Option.map_eq_some_iff.mp e2
    rw [List.getElem?_map] at e5
    obtain ⟨a1, e7, e8⟩ := Option.map_eq_some_iff.mp e5
    have hj : j < l.length := (List.getElem?_eq_some_iff.mp e3).1
    obtain ⟨i1, i2⟩ := h2 j d0 (f a1) e3 (by rw [List.getElem?_map, e7]; rfl)
    have ek := hh j d0 a1 e3 e7
    subst e4 e6 e8
    by_cases e : hit a1 = true
    · rw [ek, if_pos e, if_pos e, hr]
      exact ⟨i1, own_plain hx sx⟩
    · rw [ek, if_neg e, if_neg e]
      exact ⟨i1, Own.wide _ _ _ _ _ (fun a z => ⟨z, hj⟩) i2⟩
  · rw [if_neg q, if_neg q]
    refine ⟨by simp [h1], fun j d w e1 e2 => ?_⟩
    rw [List.map_append] at e2
    by_cases hj : j < l.length
    · rw [List.getElem?_append_left hj] at e1
      rw [List.getElem?_append_left (by rw [List.length_map]; omega)] at e2
      obtain ⟨i1, i2⟩ := h2 j d w e1 e2
      exact ⟨i1, Own.wide _ _ _ _ _ (fun a z => ⟨z, hj⟩) i2⟩
    · have hj2 : j = l.length := by
        have := (List.getElem?_eq_some_iff.mp e1).1
        simp at this
        omega
      subst hj2
      rw [List.getElem?_append_right (Nat.le_refl _), Nat.sub_self] at e1
      rw [List.getElem?_append_right (by rw [List.length_map]; omega), List.length_map, h1, Nat.sub_self] at e2
      cases e1
      have e2 : f new = w := by simpa using e2
      rw [hn] at e2
      subst e2
      exact ⟨sy, own_plain hx sx⟩
end
end Q

/-! d[k] = x: what the heap shows. -/
namespace Q
open PySem PySem.Spec PyProof.Rows L2
theorem any_pt {α β : Type} (p : α → Bool) (q : β → Bool) : ∀ (l : List α) (m : List β), l.length = m.length → (∀ (j : Nat) a b, l[j]? = some a → m[j]? = some b → p a = q b) → l.any p = m.any q
  | [], [], _, _ => rfl
  | [], _ :: _, h, _ => by simp at h
  | _ :: _, [], h, _ => by simp at h
  | a :: l, b :: m, h, e => by
    rw [List.any_cons, List.any_cons, e 0 a b rfl rfl, any_pt p q l m (by simpa using h) fun j a b h1 h2 => e (j + 1) a b h1 h2]
theorem valN_any (ps : List (NestedKey × Addr × V)) (k : NestedKey) : (valN ps k).isSome = ps.any fun p => decide (p.1 = k) := by
  unfold valN
  rw [Option.isSome_map]
  induction ps with
  | nil => rfl
  | cons p ps ih =>
    rw [List.find?_cons, List.any_cons]
    by_cases e : decide (p.1 = k) = true
    · rw [e]; rfl
    · rw [Bool.not_eq_true] at e
      rw [e, ih]; rfl
section
variable {T : Th} {g : G} {H : Hp}
theorem keep_prs {m : Nat} {F : Addr → Prop} {Gs : Nat → Addr → Prop} {p : Addr} {o : HO} {l : List (D × D)} {kvs : List (V × V)} (st : Stay g H g (upd H p o)) (h1 : ∀ j q, Gs j q → F q ∧ q ≠ p) {n : Nat} (h : Prs T g H m (fun j a => Gs j a ∧ j < n) l kvs) :
    ∀ (j : Nat) (d : D × D) (w : V × V), l[j]? = some d → kvs[j]? = some w → Shr T g (upd H p o) d.1 w.1 ∧ Own T g (upd H p o) m (fun a => Gs j a ∧ j < n) d.2 w.2 := fun j d w e1 e2 => by
  obtain ⟨i1, i2⟩ := h.2 j d w e1 e2
  exact ⟨i1.stay st, Own.keepF st _ _ _ _ (fun a u z e => by rw [upd_ne (h1 j a z.1).2]; exact e) i2⟩
theorem nput_own {m : Nat} {F : Addr → Prop} {l : List (D × D)} {v y u : V} {k x : D} (h : Own T g H (m + 1) F (.dct l) v) (hk : keyF k = true) (sy : Shr T g H k y) (sx : Shr T g H x u) (hx : m = 0 ∨ plainV x = true) (hl : sortOk l k = true) (hlen : l.length < 1000000) :
    ∃ p o, v = .ref p ∧ F p ∧ NPut T.pr T.w T.K H p y u (upd H p o) ∧ (∀ z, o ≠ .tup z ∧ ∀ b, o ≠ .frz b (.tup z)) ∧ (Stay g H g (upd H p o) → Own T g (upd H p o) (m + 1) F (.dct (dput l k x)) v) := by
  simp only [Own] at h
  obtain ⟨p, kvs, rfl, hF, hD, hn, Gs, h1, h2, h3⟩ := h
  have hP : Prs T g H m Gs l kvs := ⟨hn, h3⟩
  have hG : ∀ i j q, (Gs i q ∧ i < l.length) → (Gs j q ∧ j < l.length) → i = j := fun i j q z z' => h2 i j q z.1 z'.1
  rcases shr_key hk sy with ⟨q, e1, e2⟩ | ⟨kl, kk, b, e1, e2, e3, e4, e5⟩
  · subst e1 e2
    have hf : flatKs l = true := by cases q <;> exact hl
    obtain ⟨ks, hH, rfl⟩ := ks_flat hD ⟨hn, fun j d w a b => (h3 j d w a b).1⟩ hf
    have hh : ∀ (j : Nat) (d : D × D) (a : Key × V), l[j]? = some d → ks[j]? = some a → kEq d.1 (keyD q) = decide (a.1 = q) := fun j d a a1 a2 => by
      have := (h3 j d (kV a.1, a.2) a1 (by rw [List.getElem?_map, a2]; rfl)).1
      rw [shr_kV this, kEq_keyD]
    have hP2 := hP.put hx sy sx (fun a : Key × V => (kV a.1, a.2)) (fun a => decide (a.1 = q)) (fun a => (a.1, u)) (q, u) (fun _ => rfl) rfl hh (any_pt _ _ l ks (by rw [List.length_map] at hn; exact hn) hh)
    have ep : (if (ks.any fun a => decide (a.1 = q)) = true then ks.map (fun a => if decide (a.1 = q) = true then (a.1, u) else a) else ks ++ [(q, u)]) = putK ks q u := by
      unfold putK
      simp only [decide_eq_true_eq]
    rw [ep] at hP2
    refine ⟨p, .dK (putK ks q u), rfl, hF, .inl ⟨ks, q, hH, rfl, ?_, rfl⟩, fun _ => ⟨nofun, fun _ => nofun⟩, fun st => ?_⟩
    · rw [List.length_map] at hn
      rw [sizeLine_eq]
      omega
    · simp only [Own]
      exact ⟨p, _, rfl, hF, .inl ⟨_, upd_same, rfl⟩, hP2.1, _, fun j a z => h1 j a z.1, hG, keep_prs st h1 hP2⟩
  · subst e1 e4
    rcases hD with ⟨ks, hH, e6⟩ | ⟨ps, hH, e6, e7, e8, e9⟩
    · subst e6
      have l0 : l = [] := by
        cases l with
        | nil => rfl
        | cons d l =>
          exfalso
          cases ks with
          | nil => simp at hn
          | cons a ks =>
            have := (h3 0 d (kV a.1, a.2) rfl rfl).1
            have ed := shr_kV this
            unfold sortOk at hl
            simp only [List.all_cons] at hl
            rw [ed] at hl
            cases hq : a.1 <;> rw [hq] at hl <;> simp [keyD] at hl
      subst l0
      have k0 : ks = [] := by
        cases ks with
        | nil => rfl
        | cons a ks => simp at hn
      subst k0
      refine ⟨p, dN T.pr T.w p [(kk, b, u)], rfl, hF, .inr (.inr ⟨kk, b, hH, rfl, e5, e3, rfl⟩), fun _ => ⟨nofun, fun _ => nofun⟩, fun st => ?_⟩
      have ed : dput [] (.tup kl) x = [(.tup kl, x)] := rfl
      rw [ed]
      simp only [Own]
      refine ⟨p, [(.ref b, u)], rfl, hF, .inr ⟨[(kk, b, u)], upd_same, rfl, ?_, List.cons_ne_nil _ _, fun q hq => by rw [List.mem_singleton.mp hq]; exact e3⟩, rfl, fun _ _ => False, fun _ _ z => z.elim, fun _ _ _ z => z.elim, fun j d w a1 a2 => ?_⟩
      · simp only [List.map_cons, List.map_nil]
        rw [e2]
      · cases j with
        | zero => cases a1; cases a2; exact ⟨sy.stay st, own_plain hx (sx.stay st)⟩
        | succ j => simp at a1
    · subst e6
      have hh : ∀ (j : Nat) (d : D × D) (a : NestedKey × Addr × V), l[j]? = some d → ps[j]? = some a → kEq d.1 (.tup kl) = decide (a.1 = kk) := fun j d a a1 a2 => by
        have e : (ps.map fun p => some p.1)[j]? = (l.map fun p => nk p.1)[j]? := by rw [e7]
        rw [List.getElem?_map, List.getElem?_map, a1, a2] at e
        have e : some a.1 = nk d.1 := Option.some.inj e
        unfold kEq
        rw [← e, e2]
      have hP2 := hP.put hx sy sx (fun a : NestedKey × Addr × V => (V.ref a.2.1, a.2.2)) (fun a => decide (a.1 = kk)) (fun a => (a.1, a.2.1, u)) (kk, b, u) (fun _ => rfl) rfl hh (any_pt _ _ l ps (by rw [List.length_map] at hn; exact hn) hh)
      have ep : (if (ps.any fun a => decide (a.1 = kk)) = true then ps.map (fun a => if decide (a.1 = kk) = true then (a.1, a.2.1, u) else a) else ps ++ [(kk, b, u)]) = putN ps kk b u := by
        unfold putN
        rw [valN_any]
        unfold putNAt
        simp only [decide_eq_true_eq]
      rw [ep] at hP2
      have hN : ∀ q ∈ ps, NK T.K H q.1 (.ref q.2.1) := fun q hq => by
        obtain ⟨j, hj, ej⟩ := List.getElem_of_mem hq
        have hlj : j < l.length := by rw [List.length_map] at hn; omega
        have a2 : ps[j]? = some q := by rw [List.getElem?_eq_getElem hj, ej]
        have a1 := List.getElem?_eq_getElem hlj
        have e : (ps.map fun p => some p.1)[j]? = (l.map fun p => nk p.1)[j]? := by rw [e7]
        rw [List.getElem?_map, List.getElem?_map, a1, a2] at e
        have e : some q.1 = nk l[j].1 := Option.some.inj e
        exact nk_shr _ _ _ e.symm (h3 j l[j] (V.ref q.2.1, q.2.2) a1 (by rw [List.getElem?_map, a2]; rfl)).1
      refine ⟨p, dN T.pr T.w p (putN ps kk b u), rfl, hF, .inr (.inl ⟨ps, kk, b, hH, rfl, e5, e3, fun q hq => ⟨hN q hq, e9 q hq⟩, ?_, rfl⟩), fun _ => ⟨nofun, fun _ => nofun⟩, fun st => ?_⟩
      · rw [List.length_map] at hn
        rw [sizeLine_eq]
        omega
      · simp only [Own]
        refine ⟨p, _, rfl, hF, .inr ⟨putN ps kk b u, upd_same, rfl, ?_, ?_, ?_⟩, hP2.1, _, fun j a z => h1 j a z.1, hG, keep_prs st h1 hP2⟩
        · have ha := any_pt _ _ l ps (by rw [List.length_map] at hn; exact hn) hh
          unfold putN dput
          rw [valN_any, ha]
          split
          · rw [List.map_map, List.map_map]
            have e10 : (ps.map fun p => some p.1) = ps.map ((fun p => some p.1) ∘ putNAt kk u) := List.map_congr_left fun a _ => by
              show some a.1 = some (putNAt kk u a).1
              unfold putNAt; split <;> rfl
            have e11 : (l.map fun p => nk p.1) = l.map ((fun p => nk p.1) ∘ fun p => if kEq p.1 (.tup kl) = true then (p.1, x) else p) := List.map_congr_left fun a _ => by
              show nk a.1 = nk (if kEq a.1 (.tup kl) = true then (a.1, x) else a).1
              split <;> rfl
            rw [← e10, ← e11]; exact e7
          · rw [List.map_append, List.map_append, e7]
            simp only [List.map_cons, List.map_nil]
            rw [e2]
        · intro z
          unfold putN at z
          split at z
          · exact e8 (List.map_eq_nil_iff.mp z)
          · simp at z
        · intro q hq
          unfold putN at hq
          split at hq
          · obtain ⟨a, ha, rfl⟩ := List.mem_map.mp hq
            unfold putNAt
            split <;> exact e9 a ha
          · rcases List.mem_append.mp hq with h | h
            · exact e9 q h
            · rw [List.mem_singleton.mp h]; exact e3
end
end Q

/-! PLACE[k] = x, PLACE a dict in a slot. -/
namespace Q
open PySem PySem.Spec PyProof.Rows L2
def sNPut (P : Program) (w : World) (K : PySem.W.Frag) (td ty tv : TE) : TS := fun D σ H => tv σ H fun v H1 => td σ H1 fun x H2 => ty σ H2 fun y H3 => ∃ a H4, x = .ref a ∧ NPut P w K H3 a y v H4 ∧ D.nx σ H4
section
variable {X : Cx} {o i value : Expr} {pos pos' : Pos} {td ty tv : TE}
theorem ps_nput (hu : X.A.units + 16 < cLine) (ho : PE X o td) (hi : PE X i ty) (hv : PE X value tv) (hs : swapsWith value (some (.Subscript o i pos')) pos.line X.env = pure false) :
    PS X (.Assign [.Subscript o i pos'] value pos) (sNPut X.prog X.w X.K td ty tv) := by
  refine ⟨fun pins s σ H D I h => ?_⟩
  refine wpAny_Assign_Subscript (thn (hv.run pins s σ H _ I h) fun r s1 ⟨v, H1, I1, rv, q1⟩ => thn (ho.run pins s1 σ H1 _ I1 q1) fun u s2 ⟨x, H2, I2, rx, q2⟩ => thn (hi.run pins s2 σ H2 _ I2 q2) fun iv s3 ⟨y, H3, I3, ry, a, H4, ex, g, q3⟩ => ?_) hs
  subst ex
  obtain rfl : u = Value.ref a := rx
  exact n_setItem hu I3 g ry rv fun s4 I4 => ⟨σ, H4, I4, q3⟩
end
def dctK (d : D) (k : List (D × D) → RS) : RS := match d with
  | .dct l => k l
  | _ => .no
def fVPut (K i : Nat) (p : FV) (e v : FE) : FS := fun ρ S => (v ρ S).bindS ρ fun x S1 => (p ρ S1).bindS ρ fun js d S2 => (e ρ S2).bindS ρ fun k S3 => dctK d fun l =>
  if (keyF k = true ∧ sortOk l k = true ∧ l.length < 1000000) ∧ js.length + 1 ≤ K ∧ (K - js.length - 1 = 0 ∨ plainV x = true) then slotPut K (K - js.length - 1 + 1) i js (.dct (dput l k x)) S3 ρ else .no
section
variable {X : Cx} {T : Th} {Γ : List Md} {J : Jd} {i K : Nat}
theorem dctK_get {d : D} {k : List (D × D) → RS} {g : G} {H : Hp} {D : Ends} (h : GoodS T J Γ g H (dctK d k) D) : ∃ l, d = .dct l ∧ GoodS T J Γ g H (k l) D := by
  unfold dctK at h
  split at h
  · exact ⟨_, rfl, h⟩
  · exact h.elim
theorem xs_vput {st : Stmt} {o e v : Expr} {P : FV} {A B : FE} (hP : X.prog = T.pr) (hw : X.w = T.w) (hK : X.K = T.K) (hx : J.ΓX Γ) (hm : Γ.getD i .s = .o K) (ho : XPV X T J.W Γ i o P) (hi : XC X T J.W Γ e A) (hv : XE X T J.W Γ v B)
    (he : PE X v (tX T J.W Γ B) → PE X o (tPV T J.W Γ i P) → PE X e (tC1 T J.W Γ A) → PS X st (sNPut X.prog X.w X.K (tPV T J.W Γ i P) (tC1 T J.W Γ A) (tX T J.W Γ B))) : XS X T J Γ Γ st (fVPut K i P A B) := ps_imp (he hv ho hi) fun D σ H ⟨g, ρ, S, R, hg⟩ => by
  refine ⟨g, ρ, S, R, ?_⟩
  unfold fVPut at hg
  refine good_bindS R hx hg fun x S1 w g1 H1 eR R1 f1 s1 hg1 => ?_
  clear hg eR
  refine ⟨g1, ρ, S1, R1, ?_⟩
  cases ep : P ρ S1 with
  | no => rw [ep] at hg1; exact hg1.elim
  | exc y S2 => rw [ep] at hg1; exact fun c dd g' H' R' f' e => hg1 Γ c dd σ g' H' hx R' (f'.frs R1.dOB) e
  | ok js d S2 =>
    rw [ep] at hg1
    intro es v1 H2 e2 pl
    subst es
    refine ⟨g1, ρ, S2, R1.ex e2, ?_⟩
    replace hg1 : GoodS T J Γ g1 H1 ((A ρ S2).bindS ρ fun k S3 => dctK d fun l => if (keyF k = true ∧ sortOk l k = true ∧ l.length < 1000000) ∧ js.length + 1 ≤ K ∧ (K - js.length - 1 = 0 ∨ plainV x = true) then slotPut K (K - js.length - 1 + 1) i js (.dct (dput l k x)) S3 ρ else .no) D := hg1
    cases ea : A ρ S2 with
    | no => rw [ea] at hg1; exact hg1.elim
    | exc y S3 => rw [ea] at hg1; exact fun c dd g' H' R' f' e => hg1 Γ c dd σ g' H' hx R' (((FrE.ex e2).trans f').frs R1.dOB) e
    | ok k S3 =>
      rw [ea] at hg1
      intro es u H3 e3 su
      subst es
      obtain ⟨l, rfl, hg2⟩ := dctK_get (show GoodS T J Γ g1 H1 (dctK d _) D from hg1)
      clear hg1
      have hg1 := hg2
      split at hg1
      · rename_i hc
        obtain ⟨⟨c1, c2, c3⟩, c4, c5⟩ := hc
        have R3 := (R1.ex e2).ex e3
        have f3 : FrS g1 H1 g1 H3 := (FrE.ex (e2.trans e3)).frs R1.dOB
        obtain ⟨F', q1, q2, q3⟩ := putv_core (k := K - js.length - 1) (De := D) hm R3 f3 (pl.ex e3) (by omega)
        have sx := Shr.stay (.ex (e2.trans e3)) _ _ s1
        obtain ⟨p, ob, rfl, hF, np, hno, own⟩ := nput_own q2 c1 su sx c5 c2 c3
        exact ⟨p, _, rfl, by rw [hP, hw, hK]; exact np, q3 p ob F' (.dct (dput l k x)) hF hno (fun a z => z) own hg1⟩
      · exact hg1.elim
end
end Q

/-! Displays of dicts: keys constant texts, values [] or {} to be owned, or calm. -/
namespace Q
open PySem PySem.Spec PyProof.Rows L2
inductive Itm where
  | l
  | d
  | s (F : FE)
def eItms : List (Str × Itm) → Env → Store → Option (List (D × D))
  | [], _, _ => some []
  | (k, .l) :: r, ρ, S => (eItms r ρ S).map ((.str k, .lst []) :: ·)
  | (k, .d) :: r, ρ, S => (eItms r ρ S).map ((.str k, .dct []) :: ·)
  | (k, .s F) :: r, ρ, S => match F ρ S with
    | .ok x _ => if plainV x = true then (eItms r ρ S).map ((.str k, x) :: ·) else none
    | _ => none
def eDct (its : List (Str × Itm)) : FE := fun ρ S => match eItms its ρ S with
  | some l => if its.length ≤ 15 ∧ (its.map (·.1)).Nodup then .ok (.dct l) S else .no
  | none => .no
theorem plusF_plusF {g : G} {n : Nat} {F1 F2 : Addr → Prop} : (g.plusF n F1).plusF n F2 = g.plusF n (fun a => F1 a ∨ F2 a) := by
  unfold G.plusF
  congr 1
  funext j a
  apply propext
  constructor
  · rintro ((h | h) | h)
    · exact .inl h
    · exact .inr ⟨h.1, .inl h.2⟩
    · exact .inr ⟨h.1, .inr h.2⟩
  · rintro (h | ⟨h, h2 | h2⟩)
    · exact .inl (.inl h)
    · exact .inl (.inr ⟨h, h2⟩)
    · exact .inr ⟨h, h2⟩
theorem mergeK_nodup : ∀ (more kvs : List (Key × V)), ((kvs ++ more).map (·.1)).Nodup → mergeK kvs more = kvs ++ more
  | [], kvs, _ => by simp [mergeK]
  | p :: r, kvs, h => by
    have hn : valV kvs p.1 = none := by
      cases e : valV kvs p.1 with
      | none => rfl
      | some v =>
        exfalso
        have ha : (kvs.any fun kv => decide (kv.1 = p.1)) = true := by rw [valV_any, e]; rfl
        obtain ⟨q, hq, e2⟩ := List.any_eq_true.mp ha
        rw [List.map_append, List.nodup_append] at h
        exact h.2.2 q.1 (List.mem_map_of_mem hq) p.1 (by simp) (of_decide_eq_true e2)
    show mergeK (putK kvs p.1 p.2) r = _
    rw [putK_new _ hn, mergeK_nodup r (kvs ++ [(p.1, p.2)]) (by rw [List.append_assoc]; exact h), List.append_assoc]
    rfl
section
variable {X : Cx} {T : Th} {W : WX} {Γ : List Md}
def tItm (T : Th) (W : WX) (Γ : List Md) : Str × Itm → TE × TE
  | (k, .l) => (tC1 T W Γ (eC (.str k)), fun _ H Q => ∀ p, H p = none → Q (.ref p) (upd H p (.lst [])))
  | (k, .d) => (tC1 T W Γ (eC (.str k)), tDNewK)
  | (k, .s F) => (tC1 T W Γ (eC (.str k)), tC1 T W Γ F)
theorem pe_nilL {pos : Pos} : PE X (.List [] pos) (fun _ H Q => ∀ p, H p = none → Q (.ref p) (upd H p (.lst []))) := pe_imp (pe_lst pa_nil) fun σ H Q h => ⟨Nat.zero_le _, h⟩
theorem own_nilD {g : G} {H : Hp} {k : Nat} {F : Addr → Prop} {p : Addr} (hF : F p) (hH : H p = some (.dK [])) : Own T g H (k + 1) F (.dct []) (.ref p) := by
  simp only [Own]
  exact ⟨p, [], rfl, hF, .inl ⟨[], hH, rfl⟩, rfl, fun _ _ => False, fun _ _ z => z.elim, fun _ _ _ z => z.elim, fun j d w a => by simp at a⟩
def Gs0 (P : Addr → Prop) (Gs : Nat → Addr → Prop) : Nat → Addr → Prop
  | 0 => P
  | j + 1 => Gs j
theorem plusF_congr {g : G} {n : Nat} {F1 F2 : Addr → Prop} (h : ∀ a, F1 a ↔ F2 a) : g.plusF n F1 = g.plusF n F2 := by
  rw [show F1 = F2 from funext fun a => propext (h a)]
theorem gs0_ex {Fo P : Addr → Prop} {Gs : Nat → Addr → Prop} (a : Addr) : ((Fo a ∨ P a) ∨ ∃ j, Gs j a) ↔ (Fo a ∨ ∃ j, Gs0 P Gs j a) := by
  constructor
  · rintro ((h | h) | ⟨j, h⟩)
    · exact .inl h
    · exact .inr ⟨0, h⟩
    · exact .inr ⟨j + 1, h⟩
  · rintro (h | ⟨j, h⟩)
    · exact .inl (.inl h)
    · cases j with
      | zero => exact .inl (.inr h)
      | succ j => exact .inr ⟨j, h⟩
theorem gs0_inj {P : Addr → Prop} {Gs : Nat → Addr → Prop} (h : ∀ i j a, Gs i a → Gs j a → i = j) (hp : ∀ j a, Gs j a → ¬ P a) : ∀ i j a, Gs0 P Gs i a → Gs0 P Gs j a → i = j := fun i j a z z' => by
  cases i <;> cases j
  · rfl
  · exact absurd z (hp _ a z')
  · exact absurd z' (hp _ a z)
  · rw [h _ _ a z z']
theorem items_run {g : G} {ρ : Env} {S : Store} {σ : L2.St} : ∀ (its : List (Str × Itm)) (Fo : Addr → Prop) (H : Hp) (ls : List (D × D)) (Q : List (V × V) → Hp → Prop), Rel T (g.plusF ρ.length Fo) Γ ρ S σ H → eItms its ρ S = some ls →
    (∀ (vs : List V) (H' : Hp) (Gs : Nat → Addr → Prop), Exx H H' → Rel T (g.plusF ρ.length (fun a => Fo a ∨ ∃ j, Gs j a)) Γ ρ S σ H' → (∀ j a, Gs j a → H a = none) → (∀ i j a, Gs i a → Gs j a → i = j) → vs.length = its.length → ls.map (·.1) = its.map (fun p => D.str p.1) →
      (∀ (j : Nat) (d : D × D) (w : V), ls[j]? = some d → vs[j]? = some w → Own T (g.plusF ρ.length (fun a => Fo a ∨ ∃ j, Gs j a)) H' 1 (Gs j) d.2 w) → Q ((its.map fun p => V.str p.1).zip vs) H') → tPairs (its.map (tItm T W Γ)) σ H Q
  | [], Fo, H, ls, Q, R, he, hc => by
    cases he
    refine hc [] H (fun _ _ => False) (.refl H) ?_ (fun _ _ z => z.elim) (fun _ _ _ z => z.elim) rfl rfl fun j d w a => by simp at a
    rw [plusF_congr (F2 := Fo) (fun a => by simp)]
    exact R
  | (k, .l) :: its, Fo, H, ls, Q, R, he, hc => by
    obtain ⟨l2, e1, e2⟩ := Option.map_eq_some_iff.mp (show (eItms its ρ S).map ((.str k, .lst []) :: ·) = some ls from he)
    subst e2
    refine ⟨_, ρ, S, R, fun es v H1 x1 s1 p hp => ?_⟩
    have hv := shr_str.mp s1
    subst hv
    have R2 := (R.ex x1).fresh hp (o := .lst []) fun _ => ⟨nofun, fun _ => nofun⟩
    rw [plusF_plusF] at R2
    have x2 : Exx H1 (upd H1 p (.lst [])) := Exx.new hp
    refine items_run its _ _ l2 _ R2 e1 fun vs H' Gs x3 R3 h1 h2 h3 h4 h5 => ?_
    rw [plusF_congr gs0_ex] at R3 h5
    refine hc (.ref p :: vs) H' (Gs0 (· = p) Gs) (x1.trans (x2.trans x3)) R3 (fun j a z => ?_) (gs0_inj h2 fun j a z e => ?_) (by simp [h3]) (by simp [h4]) fun j d w a b => ?_
    · cases j with
      | zero => rw [show a = p from z]; exact x1.none hp
      | succ j => exact x1.none (x2.none (h1 j a z))
    · have := h1 j a z
      rw [e, upd_same] at this
      cases this
    · cases j with
      | zero => cases a; cases b; exact own_nilL rfl (x3 _ _ upd_same)
      | succ j => exact h5 j d w a b
  | (k, .d) :: its, Fo, H, ls, Q, R, he, hc => by
    obtain ⟨l2, e1, e2⟩ := Option.map_eq_some_iff.mp (show (eItms its ρ S).map ((.str k, .dct []) :: ·) = some ls from he)
    subst e2
    refine ⟨_, ρ, S, R, fun es v H1 x1 s1 p hp => ?_⟩
    have hv := shr_str.mp s1
    subst hv
    have R2 := (R.ex x1).fresh hp (o := .dK []) fun _ => ⟨nofun, fun _ => nofun⟩
    rw [plusF_plusF] at R2
    have x2 : Exx H1 (upd H1 p (.dK [])) := Exx.new hp
    refine items_run its _ _ l2 _ R2 e1 fun vs H' Gs x3 R3 h1 h2 h3 h4 h5 => ?_
    rw [plusF_congr gs0_ex] at R3 h5
    refine hc (.ref p :: vs) H' (Gs0 (· = p) Gs) (x1.trans (x2.trans x3)) R3 (fun j a z => ?_) (gs0_inj h2 fun j a z e => ?_) (by simp [h3]) (by simp [h4]) fun j d w a b => ?_
    · cases j with
      | zero => rw [show a = p from z]; exact x1.none hp
      | succ j => exact x1.none (x2.none (h1 j a z))
    · have := h1 j a z
      rw [e, upd_same] at this
      cases this
    · cases j with
      | zero => cases a; cases b; exact own_nilD rfl (x3 _ _ upd_same)
      | succ j => exact h5 j d w a b
  | (k, .s F) :: its, Fo, H, ls, Q, R, he, hc => by
    have he : (match F ρ S with
      | .ok x _ => if plainV x = true then (eItms its ρ S).map ((.str k, x) :: ·) else none
      | _ => none) = some ls := he
    refine ⟨_, ρ, S, R, fun es v H1 x1 s1 => ⟨_, ρ, S, R.ex x1, ?_⟩⟩
    have hv := shr_str.mp s1
    subst hv
    cases eF : F ρ S with
    | no => rw [eF] at he; cases he
    | exc y S1 => rw [eF] at he; cases he
    | ok x S1 =>
      rw [eF] at he
      dsimp only at he
      split at he
      · rename_i hpl
        obtain ⟨l2, e1, e2⟩ := Option.map_eq_some_iff.mp he
        subst e2
        intro es v H2 x2 sx
        refine items_run its _ _ l2 _ ((R.ex x1).ex x2) e1 fun vs H' Gs x3 R3 h1 h2 h3 h4 h5 => ?_
        have ec : g.plusF ρ.length (fun a => Fo a ∨ ∃ j, Gs j a) = g.plusF ρ.length (fun a => Fo a ∨ ∃ j, Gs0 (fun _ => False) Gs j a) := plusF_congr fun a => by rw [← gs0_ex]; simp
        rw [ec] at R3 h5
        refine hc (v :: vs) H' (Gs0 (fun _ => False) Gs) (x1.trans (x2.trans x3)) R3 (fun j a z => ?_) (gs0_inj h2 fun _ _ _ e => e) (by simp [h3]) (by simp [h4]) fun j d w a b => ?_
        · cases j with
          | zero => exact z.elim
          | succ j => exact x1.none (x2.none (h1 j a z))
        · cases j with
          | zero =>
            cases a; cases b
            refine own_plain (.inr hpl) (Shr.stay (g := g.plusF ρ.length Fo) (g' := g.plusF ρ.length (fun a => Fo a ∨ ∃ j, Gs0 (fun _ => False) Gs j a)) (H := H2) (H' := H') ⟨fun a o h _ => x3 a o h, fun a h => ?_, Nat.le_refl _, fun _ _ => rfl, rfl⟩ _ _ sx)
            rcases G.plusF_U.mp h with h | h | ⟨j, h⟩
            · exact .inl (G.plusF_U.mpr (.inl h))
            · exact .inl (G.plusF_U.mpr (.inr h))
            · cases j with
              | zero => exact h.elim
              | succ j => exact .inr (h1 j a h)
          | succ j => exact h5 j d w a b
      · cases he
end
end Q

/-! A display of a dict, fresh. -/
namespace Q
open PySem PySem.Spec PyProof.Rows L2
section
variable {X : Cx} {T : Th} {W : WX} {Γ : List Md}
/-- a write to what is owned beyond the slots -/
theorem Rel.writeP {g : G} {ρ : Env} {S : Store} {σ : L2.St} {H : Hp} {p : Addr} {o : HO} (R : Rel T g Γ ρ S σ H) (hp : g.F ρ.length p) (ho : ∀ u, o ≠ .tup u ∧ ∀ b, o ≠ .frz b (.tup u)) : Rel T g Γ ρ S σ (upd H p o) ∧ Stay g H g (upd H p o) := by
  have st : Stay g H g (upd H p o) := ⟨fun a u h hu => by rw [upd_ne (fun z => hu (.inr (.inl ⟨ρ.length, by rw [z]; exact hp⟩)))]; exact h, fun _ h => .inl h, Nat.le_refl _, fun _ _ => rfl, rfl⟩
  have stb : Stay g.bare H g.bare (upd H p o) := ⟨fun a u h hu => by rw [upd_ne (fun z => hu (.inr (.inl ⟨ρ.length, by rw [z]; exact hp⟩)))]; exact h, fun _ h => .inl h, Nat.le_refl _, fun _ _ => rfl, rfl⟩
  refine ⟨⟨R.len, fun j d' e => ?_, R.dF, R.dFO, R.dFB, R.dOB, fun a h => ?_, R.st.keep st (fun a u hb h => by rw [upd_ne (fun z => R.dFB ρ.length p hp (by rw [← z]; exact hb))]; exact h) rfl rfl rfl fun _ _ => rfl, nt_upd R.nt ho⟩, st⟩
  · have hj : ρ.length ≠ j := by
      have := (List.getElem?_eq_some_iff.mp e).1
      omega
    obtain ⟨w, h1, h2⟩ := R.slot j d' e
    refine ⟨w, h1, ?_⟩
    have kF : ∀ a u, g.F j a → H a = some u → upd H p o a = some u := fun a u z q => by rw [upd_ne (fun w => hj (R.dF _ j p hp (by rw [← w]; exact z)))]; exact q
    cases hm : Γ.getD j .s <;> rw [hm] at h2 <;> simp only [RepM] at h2 ⊢
    · exact h2.stay st
    · exact Own.keepF st _ _ _ _ kF h2
    · exact Own.keepF st _ _ _ _ (fun a u z q => by rw [upd_ne (fun w => R.dFO _ p hp (by rw [← w]; exact z))]; exact q) h2
    · exact ⟨h2.1, Own.keepF st _ _ _ _ kF h2.2⟩
    · exact h2
    · exact h2.stay stb
  · by_cases ha : a = p
    · subst ha; exact ⟨o, upd_same⟩
    · rw [upd_ne ha]; exact R.dom a h
theorem zipm {α β γ : Type} (f : α → β) : ∀ (l : List α) (vs : List γ), (l.map f).zip vs = (l.zip vs).map fun q => (f q.1, q.2)
  | [], _ => rfl
  | _ :: _, [] => rfl
  | a :: l, v :: vs => by
    simp only [List.map_cons, List.zip_cons_cons]
    rw [zipm f l vs]
theorem xf_dct {its : List (Str × Itm)} {keys : List (Option Expr)} {values : List Expr} {pos : Pos} (h : PPs X pos keys values (its.map (tItm T W Γ))) (hall : keys.all (·.isSome) = true) (hl : keys.length = values.length) (h0 : keys ≠ []) (h15 : keys.length ≤ 15) :
    XF X T W Γ 2 (.Dict keys values pos) (eDct its) := pe_imp (pe_disp h hall hl h0 h15) fun σ H Q ⟨g, ρ, S, R, hg⟩ => by
  intro p hp
  unfold eDct at hg
  cases he : eItms its ρ S with
  | none => rw [he] at hg; exact hg.elim
  | some ls =>
    rw [he] at hg
    dsimp only at hg
    split at hg
    · rename_i hc
      have R1 := R.fresh hp (o := .dK []) fun _ => ⟨nofun, fun _ => nofun⟩
      refine items_run its (· = p) _ ls _ R1 he fun vs H' Gs x R3 h1 h2 h3 h4 h5 => ?_
      have hH := x _ _ (upd_same (H := H) (a := p) (o := .dK []))
      have ek : (its.map fun p => V.str p.1).zip vs = ((its.map fun p => (Sum.inr p.1 : Key)).zip vs).map fun kv => (kV kv.1, kv.2) := by
        rw [zipm, zipm, List.map_map]
        rfl
      have en : mergeK [] ((its.map fun p => (Sum.inr p.1 : Key)).zip vs) = (its.map fun p => (Sum.inr p.1 : Key)).zip vs := by
        refine mergeK_nodup _ [] ?_
        rw [List.nil_append, List.map_fst_zip (by rw [List.length_map]; omega)]
        have := hc.2
        unfold List.Nodup at this ⊢
        rw [List.pairwise_map] at this ⊢
        exact this.imp fun hne e => hne (Sum.inr.inj e)
      refine ⟨hH, (its.map fun p => (Sum.inr p.1 : Key)).zip vs, ek, ?_, ?_⟩
      · rw [List.length_zip, List.length_map]; omega
      · rw [en]
        generalize hks : (its.map fun p => (Sum.inr p.1 : Key)).zip vs = ks at *
        obtain ⟨R4, st4⟩ := R3.writeP (p := p) (o := .dK ks) (.inr ⟨rfl, .inl rfl⟩) fun _ => ⟨nofun, fun _ => nofun⟩
        have xx : Exx H (upd H' p (.dK ks)) := fun a o e => by
          have ne : a ≠ p := fun z => by rw [z, hp] at e; cases e
          rw [upd_ne ne]
          exact x _ _ (by rw [upd_ne ne]; exact e)
        have nF : ∀ a, (a = p ∨ ∃ j, Gs j a) → H a = none := fun a z => by
          rcases z with z | ⟨j, z⟩
          · rw [z]; exact hp
          · have h6 := h1 j a z
            by_cases e : a = p
            · rw [e]; exact hp
            · rw [upd_ne e] at h6; exact h6
        have np : ∀ j a, Gs j a → a ≠ p := fun j a z e => by
          have h6 := h1 j a z
          rw [e, upd_same] at h6
          cases h6
        refine hg _ g _ (fun a => a = p ∨ ∃ j, Gs j a) R4 (.ex xx) (fun a z => ⟨fun u => ?_, .inr (nF a z)⟩) ?_
        · obtain ⟨o, q⟩ := R.dom a u
          rw [nF a z] at q; cases q
        · have hlen : ls.length = its.length := by
            have := congrArg List.length h4
            simpa using this
          have hkl : ks.length = its.length := by rw [← hks, List.length_zip, List.length_map, h3, Nat.min_self]
          simp only [Own]
          refine ⟨p, _, rfl, .inl rfl, .inl ⟨ks, upd_same, rfl⟩, by rw [List.length_map, hlen, hkl], Gs, fun j a z => ⟨.inr ⟨j, z⟩, np j a z⟩, h2, fun j d w a b => ?_⟩
          rw [← ek, zipm, List.getElem?_map] at b
          obtain ⟨q, b1, b2⟩ := Option.map_eq_some_iff.mp b
          subst b2
          obtain ⟨b3, b4⟩ := List.getElem?_zip_eq_some.mp b1
          have e5 : (ls.map (·.1))[j]? = (its.map fun p => D.str p.1)[j]? := by rw [h4]
          rw [List.getElem?_map, List.getElem?_map, a, b3] at e5
          have e5 : d.1 = .str q.1.1 := Option.some.inj e5
          refine ⟨by rw [e5]; exact shr_str.mpr rfl, ?_⟩
          exact Own.keepF st4 _ _ _ _ (fun c u z e => by rw [upd_ne (np j c z)]; exact e) (h5 j d q.2 a b4)
    · exact hg.elim
end
end Q

/-! max, min of a list of whole numbers. -/
namespace Q
open PySem PySem.Spec PyProof.Rows L2
def mxI : List Int → Int
  | [] => 0
  | [a] => a
  | a :: b :: r => if a < mxI (b :: r) then mxI (b :: r) else a
def mnI : List Int → Int
  | [] => 0
  | [a] => a
  | a :: b :: r => if mnI (b :: r) < a then mnI (b :: r) else a
theorem mxI_spec : ∀ ns : List Int, ns ≠ [] → mxI ns ∈ ns ∧ ∀ a ∈ ns, a ≤ mxI ns
  | [], h => absurd rfl h
  | [a], _ => ⟨by simp [mxI], fun b hb => by rw [List.mem_singleton.mp hb]; exact Int.le_refl _⟩
  | a :: b :: r, _ => by
    obtain ⟨h1, h2⟩ := mxI_spec (b :: r) (List.cons_ne_nil _ _)
    unfold mxI
    by_cases h : a < mxI (b :: r)
    · rw [if_pos h]
      refine ⟨List.mem_cons_of_mem _ h1, fun c hc => ?_⟩
      rcases List.mem_cons.mp hc with e | e
      · omega
      · exact h2 c e
    · rw [if_neg h]
      refine ⟨List.mem_cons_self .., fun c hc => ?_⟩
      rcases List.mem_cons.mp hc with e | e
      · omega
      · have := h2 c e; omega
theorem mnI_spec : ∀ ns : List Int, ns ≠ [] → mnI ns ∈ ns ∧ ∀ a ∈ ns, mnI ns ≤ a
  | [], h => absurd rfl h
  | [a], _ => ⟨by simp [mnI], fun b hb => by rw [List.mem_singleton.mp hb]; exact Int.le_refl _⟩
  | a :: b :: r, _ => by
    obtain ⟨h1, h2⟩ := mnI_spec (b :: r) (List.cons_ne_nil _ _)
    unfold mnI
    by_cases h : mnI (b :: r) < a
    · rw [if_pos h]
      refine ⟨List.mem_cons_of_mem _ h1, fun c hc => ?_⟩
      rcases List.mem_cons.mp hc with e | e
      · omega
      · exact h2 c e
    · rw [if_neg h]
      refine ⟨List.mem_cons_self .., fun c hc => ?_⟩
      rcases List.mem_cons.mp hc with e | e
      · omega
      · have := h2 c e; omega
theorem ints_items : ∀ (ns : List Int) (its : List Value), Vals (ns.map V.int) its → ∃ xs : List (Int × Tok), its = xs.map (fun p => Value.int p.1 p.2) ∧ xs.map (·.1) = ns
  | [], its, h => by cases h; exact ⟨[], rfl, rfl⟩
  | n :: ns, its, h => by
    cases h with
    | cons h1 h2 =>
      obtain ⟨t, rfl⟩ := (show ∃ t, _ = Value.int n t from h1)
      obtain ⟨xs, rfl, e⟩ := ints_items ns _ h2
      exact ⟨(n, t) :: xs, rfl, by rw [List.map_cons, e]⟩
abbrev rMaxI (K : PySem.W.Frag) : List V → Hp → VK → Prop := fun vs H Q => ∃ p ns, vs = [V.ref p] ∧ SqL K H p (ns.map V.int) ∧ ns ≠ [] ∧ Q (.int (mxI ns)) H
theorem call_maxI {X : Cx} (hc : X.calm = true) : CallR X (.builtin "max") (rMaxI X.K) := by
  intro pins s σ H vs us Q I r h
  obtain ⟨p, ns, rfl, hs, hne, q⟩ := h
  obtain ⟨its, rv, hl, _⟩ := I.list hs
  rw [Vals.ref1 r]
  obtain ⟨xs, rfl, e⟩ := ints_items ns its rv
  have hl' : s.heap.IsList p (intItems xs.toArray) := by
    have h1 := hl.isList
    rwa [show (xs.map fun p => Value.int p.1 p.2).toArray = intItems xs.toArray by simp [intItems]] at h1
  have hx : xs ≠ [] := fun z => hne (by rw [← e, z]; rfl)
  have hx0 : 0 < xs.length := List.length_pos_iff.mpr hx
  refine max_intList (I.ok.hd hc) hl' (by simpa using hx0) fun v h' tk hv hk => ?_
  obtain ⟨t, rfl⟩ := intItems_at hv
  obtain ⟨h1, h2⟩ := argBest_gt (numAt xs.toArray) (xs.toArray.size - 1)
  obtain ⟨m1, m2⟩ := mxI_spec ns hne
  have hsz : xs.toArray.size = ns.length := by rw [← e]; simp
  have hn : ∀ j, numAt xs.toArray j = ns.getD j 0 := fun j => by rw [numAt_eq]; simp [e]
  have hle : ns.length ≠ 0 := by rw [← e, List.length_map]; omega
  generalize hM : numAt xs.toArray _ = M at h2 ⊢
  have e1 : M = mxI ns := by
    have hmem : M ∈ ns := by rw [← hM, hn]; exact getD_mem (by rw [← hsz]; omega)
    obtain ⟨j, hj, ej⟩ := mem_getD m1
    have k1 := h2 j (by rw [hsz]; omega)
    rw [hn, ej] at k1
    have k2 := m2 M hmem
    omega
  rw [e1]
  exact ⟨_, H, I.kept hk, (show RelV (V.int _) _ from ⟨t, rfl⟩), q⟩
abbrev rMinI (K : PySem.W.Frag) : List V → Hp → VK → Prop := fun vs H Q => ∃ p ns, vs = [V.ref p] ∧ SqL K H p (ns.map V.int) ∧ ns ≠ [] ∧ Q (.int (mnI ns)) H
theorem call_minI {X : Cx} (hc : X.calm = true) : CallR X (.builtin "min") (rMinI X.K) := by
  intro pins s σ H vs us Q I r h
  obtain ⟨p, ns, rfl, hs, hne, q⟩ := h
  obtain ⟨its, rv, hl, _⟩ := I.list hs
  rw [Vals.ref1 r]
  obtain ⟨xs, rfl, e⟩ := ints_items ns its rv
  have hl' : s.heap.IsList p (intItems xs.toArray) := by
    have h1 := hl.isList
    rwa [show (xs.map fun p => Value.int p.1 p.2).toArray = intItems xs.toArray by simp [intItems]] at h1
  have hx : xs ≠ [] := fun z => hne (by rw [← e, z]; rfl)
  have hx0 : 0 < xs.length := List.length_pos_iff.mpr hx
  refine min_intList (I.ok.hd hc) hl' (by simpa using hx0) fun v h' tk hv hk => ?_
  obtain ⟨t, rfl⟩ := intItems_at hv
  obtain ⟨h1, h2⟩ := argBest_lt (numAt xs.toArray) (xs.toArray.size - 1)
  obtain ⟨m1, m2⟩ := mnI_spec ns hne
  have hsz : xs.toArray.size = ns.length := by rw [← e]; simp
  have hn : ∀ j, numAt xs.toArray j = ns.getD j 0 := fun j => by rw [numAt_eq]; simp [e]
  have hle : ns.length ≠ 0 := by rw [← e, List.length_map]; omega
  generalize hM : numAt xs.toArray _ = M at h2 ⊢
  have e1 : M = mnI ns := by
    have hmem : M ∈ ns := by rw [← hM, hn]; exact getD_mem (by rw [← hsz]; omega)
    obtain ⟨j, hj, ej⟩ := mem_getD m1
    have k1 := h2 j (by rw [hsz]; omega)
    rw [hn, ej] at k1
    have k2 := m2 M hmem
    omega
  rw [e1]
  exact ⟨_, H, I.kept hk, (show RelV (V.int _) _ from ⟨t, rfl⟩), q⟩
def hMaxI : List D → Option D
  | [.lst l] => (intsOf l).bind fun ns => if ns.isEmpty = true then none else some (.int (mxI ns))
  | _ => none
def hMinI : List D → Option D
  | [.lst l] => (intsOf l).bind fun ns => if ns.isEmpty = true then none else some (.int (mnI ns))
  | _ => none
theorem ok_maxI {T : Th} : LsOk T (rMaxI T.K) hMaxI := by
  intro g H xs z vs s e hd Q q
  match xs, e, s with
  | [.lst l], e, s =>
    simp only [hMaxI] at e
    obtain ⟨ns, en, e⟩ := Option.bind_eq_some_iff.mp e
    split at e
    · cases e
    · rename_i hne
      cases e
      simp only [ShrL] at s
      obtain ⟨v, _, rfl, sv, rfl⟩ := s
      obtain ⟨a, ws, rfl, la, ra⟩ := shr_lst.mp sv
      obtain ⟨h1, h2⟩ := intsOf_map en ra
      subst h1
      exact ⟨a, ns, rfl, .of la.1, fun z => hne (by rw [z]; rfl), q _ H (.refl H) (shr_int.mpr rfl)⟩
theorem ok_minI {T : Th} : LsOk T (rMinI T.K) hMinI := by
  intro g H xs z vs s e hd Q q
  match xs, e, s with
  | [.lst l], e, s =>
    simp only [hMinI] at e
    obtain ⟨ns, en, e⟩ := Option.bind_eq_some_iff.mp e
    split at e
    · cases e
    · rename_i hne
      cases e
      simp only [ShrL] at s
      obtain ⟨v, _, rfl, sv, rfl⟩ := s
      obtain ⟨a, ws, rfl, la, ra⟩ := shr_lst.mp sv
      obtain ⟨h1, h2⟩ := intsOf_map en ra
      subst h1
      exact ⟨a, ns, rfl, .of la.1, fun z => hne (by rw [z]; rfl), q _ H (.refl H) (shr_int.mpr rfl)⟩
end Q

/-! Loose isinstance; lists put together or sorted, fresh. -/
namespace Q
open PySem PySem.Spec PyProof.Rows L2
section
variable {X : Cx} {T : Th} {W : WX} {Γ : List Md}
theorem xq_isi {e a : Expr} {A : FE} {n : String} (hK : X.K = T.K) (ha : XQ X T W Γ a A) (he : PE X a (tQ T W Γ A) → PE X e (tCB (rIsi X.K) (tCons (tQ T W Γ A) (tCons (tC (.ty n)) tNil)))) : XQ X T W Γ e (eUn (hIsi n) A) := pe_imp (he ha) fun σ H Q ⟨g, ρ, S, R, hg⟩ =>
  ⟨g, ρ, S, R, goodQ_bind hg fun x S1 v g1 H1 _ R1 f1 s1 hg1 => by
    obtain ⟨z, ez, hg3⟩ := goodQ_of hg1
    obtain ⟨m, e1, e2⟩ := Option.bind_eq_some_iff.mp ez
    obtain ⟨b, e3, e4⟩ := Option.map_eq_some_iff.mp e2
    subst e4
    refine ⟨v, .ty n, .type m, .type n, b, rfl, .ty n, by rw [hK]; exact ty_shr s1 e1, kit_ty e3, hg3 _ g1 H1 R1 (.refl _ _) (shr_bl.mpr rfl)⟩⟩
theorem goodTQ_bind {ρ : Env} {σ : L2.St} {g : G} {H : Hp} {r : RE} {k : D → Store → RE} {Q : Bool → Hp → Prop} {Q' : VK} (h : GoodT T W Γ ρ σ g H (r.bind k) Q)
    (hk : ∀ d S v g' H', r = .ok d S → Rel T g' Γ ρ S σ H' → FrE g H g' H' → Shr T g'.bb H' d v → GoodT T W Γ ρ σ g' H' (k d S) Q → Q' v H') : GoodQ T W Γ ρ σ g H r Q' := by
  cases r with
  | ok d S =>
    intro v g' H' R f s
    refine hk d S v g' H' rfl R f s ?_
    have h' : GoodT T W Γ ρ σ g H (k d S) Q := h
    cases e : k d S with
    | ok d2 S2 =>
      rw [e] at h'
      obtain ⟨b, e2, h'⟩ := h'
      exact ⟨b, e2, fun g2 H2 R2 f2 => h' g2 H2 R2 (f.trans f2)⟩
    | exc x S2 =>
      rw [e] at h'
      exact fun c dd g2 H2 R2 f2 s2 => h' c dd g2 H2 R2 (f.trans f2) s2
    | no => rw [e] at h'; exact h'
  | exc x S => exact h
  | no => exact h
/-- a comparison of loose values, as a test -/
theorem xt_qop {e : Expr} {r : R2} {h : D → D → Option D} {a b : Expr} {A B : FE} (ok : OpOk T r h) (ha : XQ X T W Γ a A) (hb : XQ X T W Γ b B)
    (he : PE X a (tQ T W Γ A) → PE X b (tQ T W Γ B) → PT X e (tTest (tOp r (tQ T W Γ A) (tQ T W Γ B)))) : XT X T W Γ e (eOp h A B) := pt_imp (he ha hb) fun σ H Q ⟨g, ρ, S, R, hg⟩ =>
  ⟨g, ρ, S, R, goodTQ_bind hg fun x S1 v g1 H1 _ R1 f1 s1 hg1 => ⟨g1, ρ, S1, R1, goodTQ_bind hg1 fun y S2 w g2 H2 _ R2 f2 s2 hg2 => by
    cases ez : h x y with
    | none => rw [ez] at hg2; exact hg2.elim
    | some z =>
      rw [ez] at hg2
      obtain ⟨b, rfl, hg3⟩ := hg2
      exact ok g2.bb H2 x y _ v w (s1.stay f2.bb) s2 ez (fun a u => R2.dom a (.inr (.inr (G.bb_U.mp u)))) _ fun u H' ex su => ⟨b, shr_bl.mp su, hg3 g2 H' (R2.ex ex) (.ex ex)⟩⟩⟩
/-- sorted(l), fresh -/
theorem xf_sort {e a : Expr} {A : FE} (hK : X.K = T.K) (ha : XE X T W Γ a A) (he : PE X a (tX T W Γ A) → PE X e (tUn (rSort1 X.K) (tX T W Γ A))) : XF X T W Γ 1 e (eUn hSort A) := pe_imp (he ha) fun σ H Q ⟨g, ρ, S, R, hg⟩ => by
  refine ⟨g, ρ, S, R, ?_⟩
  unfold eUn at hg
  cases r : A ρ S with
  | no => rw [r] at hg; exact hg
  | exc x S1 => rw [r] at hg; exact hg
  | ok d S1 =>
    rw [r] at hg
    intro v g1 H1 R1 f1 s1
    have hg : GoodN T W Γ 1 ρ σ g H (RE.of S1 (hSort d)) Q := hg
    obtain ⟨l, rfl⟩ : ∃ l, d = .lst l := by
      cases d <;> simp only [hSort] at hg <;> first | exact hg.elim | exact ⟨_, rfl⟩
    obtain ⟨a, vs, rfl, la, ra⟩ := shr_lst.mp s1
    simp only [hSort] at hg
    cases en : intsOf l with
    | none => rw [en] at hg; exact hg.elim
    | some ns =>
      rw [en] at hg
      have hg : GoodN T W Γ 1 ρ σ g H (RE.ok (.lst ((isort ns).map .int)) S1) Q := hg
      obtain ⟨h1, h2⟩ := intsOf_map en ra
      subst h1
      refine ⟨a, ns, rfl, .of la.1, fun ms p hp hs hn => ?_⟩
      rw [isort_eq hs hp]
      refine hg _ g1 _ (· = p) (R1.fresh hn fun _ => ⟨nofun, fun _ => nofun⟩) (f1.trans (.ex (Exx.new hn))) (fun a z => ⟨(R1.fresh_out hn a z).1, ?_⟩) (R1.fresh_lst hn (shrL_int _))
      rw [z]; exact f1.none hn
def hCat : D → D → Option D
  | .lst a, .lst b => if a.length + b.length ≤ 1000000 then some (.lst (a ++ b)) else none
  | _, _ => none
theorem hCat_lst {a b : List D} (h : a.length + b.length ≤ 1000000) : hCat (.lst a) (.lst b) = some (.lst (a ++ b)) := if_pos h
theorem hCat_some {x y z : D} (h : hCat x y = some z) : ∃ a b, x = .lst a ∧ y = .lst b ∧ a.length + b.length ≤ 1000000 ∧ z = .lst (a ++ b) := by
  cases x <;> cases y <;> simp only [hCat] at h <;> first | (cases h; done) | skip
  split at h
  · rename_i hl
    cases h
    exact ⟨_, _, rfl, rfl, hl, rfl⟩
  · cases h
/-- l + m, fresh; l a slot's own list -/
theorem xf_catO {i : Nat} {e a b : Expr} {B : FE} (hm : Γ.getD i .s = .o 1) (hv : PE X a (tVar i)) (hb : XE X T W Γ b B) (he : PE X a (tVar i) → PE X b (tX T W Γ B) → PE X e (tOp rCat (tVar i) (tX T W Γ B))) : XF X T W Γ 1 e (eOp hCat (eVar i) B) := pe_imp (he hv hb) fun σ H Q ⟨g, ρ, S, R, hg⟩ => by
  unfold eOp eVar at hg
  cases e : ρ[i]? with
  | none => simp only [e] at hg; exact hg.elim
  | some o =>
    cases o with
    | none => simp only [e] at hg; exact hg.elim
    | some d =>
      simp only [e] at hg
      obtain ⟨v, h1, h2⟩ := R.slot i d e
      rw [hm] at h2
      refine ⟨v, h1, g, ρ, S, R, ?_⟩
      have h2 : Own T g H 1 (g.F i) d v := h2
      have hg : GoodN T W Γ 1 ρ σ g H ((B ρ S).bind fun y S2 => RE.of S2 (hCat d y)) Q := hg
      cases r : B ρ S with
      | no => rw [r] at hg; exact hg
      | exc x S1 => rw [r] at hg; exact hg
      | ok y S1 =>
        rw [r] at hg
        intro w g1 H1 R1 f1 s1
        have hg : GoodN T W Γ 1 ρ σ g H (RE.of S1 (hCat d y)) Q := hg
        cases ez : hCat d y with
        | none => rw [ez] at hg; exact hg.elim
        | some z =>
          rw [ez] at hg
          obtain ⟨l, m, rfl, rfl, hl, rfl⟩ := hCat_some ez
          have hg : GoodN T W Γ 1 ρ σ g H (RE.ok (.lst (l ++ m)) S1) Q := hg
          simp only [Own] at h2
          obtain ⟨p, vs, rfl, hF, hH, hl1, Gs, _, _, h3⟩ := h2
          have sl := ShrL.stay f1.stay _ _ (ShrL.of hl1 h3)
          obtain ⟨b, ws, rfl, lb, rb⟩ := shr_lst.mp s1
          refine ⟨p, b, vs, ws, rfl, rfl, f1.keep p _ hH (R.dFB i p hF), lb.1, by rw [← hl1, ← rb.length]; exact sz6 hl, fun q hq => ?_⟩
          refine hg _ g1 _ (· = q) (R1.fresh hq fun _ => ⟨nofun, fun _ => nofun⟩) (f1.trans (.ex (Exx.new hq))) (fun a z => ⟨(R1.fresh_out hq a z).1, ?_⟩) (R1.fresh_lst hq (sl.append rb))
          rw [z]; exact f1.none hq
/-- .. both shared -/
theorem xf_cat {e a b : Expr} {A B : FE} (ha : XE X T W Γ a A) (hb : XE X T W Γ b B) (he : PE X a (tX T W Γ A) → PE X b (tX T W Γ B) → PE X e (tOp rCat (tX T W Γ A) (tX T W Γ B))) : XF X T W Γ 1 e (eOp hCat A B) := pe_imp (he ha hb) fun σ H Q ⟨g, ρ, S, R, hg⟩ => by
  refine ⟨g, ρ, S, R, ?_⟩
  unfold eOp at hg
  cases r0 : A ρ S with
  | no => rw [r0] at hg; exact hg
  | exc x S1 => rw [r0] at hg; exact hg
  | ok d S0 =>
    rw [r0] at hg
    intro v g0 H0 R0 f0 s0
    refine ⟨g0, ρ, S0, R0, ?_⟩
    have hg : GoodN T W Γ 1 ρ σ g H ((B ρ S0).bind fun y S2 => RE.of S2 (hCat d y)) Q := hg
    cases r : B ρ S0 with
    | no => rw [r] at hg; exact hg
    | exc x S1 => rw [r] at hg; exact fun c dd g' H' R' f' h => hg c dd g' H' R' (f0.trans f') h
    | ok y S1 =>
      rw [r] at hg
      intro w g1 H1 R1 f1 s1
      have hg : GoodN T W Γ 1 ρ σ g H (RE.of S1 (hCat d y)) Q := hg
      cases ez : hCat d y with
      | none => rw [ez] at hg; exact hg.elim
      | some z =>
        rw [ez] at hg
        obtain ⟨l, m, rfl, rfl, hl, rfl⟩ := hCat_some ez
        have hg : GoodN T W Γ 1 ρ σ g H (RE.ok (.lst (l ++ m)) S1) Q := hg
        obtain ⟨p, vs, rfl, la, ra⟩ := shr_lst.mp (s0.stay f1.stay)
        obtain ⟨b, ws, rfl, lb, rb⟩ := shr_lst.mp s1
        refine ⟨p, b, vs, ws, rfl, rfl, la.1, lb.1, by rw [← ra.length, ← rb.length]; exact sz6 hl, fun q hq => ?_⟩
        refine hg _ g1 _ (· = q) (R1.fresh hq fun _ => ⟨nofun, fun _ => nofun⟩) ((f0.trans f1).trans (.ex (Exx.new hq))) (fun a z => ⟨(R1.fresh_out hq a z).1, ?_⟩) (R1.fresh_lst hq (ra.append rb))
        rw [z]; exact (f0.trans f1).none hq
end
end Q

/-! isinstance of several types; a def that calls itself. -/
namespace Q
open PySem PySem.Spec PyProof.Rows L2
def kitAnyB (n : String) : List String → Option Bool
  | [] => some false
  | c :: cs => match kitB n c with
    | some true => some true
    | some false => kitAnyB n cs
    | none => none
theorem kitAnyB_ok {K : PySem.W.Frag} {n : String} : ∀ {cs : List String} {r : Bool}, kitAnyB n cs = some r → PySem.W.kitAny K (.type n) (cs.map Value.type) = some r
  | [], r, h => by cases h; exact kitAny_nil
  | c :: cs, r, h => by
    unfold kitAnyB at h
    cases e : kitB n c with
    | none => rw [e] at h; cases h
    | some b =>
      rw [e] at h
      cases b with
      | true => cases h; exact kitAny_cons (kit_ty e) (fun z => nomatch z) (fun _ => rfl)
      | false => exact kitAny_cons (kit_ty e) (fun _ => kitAnyB_ok h) (fun z => nomatch z)
def hIsiT (ns : List String) (d : D) : Option D := (tyD d).bind fun n => (kitAnyB n ns).map .bl
theorem clsV_tys : ∀ ns : List String, Paired ClsV (ns.map fun n => V.ty n) (ns.map Value.type)
  | [] => .nil
  | n :: ns => .cons (.ty n) (clsV_tys ns)
section
variable {X : Cx} {T : Th} {W : WX} {Γ : List Md}
/-- isinstance(x, (T, U, ..)), built-in types -/
theorem xe_isiT {e a : Expr} {A : FE} {ns : List String} (hK : X.K = T.K) (hl : ns.length ≤ 1000) (ha : XE X T W Γ a A) (he : PE X a (tX T W Γ A) → PE X e (tCB (rIsiT X.K) (tCons (tX T W Γ A) (tCons (tTup fun _ H Q => Q (ns.map fun n => V.ty n) H) tNil)))) : XE X T W Γ e (eUn (hIsiT ns) A) := pe_imp (he ha) fun σ H Q ⟨g, ρ, S, R, hg⟩ =>
  ⟨g, ρ, S, R, good_bind hg fun x S1 v g1 H1 _ R1 f1 s1 hg1 => by
    obtain ⟨z, ez, hg3⟩ := good_of hg1
    obtain ⟨m, e1, e2⟩ := Option.bind_eq_some_iff.mp ez
    obtain ⟨b, e3, e4⟩ := Option.map_eq_some_iff.mp e2
    subst e4
    refine ⟨Nat.le_of_lt (small1000 (by rw [List.length_map]; exact hl)), fun p hp => ⟨v, p, _, .type m, _, b, rfl, upd_same, clsV_tys ns, ?_, kitAnyB_ok e3, hg3 _ g1 _ (R1.ex (Exx.new hp)) (.ex (Exx.new hp)) (shr_bl.mpr rfl)⟩⟩
    rw [hK]
    exact ty_shr (s1.stay (.ex (Exx.new hp))) e1⟩
theorem xq_isiT {e a : Expr} {A : FE} {ns : List String} (hK : X.K = T.K) (hl : ns.length ≤ 1000) (ha : XQ X T W Γ a A) (he : PE X a (tQ T W Γ A) → PE X e (tCB (rIsiT X.K) (tCons (tQ T W Γ A) (tCons (tTup fun _ H Q => Q (ns.map fun n => V.ty n) H) tNil)))) : XQ X T W Γ e (eUn (hIsiT ns) A) := pe_imp (he ha) fun σ H Q ⟨g, ρ, S, R, hg⟩ =>
  ⟨g, ρ, S, R, goodQ_bind hg fun x S1 v g1 H1 _ R1 f1 s1 hg1 => by
    obtain ⟨z, ez, hg3⟩ := goodQ_of hg1
    obtain ⟨m, e1, e2⟩ := Option.bind_eq_some_iff.mp ez
    obtain ⟨b, e3, e4⟩ := Option.map_eq_some_iff.mp e2
    subst e4
    refine ⟨Nat.le_of_lt (small1000 (by rw [List.length_map]; exact hl)), fun p hp => ⟨v, p, _, .type m, _, b, rfl, upd_same, clsV_tys ns, ?_, kitAnyB_ok e3, hg3 _ g1 _ (R1.ex (Exx.new hp)) (.ex (Exx.new hp)) (shr_bl.mpr rfl)⟩⟩
    rw [hK]
    exact ty_shr (s1.stay (.ex (Exx.new hp))) e1⟩
end
theorem isiT_tup {l : List D} : hIsiT ["tuple", "list"] (.tup l) = some (.bl true) := by
  show (kitAnyB "tuple" ["tuple", "list"]).map D.bl = _
  rw [show kitAnyB "tuple" ["tuple", "list"] = some true by decide +kernel]
  rfl
theorem isiT_lst {l : List D} : hIsiT ["tuple", "list"] (.lst l) = some (.bl true) := by
  show (kitAnyB "list" ["tuple", "list"]).map D.bl = _
  rw [show kitAnyB "list" ["tuple", "list"] = some true by decide +kernel]
  rfl
theorem isiT_int {i : Int} : hIsiT ["tuple", "list"] (.int i) = some (.bl false) := by
  show (kitAnyB "int" ["tuple", "list"]).map D.bl = _
  rw [show kitAnyB "int" ["tuple", "list"] = some false by decide +kernel]
  rfl
theorem isiT_bl {i : Bool} : hIsiT ["tuple", "list"] (.bl i) = some (.bl false) := by
  show (kitAnyB "bool" ["tuple", "list"]).map D.bl = _
  rw [show kitAnyB "bool" ["tuple", "list"] = some false by decide +kernel]
  rfl
theorem isi_tuple_lst {l : List D} : hIsi "tuple" (.lst l) = some (.bl false) := by
  show (kitB "list" "tuple").map D.bl = _
  rw [show kitB "list" "tuple" = some false by decide +kernel]
  rfl
/-- int(x), of a whole number, a truth or a text -/
def hIntA : D → Option D
  | .int i => some (.int i)
  | .bl b => some (.int (if b = true then 1 else 0))
  | d => hIntS d
def rIntA : List V → Hp → VK → Prop := fun xs H Q => ((∃ i, xs = [.int i] ∧ Q (.int i) H) ∨ ∃ k : Bool, xs = [.bl k] ∧ Q (.int (if k then 1 else 0)) H) ∨ rIntS xs H Q
theorem call_intA {X : Cx} : CallR X (.type "int") rIntA := callr_or call_int1 call_int_str
theorem ok_intA {T : Th} : UnOk T (r1 rIntA) hIntA := by
  intro g H x z v sx e hd Q q
  cases x with
  | int i => cases e; exact .inl (.inl ⟨i, by rw [shr_int.mp sx], q _ H (.refl H) (shr_int.mpr rfl)⟩)
  | bl b => cases e; exact .inl (.inr ⟨b, by rw [shr_bl.mp sx], q _ H (.refl H) (shr_int.mpr rfl)⟩)
  | _ => exact .inr (ok_intS g H _ z v sx e hd Q q)
theorem hIntA_str {x : Str} : hIntA (.str x) = hIntS (.str x) := rfl
theorem hIntA_bl {b : Bool} : hIntA (.bl b) = some (.int (if b = true then 1 else 0)) := rfl
theorem hIntA_int {i : Int} : hIntA (.int i) = some (.int i) := rfl
/-- a def that is never called -/
theorem fn_no {T : Th} {P : Program} {w : World} {K : PySem.W.Frag} {mg : Str → Option Value} {base : Heap} {CX : CXT} {k n : Nat} {f : Addr} {fd : FuncData} {ps : List Str} {sg : Sig} (hn : ps.length = n) : FnOk P w K mg base CX k f fd ps (spD T n sg fun _ _ => .no) :=
  ⟨fun vs H Q E h => by rw [hn]; exact h.1, fun A outer s H args us vs Q E _ _ _ _ h => by
    obtain ⟨_, g, ds, S, R, hf⟩ := h
    exact hf.elim⟩
end Q

/-! A loop over a list that a slot owns: lent for the loop's time. -/
namespace Q
open PySem PySem.Spec PyProof.Rows L2
/-- no row of others' lists -/
def noRB (Γ : List Md) : Bool := Γ.all fun m => match m with
  | .r _ => false
  | .l => false
  | _ => true
theorem noRB_l {Γ : List Md} (h : noRB Γ = true) (j : Nat) : Γ.getD j .s ≠ .l := fun e => by
  rw [List.getD_eq_getElem?_getD] at e
  cases q : Γ[j]? with
  | none => rw [q] at e; cases e
  | some m =>
    rw [q] at e
    have e : m = .l := e
    have := List.all_eq_true.mp h m (List.mem_of_getElem? q)
    rw [e] at this
    cases this
theorem noRB_get {Γ : List Md} (h : noRB Γ = true) (j k : Nat) : Γ.getD j .s ≠ .r k := fun e => by
  rw [List.getD_eq_getElem?_getD] at e
  cases q : Γ[j]? with
  | none => rw [q] at e; cases e
  | some m =>
    rw [q] at e
    have e : m = .r k := e
    have := List.all_eq_true.mp h m (List.mem_of_getElem? q)
    rw [e] at this
    cases this
section
variable {X : Cx} {T : Th} {W : WX} {Γ : List Md} {J : Jd}
theorem RepM.less {g g2 : G} {H H' : Hp} {i : Nat} {m : Md} {d : D} {v : V} (hm : ∀ k, m ≠ .r k) (hl : m ≠ .l) (h : RepM T g H i m d v) (st : Stay g H g2 H) (hF : ∀ a, g.F i a → g2.F i a) (hP : g2.P i = g.P i) : RepM T g2 H i m d v := by
  cases m with
  | s => exact Shr.stay st _ _ h
  | o k => exact (Own.wide k _ _ d v hF (Own.keepF st k _ d v (fun _ _ _ q => q) h) : Own T g2 H k (g2.F i) d v)
  | r k => exact absurd rfl (hm k)
  | p k => exact ⟨by rw [hP]; exact h.1, (Own.wide k _ _ d v hF (Own.keepF st k _ d v (fun _ _ _ q => q) h.2) : Own T g2 H k (g2.F i) d v)⟩
  | e w => exact h
  | l => exact absurd rfl hl
theorem Rel.lessO {g : G} {ρ : Env} {S : Store} {σ : L2.St} {H : Hp} {O : Addr → Prop} (R : Rel T g Γ ρ S σ H) (hn : noRB Γ = true) (hO : ∀ a, O a → g.O a) : Rel T { g with O := O } Γ ρ S σ H := by
  refine R.shift rfl rfl rfl rfl (fun a u => ?_) R.dF (fun i a z w => R.dFO i a z (hO a w)) (fun a z => .inl (hO a z)) (fun i a z => .inl ⟨i, z⟩) R.len fun st j d e => ?_
  · rcases u with u | u | u
    · exact .inl (hO a u)
    · exact .inr (.inl u)
    · exact .inr (.inr u)
  · obtain ⟨v, h1, h2⟩ := R.slot j d e
    exact ⟨v, h1, RepM.less (H' := H) (noRB_get hn j) (noRB_l hn j) h2 st (fun a z => z) rfl⟩
/-- a slot's list is lent: its row says where it stands alone -/
theorem Rel.lendE {g : G} {ρ : Env} {S : Store} {σ : L2.St} {H : Hp} {i : Nat} {v : V} {d : D} (R : Rel T g Γ ρ S σ H) (hn : noRB Γ = true) (hm : Γ.getD i .s = .o 1) (hd : ρ[i]? = some (some d)) (hv : σ[i]? = some (some v)) : Rel T (g.lend [i]) (Γ.set i (.e v)) ρ S σ H := by
  refine R.shift rfl rfl rfl rfl (fun a h => G.lend_U.mp h) (fun i j a h h' => R.dF i j a h.2 h'.2) (fun j a h z => ?_) (fun a h => ?_) (fun j a h => .inl ⟨j, h.2⟩) R.len fun st j d' e => ?_
  · rcases z with z | ⟨j', hj, z⟩
    · exact R.dFO j a h.2 z
    · have := R.dF j j' a h.2 z
      subst this
      exact h.1 hj
  · rcases h with h | ⟨j, _, h⟩
    · exact .inl h
    · exact .inr ⟨j, h⟩
  · obtain ⟨w, h1, h2⟩ := R.slot j d' e
    refine ⟨w, h1, ?_⟩
    by_cases hj : i = j
    · subst hj
      rw [hv] at h1
      have e2 : v = w := Option.some.inj (Option.some.inj h1)
      by_cases hl : i < Γ.length
      · rw [List.getD_eq_getElem?_getD, List.getElem?_set_self hl]
        exact e2.symm
      · rw [List.getD_eq_getElem?_getD, List.getElem?_eq_none (by omega)] at hm
        cases hm
    · rw [getD_set_ne hj]
      exact RepM.less (H' := H) (noRB_get hn j) (noRB_l hn j) h2 st (fun a z => ⟨fun q => hj (List.mem_singleton.mp q).symm, z⟩) rfl
/-- and taken back -/
theorem Rel.back {g g4 : G} {ρ ρ4 : Env} {S S4 : Store} {σ σ4 : L2.St} {H H4 : Hp} {i : Nat} {v : V} {d d0 : D} (R : Rel T g Γ ρ S σ H) (hn : noRB Γ = true) (hm : Γ.getD i .s = .o 1) (hd : ρ[i]? = some (some d)) (hv : σ[i]? = some (some v))
    (R4 : Rel T g4 (Γ.set i (.e v)) ρ4 S4 σ4 H4) (f : FrS (g.lend [i]) H g4 H4) (h0 : ρ4[i]? = some (some d0)) :
    ∃ g5, Rel T g5 Γ (ρ4.set i (some d)) S4 σ4 H4 ∧ FrS g H g5 H4 := by
  have hil : i < Γ.length := by
    by_cases hl : i < Γ.length
    · exact hl
    · rw [List.getD_eq_getElem?_getD, List.getElem?_eq_none (by omega)] at hm
      cases hm
  have lo : ∀ a, g.O a → g4.O a := fun a z => by rw [f.O]; exact .inl z
  have lf : ∀ a, g.F i a → g4.O a := fun a z => by rw [f.O]; exact .inr ⟨i, List.mem_singleton.mpr rfl, z⟩
  have f5 : FrS g H { g4 with O := g.O, F := fun j a => g4.F j a ∨ (j = i ∧ g.F i a) } H4 := by
    refine ⟨fun a o e hu => f.keep a o e (hu.imp (fun z w => z (G.lend_U.mp w)) .inl), fun a u => ?_, rfl, f.P, f.N, f.μ, f.dom⟩
    rcases u with u | ⟨j, u | ⟨_, u⟩⟩ | u
    · exact .inl (.inl u)
    · exact (f.own a (.inr (.inl ⟨j, u⟩))).imp G.lend_U.mp id
    · exact .inl (.inr (.inl ⟨i, u⟩))
    · exact (f.own a (.inr (.inr u))).imp G.lend_U.mp id
  refine ⟨_, ?_, f5⟩
  refine R4.shift rfl rfl rfl rfl (fun a u => ?_) (fun j k a h h' => ?_) (fun j a h z => ?_) (fun a z => .inl (lo a z)) (fun j a h => ?_) (by rw [List.length_set, R4.len]) fun st j d' e => ?_
  · rcases u with u | ⟨j, u | ⟨_, u⟩⟩ | u
    · exact .inl (lo a u)
    · exact .inr (.inl ⟨j, u⟩)
    · exact .inl (lf a u)
    · exact .inr (.inr u)
  · rcases h with h | ⟨ej, h⟩ <;> rcases h' with h' | ⟨ek, h'⟩
    · exact R4.dF j k a h h'
    · exact absurd (lf a h') (R4.dFO j a h)
    · exact absurd (lf a h) (R4.dFO k a h')
    · exact ej.trans ek.symm
  · rcases h with h | ⟨_, h⟩
    · exact R4.dFO j a h (lo a z)
    · exact R.dFO i a h z
  · rcases h with h | ⟨_, h⟩
    · exact .inl ⟨j, h⟩
    · exact .inr (lf a h)
  · by_cases hj : i = j
    · subst hj
      obtain ⟨w, h1, h2⟩ := R4.slot i d0 h0
      rw [List.getD_eq_getElem?_getD, List.getElem?_set_self hil] at h2
      have h2 : w = v := h2
      subst h2
      have hl2 : i < ρ4.length := by
        by_cases hl : i < ρ4.length
        · exact hl
        · rw [List.getElem?_eq_none (by omega)] at h0
          cases h0
      rw [List.getElem?_set_self hl2] at e
      cases e
      refine ⟨_, h1, ?_⟩
      rw [hm]
      obtain ⟨w2, q1, q2⟩ := R.slot i d hd
      rw [hv] at q1
      cases q1
      rw [hm] at q2
      exact Own.wide 1 _ _ d _ (fun a z => .inr ⟨rfl, z⟩) (Own.keepF f5.stay 1 (g.F i) d _ (fun a o z q => f.keep a o q (.inr (.inr ⟨i, List.mem_singleton.mpr rfl, z⟩))) q2)
    · rw [List.getElem?_set_ne hj] at e
      obtain ⟨w, h1, h2⟩ := R4.slot j d' e
      rw [getD_set_ne hj] at h2
      exact ⟨w, h1, RepM.less (H' := H4) (noRB_get hn j) (noRB_l hn j) h2 st (fun a z => .inl z) rfl⟩
def fForR (i : Nat) (tf : D → Env → Option Env) (B : FS) : FS := fun ρ S => match ρ[i]? with
  | some (some (.lst l)) => (match forL tf B l ρ S with
    | .nx ρ' S' => (match ρ'[i]? with
      | some (some _) => .nx (ρ'.set i (some (.lst l))) S'
      | _ => .no)
    | .rt d ρ' S' => .rt d ρ' S'
    | .exc x ρ' S' => .exc x ρ' S'
    | _ => .no)
  | _ => .no
def Jd.lent (J : Jd) (Γe : List Md) : Jd := { J with Γl := Γe, ΓR := fun G => J.ΓR G ∧ noRB G = true, ΓX := fun G => J.ΓX G ∧ noRB G = true }
theorem lendO {g : G} {i : Nat} : ∀ a, g.O a → (g.lend [i]).O a := fun _ z => .inl z
theorem frs_unlend {g g' : G} {i : Nat} {H H' : Hp} (f : FrS (g.lend [i]) H g' H') : FrS g H { g' with O := g.O } H' :=
  ⟨fun a o e hu => f.keep a o e (hu.imp (fun z w => z (G.lend_U.mp w)) .inl), fun a u => by
    rcases u with u | u | u
    · exact .inl (.inl u)
    · exact (f.own a (.inr (.inl u))).imp G.lend_U.mp id
    · exact (f.own a (.inr (.inr u))).imp G.lend_U.mp id, rfl, f.P, f.N, f.μ, f.dom⟩
theorem goodS_lent {g : G} {ρ : Env} {S : Store} {σ : L2.St} {H : Hp} {i : Nat} {v : V} {l : List D} {r : RS} {D : Ends} (R : Rel T g Γ ρ S σ H) (hn : noRB Γ = true) (hm : Γ.getD i .s = .o 1) (hd : ρ[i]? = some (some (.lst l))) (hv : σ[i]? = some (some v))
    (h : GoodS T J Γ g H (match r with
      | .nx ρ' S' => (match ρ'[i]? with
        | some (some _) => .nx (ρ'.set i (some (.lst l))) S'
        | _ => .no)
      | .rt d ρ' S' => .rt d ρ' S'
      | .exc x ρ' S' => .exc x ρ' S'
      | _ => .no) D) : GoodS T (J.lent (Γ.set i (.e v))) (Γ.set i (.e v)) (g.lend [i]) H r D := by
  cases r with
  | nx ρ' S' =>
    intro σ' g' H' R' f
    simp only at h
    split at h
    · rename_i d0 e0
      obtain ⟨g5, R5, f5⟩ := R.back hn hm hd hv R' f e0
      exact h σ' g5 H' R5 f5
    · exact h.elim
  | bk ρ' S' => exact h.elim
  | ct ρ' S' => exact h.elim
  | rt d ρ' S' =>
    intro Γ'' w σ' g' H' Fo hR R' f hFo hO
    have lo : ∀ a, g.O a → g'.O a := fun a z => by rw [f.O]; exact .inl z
    have R2 : Rel T (G.plus { g' with O := g.O } Fo) Γ'' ρ' S' σ' H' := R'.lessO hR.2 (O := fun a => g.O a ∨ Fo a) fun a z => z.imp (lo a) id
    refine h Γ'' w σ' { g' with O := g.O } H' Fo hR.1 R2 (frs_unlend f) (fun a z => ?_) ?_
    · obtain ⟨z1, z2⟩ := hFo a z
      exact ⟨fun q => z1 (.inl q), z2.imp G.lend_U.mp id⟩
    · have st : Stay (g'.plus Fo) H' (G.plus { g' with O := g.O } Fo) H' := ⟨fun _ _ q _ => q, fun a u => .inl ?_, Nat.le_refl _, fun _ _ => rfl, rfl⟩
      · exact Own.keepF st J.kr Fo d w (fun _ _ _ q => q) hO
      rcases u with (u | u) | u | u
      · exact .inl (.inl (lo a u))
      · exact .inl (.inr u)
      · exact .inr (.inl u)
      · exact .inr (.inr u)
  | exc x ρ' S' =>
    intro Γ'' c dd σ' g' H' hX R' f e
    have lo : ∀ a, g.O a → g'.O a := fun a z => by rw [f.O]; exact .inl z
    refine h Γ'' c dd σ' { g' with O := g.O } H' hX.1 (R'.lessO hX.2 lo) (frs_unlend f) ?_
    have st : Stay g' H' { g' with O := g.O } H' := ⟨fun _ _ q _ => q, fun a u => .inl (u.imp (lo a) id), Nat.le_refl _, fun _ _ => rfl, rfl⟩
    obtain ⟨q1, q2, q3⟩ := e
    exact ⟨q1, q2, q3.imp id fun ⟨d, fs, r1, r2, r3, r4, r5⟩ => ⟨d, fs, r1, r2, r3, r4, ShrL.stay st _ _ r5⟩⟩
  | no => exact h.elim
theorem xs_forR {tg it : Expr} {body : List Stmt} {B : FS} {tf : D → Env → Option Env} {t : TG} {is : List Nat} {pos : Pos} {i : Nat} (hK : X.K = T.K) (hn : noRB Γ = true) (hm : Γ.getD i .s = .o 1) (hp : PassesOwn (model X.prog X.w) X.A X.env X.xe) (hc : X.calm = true) (hit : PE X it (tVar i)) (hg : PG X tg t)
    (ht : ∀ v, TgOk T (Γ.set i (.e v)) (Γ.set i (.e v)) is t tf) (hi : i ∉ is)
    (hb : ∀ v, XB X T (J.lent (Γ.set i (.e v))) (Γ.set i (.e v)) (Γ.set i (.e v)) body B) (hs : ∀ x, foldedSetIterable it X.env x = pure x := by intro _; rfl) : XS X T J Γ Γ (.For tg it body [] pos) (fForR i tf B) := ⟨fun pins s σ H D I ⟨g, ρ, S, R, h⟩ => by
  unfold fForR at h
  cases e : ρ[i]? with
  | none => simp only [e] at h; exact h.elim
  | some o =>
    cases o with
    | none => simp only [e] at h; exact h.elim
    | some d =>
      cases d <;> simp only [e] at h <;> try exact h.elim
      rename_i l
      obtain ⟨v, hv, h2⟩ := R.slot i _ e
      rw [hm] at h2
      have h2 : Own T g H 1 (g.F i) (.lst l) v := h2
      simp only [Own] at h2
      obtain ⟨p, vs, rfl, hF, hH, hl, Gs, _, _, h3⟩ := h2
      have Re : Rel T (g.lend [i]) (Γ.set i (.e (.ref p))) ρ S σ H := R.lendE hn hm e hv
      have h' := goodS_lent (v := .ref p) R hn hm e hv h
      have lp : (g.lend [i]).O p := .inr ⟨i, List.mem_singleton.mpr rfl, hF⟩
      generalize hr : forL tf B l ρ S = r at h'
      clear h
      refine (ps_for (tb := tS T (J.lent (Γ.set i (.e (.ref p)))) (Γ.set i (.e (.ref p))) (Γ.set i (.e (.ref p))) B) hp hc (pi_of hit itr_list) hg (hb (.ref p)) hs).run pins s σ H D I ⟨.ref p, hv, p, rfl, ⟨vs, .of hH⟩, ?_⟩
      refine ⟨fun k m σ' H' => ∃ g' ρ' S', Rel T g' (Γ.set i (.e (.ref p))) ρ' S' σ' H' ∧ FrS (g.lend [i]) H g' H' ∧ m = l.length - k ∧ k ≤ l.length ∧ forL tf B (l.drop k) ρ' S' = r, ⟨l.length, g.lend [i], ρ, S, Re, .refl _ _, by simp, Nat.zero_le _, by rw [List.drop_zero]; exact hr⟩, fun k m σ' H' ⟨g', ρ', S', R', f', em, hi', er⟩ => ?_⟩
      have hH' : H' p = some (.lst vs) := f'.keep p _ hH (.inr lp)
      have sq : SqL X.K H' p vs := .of hH'
      have y : Stay g H g' H' := ⟨fun a o q hu => f'.stay.keep a o q fun z => hu (G.lend_U.mp z), fun a u => (f'.own a u).imp G.lend_U.mp id, f'.N, f'.μ, f'.stay.Z⟩
      have sl := ShrL.stay y _ _ (ShrL.of hl h3)
      have h2 := GoodS.then h' f'
      by_cases hlt : k < l.length
      · obtain ⟨d, hd⟩ : ∃ d, l[k]? = some d := ⟨l[k], List.getElem?_eq_getElem hlt⟩
        obtain ⟨x, w1, w2⟩ := sl.get hd
        refine .inr ⟨⟨vs, x, sq, w1⟩, fun σ2 H2 => ∃ m', m' < m ∧ ∃ g' ρ' S', Rel T g' (Γ.set i (.e (.ref p))) ρ' S' σ2 H2 ∧ FrS (g.lend [i]) H g' H2 ∧ m' = l.length - (k + 1) ∧ k + 1 ≤ l.length ∧ forL tf B (l.drop (k + 1)) ρ' S' = r, fun σ2 H2 ⟨m', l, w⟩ => ⟨m', l, w⟩, fun x' H2 ⟨e1, e2⟩ => ?_⟩
        subst e1
        have e3 := e2 vs sq
        rw [w1] at e3
        cases e3
        have ed : l.drop k = d :: l.drop (k + 1) := by
          rw [List.drop_eq_getElem_cons hlt]
          rw [List.getElem?_eq_getElem hlt] at hd
          rw [Option.some.inj hd]
        rw [ed] at er
        rw [forL] at er
        split at er
        · rename_i e1
          rw [← er] at h2
          exact h2.elim
        · rename_i ρ1 e1
          refine ht _ g' ρ' ρ1 S' σ' _ d x _ R' w2 e1 fun σ3 R3 _ _ => ⟨g'.drops is, ρ1, S', R3, ?_⟩
          have f3 : FrS g' H2 (g'.drops is) H2 := .drops
          have h3 := GoodS.then h2 f3
          have nxt : ∀ {ρ2 : Env} {S2 : Store}, forL tf B (l.drop (k + 1)) ρ2 S2 = r → ∀ σ4 g4 H4, Rel T g4 (Γ.set i (.e (.ref p))) ρ2 S2 σ4 H4 → FrS (g'.drops is) H2 g4 H4 → ∃ m', m' < m ∧ ∃ g' ρ' S', Rel T g' (Γ.set i (.e (.ref p))) ρ' S' σ4 H4 ∧ FrS (g.lend [i]) H g' H4 ∧ m' = l.length - (k + 1) ∧ k + 1 ≤ l.length ∧ forL tf B (l.drop (k + 1)) ρ' S' = r :=
            fun {ρ2 S2} e2 σ4 g4 H4 R4 f4 => ⟨l.length - (k + 1), by omega, g4, ρ2, S2, R4, (f'.trans f3).trans f4, rfl, hlt, e2⟩
          split at er
          · rename_i eb; rw [eb]; exact nxt er
          · rename_i eb; rw [eb]; exact nxt er
          · rename_i eb
            rw [eb]
            rw [← er] at h3
            exact h3
          · rename_i n1 n2 n3
            rw [← er] at h3
            cases eb : B ρ1 S' with
            | nx a b => exact absurd eb (n1 a b)
            | ct a b => exact absurd eb (n2 a b)
            | bk a b => exact absurd eb (n3 a b)
            | rt d a b => rw [eb] at h3; exact h3
            | exc x a b => rw [eb] at h3; exact h3
            | no => rw [eb] at h3; exact h3
      · have e1 : k = l.length := by omega
        subst e1
        refine .inl ⟨⟨vs, sq, by rw [← hl]; exact Nat.le_refl _⟩, ?_⟩
        rw [List.drop_length] at er
        rw [← er] at h2
        exact h2 σ' g' H' R' (.refl _ _)⟩
end
end Q

namespace K04
open PySem PySem.Spec PyProof.Rows L2 Q
def fmL (c : Nat) (f : Str) : Nat :=
  0
noncomputable def b__law_rooms_1 : FS := (fSeq (fIf (eOp hEq (eOp hMod (eVar 0) (eC (.int 2))) (eC (.int 1))) (fMut 1 mAppend (lCons (eVar 2) lNil))
    fPass)
    (fSet 0 (eOp hDiv (eVar 0) (eC (.int 2)))))
theorem u_b__law_rooms_1 (ρ : Q.Env) (S : Store) : b__law_rooms_1 ρ S = ((fSeq (fIf (eOp hEq (eOp hMod (eVar 0) (eC (.int 2))) (eC (.int 1))) (fMut 1 mAppend (lCons (eVar 2) lNil))
    fPass)
    (fSet 0 (eOp hDiv (eVar 0) (eC (.int 2)))))) ρ S := rfl
noncomputable def m__law_rooms : FS := (fSeq (fSet 1 (eLst lNil))
    (fSeq (fFor (iRange1 (lCons (eC (.int 61)) lNil)) (tfName 2) b__law_rooms_1)
    (fRet (eVar 1))))
noncomputable def f__law_rooms : FF := fBody 3 1 (ΓS 1) m__law_rooms
noncomputable def c_members_1 : FE := (eOp hGt (eVar 0) (eC (.int 0)))
theorem u_c_members_1 (ρ : Q.Env) (S : Store) : c_members_1 ρ S = ((eOp hGt (eVar 0) (eC (.int 0)))) ρ S := rfl
noncomputable def b_members_2 : FS := (fSeq (fIf (eOp hEq (eOp hMod (eVar 0) (eC (.int 2))) (eC (.int 1))) (fMut 1 mAppend (lCons (eVar 2) lNil))
    fPass)
    (fSeq (fSet 0 (eOp hDiv (eVar 0) (eC (.int 2))))
    (fSet 2 (eOp hAdd (eVar 2) (eC (.int 1))))))
theorem u_b_members_2 (ρ : Q.Env) (S : Store) : b_members_2 ρ S = ((fSeq (fIf (eOp hEq (eOp hMod (eVar 0) (eC (.int 2))) (eC (.int 1))) (fMut 1 mAppend (lCons (eVar 2) lNil))
    fPass)
    (fSeq (fSet 0 (eOp hDiv (eVar 0) (eC (.int 2))))
    (fSet 2 (eOp hAdd (eVar 2) (eC (.int 1))))))) ρ S := rfl
noncomputable def m_members : FS := (fSeq (fSet 1 (eLst lNil))
    (fSeq (fSet 2 (eC (.int 0)))
    (fSeq (fWhile c_members_1 b_members_2)
    (fRet (eVar 1)))))
noncomputable def f_members : FF := fBody 3 1 (ΓS 1) m_members
noncomputable def e_subsets_1 : FE := (eOp hAdd (eVar 3) (eOp hShl (eC (.int 1)) (eVar 2)))
theorem u_e_subsets_1 (ρ : Q.Env) (S : Store) : e_subsets_1 ρ S = ((eOp hAdd (eVar 3) (eOp hShl (eC (.int 1)) (eVar 2)))) ρ S := rfl
noncomputable def b_subsets_2 : FS := (fSet 1 (eOp hCat (eVar 1) (eLc (iSeq (eVar 1)) [3] (tfName 3) (eC (.bl true)) e_subsets_1)))
theorem u_b_subsets_2 (ρ : Q.Env) (S : Store) : b_subsets_2 ρ S = ((fSet 1 (eOp hCat (eVar 1) (eLc (iSeq (eVar 1)) [3] (tfName 3) (eC (.bl true)) e_subsets_1)))) ρ S := rfl
noncomputable def m_subsets : FS := (fSeq (fSet 1 (eLst (lCons (eC (.int 0)) lNil)))
    (fSeq (fFor (iSeq (eCall f_members (lCons (eVar 0) lNil))) (tfName 2) b_subsets_2)
    (fRet (eVar 1))))
noncomputable def f_subsets : FF := fBody 4 1 [.s] m_subsets
noncomputable def b__law_right_1 : FS := (fSeq (fIf (eOr (eNot (eUn (hIsi "int") (eVar 5))) (eOr (eUn (hIsi "bool") (eVar 5)) (eOr (eOp hLe (eVar 5) (eVar 4)) (eOp hGt (eVar 5) (eVar 0))))) (fRet (eC (.bl false)))
    fPass)
    (fSeq (fIf (eOp hNe (eOp hAnd (eVar 5) (eVar 0)) (eVar 5)) (fRet (eC (.bl false)))
    fPass)
    (fSet 4 (eVar 5))))
theorem u_b__law_right_1 (ρ : Q.Env) (S : Store) : b__law_right_1 ρ S = ((fSeq (fIf (eOr (eNot (eUn (hIsi "int") (eVar 5))) (eOr (eUn (hIsi "bool") (eVar 5)) (eOr (eOp hLe (eVar 5) (eVar 4)) (eOp hGt (eVar 5) (eVar 0))))) (fRet (eC (.bl false)))
    fPass)
    (fSeq (fIf (eOp hNe (eOp hAnd (eVar 5) (eVar 0)) (eVar 5)) (fRet (eC (.bl false)))
    fPass)
    (fSet 4 (eVar 5))))) ρ S := rfl
noncomputable def m__law_right : FS := (fSeq (fSet 1 (eCall f__law_rooms (lCons (eVar 0) lNil)))
    (fSeq (fSet 2 (eOp hShl (eC (.int 1)) (eL hLen (lCons (eVar 1) lNil))))
    (fSeq (fSet 3 (eCall f_subsets (lCons (eVar 0) lNil)))
    (fSeq (fIf (eOr (eNot (eFlat (eUn (hIsi "list") (eVar 3)))) (eOr (eOp hNe (eFlat (eL hLen (lCons (eVar 3) lNil))) (eVar 2)) (eOr (eOp hNe (eFlat (eOp hIx (eVar 3) (eC (.int 0)))) (eC (.int 0))) (eOp hNe (eFlat (eOp hIx (eVar 3) (eUn hNeg (eC (.int 1))))) (eVar 0))))) (fRet (eC (.bl false)))
    fPass)
    (fSeq (fSet 4 (eUn hNeg (eC (.int 1))))
    (fSeq (fForR 3 (tfName 5) b__law_right_1)
    (fSeq (fMut 3 mPop lNil)
    (fRet (eOp hEq (eL hLen (lCons (eCall f_subsets (lCons (eVar 0) lNil)) lNil)) (eVar 2))))))))))
noncomputable def f__law_right : FF := fBody 6 1 (ΓS 1) m__law_right
noncomputable def b__law_bits_by_1 : FS := (fSeq (fSet 2 (eOp hMod (eOp hAdd (eOp hMul (eVar 2) (eC (.int 75))) (eC (.int 74))) (eC (.int 65537))))
    (fSeq (fSet 5 (eOp hMod (eVar 2) (eC (.int 61))))
    (fIf (eOp (hIn true) (eVar 5) (eCall f__law_rooms (lCons (eVar 3) lNil))) (fSet 3 (eOp hAdd (eVar 3) (eOp hShl (eC (.int 1)) (eVar 5))))
    fPass)))
theorem u_b__law_bits_by_1 (ρ : Q.Env) (S : Store) : b__law_bits_by_1 ρ S = ((fSeq (fSet 2 (eOp hMod (eOp hAdd (eOp hMul (eVar 2) (eC (.int 75))) (eC (.int 74))) (eC (.int 65537))))
    (fSeq (fSet 5 (eOp hMod (eVar 2) (eC (.int 61))))
    (fIf (eOp (hIn true) (eVar 5) (eCall f__law_rooms (lCons (eVar 3) lNil))) (fSet 3 (eOp hAdd (eVar 3) (eOp hShl (eC (.int 1)) (eVar 5))))
    fPass)))) ρ S := rfl
noncomputable def m__law_bits_by : FS := (fSeq (fSet 2 (eOp hMod (eOp hMul (eOp hAdd (eOp hMod (eVar 0) (eC (.int 1000003))) (eC (.int 1))) (eOp hAdd (eOp hMul (eVar 1) (eVar 1)) (eC (.int 48271)))) (eC (.int 65537))))
    (fSeq (fSet 3 (eC (.int 0)))
    (fSeq (fFor (iRange1 (lCons (eOp hMod (eVar 2) (eC (.int 9))) lNil)) (tfName 4) b__law_bits_by_1)
    (fRet (eVar 3)))))
noncomputable def f__law_bits_by : FF := fBody 6 2 (ΓS 2) m__law_bits_by
noncomputable def b_law_1 : FS := (fIf (eNot (eCall f__law_right (lCons (eCall f__law_bits_by (lCons (eOp hIx (eVar 1) (eVar 2)) (lCons (eVar 2) lNil))) lNil))) (fRet (eC (.bl false)))
    fPass)
theorem u_b_law_1 (ρ : Q.Env) (S : Store) : b_law_1 ρ S = ((fIf (eNot (eCall f__law_right (lCons (eCall f__law_bits_by (lCons (eOp hIx (eVar 1) (eVar 2)) (lCons (eVar 2) lNil))) lNil))) (fRet (eC (.bl false)))
    fPass)) ρ S := rfl
noncomputable def m_law : FS := (fSeq (fSet 1 (eOp hAdd (eLst (lCons (eC (.int 0)) (lCons (eC (.int 37)) lNil))) (eSl (eVar 0) none (some (eC (.int 12))))))
    (fSeq (fFor (iRange1 (lCons (eL hLen (lCons (eVar 1) lNil)) lNil)) (tfName 2) b_law_1)
    (fRet (eC (.bl true)))))
noncomputable def f_law : FF := fBody 3 1 (ΓS 1) m_law
end K04

set_option maxHeartbeats 2000000
namespace Q
open PySem PySem.Spec PyProof.Rows L2
/-- a law's end over a head by facts, with the bound of the script's numbers -/
theorem walk_ofBE {l : PySem.W.OpenLaw} {n k : Nat} {q : Program} {loose : List Str} {XP : (Str → Option Value) → Heap → Prop} {YP : World → Heap → Prop} {d : DefRec} {CX : World → CXT} {sp : PySem.W.Frag → Sp} {x : Str}
    (hn : l.most = some n) (hn2 : n ≤ sizeLine) (hdf : d.params.defaults = []) (hr : Room k callerA)
    (F : ∀ (w : World) (mg : Str → Option Value) (fa : Addr) (h : Heap), YP w h → h.Ns mainGlobals mg → mg d.name = some (.ref fa) →
      ∃ (K : PySem.W.Frag), K.In h ∧ ∃ fd : FuncData, (∀ (s : Shared) (u : Value), BindsTo s fd ⟨[u], []⟩ [(x, u)]) ∧
        ∀ base : Heap, K.In base → base.Ns mainGlobals mg → FnOk l.prog w K mg base (CX w) k fa fd [x] (sp K))
    (hsp : ∀ (K : PySem.W.Frag) (H : Hp) (a : Addr) (ns : List Int), ns.length ≤ n → (∀ z ∈ ns, Builtin.Int.intBits z ≤ 1048576) → Only H → SqL K H a (ns.map V.int) → sp K [.ref a] H (fun v _ => v = .bl true) fun _ _ _ => False)
    (hCX : ∀ (w : World) (H : Hp) (s : Shared) (e : Value) (s' : Shared), CX w [] H s (fun _ _ _ => False) e s' → False) :
    PySem.W.WalkO q loose XP YP l.row.toRowW d [] (fun f vs => PySem.call f vs) := by
  refine Att.attach_callB hn hdf fun w s₀ s₁ mg mb fa o pm cd doc a vs ns G Y ho hd hcd hmg hobj hints hlen hbits hg => ?_
  obtain ⟨K, KX, fd, hb, hF⟩ := F w mg fa _ Y G.T.g hmg
  exact law_call KX G.T.g G.T.b G.T.builtins G.T.nolimit hg hobj hints (Nat.le_trans hlen hn2) hr hF hb (fun H hO hS => hsp K H a ns hlen hbits hO hS) fun H e s' => hCX w H s₁ e s'
/-! ### the hook: one Bool, the defs -/
abbrev AlH : Type := Bool × List He.FnW
def obsH (ck : PySem.W.Frag → Bool) (fn : List He.DefD) (K : PySem.W.Frag) : AlH := (ck K && fn.all fun d => d.ok K, fn.map fun d => He.fnW K d.at_)
def valH (fn : List He.DefD) : AlH := (true, fn.map He.DefD.val)
def SaysH (ck : PySem.W.Frag → Bool) (fn : List He.DefD) (K : PySem.W.Frag) : Prop := obsH ck fn K = valH fn
/-- the module's names and what the top has made -/
def asH (lo n : Nat) : List Addr := mainGlobals :: List.range' lo (n - lo)
def hookH (lo : Nat) (ck : PySem.W.Frag → Bool) (fn : List He.DefD) : PySem.W.Hook where
  α := AlH
  obs := fun s => obsH ck fn (He.frG s.heap.get? (asH lo s.heap.objs.size))
  val := fun _ => valH fn
  says := fun _ h => ∃ K : PySem.W.Frag, K.In h ∧ SaysH ck fn K
  of := fun _ _ e => ⟨_, He.frG_in, e⟩
  keeps := fun _ _ _ ⟨K, hK, c⟩ k => ⟨K, PySem.W.Frag.In.keeps hK k, c⟩
def obsS (lo : Nat) (ck : PySem.W.Frag → Bool) (fn : List He.DefD) (s : PySem.W.SharedT) : AlH := obsH ck fn (He.frG (HandSHeadRun.getT s) (asH lo s.n))
theorem obsS_eq (lo : Nat) (ck : PySem.W.Frag → Bool) (fn : List He.DefD) (s : PySem.W.SharedT) : obsS lo ck fn s = (hookH lo ck fn).obs s.abs := by
  show obsH ck fn (He.frG (HandSHeadRun.getT s) (asH lo s.n)) = obsH ck fn (He.frG s.abs.heap.get? (asH lo s.abs.heap.objs.size))
  have e : HandSHeadRun.getT s = s.abs.heap.get? := funext (HandSHeadRun.getT_eq s)
  have e2 : s.abs.heap.objs.size = s.n := PySem.W.absHeap_size s.tree s.n s.life
  rw [e, e2]
section
variable {ck : PySem.W.Frag → Bool} {fn : List He.DefD} {K : PySem.W.Frag}
theorem SaysH.chk (c : SaysH ck fn K) : ck K = true := (He.ba (show (ck K && fn.all fun d => d.ok K) = true from congrArg (fun z : AlH => z.1) c)).1
theorem SaysH.def_ (c : SaysH ck fn K) (i : Nat) {d : He.DefD} (h : fn[i]? = some d) : ∃ fd, FunD K d.name d.qual d.params d.body d.scope (d.dvs K) (d.kws K) (He.fAd K d.at_) fd := by
  have c2 := (He.ba (show (ck K && fn.all fun d => d.ok K) = true from congrArg (fun z : AlH => z.1) c)).2
  have e : fn.map (fun d => He.fnW K d.at_) = fn.map He.DefD.val := congrArg (fun z : AlH => z.2) c
  have e2 : (fn.map fun d => He.fnW K d.at_)[i]? = (fn.map He.DefD.val)[i]? := by rw [e]
  rw [List.getElem?_map, List.getElem?_map, h] at e2
  exact He.DefD.funD (Option.some.inj e2) (List.all_eq_true.mp c2 d (List.mem_of_getElem? h))
end
theorem fun_of {K : PySem.W.Frag} {x q : Str} {st : Stmt} {f : Addr} {fd : FuncData} (F : FunD K x q (defArgs st) (defBody st) (defScope st) [] [] f fd) : Fun K x q st f fd := by
  obtain ⟨oc, od, dV, kV, doc, pm, an, cdv, ct, osl, rfl, lk, hcd, hd, _⟩ := F.ex
  rcases hd with ⟨_, rfl⟩ | ⟨h, _⟩
  · exact ⟨⟨oc, od, kV, doc, pm, an, cdv, ct, osl, rfl, lk, hcd⟩, F.kp⟩
  · exact absurd rfl h
theorem int_ex {K : PySem.W.Frag} {x : Str} {i : Int} (c : (He.Fa.int x i).ok K = true) : ∃ t, PySem.W.nsIn K mainGlobals x = some (some (.int i t)) := by
  have c2 : (match PySem.W.nsIn K mainGlobals x with
    | some (some (.int j _)) => decide (j = i)
    | _ => false) = true := c
  cases e : PySem.W.nsIn K mainGlobals x with
  | none =>
    rw [e] at c2
    cases c2
  | some o =>
    rw [e] at c2
    cases o with
    | none => cases c2
    | some v =>
      cases v with
      | int j t =>
        have ej : j = i := of_decide_eq_true c2
        exact ⟨t, by rw [ej]⟩
      | _ => cases c2
theorem str_ex {K : PySem.W.Frag} {x z : Str} (c : (He.Fa.str x z).ok K = true) : ∃ t, PySem.W.nsIn K mainGlobals x = some (some (.str z t)) := by
  have c2 : (match PySem.W.nsIn K mainGlobals x with
    | some (some (.str y _)) => decide (y = z)
    | _ => false) = true := c
  cases e : PySem.W.nsIn K mainGlobals x with
  | none =>
    rw [e] at c2
    cases c2
  | some o =>
    rw [e] at c2
    cases o with
    | none => cases c2
    | some v =>
      cases v with
      | str y t =>
        have ej : y = z := of_decide_eq_true c2
        exact ⟨t, by rw [ej]⟩
      | _ => cases c2
theorem hfa_eq {mg : Str → Option Value} {a b : Addr} (h : mg "law" = some (.ref a)) (g : mg "law" = some (.ref b)) : a = b := by
  rw [h] at g
  exact Value.ref.inj (Option.some.inj g)
theorem wrt_of {K : PySem.W.Frag} {x : Str} {vs : List He.Dv} (h : He.tupB K x vs = true) : WrT K (He.ga K x) (vs.map (He.Dv.v K)) := by
  unfold He.tupB at h
  cases q : K.lookup (He.ga K x) with
  | none =>
    rw [q] at h
    cases h
  | some o =>
    obtain ⟨oc, od, dt, osl⟩ := o
    rw [q] at h
    cases oc with
    | type c =>
      cases dt with
      | seq its n =>
        obtain ⟨h1, h2⟩ := He.ba (show (decide (c = "tuple") && (decide (its.size ≤ sizeLine) && He.relAll (vs.map (He.Dv.v K)) its.toList)) = true from h)
        obtain ⟨h3, h4⟩ := He.ba h2
        exact ⟨_, its, n, q, congrArg Value.type (of_decide_eq_true h1), rfl, of_decide_eq_true h3, He.relAll_ok h4⟩
      | _ => cases h
    | _ => cases dt <;> cases h
end Q

namespace K04
open PySem PySem.Spec PyProof.Rows L2 Q
def topS (i : Nat) : Stmt := PySem.Challenge.pw_stoke_k04_parts_of_bits.main.body.getD i (.Pass ⟨0, 0, 0, 0⟩)
abbrev s__law_rooms : Stmt := topS 4
abbrev N__law_rooms : List Str := ["_law_num", "_law_rooms_here", "_law_room"]
theorem sc__law_rooms : FnScope N__law_rooms ["_law_num"] (defScope s__law_rooms) := ⟨rfl, rfl, rfl, by decide +kernel, rfl, by decide +kernel, by decide +kernel⟩
abbrev s_members : Stmt := topS 1
abbrev N_members : List Str := ["bits", "rooms", "room"]
theorem sc_members : FnScope N_members ["bits"] (defScope s_members) := ⟨rfl, rfl, rfl, by decide +kernel, rfl, by decide +kernel, by decide +kernel⟩
abbrev s_subsets : Stmt := topS 2
abbrev N_subsets : List Str := ["bits", "found", "room", "one"]
theorem sc_subsets : FnScope N_subsets ["bits"] (defScope s_subsets) := ⟨rfl, rfl, rfl, by decide +kernel, rfl, by decide +kernel, by decide +kernel⟩
abbrev s__law_right : Stmt := topS 6
abbrev N__law_right : List Str := ["_law_num", "_law_rooms_here", "_law_due", "_law_found", "_law_last", "_law_one"]
theorem sc__law_right : FnScope N__law_right ["_law_num"] (defScope s__law_right) := ⟨rfl, rfl, rfl, by decide +kernel, rfl, by decide +kernel, by decide +kernel⟩
abbrev s__law_bits_by : Stmt := topS 5
abbrev N__law_bits_by : List Str := ["_law_cell", "_law_k", "_law_left", "_law_num", "_law_j", "_law_room"]
theorem sc__law_bits_by : FnScope N__law_bits_by ["_law_cell", "_law_k"] (defScope s__law_bits_by) := ⟨rfl, rfl, rfl, by decide +kernel, rfl, by decide +kernel, by decide +kernel⟩
abbrev s_law : Stmt := topS 7
abbrev N_law : List Str := ["_law_script", "_law_some", "_law_k"]
theorem sc_law : FnScope N_law ["_law_script"] (defScope s_law) := ⟨rfl, rfl, rfl, by decide +kernel, rfl, by decide +kernel, by decide +kernel⟩
set_option maxHeartbeats 0 in
structure Facts (K : PySem.W.Frag) (mg : Str → Option Value) where
  a__law_rooms : Addr
  d__law_rooms : FuncData
  a_members : Addr
  d_members : FuncData
  a_subsets : Addr
  d_subsets : FuncData
  a__law_right : Addr
  d__law_right : FuncData
  a__law_bits_by : Addr
  d__law_bits_by : FuncData
  a_law : Addr
  d_law : FuncData
  F__law_rooms : Fun K "_law_rooms" "_law_rooms" s__law_rooms a__law_rooms d__law_rooms
  b__law_rooms : Binds K d__law_rooms ["_law_num"] []
  g__law_rooms : mg "_law_rooms" = some (.ref a__law_rooms)
  F_members : Fun K "members" "members" s_members a_members d_members
  b_members : Binds K d_members ["bits"] []
  g_members : mg "members" = some (.ref a_members)
  F_subsets : Fun K "subsets" "subsets" s_subsets a_subsets d_subsets
  b_subsets : Binds K d_subsets ["bits"] []
  g_subsets : mg "subsets" = some (.ref a_subsets)
  F__law_right : Fun K "_law_right" "_law_right" s__law_right a__law_right d__law_right
  b__law_right : Binds K d__law_right ["_law_num"] []
  g__law_right : mg "_law_right" = some (.ref a__law_right)
  F__law_bits_by : Fun K "_law_bits_by" "_law_bits_by" s__law_bits_by a__law_bits_by d__law_bits_by
  b__law_bits_by : Binds K d__law_bits_by ["_law_cell", "_law_k"] []
  g__law_bits_by : mg "_law_bits_by" = some (.ref a__law_bits_by)
  F_law : Fun K "law" "law" s_law a_law d_law
  b_law : Binds K d_law ["_law_script"] []
  g_law : mg "law" = some (.ref a_law)
  z_bool : mg "bool" = none
  z_int : mg "int" = none
  z_isinstance : mg "isinstance" = none
  z_len : mg "len" = none
  z_list : mg "list" = none
  z_range : mg "range" = none
section
variable {P : Program} {w : World} {K : PySem.W.Frag} {mg : Str → Option Value} {base : Heap}
def th (P : Program) (w : World) (Fx : Facts K mg) : Th := ⟨K, P, w, fun k => match k with
  | _ => 0, 0, fmL⟩
variable (Fx : Facts K mg)
theorem ok__law_rooms : FnOk P w K mg base (L2.CX P w) 1 Fx.a__law_rooms Fx.d__law_rooms ["_law_num"] (spD (th P w Fx) 1 (sgS 1) f__law_rooms) :=
  fn_okSR (N := N__law_rooms) (B := m__law_rooms) (Γ' := (ΓS 3)) (okRule_fun Fx.F__law_rooms) sc__law_rooms rfl (by decide) fun cdv A outer s H E hr =>
    (xb_cons (xs_own (Γ' := [.s, .o 1, .s]) (i := 1) (k := 1) gp_s (by decide) (xf_lst xl_nil) (fun h => ps_set (i := 1) (sc__law_rooms).nd rfl (Or.inl rfl) h) rfl)
    (xb_cons (xs_for (is := [2]) gp_s (passes_of rfl) rfl (xi_range1 (xl_cons xe_int xl_nil (fun h h2 => pa_cons h h2)) (fun h => pi_range1 (by rfl) Fx.z_range h)) (pg_name (i := 2) (sc__law_rooms).nd rfl (Or.inl rfl)) (tg_name rfl) (xb_cons (xs_if gp_s (xt_op ok_eq (xe_op ok_mod (xe_var (pv 0) rfl) xe_int (fun h h2 => pe_op op_mod h h2)) xe_int (fun h h2 => pt_cmpR (op_eqD hr.units) h h2 (nomark _))) (xb_one (xs_mut (i := 1) rfl gp_s trivial ok_append (xl_cons (xe_var (pv 2) rfl) xl_nil (fun h h2 => pa_cons h h2)) (fun h => ps_expr (pe_bm PySem.F.plainAttrs_list PySem.F.slot_list_append PySem.F.type_list_append mt_append (pv 1) h))))
    xb_nil)
    (xb_one (xs_set (Γ' := [.s, .o 1, .s]) (i := 0) gp_s (xe_op ok_div (xe_var (pv 0) rfl) xe_int (fun h h2 => pe_op op_fdivA h h2)) (fun h => ps_set (i := 0) (sc__law_rooms).nd rfl (Or.inl rfl) h) rfl))))
    (xb_frz (i := 1) (k := 1) (Γ1 := (ΓS 3)) rfl rfl (xb_one (xs_ret gp_s gp_s rfl (xv (pv 1)) (fun h => ps_ret h))))))
theorem ok_members : FnOk P w K mg base (L2.CX P w) 1 Fx.a_members Fx.d_members ["bits"] (spD (th P w Fx) 1 (sgS 1) f_members) :=
  fn_okSR (N := N_members) (B := m_members) (Γ' := (ΓS 3)) (okRule_fun Fx.F_members) sc_members rfl (by decide) fun cdv A outer s H E hr =>
    (xb_cons (xs_own (Γ' := [.s, .o 1, .s]) (i := 1) (k := 1) gp_s (by decide) (xf_lst xl_nil) (fun h => ps_set (i := 1) (sc_members).nd rfl (Or.inl rfl) h) rfl)
    (xb_cons (xs_set (Γ' := [.s, .o 1, .s]) (i := 2) gp_s xe_int (fun h => ps_set (i := 2) (sc_members).nd rfl (Or.inl rfl) h) rfl)
    (xb_cons (xs_while gp_s (passes_of rfl) (xt_op ok_gt (xe_var (pv 0) rfl) xe_int (fun h h2 => pt_cmpR op_gt h h2 (nomark _))) (xb_cons (xs_if gp_s (xt_op ok_eq (xe_op ok_mod (xe_var (pv 0) rfl) xe_int (fun h h2 => pe_op op_mod h h2)) xe_int (fun h h2 => pt_cmpR (op_eqD hr.units) h h2 (nomark _))) (xb_one (xs_mut (i := 1) rfl gp_s trivial ok_append (xl_cons (xe_var (pv 2) rfl) xl_nil (fun h h2 => pa_cons h h2)) (fun h => ps_expr (pe_bm PySem.F.plainAttrs_list PySem.F.slot_list_append PySem.F.type_list_append mt_append (pv 1) h))))
    xb_nil)
    (xb_cons (xs_set (Γ' := [.s, .o 1, .s]) (i := 0) gp_s (xe_op ok_div (xe_var (pv 0) rfl) xe_int (fun h h2 => pe_op op_fdivA h h2)) (fun h => ps_set (i := 0) (sc_members).nd rfl (Or.inl rfl) h) rfl)
    (xb_one (xs_set (Γ' := [.s, .o 1, .s]) (i := 2) gp_s (xe_op ok_add (xe_var (pv 2) rfl) xe_int (fun h h2 => pe_op op_addA h h2)) (fun h => ps_set (i := 2) (sc_members).nd rfl (Or.inl rfl) h) rfl)))))
    (xb_frz (i := 1) (k := 1) (Γ1 := (ΓS 3)) rfl rfl (xb_one (xs_ret gp_s gp_s rfl (xv (pv 1)) (fun h => ps_ret h)))))))
theorem ok_subsets : FnOk P w K mg base (L2.CX P w) 2 Fx.a_subsets Fx.d_subsets ["bits"] (spD (th P w Fx) 1 ⟨[.s], 1⟩ f_subsets) :=
  fn_okGR (N := N_subsets) (B := m_subsets) (Γ0 := (ΓS 4)) (Γ' := (ΓS 4)) (okRule_fun Fx.F_subsets) sc_subsets rfl (by decide) rfl rfl fun cdv A outer s H E hr =>
    (xb_cons (xs_own (Γ' := [.s, .o 1, .s, .s]) (i := 1) (k := 1) (gp_n rfl) (by decide) (xf_lst (xl_cons xe_int xl_nil (fun h h2 => pa_cons h h2))) (fun h => ps_set (i := 1) (sc_subsets).nd rfl (Or.inl rfl) h) rfl)
    (xb_cons (xs_for (is := [2]) (gp_n rfl) (passes_of rfl) rfl (xi_seq rfl (xe_callS (ok_members Fx) rfl (la1 la0) (xl_cons (xe_var (pv 0) rfl) xl_nil (fun h h2 => pa_cons h h2)) (fun h => pe_callS (ok_members Fx) (hr.mono (by decide)) (by rfl) Fx.g_members Fx.F_members.kp Fx.b_members (fun σ => passAt (takes_of rfl rfl rfl rfl) σ) h))) (pg_name (i := 2) (sc_subsets).nd rfl (Or.inr rfl)) (tg_name rfl) (xb_one (xs_own (Γ' := [.s, .o 1, .s, .s]) (i := 1) (k := 1) (gp_n rfl) (by decide) (xf_catO (i := 1) rfl (pv 1) (xe_lc (own := [("one", 3)]) (is := [3]) rfl (sc_subsets).nd (xif_own (i := 1) rfl (pv 1) rfl) (blkOk_by (own := [("one", 3)]) (N := N_subsets) (sc := defScope s_subsets) (by decide +kernel)) (by decide) (fun _ _ _ _ _ => (pg_name (i := 3) (sc_subsets).nd rfl (Or.inl rfl))) (tg_name rfl) (fun _ _ _ _ _ => xts_nil) (fun _ _ _ _ _ => (xe_op ok_add (xe_var (pv 3) rfl) (xe_op ok_shl xe_int (xe_var (pv 2) rfl) (fun h h2 => pe_op op_shl h h2)) (fun h h2 => pe_op op_addA h h2)))) (fun h h2 => pe_op op_cat h h2)) (fun h => ps_set (i := 1) (sc_subsets).nd rfl (Or.inl rfl) h) rfl)))
    (xb_one (xs_retV (i := 1) (fun _ => (gp_n rfl)) (by decide) rfl rfl (ps_ret (pv 1))))))
theorem ok__law_right : FnOk P w K mg base (L2.CX P w) 3 Fx.a__law_right Fx.d__law_right ["_law_num"] (spD (th P w Fx) 1 (sgS 1) f__law_right) :=
  fn_okSR (N := N__law_right) (B := m__law_right) (Γ' := (ΓS 6)) (okRule_fun Fx.F__law_right) sc__law_right rfl (by decide) fun cdv A outer s H E hr =>
    (xb_cons (xs_set (i := 1) gp_s (xe_callS (ok__law_rooms Fx) rfl (la1 la0) (xl_cons (xv (pv 0)) xl_nil (fun h h2 => pa_cons h h2)) (fun h => pe_callS (ok__law_rooms Fx) (hr.mono (by decide)) (by rfl) Fx.g__law_rooms Fx.F__law_rooms.kp Fx.b__law_rooms (fun σ => passAt (takes_of rfl rfl rfl rfl) σ) h)) (fun h => ps_set (i := 1) (sc__law_right).nd rfl (Or.inl rfl) h) set_rep)
    (xb_cons (xs_set (i := 2) gp_s (xe_op ok_shl xe_int (xe_L ok_len (xl_cons (xv (pv 1)) xl_nil (fun h h2 => pa_cons h h2)) (fun h => pe_callB call_lenA (by rfl) Fx.z_len PySem.boot_len h)) (fun h h2 => pe_op op_shl h h2)) (fun h => ps_set (i := 2) (sc__law_right).nd rfl (Or.inl rfl) h) set_rep)
    (xb_cons (xs_own (Γ' := [.s, .s, .s, .o 1, .s, .s]) (i := 3) (k := 1) gp_s (by decide) (xf_callM (sg := ⟨[.s], 1⟩) (bs := [false]) (ok_subsets Fx) (mdOf_rows rfl) (la1 la0) (xm_s (xv (pv 0)) xm_nil (fun h h2 => pa_cons h h2)) (fun h => pe_callS (ok_subsets Fx) (hr.mono (by decide)) (by rfl) Fx.g_subsets Fx.F_subsets.kp Fx.b_subsets (fun σ => passAt (takes_of rfl rfl rfl rfl) σ) h)) (fun h => ps_set (i := 3) (sc__law_right).nd rfl (Or.inl rfl) h) rfl)
    (xb_cons (xs_if gp_s (PW.pt (xw_or (xt_not (xt_val (xe_flat (xq_isi (n := "list") rfl (xq_varO (pv 3) rfl) (fun h => pe_callB call_isi (by rfl) Fx.z_isinstance PyProof.Rows.boot_isinstance (pa_cons h (pa_cons (pe_bltn (v := .ty "list") (by rfl) Fx.z_list (by decide +kernel) rfl) pa_nil))))) (fun h => .inl (pt_val h)))) (xw_or (xt_op ok_ne (xe_flat (xq_L ok_len (xql_cons (xq_varO (pv 3) rfl) xql_nil (fun h h2 => pa_cons h h2)) (fun h => pe_callB call_lenA (by rfl) Fx.z_len PySem.boot_len h))) (xe_var (pv 2) rfl) (fun h h2 => pt_cmpR (op_neD hr.units) h h2 (nomark _))) (xw_or (xt_op ok_ne (xe_flat (xq_op ok_ix (xq_varO (pv 3) rfl) (xq_of xe_int) (fun h h2 => pe_ix ix_A h h2 (fun _ _ => rfl)))) xe_int (fun h h2 => pt_cmpR (op_neD hr.units) h h2 (nomark _))) (xw_or1 (xt_op ok_ne (xe_flat (xq_op ok_ix (xq_varO (pv 3) rfl) (xq_of (xe_un ok_neg xe_int (fun h => pe_un un_neg h))) (fun h h2 => pe_ix ix_A h h2 (fun _ _ => rfl)))) (xe_var (pv 0) rfl) (fun h h2 => pt_cmpR (op_neD hr.units) h h2 (nomark _)))))))) (xb_one (xs_ret gp_s gp_s rfl xe_bl (fun h => ps_ret h)))
    xb_nil)
    (xb_cons (xs_set (Γ' := [.s, .s, .s, .o 1, .s, .s]) (i := 4) gp_s (xe_un ok_neg xe_int (fun h => pe_un un_neg h)) (fun h => ps_set (i := 4) (sc__law_right).nd rfl (Or.inl rfl) h) rfl)
    (xb_cons (xs_forR (i := 3) (is := [5]) rfl rfl rfl (passes_of rfl) rfl (pv 3) (pg_name (i := 5) (sc__law_right).nd rfl (Or.inl rfl)) (fun v => (tg_name rfl)) (by decide) (fun v => (xb_cons (xs_if ⟨gp_s, rfl⟩ (PW.pt (xw_or (xt_not (xt_val (xe_isi (n := "int") rfl (xe_var (pv 5) rfl) (fun h => pe_callB call_isi (by rfl) Fx.z_isinstance PyProof.Rows.boot_isinstance (pa_cons h (pa_cons (pe_bltn (v := .ty "int") (by rfl) Fx.z_int (by decide +kernel) rfl) pa_nil)))) (fun h => .inl (pt_val h)))) (xw_or (xt_val (xe_isi (n := "bool") rfl (xe_var (pv 5) rfl) (fun h => pe_callB call_isi (by rfl) Fx.z_isinstance PyProof.Rows.boot_isinstance (pa_cons h (pa_cons (pe_bltn (v := .ty "bool") (by rfl) Fx.z_bool (by decide +kernel) rfl) pa_nil)))) (fun h => .inl (pt_val h))) (xw_or (xt_op ok_le (xe_var (pv 5) rfl) (xe_var (pv 4) rfl) (fun h h2 => pt_cmpR op_le h h2 (nomark _))) (xw_or1 (xt_op ok_gt (xe_var (pv 5) rfl) (xe_var (pv 0) rfl) (fun h h2 => pt_cmpR op_gt h h2 (nomark _)))))))) (xb_one (xs_ret ⟨gp_s, rfl⟩ ⟨gp_s, rfl⟩ rfl xe_bl (fun h => ps_ret h)))
    xb_nil)
    (xb_cons (xs_if ⟨gp_s, rfl⟩ (xt_op ok_ne (xe_op ok_and (xe_var (pv 5) rfl) (xe_var (pv 0) rfl) (fun h h2 => pe_op op_and h h2)) (xe_var (pv 5) rfl) (fun h h2 => pt_cmpR (op_neD hr.units) h h2 (nomark _))) (xb_one (xs_ret ⟨gp_s, rfl⟩ ⟨gp_s, rfl⟩ rfl xe_bl (fun h => ps_ret h)))
    xb_nil)
    (xb_one (xs_set (Γ' := [.s, .s, .s, .e v, .s, .s]) (i := 4) ⟨gp_s, rfl⟩ (xe_var (pv 5) rfl) (fun h => ps_set (i := 4) (sc__law_right).nd rfl (Or.inl rfl) h) rfl))))))
    (xb_cons (xs_mut0 (i := 3) rfl trivial ok_pop (ps_expr (pe_bm0 PySem.F.plainAttrs_list PySem.F.slot_list_pop PySem.F.type_list_pop mt_pop (pv 3))))
    (xb_frz (i := 3) (k := 1) (Γ1 := (ΓS 6)) rfl rfl (xb_one (xs_ret gp_s gp_s rfl (xe_op ok_eq (xe_L ok_len (xl_cons (xe_of (xf_callM (sg := ⟨[.s], 1⟩) (bs := [false]) (ok_subsets Fx) (mdOf_rows rfl) (la1 la0) (xm_s (xv (pv 0)) xm_nil (fun h h2 => pa_cons h h2)) (fun h => pe_callS (ok_subsets Fx) (hr.mono (by decide)) (by rfl) Fx.g_subsets Fx.F_subsets.kp Fx.b_subsets (fun σ => passAt (takes_of rfl rfl rfl rfl) σ) h))) xl_nil (fun h h2 => pa_cons h h2)) (fun h => pe_callB call_lenA (by rfl) Fx.z_len PySem.boot_len h)) (xv (pv 2)) (fun h h2 => pe_cmpR (op_eqD hr.units) h h2 (nomark _))) (fun h => ps_ret h)))))))))))
theorem ok__law_bits_by : FnOk P w K mg base (L2.CX P w) 2 Fx.a__law_bits_by Fx.d__law_bits_by ["_law_cell", "_law_k"] (spD (th P w Fx) 2 (sgS 2) f__law_bits_by) :=
  fn_okSR (N := N__law_bits_by) (B := m__law_bits_by) (Γ' := (ΓS 6)) (okRule_fun Fx.F__law_bits_by) sc__law_bits_by rfl (by decide) fun cdv A outer s H E hr =>
    (xb_cons (xs_set (i := 2) gp_s (xe_op ok_mod (xe_op ok_mul (xe_op ok_add (xe_op ok_mod (xv (pv 0)) xe_int (fun h h2 => pe_op op_mod h h2)) xe_int (fun h h2 => pe_op op_addA h h2)) (xe_op ok_add (xe_op ok_mul (xv (pv 1)) (xv (pv 1)) (fun h h2 => pe_op op_mulA h h2)) xe_int (fun h h2 => pe_op op_addA h h2)) (fun h h2 => pe_op op_mulA h h2)) xe_int (fun h h2 => pe_op op_mod h h2)) (fun h => ps_set (i := 2) (sc__law_bits_by).nd rfl (Or.inl rfl) h) set_rep)
    (xb_cons (xs_set (i := 3) gp_s xe_int (fun h => ps_set (i := 3) (sc__law_bits_by).nd rfl (Or.inl rfl) h) set_rep)
    (xb_cons (xs_for (is := [4]) gp_s (passes_of rfl) rfl (xi_range1 (xl_cons (xe_op ok_mod (xv (pv 2)) xe_int (fun h h2 => pe_op op_mod h h2)) xl_nil (fun h h2 => pa_cons h h2)) (fun h => pi_range1 (by rfl) Fx.z_range h)) (pg_name (i := 4) (sc__law_bits_by).nd rfl (Or.inl rfl)) (tg_name set_rep) (xb_cons (xs_set (i := 2) gp_s (xe_op ok_mod (xe_op ok_add (xe_op ok_mul (xv (pv 2)) xe_int (fun h h2 => pe_op op_mulA h h2)) xe_int (fun h h2 => pe_op op_addA h h2)) xe_int (fun h h2 => pe_op op_mod h h2)) (fun h => ps_set (i := 2) (sc__law_bits_by).nd rfl (Or.inl rfl) h) set_rep)
    (xb_cons (xs_set (i := 5) gp_s (xe_op ok_mod (xv (pv 2)) xe_int (fun h h2 => pe_op op_mod h h2)) (fun h => ps_set (i := 5) (sc__law_bits_by).nd rfl (Or.inl rfl) h) set_rep)
    (xb_one (xs_if gp_s (xt_op ok_in1 (xv (pv 5)) (xe_callS (ok__law_rooms Fx) rfl (la1 la0) (xl_cons (xv (pv 3)) xl_nil (fun h h2 => pa_cons h h2)) (fun h => pe_callS (ok__law_rooms Fx) (hr.mono (by decide)) (by rfl) Fx.g__law_rooms Fx.F__law_rooms.kp Fx.b__law_rooms (fun σ => passAt (takes_of rfl rfl rfl rfl) σ) h)) (fun h h2 => pt_cmpR op_notinA h h2 (by rfl))) (xb_one (xs_set (i := 3) gp_s (xe_op ok_add (xv (pv 3)) (xe_op ok_shl xe_int (xv (pv 5)) (fun h h2 => pe_op op_shl h h2)) (fun h h2 => pe_op op_addA h h2)) (fun h => ps_set (i := 3) (sc__law_bits_by).nd rfl (Or.inl rfl) h) set_rep))
    xb_nil)))))
    (xb_one (xs_ret gp_s gp_s rfl (xv (pv 3)) (fun h => ps_ret h))))))
theorem ok_law : FnOk P w K mg base (L2.CX P w) 4 Fx.a_law Fx.d_law ["_law_script"] (spD (th P w Fx) 1 (sgS 1) f_law) :=
  fn_okSR (N := N_law) (B := m_law) (Γ' := (ΓS 3)) (okRule_fun Fx.F_law) sc_law rfl (by decide) fun cdv A outer s H E hr =>
    (xb_cons (xs_set (i := 1) gp_s (xe_op ok_add (xe_lst (xl_cons xe_int (xl_cons xe_int xl_nil (fun h h2 => pa_cons h h2)) (fun h h2 => pa_cons h h2))) (xe_sl rfl (xv (pv 0)) XBd.none (XBd.some xe_int)) (fun h h2 => pe_op op_addA h h2)) (fun h => ps_set (i := 1) (sc_law).nd rfl (Or.inl rfl) h) set_rep)
    (xb_cons (xs_for (is := [2]) gp_s (passes_of rfl) rfl (xi_range1 (xl_cons (xe_L ok_len (xl_cons (xv (pv 1)) xl_nil (fun h h2 => pa_cons h h2)) (fun h => pe_callB call_lenA (by rfl) Fx.z_len PySem.boot_len h)) xl_nil (fun h h2 => pa_cons h h2)) (fun h => pi_range1 (by rfl) Fx.z_range h)) (pg_name (i := 2) (sc_law).nd rfl (Or.inl rfl)) (tg_name set_rep) (xb_one (xs_if gp_s (xt_not (xt_val (xe_callS (ok__law_right Fx) rfl (la1 la0) (xl_cons (xe_callS (ok__law_bits_by Fx) rfl (la1 (la1 la0)) (xl_cons (xe_op ok_ix (xv (pv 1)) (xv (pv 2)) (fun h h2 => pe_ix ix_A h h2 (fun _ _ => rfl))) (xl_cons (xv (pv 2)) xl_nil (fun h h2 => pa_cons h h2)) (fun h h2 => pa_cons h h2)) (fun h => pe_callS (ok__law_bits_by Fx) (hr.mono (by decide)) (by rfl) Fx.g__law_bits_by Fx.F__law_bits_by.kp Fx.b__law_bits_by (fun σ => passAt (takes_of rfl rfl rfl rfl) σ) h)) xl_nil (fun h h2 => pa_cons h h2)) (fun h => pe_callS (ok__law_right Fx) (hr.mono (by decide)) (by rfl) Fx.g__law_right Fx.F__law_right.kp Fx.b__law_right (fun σ => passAt (takes_of rfl rfl rfl rfl) σ) h)) (fun h => .inl (pt_val h)))) (xb_one (xs_ret gp_s gp_s rfl xe_bl (fun h => ps_ret h)))
    xb_nil)))
    (xb_one (xs_ret gp_s gp_s rfl xe_bl (fun h => ps_ret h)))))
end
abbrev fA1 (K : PySem.W.Frag) : Addr := He.fAd K ("_law_rooms", none)
abbrev fA2 (K : PySem.W.Frag) : Addr := He.fAd K ("members", none)
abbrev fA3 (K : PySem.W.Frag) : Addr := He.fAd K ("subsets", none)
abbrev fA4 (K : PySem.W.Frag) : Addr := He.fAd K ("_law_right", none)
abbrev fA5 (K : PySem.W.Frag) : Addr := He.fAd K ("_law_bits_by", none)
abbrev fA6 (K : PySem.W.Frag) : Addr := He.fAd K ("law", none)
abbrev cg0 (K : PySem.W.Frag) : Prop :=
    (PySem.W.nsIn K mainGlobals "_law_rooms" = some (some (.ref (fA1 K)))) ∧
    (PySem.W.nsIn K mainGlobals "members" = some (some (.ref (fA2 K)))) ∧
    (PySem.W.nsIn K mainGlobals "subsets" = some (some (.ref (fA3 K)))) ∧
    (PySem.W.nsIn K mainGlobals "_law_right" = some (some (.ref (fA4 K)))) ∧
    (PySem.W.nsIn K mainGlobals "_law_bits_by" = some (some (.ref (fA5 K)))) ∧
    (PySem.W.nsIn K mainGlobals "law" = some (some (.ref (fA6 K)))) ∧
    (PySem.W.nsIn K mainGlobals "bool" = some none) ∧
    (PySem.W.nsIn K mainGlobals "int" = some none) ∧
    (PySem.W.nsIn K mainGlobals "isinstance" = some none) ∧
    (PySem.W.nsIn K mainGlobals "len" = some none) ∧
    (PySem.W.nsIn K mainGlobals "list" = some none) ∧
    (PySem.W.nsIn K mainGlobals "range" = some none)
set_option maxHeartbeats 0 in
theorem facts_mk {K : PySem.W.Frag} {h : Heap} {mg : Str → Option Value} (X : K.In h) (G : h.Ns mainGlobals mg)
    (hg0 : cg0 K)
    {d1 : FuncData} (F1 : Fun K "_law_rooms" "_law_rooms" s__law_rooms (fA1 K) d1)
    {d2 : FuncData} (F2 : Fun K "members" "members" s_members (fA2 K) d2)
    {d3 : FuncData} (F3 : Fun K "subsets" "subsets" s_subsets (fA3 K) d3)
    {d4 : FuncData} (F4 : Fun K "_law_right" "_law_right" s__law_right (fA4 K) d4)
    {d5 : FuncData} (F5 : Fun K "_law_bits_by" "_law_bits_by" s__law_bits_by (fA5 K) d5)
    {d6 : FuncData} (F6 : Fun K "law" "law" s_law (fA6 K) d6)
    : ∃ Fx : Facts K mg, Fx.a_law = fA6 K ∧ ∀ (s : Shared) (v : Value), BindsTo s Fx.d_law ⟨[v], []⟩ [("_law_script", v)] := by
  obtain ⟨a1, a2, a3, a4, a5, a6, z_bool, z_int, z_isinstance, z_len, z_list, z_range⟩ := hg0
  have b1 := F1.binds (ps := ["_law_num"]) fun _ _ _ _ _ _ us hl => match us, hl with | [_], _ => rfl
  have b2 := F2.binds (ps := ["bits"]) fun _ _ _ _ _ _ us hl => match us, hl with | [_], _ => rfl
  have b3 := F3.binds (ps := ["bits"]) fun _ _ _ _ _ _ us hl => match us, hl with | [_], _ => rfl
  have b4 := F4.binds (ps := ["_law_num"]) fun _ _ _ _ _ _ us hl => match us, hl with | [_], _ => rfl
  have b5 := F5.binds (ps := ["_law_cell", "_law_k"]) fun _ _ _ _ _ _ us hl => match us, hl with | [_, _], _ => rfl
  have b6 := F6.binds (ps := ["_law_script"]) fun _ _ _ _ _ _ us hl => match us, hl with | [_], _ => rfl
  have hbl : ∀ (s : Shared) (v : Value), BindsTo s d6 ⟨[v], []⟩ [("_law_script", v)] := by
    intro s v
    obtain ⟨_, _, _, _, _, _, _, _, _, e, _, _⟩ := F6.ex
    rw [e]
    exact .of_eq rfl
  exact ⟨{
    a__law_rooms := fA1 K,
    d__law_rooms := d1,
    a_members := fA2 K,
    d_members := d2,
    a_subsets := fA3 K,
    d_subsets := d3,
    a__law_right := fA4 K,
    d__law_right := d4,
    a__law_bits_by := fA5 K,
    d__law_bits_by := d5,
    a_law := fA6 K,
    d_law := d6,
    F__law_rooms := F1,
    b__law_rooms := b1,
    g__law_rooms := PySem.W.mg_of X G a1,
    F_members := F2,
    b_members := b2,
    g_members := PySem.W.mg_of X G a2,
    F_subsets := F3,
    b_subsets := b3,
    g_subsets := PySem.W.mg_of X G a3,
    F__law_right := F4,
    b__law_right := b4,
    g__law_right := PySem.W.mg_of X G a4,
    F__law_bits_by := F5,
    b__law_bits_by := b5,
    g__law_bits_by := PySem.W.mg_of X G a5,
    F_law := F6,
    b_law := b6,
    g_law := PySem.W.mg_of X G a6,
    z_bool := PySem.W.mg_none_of X G z_bool,
    z_int := PySem.W.mg_none_of X G z_int,
    z_isinstance := PySem.W.mg_none_of X G z_isinstance,
    z_len := PySem.W.mg_none_of X G z_len,
    z_list := PySem.W.mg_none_of X G z_list,
    z_range := PySem.W.mg_none_of X G z_range }, rfl, hbl⟩
end K04

/-! Fractions in lowest terms, as the numbers they are. -/
namespace Q
open PySem PySem.Spec PyProof.Rows L2
/-- the fraction in lowest terms -/
def frac (a b : Int) : Int × Int := if b < 0 then (a.fdiv (-(Int.gcd a b)), b.fdiv (-(Int.gcd a b))) else (a / Int.gcd a b, b / Int.gcd a b)
theorem gcd_lt {a b : Int} (hb : b ≠ 0) {n : Nat} (h : b.natAbs < 2 ^ n) : ((Int.gcd a b : Nat) : Int).natAbs < 2 ^ n := by
  rw [Int.natAbs_natCast]
  exact Nat.lt_of_le_of_lt (Nat.le_of_dvd (by omega) (Nat.gcd_dvd_right _ _)) h
theorem gcd_pos {a b : Int} (hb : b ≠ 0) : 0 < Int.gcd a b := Nat.gcd_pos_of_pos_right _ (by omega)
theorem frac_neg {a b : Int} (hn : b < 0) : frac a b = (-(a / Int.gcd a b), -(b / Int.gcd a b)) := by
  have g0 := gcd_pos (a := a) (b := b) (by omega)
  have d1 : (Int.gcd a b : Int) ∣ a := Int.gcd_dvd_left ..
  have d2 : (Int.gcd a b : Int) ∣ b := Int.gcd_dvd_right ..
  obtain ⟨x, hx⟩ := d1
  obtain ⟨y, hy⟩ := d2
  unfold frac
  rw [if_pos hn]
  generalize (Int.gcd a b : Nat) = d at *
  have hd : (d : Int) ≠ 0 := by omega
  have k : ∀ z x : Int, z = d * x → z.fdiv (-(d : Int)) = -x ∧ z / d = x := fun z x e => by
    subst e
    constructor
    · rw [show (d : Int) * x = (-x) * (-(d : Int)) by rw [Int.neg_mul_neg, Int.mul_comm]]
      exact Int.mul_fdiv_cancel _ (by omega)
    · exact Int.mul_ediv_cancel_left _ hd
  rw [(k a x hx).1, (k b y hy).1, (k a x hx).2, (k b y hy).2]
theorem frac_ok {a b : Int} (hb : b ≠ 0) : 0 < (frac a b).2 ∧ (frac a b).1 * b = a * (frac a b).2 ∧ Int.gcd (frac a b).1 (frac a b).2 = 1 ∧ (frac a b).1.natAbs ≤ a.natAbs ∧ (frac a b).2.natAbs ≤ b.natAbs := by
  have g0 := gcd_pos (a := a) hb
  have d1 : (Int.gcd a b : Int) ∣ a := Int.gcd_dvd_left ..
  have d2 : (Int.gcd a b : Int) ∣ b := Int.gcd_dvd_right ..
  have e1 : (a / (Int.gcd a b : Int)) * Int.gcd a b = a := Int.ediv_mul_cancel d1
  have e2 : (b / (Int.gcd a b : Int)) * Int.gcd a b = b := Int.ediv_mul_cancel d2
  have cg : Int.gcd (a / Int.gcd a b) (b / Int.gcd a b) = 1 := Int.gcd_ediv_gcd_ediv_gcd g0
  have n1 : (a / (Int.gcd a b : Int)).natAbs ≤ a.natAbs := by
    conv => rhs; rw [← e1]
    rw [Int.natAbs_mul, Int.natAbs_natCast]
    exact Nat.le_mul_of_pos_right _ g0
  have n2 : (b / (Int.gcd a b : Int)).natAbs ≤ b.natAbs := by
    conv => rhs; rw [← e2]
    rw [Int.natAbs_mul, Int.natAbs_natCast]
    exact Nat.le_mul_of_pos_right _ g0
  generalize hx : a / (Int.gcd a b : Int) = x at *
  generalize hy : b / (Int.gcd a b : Int) = y at *
  have gp : (0 : Int) < Int.gcd a b := by omega
  have cross : x * b = a * y := by
    calc x * b = x * (y * (Int.gcd a b : Int)) := by rw [e2]
      _ = (x * (Int.gcd a b : Int)) * y := by rw [Int.mul_comm y, ← Int.mul_assoc]
      _ = a * y := by rw [e1]
  by_cases hn : b < 0
  · rw [frac_neg hn, hx, hy]
    refine ⟨?_, ?_, ?_, by rw [Int.natAbs_neg]; exact n1, by rw [Int.natAbs_neg]; exact n2⟩
    · show 0 < -y
      have : y < 0 := by
        rcases Int.lt_trichotomy y 0 with h | h | h
        · exact h
        · rw [h, Int.zero_mul] at e2; omega
        · have := Int.mul_pos h gp; omega
      omega
    · show -x * b = a * -y
      rw [Int.neg_mul, Int.mul_neg, cross]
    · show Int.gcd (-x) (-y) = 1
      rw [Int.neg_gcd, Int.gcd_neg]; exact cg
  · have ef : frac a b = (x, y) := by unfold frac; rw [if_neg hn, hx, hy]
    rw [ef]
    refine ⟨?_, ?_, cg, n1, n2⟩
    · show 0 < y
      rcases Int.lt_trichotomy y 0 with h | h | h
      · have := Int.mul_neg_of_neg_of_pos h gp; omega
      · rw [h, Int.zero_mul] at e2; omega
      · exact h
    · exact cross

/-- a fraction told -/
def rD (q : Rat) : D := .tup [.int q.num, .int q.den]
def rI (a b : Int) : Rat := (a : Rat) / (b : Rat)
theorem intc {b : Int} (h : b ≠ 0) : (b : Rat) ≠ 0 := by simpa using h
theorem rI_eq {a b x y : Int} (hb : b ≠ 0) (hy : y ≠ 0) (e : x * b = a * y) : rI x y = rI a b := by
  have h1 := intc hb
  have h2 := intc hy
  have e1 : (x : Rat) * b = a * y := by rw [← Rat.intCast_mul, ← Rat.intCast_mul, e]
  unfold rI
  grind
theorem rI_mul {a b : Int} (hb : b ≠ 0) : rI a b * b = a := by
  have h1 := intc hb
  unfold rI
  grind
theorem rat_rI (q : Rat) : rI q.num q.den = q := by
  unfold rI
  rw [← Rat.divInt_eq_div, Rat.num_divInt_den]
theorem den_pos (q : Rat) : (0 : Int) < q.den := by have := q.den_pos; omega
theorem rI_low {x y : Int} (hy : 0 < y) (g : Int.gcd x y = 1) : (rI x y).num = x ∧ ((rI x y).den : Int) = y := by
  have c : x.natAbs.Coprime y.toNat := by
    have : y.toNat = y.natAbs := by omega
    rw [this]
    exact g
  have hz : y.toNat ≠ 0 := by omega
  have e : (⟨x, y.toNat, hz, c⟩ : Rat) = rI x y := by
    rw [Rat.mk_eq_divInt, Rat.divInt_eq_div, Int.toNat_of_nonneg (by omega)]
    rfl
  rw [← e]
  exact ⟨rfl, Int.toNat_of_nonneg (by omega)⟩
theorem frac_rI {a b : Int} (hb : b ≠ 0) : D.tup [.int (frac a b).1, .int (frac a b).2] = rD (rI a b) := by
  obtain ⟨q1, q2, q3, _, _⟩ := frac_ok (a := a) hb
  have e := rI_eq hb (by omega) q2
  obtain ⟨h1, h2⟩ := rI_low q1 q3
  unfold rD
  rw [← e, h1, h2]
/-- of few figures -/
def rb (n : Nat) (q : Rat) : Prop := q.num.natAbs < 2 ^ n ∧ q.den < 2 ^ n
theorem bd_mul {a b : Int} {m n : Nat} (ha : a.natAbs < 2 ^ m) (hb : b.natAbs < 2 ^ n) : (a * b).natAbs < 2 ^ (m + n) := by
  rw [Int.natAbs_mul, Nat.pow_add]
  exact Nat.mul_lt_mul'' ha hb
theorem bd_mono {a m n : Nat} (ha : a < 2 ^ m) (h : m ≤ n) : a < 2 ^ n := Nat.lt_of_lt_of_le ha (Nat.pow_le_pow_right (by decide) h)
theorem bd_add {a b : Int} {m : Nat} (ha : a.natAbs < 2 ^ m) (hb : b.natAbs < 2 ^ m) : (a + b).natAbs < 2 ^ (m + 1) := by
  rw [Nat.pow_succ]; omega
theorem bd_sub {a b : Int} {m : Nat} (ha : a.natAbs < 2 ^ m) (hb : b.natAbs < 2 ^ m) : (a - b).natAbs < 2 ^ (m + 1) := by
  rw [Nat.pow_succ]; omega
theorem rb_rI {a b : Int} {n : Nat} (hb : b ≠ 0) (h1 : a.natAbs < 2 ^ n) (h2 : b.natAbs < 2 ^ n) : rb n (rI a b) := by
  obtain ⟨q1, q2, q3, q4, q5⟩ := frac_ok (a := a) hb
  have e := rI_eq hb (by omega) q2
  obtain ⟨k1, k2⟩ := rI_low q1 q3
  rw [← e]
  constructor
  · rw [k1]; omega
  · have : ((rI (frac a b).1 (frac a b).2).den : Int).natAbs < 2 ^ n := by rw [k2]; omega
    rwa [Int.natAbs_natCast] at this
theorem rb_mono {m n : Nat} {q : Rat} (h : rb m q) (k : m ≤ n) : rb n q := ⟨bd_mono h.1 k, bd_mono h.2 k⟩
theorem rb.den {n : Nat} {q : Rat} (h : rb n q) : ((q.den : Nat) : Int).natAbs < 2 ^ n := by rw [Int.natAbs_natCast]; exact h.2
theorem add_rI (p q : Rat) : rI (p.num * q.den + q.num * p.den) (p.den * q.den) = p + q := by
  have h1 := intc (show ((p.den : Nat) : Int) ≠ 0 by have := den_pos p; omega)
  have h2 := intc (show ((q.den : Nat) : Int) ≠ 0 by have := den_pos q; omega)
  have e1 := rat_rI p
  have e2 := rat_rI q
  unfold rI at *
  rw [Rat.intCast_add, Rat.intCast_mul, Rat.intCast_mul, Rat.intCast_mul]
  grind
theorem sub_rI (p q : Rat) : rI (p.num * q.den - q.num * p.den) (p.den * q.den) = p - q := by
  have h1 := intc (show ((p.den : Nat) : Int) ≠ 0 by have := den_pos p; omega)
  have h2 := intc (show ((q.den : Nat) : Int) ≠ 0 by have := den_pos q; omega)
  have e1 := rat_rI p
  have e2 := rat_rI q
  unfold rI at *
  rw [Rat.intCast_sub, Rat.intCast_mul, Rat.intCast_mul, Rat.intCast_mul]
  grind
theorem mul_rI (p q : Rat) : rI (p.num * q.num) (p.den * q.den) = p * q := by
  have h1 := intc (show ((p.den : Nat) : Int) ≠ 0 by have := den_pos p; omega)
  have h2 := intc (show ((q.den : Nat) : Int) ≠ 0 by have := den_pos q; omega)
  have e1 := rat_rI p
  have e2 := rat_rI q
  unfold rI at *
  rw [Rat.intCast_mul, Rat.intCast_mul]
  grind
theorem den2 (p q : Rat) : (p.den : Int) * q.den ≠ 0 := Int.mul_ne_zero (by have := den_pos p; omega) (by have := den_pos q; omega)
theorem rb_add {m n : Nat} {p q : Rat} (hp : rb m p) (hq : rb n q) : rb (m + n + 1) (p + q) := by
  rw [← add_rI]
  refine rb_rI (den2 p q) (bd_add (bd_mul hp.1 hq.den) ?_) (bd_mono (bd_mul hp.den hq.den) (by omega))
  rw [Nat.add_comm m n]
  exact bd_mul hq.1 hp.den
theorem rb_sub {m n : Nat} {p q : Rat} (hp : rb m p) (hq : rb n q) : rb (m + n + 1) (p - q) := by
  rw [← sub_rI]
  refine rb_rI (den2 p q) (bd_sub (bd_mul hp.1 hq.den) ?_) (bd_mono (bd_mul hp.den hq.den) (by omega))
  rw [Nat.add_comm m n]
  exact bd_mul hq.1 hp.den
theorem rb_mul {m n : Nat} {p q : Rat} (hp : rb m p) (hq : rb n q) : rb (m + n) (p * q) := by
  rw [← mul_rI]
  exact rb_rI (den2 p q) (bd_mul hp.1 hq.1) (bd_mul hp.den hq.den)
theorem rb_0 : rb 1 0 := ⟨by decide, by decide⟩
theorem rb_1 : rb 1 1 := ⟨by decide, by decide⟩
theorem rD_0 : D.tup [.int 0, .int 1] = rD 0 := rfl
theorem rD_1 : D.tup [.int 1, .int 1] = rD 1 := rfl
theorem hIx_rD0 (q : Rat) : hIx (rD q) (.int 0) = some (.int q.num) := hIxT0
theorem hIx_rD1 (q : Rat) : hIx (rD q) (.int 1) = some (.int q.den) := hIxT1
theorem num_den_eq {q : Rat} {a b : Int} (hb : b ≠ 0) (h : q = rI a b) : q.num * b = a * q.den := by
  have h1 := intc hb
  have h2 := intc (show ((q.den : Nat) : Int) ≠ 0 by have := den_pos q; omega)
  have e1 := rat_rI q
  refine Rat.intCast_inj.mp ?_
  rw [Rat.intCast_mul, Rat.intCast_mul]
  unfold rI at *
  grind
theorem gcd_rat (q : Rat) : Int.gcd q.num q.den = 1 := q.reduced
theorem lt_rat (p q : Rat) : (p.num * q.den < q.num * p.den) = (p < q) := propext (Rat.lt_iff p q).symm
/-! sums -/
def sumQ (f : Nat → Rat) : Nat → Rat
  | 0 => 0
  | n + 1 => sumQ f n + f n
theorem sumQ_add (f g : Nat → Rat) : ∀ n, sumQ (fun j => f j + g j) n = sumQ f n + sumQ g n
  | 0 => by simp only [sumQ]; grind
  | n + 1 => by simp only [sumQ]; rw [sumQ_add f g n]; grind
theorem sumQ_congr {f g : Nat → Rat} : ∀ {n}, (∀ j, j < n → f j = g j) → sumQ f n = sumQ g n
  | 0, _ => rfl
  | n + 1, h => by simp only [sumQ]; rw [sumQ_congr (n := n) (fun j hj => h j (by omega)), h n (by omega)]
theorem sumQ_split {f : Nat → Rat} {r : Nat} : ∀ {n}, r < n → sumQ f n = f r + sumQ (fun j => if j = r then 0 else f j) n
  | 0, h => by omega
  | n + 1, h => by
    simp only [sumQ]
    by_cases e : r = n
    · subst e
      rw [if_pos rfl, sumQ_congr (f := fun j => if j = r then 0 else f j) (g := f) (fun j hj => if_neg (by omega))]
      grind
    · rw [sumQ_split (r := r) (n := n) (by omega), if_neg (by omega)]
      grind
theorem sumQ_le {f g : Nat → Rat} : ∀ {n}, (∀ j, j < n → f j ≤ g j) → sumQ f n ≤ sumQ g n
  | 0, _ => by simp only [sumQ]; grind
  | n + 1, h => by
    simp only [sumQ]
    have h1 := sumQ_le (n := n) (fun j hj => h j (by omega))
    have h2 := h n (by omega)
    grind
theorem sumQ_const (c : Rat) : ∀ n, sumQ (fun _ => c) n = n * c
  | 0 => by simp only [sumQ]; grind
  | n + 1 => by simp only [sumQ]; rw [sumQ_const c n]; simp; grind
theorem sumQ_mul (c : Rat) (f : Nat → Rat) : ∀ n, sumQ (fun j => c * f j) n = c * sumQ f n
  | 0 => by simp only [sumQ]; grind
  | n + 1 => by simp only [sumQ]; rw [sumQ_mul c f n]; grind
theorem rb_sumQ {f : Nat → Rat} {m : Nat} : ∀ {n}, (∀ j, j < n → rb m (f j)) → rb ((m + 1) * (n + 1)) (sumQ f n)
  | 0, _ => rb_mono rb_0 (by omega)
  | n + 1, h => rb_mono (rb_add (rb_sumQ (n := n) (fun j hj => h j (by omega))) (h n (by omega))) (by simp only [Nat.mul_add, Nat.add_mul]; omega)
end Q

/-! What is said of places in fields, at data. A hold of rooms as data. -/
namespace Q
open PySem PySem.Spec PyProof.Rows L2
section
variable {fm : Nat → Str → Nat} {c n i : Nat} {f : Str} {ρ : Env} {S : Store} {l m : List D} {x d : D} {r q : Nat}
theorem ev_fldV {cs : List Nat} {a : FE} : eFldV cs f a ρ S = (a ρ S).bind fun x S1 => fldV cs f x S1 := rfl
theorem ev_fld {cs : List Nat} {a : FE} : eFld fm cs f a ρ S = (a ρ S).bind fun x S1 => fldK fm cs f x S1 := rfl
theorem ev_meth {m : Str} {tbl : List (Nat × FF)} {dd : List D} {a : FE} {as : FL} : eMeth m tbl dd a as ρ S = (a ρ S).bind fun x S1 => methK m tbl dd x S1 (fun S2 => as ρ S2) := rfl
theorem ixN_nat {k r : Nat} (h : r < k) : ixN k (r : Int) = some r := by
  unfold ixN
  rw [if_pos (by omega)]
  simp
  exact h
theorem posOf_nat (h : l[r]? = some d) : posOf (.lst l) (.int r) = some (r, d) := by
  have hr := (List.getElem?_eq_some_iff.mp h).1
  show (ixN l.length (r : Int)).bind _ = _
  rw [ixN_nat hr]
  show (l[r]?).map _ = _
  rw [h]
  rfl
theorem deep_of {k : Nat} (hg : getF S n f = some (c, x)) : deep fm S n f k = decide (k ≤ fm c f) := by
  unfold deep
  rw [hg]
theorem pFld_at (ho : ρ[i]? = some (some (.obj n))) (hg : getF S n f = some (c, x)) : pFld [c] f (eVar i) ρ S = .ok n f [] x S := by
  unfold pFld eVar
  rw [ho]
  show pFldK [c] f (.obj n) S = _
  show (match getF S n f with
    | some (c', d) => if c' ∈ [c] then RP.ok n f [] d S else .no
    | none => .no) = _
  rw [hg]
  exact if_pos (List.mem_singleton.mpr rfl)
theorem pIx_at {p : FP} {js : List Nat} {e : FE} {l : List D} (hp : p ρ S = .ok n f js (.lst l) S) (he : e ρ S = .ok (.int r) S) (hg : getF S n f = some (c, x)) (hl : l[r]? = some d) (hf : js.length + 1 ≤ fm c f) : pIx fm p e ρ S = .ok n f (js ++ [r]) d S := by
  unfold pIx
  rw [hp]
  show (match e ρ S with
    | .ok k S2 => pIxK fm n f js S2 (posOf (.lst l) k)
    | .exc y S2 => .exc y S2
    | .no => .no) = _
  rw [he]
  show pIxK fm n f js S (posOf (.lst l) (.int r)) = _
  rw [posOf_nat hl]
  show (if deep fm S n f (js.length + 1) = true then RP.ok n f (js ++ [r]) d S else .no) = _
  rw [deep_of hg, decide_eq_true hf]
  rfl
theorem eAt_at {p : FP} {js : List Nat} (hp : p ρ S = .ok n f js d S) (hg : getF S n f = some (c, x)) (hf : fm c f = js.length) : eAt fm p ρ S = .ok d S := by
  unfold eAt
  rw [hp]
  show (if deep fm S n f js.length = true ∧ deep fm S n f (js.length + 1) = false then RE.ok d S else .no) = _
  rw [deep_of hg, deep_of hg, hf]
  exact if_pos ⟨by simp, by simp⟩
theorem at1 {e : FE} (ho : ρ[i]? = some (some (.obj n))) (hg : getF S n f = some (c, .lst l)) (he : e ρ S = .ok (.int r) S) (hl : l[r]? = some d) (hf : fm c f = 1) : eAt fm (pIx fm (pFld [c] f (eVar i)) e) ρ S = .ok d S :=
  eAt_at (pIx_at (pFld_at ho hg) he hg hl (by rw [hf]; exact Nat.le_refl _)) hg hf
theorem at2 {e e2 : FE} (ho : ρ[i]? = some (some (.obj n))) (hg : getF S n f = some (c, .lst l)) (he : e ρ S = .ok (.int r) S) (hl : l[r]? = some (.lst m)) (he2 : e2 ρ S = .ok (.int q) S) (hm : m[q]? = some d) (hf : fm c f = 2) : eAt fm (pIx fm (pIx fm (pFld [c] f (eVar i)) e) e2) ρ S = .ok d S :=
  eAt_at (pIx_at (pIx_at (pFld_at ho hg) he hg hl (by rw [hf]; decide)) he2 hg hm (by show 2 ≤ fm c f; omega)) hg hf
theorem plPut_at {k : Nat} {js : List Nat} {y : D} (hg : getF S n f = some (c, x)) (hf : fm c f = js.length + k) : plPut fm k n f js y S ρ = .nx ρ (setF S n f (setAt js x y)) := by
  unfold plPut
  rw [hg]
  exact if_pos hf
theorem pset1 {e v : FE} (hv : v ρ S = .ok x S) (ho : ρ[i]? = some (some (.obj n))) (hg : getF S n f = some (c, .lst l)) (he : e ρ S = .ok (.int r) S) (hl : r < l.length) (hf : fm c f = 1) : fPSet fm (pFld [c] f (eVar i)) e v ρ S = .nx ρ (setF S n f (.lst (l.set r x))) := by
  unfold fPSet
  rw [hv]
  show (pFld [c] f (eVar i) ρ S).bindS ρ _ = _
  rw [pFld_at ho hg]
  show (e ρ S).bindS ρ _ = _
  rw [he]
  show optK (posOf (.lst l) (.int r)) _ = _
  rw [posOf_nat (List.getElem?_eq_getElem hl)]
  show plPut fm 1 n f [] (.lst (l.set r x)) S ρ = _
  rw [plPut_at hg hf]
  rfl
theorem pset2 {e e2 v : FE} (hv : v ρ S = .ok x S) (ho : ρ[i]? = some (some (.obj n))) (hg : getF S n f = some (c, .lst l)) (he : e ρ S = .ok (.int r) S) (hl : l[r]? = some (.lst m)) (he2 : e2 ρ S = .ok (.int q) S) (hm : q < m.length) (hf : fm c f = 2) : fPSet fm (pIx fm (pFld [c] f (eVar i)) e) e2 v ρ S = .nx ρ (setF S n f (.lst (l.set r (.lst (m.set q x))))) := by
  unfold fPSet
  rw [hv]
  show (pIx fm (pFld [c] f (eVar i)) e ρ S).bindS ρ _ = _
  rw [pIx_at (pFld_at ho hg) he hg hl (by rw [hf]; decide)]
  show (e2 ρ S).bindS ρ _ = _
  rw [he2]
  show optK (posOf (.lst m) (.int q)) _ = _
  rw [posOf_nat (List.getElem?_eq_getElem hm)]
  show plPut fm 1 n f [r] (.lst (m.set q x)) S ρ = _
  rw [plPut_at hg hf]
  show RS.nx ρ (setF S n f (match l[r]? with
    | some d => .lst (l.set r (setAt [] d (.lst (m.set q x))))
    | none => .lst l)) = _
  rw [hl]
  rfl
theorem pmut1 {v : FE} (hv : v ρ S = .ok x S) (ho : ρ[i]? = some (some (.obj n))) (hg : getF S n f = some (c, .lst l)) (hl : l.length < 1000000) (hf : fm c f = 1) : fPMut fm (pFld [c] f (eVar i)) mAppend (lCons v lNil) ρ S = .nx ρ (setF S n f (.lst (l ++ [x]))) := by
  unfold fPMut
  rw [pFld_at ho hg]
  show (if deep fm S n f (0 + 1) = true then _ else RS.no) = _
  rw [deep_of hg, hf]
  show (lCons v lNil ρ S).bindR ρ _ = _
  unfold lCons
  rw [hv]
  show optK (mAppend l [x]) _ = _
  rw [mAppend_lt hl]
  show plPut fm 1 n f [] (.lst (l ++ [x])) S ρ = _
  rw [plPut_at hg hf]
  rfl
theorem papp {v : FE} (hv : v ρ S = .ok x S) (ho : ρ[i]? = some (some (.obj n))) (hg : getF S n f = some (c, .lst l)) (hl : l.length < 1000000) (hf : fm c f = 2) : fPApp fm (pFld [c] f (eVar i)) v ρ S = .nx ρ (setF S n f (.lst (l ++ [x]))) := by
  unfold fPApp
  rw [pFld_at ho hg]
  show (if deep fm S n f (0 + 2) = true ∧ l.length < 1000000 then _ else RS.no) = _
  rw [deep_of hg, hf, if_pos ⟨rfl, hl⟩, hv]
  show plPut fm 2 n f [] (.lst (l ++ [x])) S ρ = _
  rw [plPut_at hg hf]
  rfl
theorem forp1 {tf : D → Env → Option Env} {b : FS} (ho : ρ[i]? = some (some (.obj n))) (hg : getF S n f = some (c, .lst l)) (hf : fm c f = 1) : fForP fm (pFld [c] f (eVar i)) tf b ρ S = forC tf b l ρ S := by
  unfold fForP
  rw [pFld_at ho hg]
  show (if deep fm S n f (0 + 1) = true ∧ deep fm S n f (0 + 2) = false then forC tf b l ρ S else RS.no) = _
  rw [deep_of hg, deep_of hg, hf]
  exact if_pos ⟨rfl, rfl⟩
theorem forp2 {tf : D → Env → Option Env} {b : FS} {e : FE} (ho : ρ[i]? = some (some (.obj n))) (hg : getF S n f = some (c, .lst l)) (he : e ρ S = .ok (.int r) S) (hl : l[r]? = some (.lst m)) (hf : fm c f = 2) : fForP fm (pIx fm (pFld [c] f (eVar i)) e) tf b ρ S = forC tf b m ρ S := by
  unfold fForP
  rw [pIx_at (pFld_at ho hg) he hg hl (by rw [hf]; decide)]
  show (if deep fm S n f (1 + 1) = true ∧ deep fm S n f (1 + 2) = false then forC tf b m ρ S else RS.no) = _
  rw [deep_of hg, deep_of hg, hf]
  exact if_pos ⟨rfl, rfl⟩
theorem forapp {j : Nat} (ho : ρ[i]? = some (some (.obj n))) (hg : getF S n f = some (c, .lst l)) (hs : l.all shortL = true) (hj : j < ρ.length) (hf : fm c f = 2) : fForApp fm (pFld [c] f (eVar i)) j x ρ S = .nx (if l.isEmpty = true then ρ else ρ.set j none) (setF S n f (.lst (l.map (appD x)))) := by
  unfold fForApp
  rw [pFld_at ho hg]
  show (if ([] : List Nat) = [] ∧ deep fm S n f 2 = true ∧ deep fm S n f 3 = false ∧ l.all shortL = true ∧ j < ρ.length then _ else RS.no) = _
  rw [deep_of hg, deep_of hg, hf]
  exact if_pos ⟨rfl, rfl, rfl, hs, hj⟩
end
theorem ev_chain {h h' : D → D → Option D} {a b c : FE} {ρ : Env} {S : Store} : eChain h h' a b c ρ S = (a ρ S).bind fun x S1 => (b ρ S1).bind fun y S2 => (RE.of S2 (h x y)).bind fun z S3 => condE z ((c ρ S3).bind fun w S4 => .of S4 (h' y w)) (.ok (.bl false) S3) := rfl
theorem fldPut_at {fm : Nat → Str → Nat} {c n k : Nat} {f : Str} {d : D} {ρ : Env} {S : Store} {fs : List (Str × D)} (ho : S[n]? = some ⟨c, fs⟩) (hf : fm c f = k) (hl : fs.length < 1000) : fldPut fm [c] k f (.obj n) d ρ S = .nx ρ (S.set n ⟨c, putD f d fs⟩) := by
  show (match S[n]? with
    | some ob => if ob.cls ∈ [c] ∧ fm ob.cls f = k ∧ ob.fs.length < 1000 then RS.nx ρ (S.set n ⟨ob.cls, putD f d ob.fs⟩) else .no
    | none => .no) = _
  rw [ho]
  exact if_pos ⟨List.mem_singleton.mpr rfl, hf, hl⟩
theorem fFld_at {fm : Nat → Str → Nat} {c n k i : Nat} {f : Str} {d : D} {e : FE} {ρ : Env} {S : Store} {fs : List (Str × D)} (he : e ρ S = .ok d S) (hi : ρ[i]? = some (some (.obj n))) (ho : S[n]? = some ⟨c, fs⟩) (hf : fm c f = k) (hl : fs.length < 1000) : fFld fm [c] k f (eVar i) e ρ S = .nx ρ (S.set n ⟨c, putD f d fs⟩) := by
  unfold fFld
  rw [he]
  show (eVar i ρ S).bindS ρ _ = _
  unfold eVar
  rw [hi]
  exact fldPut_at ho hf hl
theorem eMake_at {c : Nat} {Φ : FF} {dd : List D} {as : FL} {ρ : Env} {S S1 S2 : Store} {ds : List D} {o : Env} (ha : as ρ S = .ok ds S1) (hf : Φ (.obj S1.length :: (ds ++ dd)) (S1 ++ [⟨c, []⟩]) = .ok .non o S2) : eMake c Φ dd as ρ S = .ok (.obj S1.length) S2 := by
  unfold eMake
  rw [ha]
  show makeR S1.length (Φ (.obj S1.length :: (ds ++ dd)) (S1 ++ [⟨c, []⟩])) = _
  rw [hf]
  rfl
theorem last_get {S : Store} {o : Ob} : (S ++ [o])[S.length]? = some o := by simp
theorem last_set {S : Store} {o p : Ob} : (S ++ [o]).set S.length p = S ++ [p] := by simp
theorem rfe_ok {d : D} {o : Env} {S : Store} : RFE (.ok d o S) = .ok d S := rfl
theorem call0_ok {Φ : FF} {as : FL} {ρ : Env} {S S1 : Store} {ds : List D} {d : D} {o : Env} (ha : as ρ S = .ok ds S1) (hn : noObjL ds = true) (hf : Φ ds [] = .ok d o []) : eCall0 Φ as ρ S = .ok d S1 := by
  unfold eCall0
  rw [ha]
  show (if noObjL ds = true then (match Φ ds [] with
    | .ok d _ [] => RE.ok d S1
    | _ => .no) else .no) = _
  rw [if_pos hn, hf]
/-! ### a hold of rooms: so many rooms, the marks, flows, sky, stove of each -/
def tbl {α : Type} (m : Nat) (f : Nat → α) : List α := (List.range m).map f
theorem tbl_len {α : Type} {m : Nat} {f : Nat → α} : (tbl m f).length = m := by unfold tbl; simp
theorem tbl_get {α : Type} {m r : Nat} {f : Nat → α} (h : r < m) : (tbl m f)[r]? = some (f r) := by
  unfold tbl
  rw [List.getElem?_map, List.getElem?_range h]
  rfl
theorem tbl_succ {α : Type} {m : Nat} {f : Nat → α} : tbl (m + 1) f = tbl m f ++ [f m] := by
  unfold tbl
  rw [List.range_succ, List.map_append]
  rfl
theorem tbl_congr {α : Type} {m : Nat} {f g : Nat → α} (h : ∀ j, j < m → f j = g j) : tbl m f = tbl m g := by
  unfold tbl
  exact List.map_congr_left fun j hj => h j (List.mem_range.mp hj)
theorem tbl_set {α : Type} {m r : Nat} {f : Nat → α} {x : α} : (tbl m f).set r x = tbl m fun i => if i = r then x else f i := by
  refine List.ext_getElem? fun i => ?_
  rw [List.getElem?_set]
  by_cases hi : i < m
  · rw [tbl_get hi, tbl_get hi, tbl_len]
    by_cases e : r = i
    · subst e; rw [if_pos rfl, if_pos hi, if_pos rfl]
    · rw [if_neg e, if_neg (Ne.symm e)]
  · rw [List.getElem?_eq_none (l := tbl m f) (by rw [tbl_len]; omega), List.getElem?_eq_none (l := tbl m _) (by rw [tbl_len]; omega), tbl_len]
    by_cases e : r = i
    · subst e; rw [if_pos rfl, if_neg hi]
    · rw [if_neg e]
theorem tbl_map {α β : Type} {m : Nat} {f : Nat → α} {g : α → β} : (tbl m f).map g = tbl m fun i => g (f i) := by
  unfold tbl
  rw [List.map_map]
  rfl
theorem tbl_mem {α : Type} {m : Nat} {f : Nat → α} {x : α} : x ∈ tbl m f ↔ ∃ i, i < m ∧ f i = x := by
  unfold tbl
  simp
theorem tbl_zero {α : Type} {f : Nat → α} : tbl 0 f = [] := rfl
theorem tbl_const {α : Type} {m : Nat} {x : α} : tbl m (fun _ => x) = List.replicate m x := by
  refine List.ext_getElem? fun i => ?_
  by_cases hi : i < m
  · rw [tbl_get hi, List.getElem?_replicate, if_pos hi]
  · rw [List.getElem?_eq_none (l := tbl m _) (by rw [tbl_len]; omega), List.getElem?_replicate, if_neg hi]
theorem foldl_tbl {g : Nat → Rat} {x : Rat} : ∀ m, (tbl m g).foldl (· + ·) x = x + sumQ g m
  | 0 => by rw [tbl_zero]; simp only [List.foldl, sumQ]; grind
  | m + 1 => by
    rw [tbl_succ, List.foldl_append, foldl_tbl m]
    simp only [List.foldl, sumQ]
    grind
structure Hs where
  most : Int
  cap : Int
  load : Int
  many : Nat
  marks : Nat → List Rat
  flow : Nat → Nat → Rat
  sky : Nat → Rat × Rat × Rat
  stove : Nat → Option (Rat × Int × Int × Int)
def rsD (m : List Rat) : D := .lst (m.map rD)
def skyD (s : Rat × Rat × Rat) : D := .tup [rD s.1, rD s.2.1, rD s.2.2]
def stoveD : Option (Rat × Int × Int × Int) → D
  | none => .non
  | some (h, w, s, f) => .tup [rD h, .int w, .int s, .int f]
def Hs.flows (h : Hs) : D := .lst (tbl h.many fun i => .lst (tbl h.many fun j => rD (h.flow i j)))
def Hs.fs (h : Hs) : List (Str × D) := [("most", .int h.most), ("cap", .int h.cap), ("load", .int h.load), ("my_marks", .lst (tbl h.many fun i => rsD (h.marks i))), ("my_flows", h.flows), ("my_skies", .lst (tbl h.many fun i => skyD (h.sky i))), ("my_stoves", .lst (tbl h.many fun i => stoveD (h.stove i)))]
def Hs.ob (h : Hs) (c : Nat) : Ob := ⟨c, h.fs⟩
def At (S : Store) (n c : Nat) (h : Hs) : Prop := S[n]? = some (h.ob c)
/-- the share taken of a room -/
def Hs.taken (h : Hs) (r : Nat) : Rat := (h.sky r).1 + sumQ (h.flow r) h.many
/-- few rooms, of few figures -/
structure Hs.Wf (h : Hs) (k : Nat) : Prop where
  m4 : h.many ≤ 4
  bf : ∀ i j, i < h.many → j < h.many → rb k (h.flow i j)
  bs : ∀ i, i < h.many → rb k (h.sky i).1
def Hs.add (h : Hs) (ms : List Rat) : Hs := { h with many := h.many + 1, marks := fun i => if i = h.many then ms else h.marks i, flow := fun i j => if i = h.many ∨ j = h.many then 0 else h.flow i j, sky := fun i => if i = h.many then (0, 0, 0) else h.sky i, stove := fun i => if i = h.many then none else h.stove i }
def Hs.setSky (h : Hs) (r : Nat) (s : Rat × Rat × Rat) : Hs := { h with sky := fun i => if i = r then s else h.sky i }
def Hs.setFlow (h : Hs) (r q : Nat) (s : Rat) : Hs := { h with flow := fun i j => if i = r then (if j = q then s else h.flow i j) else h.flow i j }
def Hs.setStove (h : Hs) (r : Nat) (s : Option (Rat × Int × Int × Int)) : Hs := { h with stove := fun i => if i = r then s else h.stove i }
/-- a hold with no room -/
def Hs.none (a b c : Int) : Hs := ⟨a, b, c, 0, fun _ => [], fun _ _ => 0, fun _ => (0, 0, 0), fun _ => .none⟩
section
variable {S : Store} {n c : Nat} {h : Hs} {fm : Nat → Str → Nat}
theorem At.lt (a : At S n c h) : n < S.length := (List.getElem?_eq_some_iff.mp a).1
theorem At.set {h' : Hs} (a : At S n c h) : At (S.set n (h'.ob c)) n c h' := by
  show (S.set n (h'.ob c))[n]? = _
  rw [List.getElem?_set_self a.lt]
theorem At.marks (a : At S n c h) : getF S n "my_marks" = some (c, .lst (tbl h.many fun i => rsD (h.marks i))) := by
  unfold getF; rw [a]; rfl
theorem At.flows (a : At S n c h) : getF S n "my_flows" = some (c, .lst (tbl h.many fun i => .lst (tbl h.many fun j => rD (h.flow i j)))) := by
  unfold getF; rw [a]; rfl
theorem At.skies (a : At S n c h) : getF S n "my_skies" = some (c, .lst (tbl h.many fun i => skyD (h.sky i))) := by
  unfold getF; rw [a]; rfl
theorem At.stoves (a : At S n c h) : getF S n "my_stoves" = some (c, .lst (tbl h.many fun i => stoveD (h.stove i))) := by
  unfold getF; rw [a]; rfl
theorem At.most (a : At S n c h) : getF S n "most" = some (c, .int h.most) := by
  unfold getF; rw [a]; rfl
theorem At.cap (a : At S n c h) : getF S n "cap" = some (c, .int h.cap) := by
  unfold getF; rw [a]; rfl
theorem At.load (a : At S n c h) : getF S n "load" = some (c, .int h.load) := by
  unfold getF; rw [a]; rfl
theorem fldV_of {f : Str} {x : D} (hg : getF S n f = some (c, x)) : fldV [c] f (.obj n) S = .ok x S := by
  show (match getF S n f with
    | some (c', d) => if c' ∈ [c] then RE.ok d S else .no
    | none => .no) = _
  rw [hg]
  exact if_pos (List.mem_singleton.mpr rfl)
theorem fldK_of {f : Str} {x : D} (hg : getF S n f = some (c, x)) (hf : fm c f = 0) : fldK fm [c] f (.obj n) S = .ok x S := by
  show (match getF S n f with
    | some (c', d) => if c' ∈ [c] ∧ fm c' f = 0 then RE.ok d S else .no
    | none => .no) = _
  rw [hg]
  exact if_pos ⟨List.mem_singleton.mpr rfl, hf⟩
theorem setF_of {f : Str} {d : D} {o : Ob} (ho : S[n]? = some o) : setF S n f d = S.set n ⟨o.cls, putD f d o.fs⟩ := by
  unfold setF
  rw [ho]
theorem At.putF (a : At S n c h) {f : Str} {d : D} (h' : Hs) (e : putD f d h.fs = h'.fs) : setF S n f d = S.set n (h'.ob c) := by
  rw [setF_of a]
  show S.set n ⟨c, putD f d h.fs⟩ = _
  rw [e]
  rfl
theorem At.put_sky (a : At S n c h) (r : Nat) (s : Rat × Rat × Rat) : setF S n "my_skies" (.lst ((tbl h.many fun i => skyD (h.sky i)).set r (skyD s))) = S.set n ((h.setSky r s).ob c) := by
  refine a.putF _ ?_
  rw [tbl_set]
  show (h.fs.set 5 ("my_skies", .lst (tbl h.many fun i => if i = r then skyD s else skyD (h.sky i)))) = _
  rw [tbl_congr (g := fun i => skyD (if i = r then s else h.sky i)) (fun i _ => by split <;> rfl)]
  rfl
theorem At.put_stove (a : At S n c h) (r : Nat) (s : Option (Rat × Int × Int × Int)) : setF S n "my_stoves" (.lst ((tbl h.many fun i => stoveD (h.stove i)).set r (stoveD s))) = S.set n ((h.setStove r s).ob c) := by
  refine a.putF _ ?_
  rw [tbl_set]
  show (h.fs.set 6 ("my_stoves", .lst (tbl h.many fun i => if i = r then stoveD s else stoveD (h.stove i)))) = _
  rw [tbl_congr (g := fun i => stoveD (if i = r then s else h.stove i)) (fun i _ => by split <;> rfl)]
  rfl
theorem At.put_flow (a : At S n c h) (r q : Nat) (s : Rat) : setF S n "my_flows" (.lst ((tbl h.many fun i => D.lst (tbl h.many fun j => rD (h.flow i j))).set r (.lst ((tbl h.many fun j => rD (h.flow r j)).set q (rD s))))) = S.set n ((h.setFlow r q s).ob c) := by
  refine a.putF _ ?_
  rw [tbl_set, tbl_set]
  show (h.fs.set 4 ("my_flows", .lst (tbl h.many fun i => if i = r then .lst (tbl h.many fun j => if j = q then rD s else rD (h.flow r j)) else .lst (tbl h.many fun j => rD (h.flow i j))))) = _
  rw [tbl_congr (g := fun i => .lst (tbl h.many fun j => rD (if i = r then (if j = q then s else h.flow i j) else h.flow i j))) (fun i _ => by
    split
    · rename_i e
      subst e
      rw [tbl_congr (g := fun j => rD (if j = q then s else h.flow i j)) (fun j _ => by split <;> rfl)]
    · rfl)]
  rfl
/-! the raw fields -/
def raw (a b c mk fl sk st : D) : List (Str × D) := [("most", a), ("cap", b), ("load", c), ("my_marks", mk), ("my_flows", fl), ("my_skies", sk), ("my_stoves", st)]
section
variable {a b e mk fl sk st : D}
theorem raw_marks (o : S[n]? = some ⟨c, raw a b e mk fl sk st⟩) : getF S n "my_marks" = some (c, mk) := by unfold getF; rw [o]; rfl
theorem raw_flows (o : S[n]? = some ⟨c, raw a b e mk fl sk st⟩) : getF S n "my_flows" = some (c, fl) := by unfold getF; rw [o]; rfl
theorem raw_skies (o : S[n]? = some ⟨c, raw a b e mk fl sk st⟩) : getF S n "my_skies" = some (c, sk) := by unfold getF; rw [o]; rfl
theorem raw_stoves (o : S[n]? = some ⟨c, raw a b e mk fl sk st⟩) : getF S n "my_stoves" = some (c, st) := by unfold getF; rw [o]; rfl
theorem raw_setMarks (o : S[n]? = some ⟨c, raw a b e mk fl sk st⟩) (d : D) : setF S n "my_marks" d = S.set n ⟨c, raw a b e d fl sk st⟩ := by rw [setF_of o]; rfl
theorem raw_setFlows (o : S[n]? = some ⟨c, raw a b e mk fl sk st⟩) (d : D) : setF S n "my_flows" d = S.set n ⟨c, raw a b e mk d sk st⟩ := by rw [setF_of o]; rfl
theorem raw_setSkies (o : S[n]? = some ⟨c, raw a b e mk fl sk st⟩) (d : D) : setF S n "my_skies" d = S.set n ⟨c, raw a b e mk fl d st⟩ := by rw [setF_of o]; rfl
theorem raw_setStoves (o : S[n]? = some ⟨c, raw a b e mk fl sk st⟩) (d : D) : setF S n "my_stoves" d = S.set n ⟨c, raw a b e mk fl sk d⟩ := by rw [setF_of o]; rfl
end
theorem set_get {o p : Ob} (h : S[n]? = some o) : (S.set n p)[n]? = some p := by
  rw [List.getElem?_set_self (List.getElem?_eq_some_iff.mp h).1]
theorem get_of_set {o p : Ob} {S1 : Store} (e : S.set n p = S1) (h : S[n]? = some o) : S1[n]? = some p := by rw [← e]; exact set_get h
theorem rep_one {d : D} {k : Nat} : rep [d] k = tbl k fun _ => d := by
  rw [tbl_const]
  unfold rep
  induction k with
  | zero => rfl
  | succ k ih => rw [List.replicate_succ, List.flatten_cons, ih]; rfl
theorem hRep_one {d : D} {k : Nat} (h : k ≤ 1000) : hRep (.lst [d]) (.int k) = some (.lst (tbl k fun _ => d)) := by
  show (if 0 ≤ (k : Int) ∧ (k : Int) ≤ 1000000 ∧ 1 * (k : Int).toNat ≤ 1000000 then some (D.lst (rep [d] (k : Int).toNat)) else none) = _
  rw [if_pos ⟨by omega, by omega, by omega⟩, Int.toNat_natCast, rep_one]
theorem add_flows {ms : List Rat} : D.lst ((tbl h.many fun i => D.lst (tbl h.many fun j => rD (h.flow i j))).map (appD (rD 0)) ++ [.lst (tbl (h.many + 1) fun _ => rD 0)]) = (h.add ms).flows := by
  unfold Hs.flows
  show _ = D.lst (tbl (h.many + 1) fun i => .lst (tbl (h.many + 1) fun j => rD ((h.add ms).flow i j)))
  rw [tbl_map, tbl_succ (m := h.many) (f := fun i => D.lst (tbl (h.many + 1) fun j => rD ((h.add ms).flow i j)))]
  congr 2
  · refine tbl_congr fun i hi => ?_
    show D.lst (_ ++ [rD 0]) = _
    rw [tbl_succ, tbl_congr (f := fun j => rD ((h.add ms).flow i j)) (g := fun j => rD (h.flow i j)) (fun j hj => by
      show rD (if i = h.many ∨ j = h.many then 0 else h.flow i j) = _
      rw [if_neg (by omega)]), show (h.add ms).flow i h.many = 0 from if_pos (.inr rfl)]
  · refine congrArg (fun z => [D.lst z]) (tbl_congr fun j hj => ?_)
    rw [show (h.add ms).flow h.many j = 0 from if_pos (.inl rfl)]
theorem add_marks {ms : List Rat} : D.lst ((tbl h.many fun i => rsD (h.marks i)) ++ [rsD ms]) = .lst (tbl (h.add ms).many fun i => rsD ((h.add ms).marks i)) := by
  show _ = D.lst (tbl (h.many + 1) _)
  rw [tbl_succ, tbl_congr (f := fun i => rsD ((h.add ms).marks i)) (g := fun i => rsD (h.marks i)) (fun i hi => by
    show rsD (if i = h.many then ms else h.marks i) = _
    rw [if_neg (by omega)]), show (h.add ms).marks h.many = ms from if_pos rfl]
theorem add_skies {ms : List Rat} : D.lst ((tbl h.many fun i => skyD (h.sky i)) ++ [skyD (0, 0, 0)]) = .lst (tbl (h.add ms).many fun i => skyD ((h.add ms).sky i)) := by
  show _ = D.lst (tbl (h.many + 1) _)
  rw [tbl_succ, tbl_congr (f := fun i => skyD ((h.add ms).sky i)) (g := fun i => skyD (h.sky i)) (fun i hi => by
    show skyD (if i = h.many then (0, 0, 0) else h.sky i) = _
    rw [if_neg (by omega)]), show (h.add ms).sky h.many = (0, 0, 0) from if_pos rfl]
theorem add_stoves {ms : List Rat} : D.lst ((tbl h.many fun i => stoveD (h.stove i)) ++ [.non]) = .lst (tbl (h.add ms).many fun i => stoveD ((h.add ms).stove i)) := by
  show _ = D.lst (tbl (h.many + 1) _)
  rw [tbl_succ, tbl_congr (f := fun i => stoveD ((h.add ms).stove i)) (g := fun i => stoveD (h.stove i)) (fun i hi => by
    show stoveD (if i = h.many then .none else h.stove i) = _
    rw [if_neg (by omega)]), show (h.add ms).stove h.many = .none from if_pos rfl]
  rfl
/-- a method of the hold is called -/
theorem methK_H {m : Str} {Φ : FF} {dd ds : List D} {S2 : Store} {k : Store → RL} (a : At S n c h) (hm : (h.fs.lookup m).isNone = true) (hk : k S = .ok ds S2) : methK m [(c, Φ)] dd (.obj n) S k = RFE (Φ (.obj n :: (ds ++ dd)) S2) := by
  show (match S[n]? with
    | some ob => if (ob.fs.lookup m).isNone = true then (match ([(c, Φ)] : List (Nat × FF)).lookup ob.cls with
      | some Φ => (match k S with
        | .ok ds S2 => RFE (Φ (.obj n :: (ds ++ dd)) S2)
        | .exc y S2 => .exc y S2
        | .no => .no)
      | none => .no) else .no
    | none => .no) = _
  rw [a]
  show (if (h.fs.lookup m).isNone = true then (match ([(c, Φ)] : List (Nat × FF)).lookup c with
      | some Φ => (match k S with
        | .ok ds S2 => RFE (Φ (.obj n :: (ds ++ dd)) S2)
        | .exc y S2 => .exc y S2
        | .no => .no)
      | none => .no) else .no) = _
  rw [if_pos hm]
  simp only [List.lookup, BEq.rfl]
  rw [hk]
end
end Q

/-! Loops over a range, cuts, scripts' numbers. -/
namespace Q
open PySem PySem.Spec PyProof.Rows L2
theorem hTru_of {b : Bool} : hTru (.bl b) = some (.bl b) := rfl
theorem rangeL_tbl (m : Nat) : rangeL 0 (m : Int) = tbl m fun j => .int j := by
  unfold rangeL tbl
  rw [show ((m : Int) - 0).toNat = m by omega]
  exact List.map_congr_left fun j _ => by rw [Int.zero_add]
theorem forL_range {v : Nat} {b : FS} (I : Nat → Env → Store → Prop) {m : Nat} {ρ : Env} {S : Store} (h0 : I 0 ρ S) (turn : ∀ i, i < m → ∀ ρ S, I i ρ S → ∃ ρ2 S2, b (ρ.set v (some (.int i))) S = .nx ρ2 S2 ∧ I (i + 1) ρ2 S2) :
    ∃ ρ' S', forL (tfName v) b (rangeL 0 (m : Int)) ρ S = .nx ρ' S' ∧ I m ρ' S' := by
  obtain ⟨ρ', S', e, h⟩ := forL_all (tf := tfName v) (b := b) I (ds := rangeL 0 (m : Int)) h0 (fun i d ρ S hd h => by
    obtain ⟨rfl, hi⟩ := rangeL_get hd
    rw [Int.zero_add] at hi ⊢
    exact ⟨_, rfl, .inl (turn i (by omega) ρ S h)⟩)
  rw [rangeL_length, show ((m : Int) - 0).toNat = m by omega] at h
  exact ⟨ρ', S', e, h⟩
theorem forL_list {α : Type} {v : Nat} {b : FS} (f : α → D) (I : Nat → Env → Store → Prop) {l : List α} {ρ : Env} {S : Store} (h0 : I 0 ρ S) (turn : ∀ i (hi : i < l.length), ∀ ρ S, I i ρ S → ∃ ρ2 S2, b (ρ.set v (some (f l[i]))) S = .nx ρ2 S2 ∧ I (i + 1) ρ2 S2) :
    ∃ ρ' S', forL (tfName v) b (l.map f) ρ S = .nx ρ' S' ∧ I l.length ρ' S' := by
  obtain ⟨ρ', S', e, h⟩ := forL_all (tf := tfName v) (b := b) I (ds := l.map f) h0 (fun i d ρ S hd h => by
    rw [List.getElem?_map] at hd
    obtain ⟨x, e1, e2⟩ := Option.map_eq_some_iff.mp hd
    obtain ⟨hi, e3⟩ := List.getElem?_eq_some_iff.mp e1
    subst e3 e2
    exact ⟨_, rfl, .inl (turn i hi ρ S h)⟩)
  rw [List.length_map] at h
  exact ⟨ρ', S', e, h⟩
theorem eLc_range {it : FL} {vs : List Nat} {v m : Nat} {E : FE} {ρ : Env} {S S1 : Store} (f : Nat → D) (hi : it ρ S = .ok (rangeL 0 (m : Int)) S1) (hm : m ≤ 1000000)
    (h : ∀ j, j < m → E ((wipeE ρ vs).set v (some (.int j))) S1 = .ok (f j) S1) : eLc it vs (tfName v) (eC (.bl true)) E ρ S = .ok (.lst (tbl m f)) S1 := by
  have e := eLc_eq (it := it) (vs := vs) (tf := tfName v) (C := eC (.bl true)) (E := E) (ρ := ρ) (S := S) (S1 := S1) (ds := rangeL 0 (m : Int)) (fun _ => true) (fun d => match d with
    | .int j => f j.toNat
    | _ => .non) hi (by rw [rangeL_length]; omega) (fun d hd => by
      obtain ⟨i, hi, e⟩ := List.getElem_of_mem hd
      have hg : (rangeL 0 (m : Int))[i]? = some d := by rw [List.getElem?_eq_getElem hi, e]
      obtain ⟨rfl, h2⟩ := rangeL_get hg
      rw [Int.zero_add] at h2 ⊢
      exact ⟨_, rfl, rfl, fun _ => h i (by omega)⟩)
  rw [e, rangeL_tbl, List.filter_eq_self.mpr (fun _ _ => rfl), tbl_map]
  rw [tbl_congr (g := f) (fun j _ => by show f (j : Int).toNat = f j; rw [Int.toNat_natCast])]
theorem cutD_mid {l : List D} (a b : Nat) : cutD l (some (a : Int)) (some (b : Int)) = (l.drop a).take (b - a) := by
  unfold cutD
  rw [HT.sIx_nat, HT.sIx_nat]
  by_cases ha : a ≤ l.length
  · rw [Nat.min_eq_left ha]
    by_cases hb : b ≤ l.length
    · rw [Nat.min_eq_left hb]
    · rw [Nat.min_eq_right (by omega), List.take_of_length_le (by simp), List.take_of_length_le (by simp; omega)]
  · rw [Nat.min_eq_right (show l.length ≤ a by omega), List.drop_of_length_le (Nat.le_refl _), List.drop_of_length_le (show l.length ≤ a by omega), List.take_nil, List.take_nil]
/-! the script's numbers -/
def pick (c k m : Int) : Int := (c % 1000003 + 1) * (k * k + 48271) % 65537 % m
theorem pick_lt {c k m : Int} (h : 0 < m) : 0 ≤ pick c k m ∧ pick c k m < m := ⟨Int.emod_nonneg _ (by omega), Int.emod_lt_of_pos _ h⟩
def cellAt (ns : List Int) (k : Nat) : Int := ns[k]?.getD 0
def small (ns : List Int) : Prop := ∀ z ∈ ns, Builtin.Int.intBits z ≤ 1048576
theorem cell_bd {ns : List Int} (h : small ns) (k : Nat) : (cellAt ns k).natAbs < 2 ^ 1048576 := by
  refine PySem.intBits_le_iff.mp ?_
  unfold cellAt
  cases e : ns[k]? with
  | none => decide
  | some z => exact h z (List.mem_of_getElem? e)
theorem small_cut {ns : List Int} (h : small ns) (a b : Nat) : small ((ns.drop a).take b) := fun z hz => h z (List.mem_of_mem_drop (List.mem_of_mem_take hz))
theorem hIx_ints {ns : List Int} {k : Nat} (h : k < ns.length) : hIx (.lst (ns.map .int)) (.int k) = some (.int (cellAt ns k)) := hIx_lst (by
  rw [List.getElem?_map, List.getElem?_eq_getElem h]
  unfold cellAt
  rw [List.getElem?_eq_getElem h]
  rfl)
theorem hIx_scrs {ns : List Int} {k : Nat} (h : k < ns.length) : hIx (.scr (ns.map .int)) (.int k) = some (.int (cellAt ns k)) := hIx_scr (by
  rw [List.getElem?_map, List.getElem?_eq_getElem h]
  unfold cellAt
  rw [List.getElem?_eq_getElem h]
  rfl)
theorem cell_none {ns : List Int} {k : Nat} (h : ¬ k < ns.length) : cellAt ns k = 0 := by
  unfold cellAt
  rw [List.getElem?_eq_none (by omega)]
  rfl
theorem hIx_tbl {m r : Nat} {f : Nat → D} (h : r < m) : hIx (.lst (tbl m f)) (.int r) = some (f r) := hIx_lst (tbl_get h)
/-- a fraction without its sign -/
def rabs (q : Rat) : Rat := ⟨q.num.natAbs, q.den, q.den_nz, by simpa using q.reduced⟩
theorem rabs_D (q : Rat) : D.tup [.int (q.num.natAbs : Nat), .int q.den] = rD (rabs q) := rfl
theorem rabs_rb {k : Nat} {q : Rat} (h : rb k q) : rb k (rabs q) := ⟨by show ((q.num.natAbs : Nat) : Int).natAbs < _; rw [Int.natAbs_natCast]; exact h.1, h.2⟩
theorem rabs_pos (q : Rat) : ¬ rabs q < 0 := by
  have h : 0 ≤ (rabs q).num := by show (0 : Int) ≤ (q.num.natAbs : Nat); omega
  have := Rat.num_nonneg.mp h
  grind
/-! sums of fractions not in lowest terms -/
def tD (t : Int × Int) : D := .tup [.int t.1, .int t.2]
def tsum : List (Int × Int) → Rat
  | [] => 0
  | t :: l => rI t.1 t.2 + tsum l
theorem tsum_app (a b : List (Int × Int)) : tsum (a ++ b) = tsum a + tsum b := by
  induction a with
  | nil => simp only [List.nil_append, tsum]; grind
  | cons t a ih => simp only [List.cons_append, tsum, ih]; grind
def tok (k : Nat) (t : Int × Int) : Prop := t.1.natAbs < 2 ^ k ∧ t.2.natAbs < 2 ^ k ∧ t.2 ≠ 0
theorem add_frac {t b u d : Int} (hb : b ≠ 0) (hd : d ≠ 0) : rI (t * d + u * b) (b * d) = rI t b + rI u d := by
  have h1 := intc hb
  have h2 := intc hd
  unfold rI
  rw [Rat.intCast_add, Rat.intCast_mul, Rat.intCast_mul, Rat.intCast_mul]
  grind
theorem mul_frac {w : Int} {q : Rat} {p : Int} (hw : w ≠ 0) : rI (p * q.num) (w * q.den) = rI p w * q := by
  have h1 := intc hw
  have h2 := intc (show ((q.den : Nat) : Int) ≠ 0 by have := den_pos q; omega)
  have e2 := rat_rI q
  unfold rI at *
  rw [Rat.intCast_mul, Rat.intCast_mul]
  grind
theorem sub_same {a b w : Int} (hw : w ≠ 0) : rI (a - b) w = rI a w - rI b w := by
  have h1 := intc hw
  unfold rI
  rw [Rat.intCast_sub]
  grind
theorem rI_self {w : Int} (hw : w ≠ 0) : rI w w = 1 := by
  have h1 := intc hw
  unfold rI
  grind
theorem rI_zero {w : Int} : rI 0 w = 0 := by
  unfold rI
  simp
  grind
theorem rI_nonneg {a w : Int} (ha : 0 ≤ a) (hw : 0 < w) : 0 ≤ rI a w := by
  have h1 := intc (show w ≠ 0 by omega)
  have h2 : (0 : Rat) ≤ a := by exact_mod_cast ha
  have h3 : (0 : Rat) < w := by exact_mod_cast hw
  unfold rI
  rw [Rat.div_def]
  exact Rat.mul_nonneg h2 (Rat.le_of_lt (Rat.inv_pos.mpr h3))
theorem rI_le {a w c d : Int} (hw : 0 < w) (hd : 0 < d) (h : a * d ≤ c * w) : rI a w ≤ rI c d := by
  have e : rI c d - rI a w = rI (c * w - a * d) (d * w) := by
    have h1 := intc (show w ≠ 0 by omega)
    have h2 := intc (show d ≠ 0 by omega)
    unfold rI
    rw [Rat.intCast_sub, Rat.intCast_mul, Rat.intCast_mul, Rat.intCast_mul]
    grind
  have := rI_nonneg (a := c * w - a * d) (w := d * w) (by omega) (Int.mul_pos hd hw)
  grind
/-! the warmth of a room -/
theorem taken_rb {k : Nat} {h : Hs} {r : Nat} (w : h.Wf k) (hr : r < h.many) : rb (k + (k + 1) * 5 + 1) (h.taken r) :=
  rb_mono (rb_add (w.bs r hr) (rb_sumQ (m := k) fun j hj => w.bf r j hr hj)) (by
    have m4 := w.m4
    have := Nat.mul_le_mul_left (k + 1) (show h.many + 1 ≤ 5 by omega)
    omega)
def heatOf : Option (Rat × Int × Int × Int) → Rat
  | none => 0
  | some s => s.1
def Hs.part (h : Hs) (r j : Nat) : Rat := if r = j then 1 - h.taken r else h.flow r j
def Hs.warm (h : Hs) (r : Nat) (air : Nat → Rat) (w : Rat) (b : Bool) : Rat := (h.sky r).1 * w + sumQ (fun j => h.part r j * air j) h.many + (if b = true then heatOf (h.stove r) else 0)
theorem part_rb {h : Hs} {r j k : Nat} (wf : h.Wf k) (hr : r < h.many) (hj : j < h.many) : rb (6 * k + 10) (h.part r j) := by
  unfold Hs.part
  split
  · exact rb_mono (rb_sub rb_1 (taken_rb wf hr)) (by omega)
  · exact rb_mono (wf.bf r j hr hj) (by omega)
/-! shares of a quarter at most -/
theorem taken_le {h : Hs} {r : Nat} (m4 : h.many ≤ 4) (hr : r < h.many) (hs : (h.sky r).1 ≤ rI 1 4) (hf : ∀ j, j < h.many → h.flow r j ≤ rI 1 4) (h0 : h.flow r r = 0) : ¬ 1 < h.taken r := by
  unfold Hs.taken
  have e := rI_mul (a := 1) (b := 4) (by decide)
  generalize rI 1 4 = z at *
  have e : z * 4 = 1 := e
  generalize (h.sky r).1 = s at *
  have k : h.many = 1 ∨ h.many = 2 ∨ h.many = 3 ∨ h.many = 4 := by omega
  have f0 := hf 0
  have f1 := hf 1
  have f2 := hf 2
  have f3 := hf 3
  rcases k with k | k | k | k <;> rw [k] at hr f0 f1 f2 f3 ⊢ <;> simp only [sumQ]
  · have hr : r = 0 := by omega
    subst hr
    grind
  · have hr : r = 0 ∨ r = 1 := by omega
    rcases hr with rfl | rfl <;> grind
  · have hr : r = 0 ∨ r = 1 ∨ r = 2 := by omega
    rcases hr with rfl | rfl | rfl <;> grind
  · have hr : r = 0 ∨ r = 1 ∨ r = 2 ∨ r = 3 := by omega
    rcases hr with rfl | rfl | rfl | rfl <;> grind
theorem taken_setFlow {h : Hs} {r o : Nat} {q : Rat} (ho : o < h.many) : (h.setFlow r o q).taken r = h.taken r - h.flow r o + q := by
  unfold Hs.taken
  show (h.sky r).1 + sumQ ((h.setFlow r o q).flow r) h.many = _
  rw [sumQ_split (f := (h.setFlow r o q).flow r) ho, sumQ_split (f := h.flow r) ho]
  have e1 : (h.setFlow r o q).flow r o = q := by
    show (if r = r then (if o = o then q else _) else _) = q
    rw [if_pos rfl, if_pos rfl]
  have e2 : sumQ (fun j => if j = o then 0 else (h.setFlow r o q).flow r j) h.many = sumQ (fun j => if j = o then 0 else h.flow r j) h.many := sumQ_congr fun j _ => by
    split
    · rfl
    · rename_i hj
      show (if r = r then (if j = o then q else h.flow r j) else _) = _
      rw [if_pos rfl, if_neg hj]
  rw [e1, e2]
  grind
theorem taken_setSky {h : Hs} {r : Nat} {s : Rat × Rat × Rat} : (h.setSky r s).taken r = h.taken r - (h.sky r).1 + s.1 := by
  unfold Hs.taken
  show ((h.setSky r s).sky r).1 + sumQ (h.flow r) h.many = _
  rw [show (h.setSky r s).sky r = s from if_pos rfl]
  grind
theorem bands_two : ∀ {l : List (List Rat)} {z : Int}, (∀ q ∈ l, q.length = 2) → l.foldl (fun z q => z * ((q.length : Int) - 1)) z = z
  | [], _, _ => rfl
  | q :: l, z, h => by
    rw [List.foldl_cons, h q (List.mem_cons_self ..), bands_two fun p hp => h p (List.mem_cons_of_mem _ hp)]
    omega
theorem two_marks : D.lst [.tup [.int 0, .int 1], .tup [.int 1, .int 1]] = rsD [0, 1] := rfl
theorem lt01 : ∀ i (hi : i + 1 < ([0, 1] : List Rat).length), ([0, 1] : List Rat)[i] < ([0, 1] : List Rat)[i + 1] := fun i hi => by
  have : i = 0 := by
    have : i + 1 < 2 := hi
    omega
  subst this
  show (0 : Rat) < 1
  decide
end Q

/-! Rules for reckoning with dicts and places in slots; rules with conditions. -/
namespace Q
open PySem PySem.Spec PyProof.Rows L2
section
variable {ρ : Env} {S : Store} {K i k : Nat} {js : List Nat} {d x : D} {l : List D}
theorem hMul_sm {a b : Int} (ha : a.natAbs < 2 ^ 220) (hb : b.natAbs < 2 ^ 220) : hMul (.int a) (.int b) = some (.int (a * b)) := hMul_bd ha hb (by decide)
theorem hDiv_sm {a b : Int} (h : 0 < b) (hb : b < 2 ^ 220) : hDiv (.int a) (.int b) = some (.int (a / b)) := hDiv_pos h (by
  have : (2 : Nat) ^ 220 < 2 ^ 8999 := Nat.pow_lt_pow_right (by decide) (by decide)
  omega)
theorem rgK1_ok {n : Int} (h0 : -1000000000000 ≤ n) (h1 : n ≤ 1000000000000) : rgK1 [.int n] S = .ok (rangeL 0 n) S := rgK1_int ⟨h0, h1⟩
theorem rgK2_ok {m n : Int} (h0 : -1000000000000 ≤ m) (h1 : m ≤ 1000000000000) (h2 : -1000000000000 ≤ n) (h3 : n ≤ 1000000000000) : rgK2 [.int m, .int n] S = .ok (rangeL m n) S := rgK2_int ⟨⟨h0, h1⟩, ⟨h2, h3⟩⟩
theorem beq_f {a b : Int} (h : a ≠ b) : (a == b) = false := by simpa using h
theorem beq_t {a b : Int} (h : a = b) : (a == b) = true := by simpa using h
theorem mAppend_ok (h : l.length < 1000000) : mAppend l [x] = some (.non, l ++ [x]) := mAppend_lt h
/-! slots -/
theorem ev_pvar : pVar i ρ S = (match ρ[i]? with | some (some d) => .ok [] d S | _ => .no) := rfl
theorem ev_pkey {p : FV} {c : Str} : pKey K p c ρ S = (match p ρ S with | .ok js d S1 => pKeyK K js S1 (posT d c) | .exc y S1 => .exc y S1 | .no => .no) := rfl
theorem pKeyK_ok {j : Nat} : pKeyK K js S (some (j, d)) = if js.length + 1 ≤ K then .ok (js ++ [j]) d S else .no := rfl
theorem ev_vmut {p : FV} {h : HM} {a : FL} : fVMut K i p h a ρ S = (p ρ S).bindS ρ fun js d S1 => lstK d fun l => if K = js.length + 1 then (a ρ S1).bindR ρ fun ds S2 => optK (h l ds) fun zl => slotPut K 1 i js (.lst zl.2) S2 ρ else .no := rfl
def vputK (K i : Nat) (js : List Nat) (x k : D) (S : Store) (ρ : Env) (l : List (D × D)) : RS := if (keyF k = true ∧ sortOk l k = true ∧ l.length < 1000000) ∧ js.length + 1 ≤ K ∧ (K - js.length - 1 = 0 ∨ plainV x = true) then slotPut K (K - js.length - 1 + 1) i js (.dct (dput l k x)) S ρ else .no
theorem ev_vput {p : FV} {e v : FE} : fVPut K i p e v ρ S = (v ρ S).bindS ρ fun x S1 => (p ρ S1).bindS ρ fun js d S2 => (e ρ S2).bindS ρ fun k S3 => dctK d fun l => vputK K i js x k S3 ρ l := rfl
theorem vputK_in {j : Nat} {k : D} {l : List (D × D)} (h1 : keyF k = true) (h2 : sortOk l k = true) (h3 : l.length < 1000000) : vputK 2 i [j] x k S ρ l = slotPut 2 1 i [j] (.dct (dput l k x)) S ρ := if_pos ⟨⟨h1, h2, h3⟩, Nat.le_refl 2, .inl rfl⟩
theorem vputK_top {k : D} {l : List (D × D)} (h1 : keyF k = true) (h2 : sortOk l k = true) (h3 : l.length < 1000000) (h4 : plainV x = true) : vputK 2 i [] x k S ρ l = slotPut 2 2 i [] (.dct (dput l k x)) S ρ := if_pos ⟨⟨h1, h2, h3⟩, by decide, .inr h4⟩
def slotK (o : Option (Option D)) (b : Bool) (i : Nat) (js : List Nat) (x : D) (S : Store) (ρ : Env) : RS := match o with
  | some (some d0) => if b = true then .nx (ρ.set i (some (setAt js d0 x))) S else .no
  | _ => .no
theorem slotPut_ok : slotPut K k i js x S ρ = slotK ρ[i]? (K == js.length + k) i js x S ρ := by
  unfold slotPut slotK
  cases ρ[i]? with
  | none => rfl
  | some o => cases o with
    | none => rfl
    | some d => simp only [beq_iff_eq]
theorem slotK_ok {d0 : D} : slotK (some (some d0)) true i js x S ρ = .nx (ρ.set i (some (setAt js d0 x))) S := rfl
theorem rv_ok {k : List Nat → D → Store → RS} : (RV.ok js d S).bindS ρ k = k js d S := rfl
theorem rl_bindR {ds : List D} {k : List D → Store → RS} : (RL.ok ds S).bindR ρ k = k ds S := rfl
theorem lstK_lst {k : List D → RS} : lstK (.lst l) k = k l := rfl
theorem dctK_dct {l : List (D × D)} {k : List (D × D) → RS} : dctK (.dct l) k = k l := rfl
theorem optK_some {α : Type} {a : α} {k : α → RS} : optK (some a) k = k a := rfl
theorem setAt_nil {y : D} : setAt [] d x = x := rfl
theorem hIxD_dct {l : List (D × D)} {c : D} (h : keyF c = true) : hIxD (.dct l) c = dlook l c := if_pos h
theorem hIxD_lst {c : D} : hIxD (.lst l) c = hIx (.lst l) c := rfl
theorem hIxD_tup {c : D} : hIxD (.tup l) c = hIx (.tup l) c := rfl
theorem keyF_str {c : Str} : keyF (.str c) = true := rfl
theorem keyF_pair {a b : Int} : keyF (.tup [.int a, .int b]) = true := by
  unfold keyF
  simp only [nk, nkL, Option.map_some, Option.any_some]
  exact of_decide_eq_true rfl
theorem kEq_str {a b : Str} : kEq (.str a) (.str b) = decide (a = b) := by
  unfold kEq
  simp only [nk, NestedKey.text.injEq]
theorem kEq_pair {a b c d : Int} : kEq (.tup [.int a, .int b]) (.tup [.int c, .int d]) = decide (a = c ∧ b = d) := by
  unfold kEq
  simp only [nk, nkL, Option.map_some, NestedKey.tup.injEq, List.cons.injEq, NestedKey.num.injEq, and_true]
theorem any_look {l : List (D × D)} {c : D} : (l.any fun p => kEq p.1 c) = (dlook l c).isSome := by
  unfold dlook
  rw [Option.isSome_map]
  induction l with
  | nil => rfl
  | cons p l ih =>
    rw [List.any_cons, List.find?_cons, ih]
    cases kEq p.1 c <;> rfl
theorem dput_new {l : List (D × D)} {c x : D} (h : dlook l c = none) : dput l c x = l ++ [(c, x)] := by
  unfold dput
  rw [any_look, h]
  rfl
theorem dlook_app {l m : List (D × D)} {c : D} : dlook (l ++ m) c = (dlook l c).or (dlook m c) := by
  unfold dlook
  rw [List.find?_append]
  cases l.find? _ <;> rfl
theorem dlook_nil {c : D} : dlook [] c = none := rfl
theorem dlook_one_t {p : D × D} {c : D} (h : kEq p.1 c = true) : dlook [p] c = some p.2 := dlook_cons_t h
theorem dlook_one_f {p : D × D} {c : D} (h : kEq p.1 c = false) : dlook [p] c = none := dlook_cons_f h
end
/-! ### a dict with keys (r, o), o not r -/
def prD (r o : Nat) : D := .tup [.int r, .int o]
def rowL (f : Nat → Nat → D) (r : Nat) : Nat → List (D × D)
  | 0 => []
  | o + 1 => if o = r then rowL f r o else rowL f r o ++ [(prD r o, f r o)]
def flowL (f : Nat → Nat → D) (m : Nat) : Nat → List (D × D)
  | 0 => []
  | r + 1 => flowL f m r ++ rowL f r m
theorem kEq_prD {a b c d : Nat} : kEq (prD a b) (prD c d) = decide (a = c ∧ b = d) := by
  unfold prD
  rw [kEq_pair]
  congr 1
  apply propext
  omega
theorem rowL_ne {f : Nat → Nat → D} {r r' o : Nat} (h : r ≠ r') : ∀ m, dlook (rowL f r m) (prD r' o) = none
  | 0 => rfl
  | m + 1 => by
    unfold rowL
    split
    · exact rowL_ne h m
    · rw [dlook_app, rowL_ne h m, dlook_one_f (by rw [kEq_prD]; simp; omega)]
      rfl
theorem rowL_look {f : Nat → Nat → D} {r o : Nat} : ∀ m, dlook (rowL f r m) (prD r o) = if o < m ∧ o ≠ r then some (f r o) else none
  | 0 => by rw [if_neg (by omega)]; rfl
  | m + 1 => by
    unfold rowL
    split
    · rw [rowL_look m]
      congr 1
      apply propext
      omega
    · rename_i h
      rw [dlook_app, rowL_look m]
      by_cases e : o = m
      · subst e
        rw [if_neg (by omega), if_pos (by omega), dlook_one_t (by rw [kEq_prD]; simp)]
        rfl
      · rw [dlook_one_f (by rw [kEq_prD]; simp; omega)]
        by_cases h2 : o < m ∧ o ≠ r
        · rw [if_pos h2, if_pos (by omega)]; rfl
        · rw [if_neg h2, if_neg (by omega)]; rfl
theorem flowL_look {f : Nat → Nat → D} {m r o : Nat} : ∀ n, dlook (flowL f m n) (prD r o) = if r < n ∧ o < m ∧ o ≠ r then some (f r o) else none
  | 0 => by rw [if_neg (by omega)]; rfl
  | n + 1 => by
    unfold flowL
    rw [dlook_app, flowL_look n]
    by_cases e : r = n
    · subst e
      rw [if_neg (by omega), rowL_look]
      by_cases h2 : o < m ∧ o ≠ r
      · rw [if_pos h2, if_pos (by omega)]; rfl
      · rw [if_neg h2, if_neg (by omega)]; rfl
    · rw [rowL_ne (by omega)]
      by_cases h2 : r < n ∧ o < m ∧ o ≠ r
      · rw [if_pos h2, if_pos (by omega)]; rfl
      · rw [if_neg h2, if_neg (by omega)]; rfl
def tupKs (l : List (D × D)) : Bool := l.all fun p => match p.1 with
  | .tup _ => true
  | _ => false
theorem tupKs_app {l m : List (D × D)} (h : tupKs l = true) (k : tupKs m = true) : tupKs (l ++ m) = true := by
  unfold tupKs at *
  rw [List.all_append, h, k]
  rfl
theorem rowL_tup {f : Nat → Nat → D} {r : Nat} : ∀ m, tupKs (rowL f r m) = true
  | 0 => rfl
  | m + 1 => by
    unfold rowL
    split
    · exact rowL_tup m
    · exact tupKs_app (rowL_tup m) rfl
theorem flowL_tup {f : Nat → Nat → D} {m : Nat} : ∀ n, tupKs (flowL f m n) = true
  | 0 => rfl
  | n + 1 => tupKs_app (flowL_tup n) (rowL_tup m)
theorem rowL_len {f : Nat → Nat → D} {r : Nat} : ∀ m, (rowL f r m).length ≤ m
  | 0 => Nat.le_refl 0
  | m + 1 => by
    have := rowL_len (f := f) (r := r) m
    unfold rowL
    split
    · omega
    · rw [List.length_append, List.length_singleton]; omega
theorem flowL_len {f : Nat → Nat → D} {m : Nat} : ∀ n, (flowL f m n).length ≤ n * m
  | 0 => Nat.zero_le _
  | n + 1 => by
    have := flowL_len (f := f) (m := m) n
    have h2 := rowL_len (f := f) (r := n) m
    unfold flowL
    rw [List.length_append, Nat.succ_mul]
    omega
/-! calls without a store; displays of dicts -/
section
variable {ρ : Env} {S : Store}
def call0R (r : RF) (S : Store) : RE := match r with
  | .ok d _ [] => .ok d S
  | _ => .no
def call0K (Φ : FF) (ds : List D) (S : Store) : RE := if noObjL ds = true then call0R (Φ ds []) S else .no
theorem ev_call0 {Φ : FF} {as : FL} : eCall0 Φ as ρ S = (match as ρ S with
    | .ok ds S1 => if noObjL ds = true then (match Φ ds [] with
      | .ok d _ [] => RE.ok d S1
      | _ => .no) else .no
    | .exc y S1 => .exc y S1
    | .no => .no) := rfl
theorem ev_call0' {Φ : FF} {as : FL} : eCall0 Φ as ρ S = (as ρ S).bindE (call0K Φ) := by
  rw [ev_call0]
  cases as ρ S <;> rfl
def call0C (b : Bool) (r : RF) (S : Store) : RE := if b = true then call0R r S else .no
theorem call0K_ok {Φ : FF} {ds : List D} : call0K Φ ds S = call0C (noObjL ds) (Φ ds []) S := rfl
theorem call0C_t {r : RF} : call0C true r S = call0R r S := rfl
theorem call0R_ok {d : D} {o : Env} : call0R (.ok d o []) S = .ok d S := rfl
theorem noObjL_nil : noObjL [] = true := by simp only [noObjL]
theorem noObjL_cons {d : D} {l : List D} : noObjL (d :: l) = (noObj d && noObjL l) := by simp only [noObjL]
theorem noObj_int {i : Int} : noObj (.int i) = true := by simp only [noObj]
theorem noObj_bl {i : Bool} : noObj (.bl i) = true := by simp only [noObj]
theorem noObj_str {i : Str} : noObj (.str i) = true := by simp only [noObj]
theorem noObj_non : noObj .non = true := by simp only [noObj]
theorem noObj_tup {l : List D} : noObj (.tup l) = noObjL l := by simp only [noObj]
theorem noObj_lst {l : List D} : noObj (.lst l) = noObjL l := by simp only [noObj]
theorem noObj_scr {l : List D} : noObj (.scr l) = noObjL l := by simp only [noObj]
theorem noObj_rD {q : Rat} : noObj (rD q) = true := by unfold rD; simp only [noObj, noObjL, Bool.and_self]
theorem noObjL_all {l : List D} (h : ∀ d ∈ l, noObj d = true) : noObjL l = true := by
  induction l with
  | nil => exact noObjL_nil
  | cons d l ih => rw [noObjL_cons, h d (List.mem_cons_self ..), ih fun e he => h e (List.mem_cons_of_mem _ he)]; rfl
theorem noObjL_app {l m : List D} : noObjL (l ++ m) = (noObjL l && noObjL m) := by
  induction l with
  | nil => rw [noObjL_nil]; rfl
  | cons d l ih => rw [List.cons_append, noObjL_cons, noObjL_cons, ih, Bool.and_assoc]
theorem noObjL_tbl {n : Nat} {f : Nat → D} (h : ∀ i, i < n → noObj (f i) = true) : noObjL (tbl n f) = true := noObjL_all fun d hd => by
  obtain ⟨i, hi, rfl⟩ := tbl_mem.mp hd
  exact h i hi
theorem noObjL_ints {l : List Int} : noObjL (l.map .int) = true := noObjL_all fun d hd => by
  obtain ⟨i, _, rfl⟩ := List.mem_map.mp hd
  exact noObj_int
theorem noObjL_rats {l : List Rat} : noObjL (l.map rD) = true := noObjL_all fun d hd => by
  obtain ⟨i, _, rfl⟩ := List.mem_map.mp hd
  exact noObj_rD
theorem noObjK_app {l m : List (D × D)} (h : noObjK l = true) (k : noObjK m = true) : noObjK (l ++ m) = true := by
  induction l with
  | nil => exact k
  | cons d l ih =>
    obtain ⟨a, b⟩ := d
    simp only [List.cons_append, noObjK, Bool.and_eq_true] at h ⊢
    exact ⟨h.1, ih h.2⟩
theorem rowL_noObj {f : Nat → Nat → D} {r : Nat} (hf : ∀ o, noObj (f r o) = true) : ∀ m, noObjK (rowL f r m) = true
  | 0 => by simp only [rowL, noObjK]
  | m + 1 => by
    unfold rowL
    split
    · exact rowL_noObj hf m
    · refine noObjK_app (rowL_noObj hf m) ?_
      unfold prD
      simp only [noObjK, noObj, noObjL, hf, Bool.and_self]
theorem flowL_noObj {f : Nat → Nat → D} {m : Nat} (hf : ∀ r o, noObj (f r o) = true) : ∀ n, noObjK (flowL f m n) = true
  | 0 => by simp only [flowL, noObjK]
  | n + 1 => noObjK_app (flowL_noObj hf n) (rowL_noObj (hf n) m)
def dctR (o : Option (List (D × D))) (b : Bool) (S : Store) : RE := match o with
  | some l => if b = true then .ok (.dct l) S else .no
  | none => .no
theorem ev_dct {its : List (Str × Itm)} : eDct its ρ S = dctR (eItms its ρ S) (decide (its.length ≤ 15 ∧ (its.map (·.1)).Nodup)) S := by
  unfold eDct dctR
  cases eItms its ρ S with
  | none => rfl
  | some l => simp only [decide_eq_true_eq]
theorem dctR_ok {l : List (D × D)} {b : Bool} (h : b = true) : dctR (some l) b S = .ok (.dct l) S := if_pos h
def itS (r : RE) (k : Str) (o : Option (List (D × D))) : Option (List (D × D)) := match r with
  | .ok x _ => if plainV x = true then o.map ((.str k, x) :: ·) else none
  | _ => none
theorem itms_nil : eItms [] ρ S = some [] := rfl
theorem itms_l {k : Str} {r : List (Str × Itm)} : eItms ((k, .l) :: r) ρ S = (eItms r ρ S).map ((.str k, .lst []) :: ·) := rfl
theorem itms_d {k : Str} {r : List (Str × Itm)} : eItms ((k, .d) :: r) ρ S = (eItms r ρ S).map ((.str k, .dct []) :: ·) := rfl
theorem itms_s {k : Str} {F : FE} {r : List (Str × Itm)} : eItms ((k, .s F) :: r) ρ S = itS (F ρ S) k (eItms r ρ S) := rfl
theorem itS_ok {x : D} {k : Str} {S1 : Store} {o : Option (List (D × D))} (h : plainV x = true) : itS (.ok x S1) k o = o.map ((.str k, x) :: ·) := if_pos h
end
theorem forL_tbl {v : Nat} {b : FS} {f : Nat → D} (I : Nat → Env → Store → Prop) {m : Nat} {ρ : Env} {S : Store} (h0 : I 0 ρ S) (turn : ∀ i, i < m → ∀ ρ S, I i ρ S → ∃ ρ2 S2, b (ρ.set v (some (f i))) S = .nx ρ2 S2 ∧ I (i + 1) ρ2 S2) :
    ∃ ρ' S', forL (tfName v) b (tbl m f) ρ S = .nx ρ' S' ∧ I m ρ' S' := by
  obtain ⟨ρ', S', e, h⟩ := forL_all (tf := tfName v) (b := b) I (ds := tbl m f) h0 (fun i d ρ S hd h => by
    have hi : i < m := by
      have := (List.getElem?_eq_some_iff.mp hd).1
      rwa [tbl_len] at this
    rw [tbl_get hi] at hd
    cases hd
    exact ⟨_, rfl, .inl (turn i hi ρ S h)⟩)
  rw [tbl_len] at h
  exact ⟨ρ', S', e, h⟩
/-- a comprehension over a list -/
theorem eLc_fm {α : Type} {it : FL} {vs : List Nat} {v : Nat} {C E : FE} {ρ : Env} {S S1 : Store} (g : α → D) (p : α → Bool) (f : α → D) {l : List α} (hi : it ρ S = .ok (l.map g) S1) (hl : l.length ≤ 1000000)
    (hC : ∀ x ∈ l, C ((wipeE ρ vs).set v (some (g x))) S1 = .ok (.bl (p x)) S1) (hE : ∀ x ∈ l, p x = true → E ((wipeE ρ vs).set v (some (g x))) S1 = .ok (f x) S1) : eLc it vs (tfName v) C E ρ S = .ok (.lst ((l.filter p).map f)) S1 := by
  have k : ∀ (l : List α), (∀ x ∈ l, C ((wipeE ρ vs).set v (some (g x))) S1 = .ok (.bl (p x)) S1) → (∀ x ∈ l, p x = true → E ((wipeE ρ vs).set v (some (g x))) S1 = .ok (f x) S1) → lcL (tfName v) C E (l.map g) (wipeE ρ vs) S1 = .ok ((l.filter p).map f) S1 := by
    intro l
    induction l with
    | nil => intro _ _; rfl
    | cons x l ih =>
      intro h1 h2
      have e2 := ih (fun y hy => h1 y (List.mem_cons_of_mem _ hy)) (fun y hy => h2 y (List.mem_cons_of_mem _ hy))
      have c1 := h1 x (List.mem_cons_self ..)
      rw [List.map_cons, lcL]
      simp only [tfName]
      cases hp : p x with
      | true =>
        rw [hp] at c1
        simp only [c1, h2 x (List.mem_cons_self ..) hp, e2]
        rw [List.filter_cons_of_pos (by rw [hp]), List.map_cons]
      | false =>
        rw [hp] at c1
        simp only [c1, e2]
        rw [List.filter_cons_of_neg (by rw [hp]; decide)]
  unfold eLc
  rw [hi]
  simp only [k l hC hE]
  rw [if_pos (by rw [List.length_map]; exact hl)]
theorem eLc_map {α : Type} {it : FL} {vs : List Nat} {v : Nat} {E : FE} {ρ : Env} {S S1 : Store} (g : α → D) (f : α → D) {l : List α} (hi : it ρ S = .ok (l.map g) S1) (hl : l.length ≤ 1000000)
    (h : ∀ x ∈ l, E ((wipeE ρ vs).set v (some (g x))) S1 = .ok (f x) S1) : eLc it vs (tfName v) (eC (.bl true)) E ρ S = .ok (.lst (l.map f)) S1 := by
  have e := eLc_fm (it := it) (vs := vs) (v := v) (C := eC (.bl true)) (E := E) (ρ := ρ) (S := S) g (fun _ => true) f hi hl (fun _ _ => rfl) (fun x hx _ => h x hx)
  rw [e, List.filter_eq_self.mpr (fun _ _ => rfl)]
theorem rangeL_map (m : Nat) : rangeL 0 (m : Int) = (List.range m).map fun (k : Nat) => D.int k := rangeL_tbl m
end Q

/-! A hold as the laws draw it. -/
namespace Q
open PySem PySem.Spec PyProof.Rows L2
structure Td where
  many : Nat
  nb : Nat → Nat
  mv : Nat → Nat → Int
  sky : Nat → Int × Int × Int
  stove : Nat → Option (Int × Int × Int × Int)
  flow : Nat → Nat → Int
  s0 : Int
  s1 : Int
  s2 : Int
  s3 : Int
  b0 : Int
  b1 : Int
  b2 : Int
structure Td.Ok (t : Td) : Prop where
  m1 : 1 ≤ t.many
  m4 : t.many ≤ 4
  nb1 : ∀ r, 1 ≤ t.nb r
  nb6 : ∀ r, t.nb r ≤ (if t.many ≤ 2 then 6 else 4)
  rise : ∀ r j, t.mv r j < t.mv r (j + 1)
  mlo : ∀ r j, -30 ≤ t.mv r j
  mhi : ∀ r j, t.mv r j ≤ 30 + 20 * j
  sk0 : ∀ r, 0 ≤ (t.sky r).1
  sk3 : ∀ r, (t.sky r).1 ≤ 3
  slo : ∀ r, -30 ≤ (t.sky r).2.1
  sle : ∀ r, (t.sky r).2.1 ≤ (t.sky r).2.2
  shi : ∀ r, (t.sky r).2.2 ≤ 60
  st : ∀ r h w s f, t.stove r = some (h, w, s, f) → (0 ≤ h ∧ h ≤ 25) ∧ (0 ≤ w ∧ w ≤ 9) ∧ (0 ≤ s ∧ s ≤ 3) ∧ (0 ≤ f ∧ f ≤ 3)
  f0 : ∀ r o, 0 ≤ t.flow r o
  f3 : ∀ r o, t.flow r o ≤ 3
  p0 : 0 < t.s0
  p1 : 0 < t.s1
  p3 : 0 < t.s3
  q0 : t.s0 ≤ 1000000000
  q1 : t.s1 ≤ 1000000000
  q3 : t.s3 ≤ 1000000000
  l2 : -1000000000 ≤ t.s2
  h2 : t.s2 ≤ 1000000000
  b00 : 0 ≤ t.b0
  b04 : t.b0 ≤ 4
  b10 : 0 ≤ t.b1
  b130 : t.b1 ≤ 30
  b20 : 0 ≤ t.b2
  b230 : t.b2 ≤ 30
/-! as data -/
def Td.marks (t : Td) (r : Nat) : List Int := tbl (t.nb r + 1) (t.mv r)
def msD (l : List Int) : D := .lst (l.map .int)
def sky3 (s : Int × Int × Int) : D := .tup [.int s.1, .int s.2.1, .int s.2.2]
def stv4 : Option (Int × Int × Int × Int) → D
  | none => .non
  | some (h, w, s, f) => .tup [.int h, .int w, .int s, .int f]
def D5 (a b c f s : D) : D := .dct [(.str "marks", a), (.str "sky", b), (.str "stoves", c), (.str "flows", f), (.str "scale", s)]
def D6 (a b c f s g : D) : D := .dct [(.str "marks", a), (.str "sky", b), (.str "stoves", c), (.str "flows", f), (.str "scale", s), (.str "bounds", g)]
def Td.scD (t : Td) : D := .tup [.int t.s0, .int t.s1, .int t.s2, .int t.s3]
def Td.bD (t : Td) : D := .tup [.int t.b0, .int t.b1, .int t.b2]
def Td.flD (t : Td) (r o : Nat) : D := .int (t.flow r o)
def Td.mkD (t : Td) (n : Nat) : D := .lst (tbl n fun r => msD (t.marks r))
def Td.skD (t : Td) (n : Nat) : D := .lst (tbl n fun r => sky3 (t.sky r))
def Td.stD (t : Td) (n : Nat) : D := .lst (tbl n fun r => stv4 (t.stove r))
def Td.told (t : Td) : D := D6 (t.mkD t.many) (t.skD t.many) (t.stD t.many) (.dct (flowL t.flD t.many t.many)) t.scD t.bD
section
variable {a b c f s g x : D}
theorem ne_str {a b : Str} (h : decide (a = b) = false) : kEq (.str a) (.str b) = false := by rw [kEq_str, h]
theorem eq_str {a : Str} : kEq (.str a) (.str a) = true := by rw [kEq_str]; simp
theorem D6_marks : hIxD (D6 a b c f s g) (.str "marks") = some a := by
  unfold D6
  rw [hIxD_dct rfl, dlook_cons_t eq_str]
theorem D6_sky : hIxD (D6 a b c f s g) (.str "sky") = some b := by
  unfold D6
  rw [hIxD_dct rfl, dlook_cons_f (ne_str (by decide +kernel)), dlook_cons_t eq_str]
theorem D6_stoves : hIxD (D6 a b c f s g) (.str "stoves") = some c := by
  unfold D6
  rw [hIxD_dct rfl, dlook_cons_f (ne_str (by decide +kernel)), dlook_cons_f (ne_str (by decide +kernel)), dlook_cons_t eq_str]
theorem D6_flows : hIxD (D6 a b c f s g) (.str "flows") = some f := by
  unfold D6
  rw [hIxD_dct rfl, dlook_cons_f (ne_str (by decide +kernel)), dlook_cons_f (ne_str (by decide +kernel)), dlook_cons_f (ne_str (by decide +kernel)), dlook_cons_t eq_str]
theorem D6_scale : hIxD (D6 a b c f s g) (.str "scale") = some s := by
  unfold D6
  rw [hIxD_dct rfl, dlook_cons_f (ne_str (by decide +kernel)), dlook_cons_f (ne_str (by decide +kernel)), dlook_cons_f (ne_str (by decide +kernel)), dlook_cons_f (ne_str (by decide +kernel)), dlook_cons_t eq_str]
theorem D6_bounds : hIxD (D6 a b c f s g) (.str "bounds") = some g := by
  unfold D6
  rw [hIxD_dct rfl, dlook_cons_f (ne_str (by decide +kernel)), dlook_cons_f (ne_str (by decide +kernel)), dlook_cons_f (ne_str (by decide +kernel)), dlook_cons_f (ne_str (by decide +kernel)), dlook_cons_f (ne_str (by decide +kernel)), dlook_cons_t eq_str]
theorem D5_put {i : Nat} {S : Store} {ρ : Env} (hx : plainV x = true) : vputK 2 i [] x (.str "bounds") S ρ [(.str "marks", a), (.str "sky", b), (.str "stoves", c), (.str "flows", f), (.str "scale", s)] = slotPut 2 2 i [] (D6 a b c f s x) S ρ := by
  rw [vputK_top (l := [(.str "marks", a), (.str "sky", b), (.str "stoves", c), (.str "flows", f), (.str "scale", s)]) rfl rfl (show 5 < 1000000 by decide) hx, dput_new (by
    rw [dlook_cons_f (ne_str (by decide +kernel)), dlook_cons_f (ne_str (by decide +kernel)), dlook_cons_f (ne_str (by decide +kernel)), dlook_cons_f (ne_str (by decide +kernel)), dlook_one_f (ne_str (by decide +kernel))])]
  rfl
theorem itS_sc {t : Td} {k : Str} {S : Store} {o : Option (List (D × D))} : itS (.ok t.scD S) k o = o.map ((.str k, t.scD) :: ·) := itS_ok rfl
theorem dpos_t {p : D × D} {l : List (D × D)} {k : D} (h : kEq p.1 k = true) : dpos (p :: l) k = some (0, p.2) := if_pos h
theorem dpos_f {p : D × D} {l : List (D × D)} {k : D} (h : kEq p.1 k = false) : dpos (p :: l) k = (dpos l k).map fun q => (q.1 + 1, q.2) := if_neg (by rw [h]; decide)
theorem posT_d {l : List (D × D)} {k : Str} (h : flatKs l = true) : posT (.dct l) k = dpos l (.str k) := if_pos h
theorem P6_marks : posT (D6 a b c f s g) "marks" = some (0, a) := by
  unfold D6
  rw [posT_d rfl, dpos_t eq_str]
theorem P6_sky : posT (D6 a b c f s g) "sky" = some (1, b) := by
  unfold D6
  rw [posT_d rfl, dpos_f (ne_str (by decide +kernel)), dpos_t eq_str]
  rfl
theorem P6_stoves : posT (D6 a b c f s g) "stoves" = some (2, c) := by
  unfold D6
  rw [posT_d rfl, dpos_f (ne_str (by decide +kernel)), dpos_f (ne_str (by decide +kernel)), dpos_t eq_str]
  rfl
theorem P6_flows : posT (D6 a b c f s g) "flows" = some (3, f) := by
  unfold D6
  rw [posT_d rfl, dpos_f (ne_str (by decide +kernel)), dpos_f (ne_str (by decide +kernel)), dpos_f (ne_str (by decide +kernel)), dpos_t eq_str]
  rfl
theorem A6_marks : setAt [0] (D6 a b c f s g) x = D6 x b c f s g := rfl
theorem A6_sky : setAt [1] (D6 a b c f s g) x = D6 a x c f s g := rfl
theorem A6_stoves : setAt [2] (D6 a b c f s g) x = D6 a b x f s g := rfl
theorem A6_flows : setAt [3] (D6 a b c f s g) x = D6 a b c x s g := rfl
end
section
variable {t : Td}
theorem told_marks : hIxD t.told (.str "marks") = some (t.mkD t.many) := D6_marks
theorem told_sky : hIxD t.told (.str "sky") = some (t.skD t.many) := D6_sky
theorem told_stoves : hIxD t.told (.str "stoves") = some (t.stD t.many) := D6_stoves
theorem told_flows : hIxD t.told (.str "flows") = some (.dct (flowL t.flD t.many t.many)) := D6_flows
theorem told_scale : hIxD t.told (.str "scale") = some t.scD := D6_scale
theorem told_bounds : hIxD t.told (.str "bounds") = some t.bD := D6_bounds
theorem ix_mk {r n : Nat} (h : r < n) : hIx (t.mkD n) (.int r) = some (msD (t.marks r)) := hIx_tbl h
theorem ix_sk {r n : Nat} (h : r < n) : hIx (t.skD n) (.int r) = some (sky3 (t.sky r)) := hIx_tbl h
theorem ix_st {r n : Nat} (h : r < n) : hIx (t.stD n) (.int r) = some (stv4 (t.stove r)) := hIx_tbl h
theorem ix_fl {r o : Nat} (h : r < t.many) (h2 : o < t.many) (h3 : o ≠ r) : hIxD (.dct (flowL t.flD t.many t.many)) (.tup [.int r, .int o]) = some (.int (t.flow r o)) := by
  rw [hIxD_dct keyF_pair]
  exact (flowL_look t.many).trans (if_pos ⟨h, h2, h3⟩)
theorem lstK_mk {n : Nat} {k : List D → RS} : lstK (t.mkD n) k = k (tbl n fun r => msD (t.marks r)) := rfl
theorem lstK_sk {n : Nat} {k : List D → RS} : lstK (t.skD n) k = k (tbl n fun r => sky3 (t.sky r)) := rfl
theorem lstK_st {n : Nat} {k : List D → RS} : lstK (t.stD n) k = k (tbl n fun r => stv4 (t.stove r)) := rfl
theorem seqK_mk {n : Nat} {S : Store} : seqK (t.mkD n) S = .ok (tbl n fun r => msD (t.marks r)) S := rfl
theorem mk_app {n : Nat} : D.lst ((tbl n fun r => msD (t.marks r)) ++ [msD (t.marks n)]) = t.mkD (n + 1) := by unfold Td.mkD; rw [tbl_succ]
theorem sk_app {n : Nat} : D.lst ((tbl n fun r => sky3 (t.sky r)) ++ [sky3 (t.sky n)]) = t.skD (n + 1) := by unfold Td.skD; rw [tbl_succ]
theorem st_app {n : Nat} : D.lst ((tbl n fun r => stv4 (t.stove r)) ++ [stv4 (t.stove n)]) = t.stD (n + 1) := by unfold Td.stD; rw [tbl_succ]
theorem mApp_tbl {n : Nat} {f : Nat → D} {x : D} (h : n < 1000000) : mAppend (tbl n f) [x] = some (.non, tbl n f ++ [x]) := mAppend_lt (by rw [tbl_len]; exact h)
theorem len_mk {n : Nat} : hLen [t.mkD n] = some (.int n) := by
  show some (D.int ((tbl n _).length : Nat)) = _
  rw [tbl_len]
theorem marks_len {r : Nat} : (t.marks r).length = t.nb r + 1 := tbl_len
theorem ix_ms {r j : Nat} (h : j ≤ t.nb r) : hIx (msD (t.marks r)) (.int j) = some (.int (t.mv r j)) := hIx_lst (by
  rw [List.getElem?_map]
  unfold Td.marks
  rw [tbl_get (by omega)]
  rfl)
theorem ix_ms0 {r : Nat} : hIx (msD (t.marks r)) (.int 0) = some (.int (t.mv r 0)) := ix_ms (j := 0) (Nat.zero_le _)
theorem len_ms {r : Nat} : hLen [msD (t.marks r)] = some (.int (t.nb r + 1 : Nat)) := by
  show some (D.int ((t.marks r).map D.int).length) = _
  rw [List.length_map, marks_len]
theorem hIx_last {l : List D} {d : D} (h : l ≠ []) (e : l[l.length - 1]? = some d) : hIx (.lst l) (.int (-1)) = some d := by
  have hl : 0 < l.length := List.length_pos_iff.mpr h
  show atI l (-1) = _
  unfold atI
  have : ixN l.length (-1) = some (l.length - 1) := by
    unfold ixN
    rw [if_neg (by decide), if_pos (by omega)]
    congr 1
    omega
  rw [this]
  exact e
theorem ix_last {r : Nat} : hIx (msD (t.marks r)) (.int (-1)) = some (.int (t.mv r (t.nb r))) := hIx_last (by
  intro h
  have := congrArg List.length h
  rw [List.length_map, marks_len] at this
  simp at this) (by
  rw [List.length_map, marks_len, List.getElem?_map]
  unfold Td.marks
  rw [Nat.add_sub_cancel, tbl_get (by omega)]
  rfl)
end
/-! ### warmths -/
def Td.warm (t : Td) (n p : Int) : Rat := rI (n * t.s0 * t.s3 + p * t.s2 * t.s1) (p * t.s1 * t.s3)
def Td.mks (t : Td) (r : Nat) : List Rat := tbl (t.nb r + 1) fun j => t.warm (t.mv r j) 1
def Td.sk (t : Td) (r : Nat) : Rat × Rat × Rat := (rI (t.sky r).1 12, t.warm (t.sky r).2.1 1, t.warm (t.sky r).2.2 1)
def Td.sv (t : Td) (r : Nat) : Option (Rat × Int × Int × Int) := (t.stove r).map fun q => (rI (q.1 * t.s0) t.s1, q.2.1, q.2.2.1, q.2.2.2)
def Td.fl (t : Td) (r o : Nat) : Rat := rI (t.flow r o) 12
section
variable {t : Td} (ok : t.Ok)
include ok
theorem Td.Ok.nb7 (r : Nat) : t.nb r ≤ 6 := by
  have := ok.nb6 r
  split at this <;> omega
theorem Td.Ok.s30 : t.s0.natAbs < 2 ^ 30 ∧ t.s1.natAbs < 2 ^ 30 ∧ t.s2.natAbs < 2 ^ 30 ∧ t.s3.natAbs < 2 ^ 30 := by
  have h := ok.p0; have h1 := ok.p1; have h3 := ok.p3; have q0 := ok.q0; have q1 := ok.q1; have q3 := ok.q3; have l2 := ok.l2; have h2 := ok.h2
  omega
theorem Td.Ok.den {p : Int} (hp : 0 < p) : 0 < p * t.s1 * t.s3 := Int.mul_pos (Int.mul_pos hp ok.p1) ok.p3
theorem Td.Ok.topb {n p : Int} (hn : n.natAbs < 2 ^ 30) (hp : p.natAbs < 2 ^ 30) : (n * t.s0 * t.s3 + p * t.s2 * t.s1).natAbs < 2 ^ 91 := bd_add (bd_mul (bd_mul hn ok.s30.1) ok.s30.2.2.2) (bd_mul (bd_mul hp ok.s30.2.2.1) ok.s30.2.1)
theorem Td.Ok.denb {p : Int} (hp : p.natAbs < 2 ^ 30) : (p * t.s1 * t.s3).natAbs < 2 ^ 91 := bd_mono (bd_mul (bd_mul hp ok.s30.2.1) ok.s30.2.2.2) (by decide)
theorem Td.Ok.warm_rb {n p : Int} (hn : n.natAbs < 2 ^ 30) (h0 : 0 < p) (hp : p.natAbs < 2 ^ 30) : rb 91 (t.warm n p) := rb_rI (by have := ok.den h0; omega) (ok.topb hn hp) (ok.denb hp)
theorem Td.Ok.mv30 {r j : Nat} (h : j ≤ 6) : (t.mv r j).natAbs < 2 ^ 30 := by
  have := ok.mlo r j; have := ok.mhi r j
  omega
theorem Td.Ok.mk_rb (r : Nat) : ∀ q ∈ t.mks r, rb 91 q := fun q hq => by
  obtain ⟨j, hj, rfl⟩ := tbl_mem.mp hq
  exact ok.warm_rb (ok.mv30 (by have := ok.nb7 r; omega)) (by decide) (by decide)
/-- a warmth by whole numbers of parts -/
theorem Td.Ok.warm_eq {n p : Int} (h0 : 0 < p) : t.warm n p = rI n p * rI t.s0 t.s1 + rI t.s2 t.s3 := by
  have hp := intc (show p ≠ 0 by omega)
  have h1 := intc (show t.s1 ≠ 0 by have := ok.p1; omega)
  have h3 := intc (show t.s3 ≠ 0 by have := ok.p3; omega)
  unfold Td.warm rI
  rw [Rat.intCast_add, Rat.intCast_mul, Rat.intCast_mul, Rat.intCast_mul, Rat.intCast_mul, Rat.intCast_mul, Rat.intCast_mul]
  grind
theorem Td.Ok.step0 : 0 < rI t.s0 t.s1 := by
  have h1 : (0 : Rat) < t.s1 := by have := ok.p1; exact_mod_cast this
  have h0 : (0 : Rat) < t.s0 := by have := ok.p0; exact_mod_cast this
  unfold rI
  rw [Rat.div_def]
  exact Rat.mul_pos h0 (Rat.inv_pos.mpr h1)
theorem Td.Ok.warm_lt {n p m q : Int} (hp : 0 < p) (hq : 0 < q) : t.warm n p < t.warm m q ↔ n * q < m * p := by
  have h := ok.step0
  rw [ok.warm_eq hp, ok.warm_eq hq]
  have hp' : (0 : Rat) < p := by exact_mod_cast hp
  have hq' : (0 : Rat) < q := by exact_mod_cast hq
  have e1 : rI n p * p = n := rI_mul (by omega)
  have e2 : rI m q * q = m := rI_mul (by omega)
  generalize rI n p = x at *
  generalize rI m q = y at *
  have k1 : x * rI t.s0 t.s1 + rI t.s2 t.s3 < y * rI t.s0 t.s1 + rI t.s2 t.s3 ↔ x < y := by
    constructor
    · intro z
      have z : x * rI t.s0 t.s1 < y * rI t.s0 t.s1 := by grind
      exact (Rat.mul_lt_mul_right h).mp z
    · intro z
      have := (Rat.mul_lt_mul_right h).mpr z
      grind
  rw [k1]
  have k2 : n * q < m * p ↔ (n : Rat) * q < m * p := by
    rw [← Rat.intCast_mul, ← Rat.intCast_mul]
    exact Rat.intCast_lt_intCast.symm
  rw [k2, ← e1, ← e2]
  have hpq := Rat.mul_pos hp' hq'
  have k3 := Rat.mul_lt_mul_right (a := x) (b := y) hpq
  rw [← k3]
  have a1 : x * (p * q) = x * p * q := by grind
  have a2 : y * ((p : Rat) * q) = y * q * p := by grind
  rw [a1, a2]
end
/-! ### the hold laid, step by step -/
def Td.h0 (t : Td) (n : Nat) : Hs := ⟨t.b0, t.b1, t.b2, n, fun i => if i < n then t.mks i else [], fun _ _ => 0, fun _ => (0, 0, 0), fun _ => none⟩
/-- rooms below k laid, of room k what flows from rooms below o -/
def Td.hj (t : Td) (k o : Nat) : Hs := { t.h0 t.many with flow := fun i j => if (i < k ∧ j < t.many ∨ i = k ∧ j < o) ∧ i ≠ j then t.fl i j else 0, sky := fun i => if i ≤ k then t.sk i else (0, 0, 0), stove := fun i => if i ≤ k then t.sv i else none }
def Td.hk (t : Td) (k : Nat) : Hs := { t.h0 t.many with flow := fun i j => if (i < k ∧ j < t.many) ∧ i ≠ j then t.fl i j else 0, sky := fun i => if i < k then t.sk i else (0, 0, 0), stove := fun i => if i < k then t.sv i else none }
def Td.hs (t : Td) : Hs := t.hk t.many
section
variable {t : Td}
theorem h0_add (n : Nat) : (t.h0 n).add (t.mks n) = t.h0 (n + 1) := by
  unfold Td.h0 Hs.add
  simp only [ite_self]
  congr 1
  funext i
  by_cases h : i = n
  · subst h
    rw [if_pos rfl, if_pos (by omega)]
  · rw [if_neg h]
    by_cases h2 : i < n
    · rw [if_pos h2, if_pos (by omega)]
    · rw [if_neg h2, if_neg (by omega)]
theorem hj_0 (k : Nat) : (({ (t.hk k).setSky k (t.sk k) with stove := fun i => if i < k + 1 then t.sv i else none } : Hs)) = t.hj k 0 := by
  unfold Td.hk Td.hj Hs.setSky
  simp only [Hs.mk.injEq, true_and]
  refine ⟨?_, ?_, ?_⟩
  · funext i j
    congr 1
    apply propext
    omega
  · funext i
    by_cases h : i = k
    · subst h; rw [if_pos rfl, if_pos (by omega)]
    · rw [if_neg h]
      by_cases h2 : i < k
      · rw [if_pos h2, if_pos (by omega)]
      · rw [if_neg h2, if_neg (by omega)]
  · funext i
    by_cases h2 : i < k + 1
    · rw [if_pos h2, if_pos (by omega)]
    · rw [if_neg h2, if_neg (by omega)]
theorem hk_stove {k : Nat} {h : Hs} (e : h.stove = (t.hk k).stove) {s} (hs : s = t.sv k) : (h.setStove k s) = { h with stove := fun i => if i < k + 1 then t.sv i else none } := by
  unfold Hs.setStove
  rw [e, hs]
  congr 1
  funext i
  show (if i = k then t.sv k else if i < k then t.sv i else none) = _
  by_cases h : i = k
  · subst h; rw [if_pos rfl, if_pos (by omega)]
  · rw [if_neg h]
    by_cases h2 : i < k
    · rw [if_pos h2, if_pos (by omega)]
    · rw [if_neg h2, if_neg (by omega)]
theorem hk_stove_none {k : Nat} {h : Hs} (e : h.stove = (t.hk k).stove) (hs : t.sv k = none) : h = { h with stove := fun i => if i < k + 1 then t.sv i else none } := by
  cases h
  simp only at e
  subst e
  congr 1
  funext i
  show (if i < k then t.sv i else none) = _
  by_cases h : i = k
  · subst h; rw [if_neg (by omega), if_pos (by omega), hs]
  · by_cases h2 : i < k
    · rw [if_pos h2, if_pos (by omega)]
    · rw [if_neg h2, if_neg (by omega)]
theorem hj_flow {k o : Nat} (h : o ≠ k) : (t.hj k o).setFlow k o (t.fl k o) = t.hj k (o + 1) := by
  unfold Td.hj Hs.setFlow
  congr 1
  funext i j
  show (if i = k then (if j = o then t.fl k o else if (i < k ∧ j < t.many ∨ i = k ∧ j < o) ∧ i ≠ j then t.fl i j else 0) else if (i < k ∧ j < t.many ∨ i = k ∧ j < o) ∧ i ≠ j then t.fl i j else 0) = if (i < k ∧ j < t.many ∨ i = k ∧ j < o + 1) ∧ i ≠ j then t.fl i j else 0
  by_cases e1 : i = k
  · subst e1
    rw [if_pos rfl]
    by_cases e2 : j = o
    · subst e2
      rw [if_pos rfl, if_pos (by omega)]
    · rw [if_neg e2]
      congr 1
      apply propext
      omega
  · rw [if_neg e1]
    congr 1
    apply propext
    omega
theorem hj_same {k : Nat} : t.hj k k = t.hj k (k + 1) := by
  unfold Td.hj
  simp only [Hs.mk.injEq, true_and, and_true]
  funext i j
  congr 1
  apply propext
  omega
theorem hj_next {k : Nat} : t.hj k t.many = t.hk (k + 1) := by
  unfold Td.hj Td.hk
  simp only [Hs.mk.injEq, true_and]
  refine ⟨?_, ?_, ?_⟩
  · funext i j
    congr 1
    apply propext
    omega
  · funext i
    congr 1
    apply propext
    omega
  · funext i
    congr 1
    apply propext
    omega
theorem h0_hk : t.h0 t.many = t.hk 0 := by
  unfold Td.hk
  have e : ∀ i j : Nat, ((i < 0 ∧ j < t.many) ∧ i ≠ j) = False := fun i j => by simp
  simp only [e, if_false, Nat.not_lt_zero]
  rfl
end
section
variable {t : Td} (ok : t.Ok)
include ok
theorem Td.Ok.share_rb {x : Int} (h0 : 0 ≤ x) (h3 : x ≤ 3) : rb 91 (rI x 12) := rb_rI (by decide) (by
  have : (2 : Nat) ^ 91 = 2475880078570760549798248448 := by decide
  omega) (by decide)
theorem Td.Ok.share_le {x : Int} (h3 : x ≤ 3) : rI x 12 ≤ rI 1 4 := rI_le (by decide) (by decide) (by omega)
theorem Td.Ok.qu0 : (0 : Rat) ≤ rI 1 4 := rI_nonneg (by decide) (by decide)
theorem Td.Ok.fl_rb (r o : Nat) : rb 91 (t.fl r o) := ok.share_rb (ok.f0 r o) (ok.f3 r o)
theorem Td.Ok.fl_le (r o : Nat) : t.fl r o ≤ rI 1 4 := ok.share_le (ok.f3 r o)
theorem Td.Ok.fl_nn (r o : Nat) : ¬ t.fl r o < 0 := by have := rI_nonneg (ok.f0 r o) (show (0 : Int) < 12 by decide); unfold Td.fl; grind
theorem Td.Ok.sk_rb (r : Nat) : rb 91 (t.sk r).1 := ok.share_rb (ok.sk0 r) (ok.sk3 r)
theorem Td.Ok.sk_le (r : Nat) : (t.sk r).1 ≤ rI 1 4 := ok.share_le (ok.sk3 r)
theorem Td.Ok.sk_nn (r : Nat) : ¬ (t.sk r).1 < 0 := by have := rI_nonneg (ok.sk0 r) (show (0 : Int) < 12 by decide); unfold Td.sk; grind
theorem Td.Ok.lo30 (r : Nat) : (t.sky r).2.1.natAbs < 2 ^ 30 ∧ (t.sky r).2.2.natAbs < 2 ^ 30 := by
  have h1 := ok.slo r; have h2 := ok.sle r; have h3 := ok.shi r
  omega
theorem Td.Ok.lo_rb (r : Nat) : rb 91 (t.sk r).2.1 := ok.warm_rb (ok.lo30 r).1 (by decide) (by decide)
theorem Td.Ok.hi_rb (r : Nat) : rb 91 (t.sk r).2.2 := ok.warm_rb (ok.lo30 r).2 (by decide) (by decide)
theorem Td.Ok.lo_hi (r : Nat) : ¬ (t.sk r).2.2 < (t.sk r).2.1 := by
  show ¬ t.warm _ 1 < t.warm _ 1
  rw [ok.warm_lt (by decide) (by decide)]
  have := ok.sle r
  omega
/-- rooms laid in part -/
structure Td.Part (t : Td) (h : Hs) : Prop where
  many : h.many = t.many
  flow : ∀ i j, h.flow i j = 0 ∨ h.flow i j = t.fl i j
  self : ∀ i, h.flow i i = 0
  sky : ∀ i, (h.sky i).1 = 0 ∨ (h.sky i).1 = (t.sk i).1
theorem Td.Part.wf {h : Hs} (g : t.Part h) : h.Wf 91 where
  m4 := by rw [g.many]; exact ok.m4
  bf i j _ _ := by
    rcases g.flow i j with e | e
    · rw [e]; exact rb_mono rb_0 (by decide)
    · rw [e]; exact ok.fl_rb i j
  bs i _ := by
    rcases g.sky i with e | e
    · rw [e]; exact rb_mono rb_0 (by decide)
    · rw [e]; exact ok.sk_rb i
theorem Td.Part.le {h : Hs} (g : t.Part h) {r : Nat} (hr : r < t.many) : ¬ 1 < h.taken r := taken_le (by rw [g.many]; exact ok.m4) (by rw [g.many]; exact hr) (by
    rcases g.sky r with e | e
    · rw [e]; exact ok.qu0
    · rw [e]; exact ok.sk_le r) (fun j _ => by
    rcases g.flow r j with e | e
    · rw [e]; exact ok.qu0
    · rw [e]; exact ok.fl_le r j) (g.self r)
omit ok
theorem hj_part (k o : Nat) : t.Part (t.hj k o) where
  many := rfl
  flow i j := by
    show (if (i < k ∧ j < t.many ∨ i = k ∧ j < o) ∧ i ≠ j then t.fl i j else 0) = 0 ∨ _
    split
    · exact .inr (by show (if (i < k ∧ j < t.many ∨ i = k ∧ j < o) ∧ i ≠ j then t.fl i j else 0) = _; rw [if_pos (by assumption)])
    · exact .inl rfl
  self i := by
    show (if (i < k ∧ i < t.many ∨ i = k ∧ i < o) ∧ i ≠ i then t.fl i i else 0) = 0
    rw [if_neg (by simp)]
  sky i := by
    show (if i ≤ k then t.sk i else (0, 0, 0)).1 = 0 ∨ (if i ≤ k then t.sk i else (0, 0, 0)).1 = _
    split
    · exact .inr rfl
    · exact .inl rfl
theorem hk_part (k : Nat) : t.Part (t.hk k) where
  many := rfl
  flow i j := by
    show (if (i < k ∧ j < t.many) ∧ i ≠ j then t.fl i j else 0) = 0 ∨ _
    split
    · exact .inr (by show (if (i < k ∧ j < t.many) ∧ i ≠ j then t.fl i j else 0) = _; rw [if_pos (by assumption)])
    · exact .inl rfl
  self i := by
    show (if (i < k ∧ i < t.many) ∧ i ≠ i then t.fl i i else 0) = 0
    rw [if_neg (by simp)]
  sky i := by
    show (if i < k then t.sk i else (0, 0, 0)).1 = 0 ∨ (if i < k then t.sk i else (0, 0, 0)).1 = _
    split
    · exact .inr rfl
    · exact .inl rfl
theorem hk_sky_part (k : Nat) : t.Part ((t.hk k).setSky k (t.sk k)) := ⟨rfl, (hk_part k).flow, (hk_part k).self, fun i => by
  show (if i = k then t.sk k else (t.hk k).sky i).1 = 0 ∨ (if i = k then t.sk k else (t.hk k).sky i).1 = _
  split
  · rename_i e
    subst e
    exact .inr rfl
  · exact (hk_part k).sky i⟩
end
theorem methK_o {S : Store} {n c : Nat} {h : Hs} {m : Str} {Φ : FF} {dd : List D} {k : Store → RL} (a : At S n c h) (hm : (h.fs.lookup m).isNone = true) : methK m [(c, Φ)] dd (.obj n) S k = (k S).bindE fun ds S2 => RFE (Φ (.obj n :: (ds ++ dd)) S2) := by
  show (match S[n]? with
    | some ob => if (ob.fs.lookup m).isNone = true then (match ([(c, Φ)] : List (Nat × FF)).lookup ob.cls with
      | some Φ => (match k S with
        | .ok ds S2 => RFE (Φ (.obj n :: (ds ++ dd)) S2)
        | .exc y S2 => .exc y S2
        | .no => .no)
      | none => .no) else .no
    | none => .no) = _
  rw [a]
  show (if (h.fs.lookup m).isNone = true then (match ([(c, Φ)] : List (Nat × FF)).lookup c with
      | some Φ => (match k S with
        | .ok ds S2 => RFE (Φ (.obj n :: (ds ++ dd)) S2)
        | .exc y S2 => .exc y S2
        | .no => .no)
      | none => .no) else .no) = _
  rw [if_pos hm]
  simp only [List.lookup, BEq.rfl]
  cases k S <;> rfl
theorem rfe_exc {x : Exc} {o : Env} {S : Store} : RFE (.exc x o S) = .exc x S := rfl
theorem notN_stv0 : hNotN (stv4 none) .non = some (.bl false) := rfl
theorem notN_stv1 {q : Int × Int × Int × Int} : hNotN (stv4 (some q)) .non = some (.bl true) := rfl
theorem stv_0 {q : Int × Int × Int × Int} : hIx (stv4 (some q)) (.int 0) = some (.int q.1) := hIxT0
theorem stv_1 {q : Int × Int × Int × Int} : hIx (stv4 (some q)) (.int 1) = some (.int q.2.1) := hIxT1
theorem stv_2 {q : Int × Int × Int × Int} : hIx (stv4 (some q)) (.int 2) = some (.int q.2.2.1) := hIxT2
theorem stv_3 {q : Int × Int × Int × Int} : hIx (stv4 (some q)) (.int 3) = some (.int q.2.2.2) := hIxT3
theorem Td.Ok.heat {t : Td} (ok : t.Ok) {h : Int} (h0 : 0 ≤ h) (h25 : h ≤ 25) : rb 91 (rI (h * t.s0) t.s1) ∧ ¬ rI (h * t.s0) t.s1 < 0 ∧ (h * t.s0).natAbs < 2 ^ 60 := by
  have b := bd_mul (m := 30) (show h.natAbs < 2 ^ 30 by omega) ok.s30.1
  refine ⟨rb_rI (by have := ok.p1; omega) (bd_mono b (by decide)) (bd_mono ok.s30.2.1 (by decide)), ?_, b⟩
  have := rI_nonneg (a := h * t.s0) (w := t.s1) (Int.mul_nonneg h0 (by have := ok.p0; omega)) ok.p1
  grind
section
variable {t : Td}
theorem mks_len {r : Nat} : (t.mks r).length = t.nb r + 1 := tbl_len
theorem mks_get {r b : Nat} (h : b ≤ t.nb r) : (t.mks r).getD b 0 = t.warm (t.mv r b) 1 := by
  unfold Td.mks
  rw [List.getD_eq_getElem?_getD, tbl_get (by omega)]
  rfl
theorem hs_marks {r : Nat} (hr : r < t.many) : t.hs.marks r = t.mks r := if_pos hr
end
end Q

/-! Spans by whole numbers of twelfths. -/
namespace Q
open PySem PySem.Spec PyProof.Rows L2
def sumI (f : Nat → Int) : Nat → Int
  | 0 => 0
  | n + 1 => sumI f n + f n
theorem sumI_congr {f g : Nat → Int} : ∀ {n}, (∀ j, j < n → f j = g j) → sumI f n = sumI g n
  | 0, _ => rfl
  | n + 1, h => by simp only [sumI]; rw [sumI_congr (n := n) (fun j hj => h j (by omega)), h n (by omega)]
theorem sumI_le {f g : Nat → Int} : ∀ {n}, (∀ j, j < n → f j ≤ g j) → sumI f n ≤ sumI g n
  | 0, _ => Int.le_refl _
  | n + 1, h => by
    simp only [sumI]
    have h1 := sumI_le (n := n) (fun j hj => h j (by omega))
    have h2 := h n (by omega)
    omega
theorem sumI_nonneg {f : Nat → Int} : ∀ {n}, (∀ j, j < n → 0 ≤ f j) → 0 ≤ sumI f n
  | 0, _ => Int.le_refl _
  | n + 1, h => by
    simp only [sumI]
    have h1 := sumI_nonneg (n := n) (fun j hj => h j (by omega))
    have h2 := h n (by omega)
    omega
theorem sumI_mul (c : Int) (f : Nat → Int) : ∀ n, sumI (fun j => c * f j) n = c * sumI f n
  | 0 => by simp [sumI]
  | n + 1 => by simp only [sumI]; rw [sumI_mul c f n, Int.mul_add]
theorem sumI_bd {f : Nat → Int} {c : Int} : ∀ {n}, (∀ j, j < n → f j ≤ c) → sumI f n ≤ n * c
  | 0, _ => by simp [sumI]
  | n + 1, h => by
    simp only [sumI]
    have h1 := sumI_bd (n := n) (fun j hj => h j (by omega))
    have h2 := h n (by omega)
    rw [Int.natCast_add, Int.add_mul]
    omega
theorem rI_add {a b w : Int} (hw : w ≠ 0) : rI (a + b) w = rI a w + rI b w := by
  have := intc hw
  unfold rI
  rw [Rat.intCast_add]
  grind
theorem rI_sum {f : Nat → Int} {w : Int} (hw : w ≠ 0) : ∀ n, rI (sumI f n) w = sumQ (fun j => rI (f j) w) n
  | 0 => by simp only [sumI, sumQ]; exact rI_zero
  | n + 1 => by simp only [sumI, sumQ]; rw [rI_add hw, rI_sum hw n]
theorem rI_mulr {a b v w : Int} (hv : v ≠ 0) (hw : w ≠ 0) : rI a v * rI b w = rI (a * b) (v * w) := by
  have h1 := intc hv
  have h2 := intc hw
  unfold rI
  rw [Rat.intCast_mul, Rat.intCast_mul]
  grind
theorem rI_scale {a w c : Int} (hw : w ≠ 0) (hc : c ≠ 0) : rI (c * a) (c * w) = rI a w := by
  have h1 := intc hw
  have h2 := intc hc
  unfold rI
  rw [Rat.intCast_mul, Rat.intCast_mul]
  grind
/-- what a room takes of other rooms, in twelfths -/
def Td.off (t : Td) (r j : Nat) : Int := if j = r then 0 else t.flow r j
def Td.rest (t : Td) (r : Nat) : Int := 12 - (t.sky r).1 - sumI (t.off r) t.many
/-- the warmth in twelfths, of numbers for the rooms and the weather -/
def Td.span (t : Td) (r : Nat) (n : Nat → Int) (m : Int) : Int := (t.sky r).1 * m + sumI (fun j => t.off r j * n j) t.many + t.rest r * n r
def heat4 : Option (Int × Int × Int × Int) → Int
  | none => 0
  | some q => q.1
theorem sumI_off {f : Nat → Int} {r : Nat} (h : f r = 0) (h3 : ∀ j, f j ≤ 3) : ∀ {n}, r < n → sumI f n ≤ 3 * (n - 1)
  | 0, hr => by omega
  | n + 1, hr => by
    simp only [sumI]
    by_cases e : r = n
    · subst e
      have := sumI_bd (f := f) (c := 3) (n := r) (fun j _ => h3 j)
      rw [h]
      omega
    · have := sumI_off h h3 (n := n) (by omega)
      have := h3 n
      omega
section
variable {t : Td} (ok : t.Ok)
theorem off_self {r : Nat} : t.off r r = 0 := if_pos rfl
include ok
theorem Td.Ok.off0 (r j : Nat) : 0 ≤ t.off r j := by unfold Td.off; split; exact Int.le_refl _; exact ok.f0 r j
theorem Td.Ok.off3 (r j : Nat) : t.off r j ≤ 3 := by unfold Td.off; split; decide; exact ok.f3 r j
theorem Td.Ok.rest0 {r : Nat} (hr : r < t.many) : 0 ≤ t.rest r := by
  have h1 := sumI_off (f := t.off r) (r := r) off_self (ok.off3 r) hr
  have h2 := ok.sk3 r
  have h3 := ok.m4
  unfold Td.rest
  omega
theorem Td.Ok.rest12 {r : Nat} : t.rest r ≤ 12 := by
  have h1 := sumI_nonneg (f := t.off r) (n := t.many) (fun j _ => ok.off0 r j)
  have h2 := ok.sk0 r
  unfold Td.rest
  omega
theorem Td.Ok.span_le {r : Nat} (hr : r < t.many) {n n' : Nat → Int} {m m' : Int} (hn : ∀ j, j < t.many → n j ≤ n' j) (hm : m ≤ m') : t.span r n m ≤ t.span r n' m' := by
  unfold Td.span
  have h1 := Int.mul_le_mul_of_nonneg_left hm (ok.sk0 r)
  have h2 := sumI_le (f := fun j => t.off r j * n j) (g := fun j => t.off r j * n' j) (n := t.many) (fun j hj => Int.mul_le_mul_of_nonneg_left (hn j hj) (ok.off0 r j))
  have h3 := Int.mul_le_mul_of_nonneg_left (hn r hr) (ok.rest0 hr)
  omega
omit ok
theorem span_mul {r : Nat} {n : Nat → Int} {m c : Int} : t.span r (fun j => c * n j) (c * m) = c * t.span r n m := by
  unfold Td.span
  rw [show (fun j => t.off r j * (c * n j)) = fun j => c * (t.off r j * n j) from funext fun j => by rw [Int.mul_left_comm], sumI_mul, Int.mul_add, Int.mul_add, Int.mul_left_comm, Int.mul_left_comm (t.rest r)]
theorem span_congr {r : Nat} (hr : r < t.many) {n n' : Nat → Int} {m : Int} (hn : ∀ j, j < t.many → n j = n' j) : t.span r n m = t.span r n' m := by
  unfold Td.span
  rw [hn r hr, sumI_congr (f := fun j => t.off r j * n j) (g := fun j => t.off r j * n' j) fun j hj => by rw [hn j hj]]
theorem hs_sky {r : Nat} (hr : r < t.many) : t.hs.sky r = t.sk r := if_pos hr
theorem hs_flow {r j : Nat} (hr : r < t.many) (hj : j < t.many) : t.hs.flow r j = rI (t.off r j) 12 := by
  show (if (r < t.many ∧ j < t.many) ∧ r ≠ j then t.fl r j else 0) = _
  unfold Td.off
  by_cases e : j = r
  · subst e
    rw [if_neg (by omega), if_pos rfl]
    exact rI_zero.symm
  · rw [if_pos (by omega), if_neg e]
    rfl
theorem hs_stove {r : Nat} (hr : r < t.many) : t.hs.stove r = t.sv r := if_pos hr
theorem hs_taken {r : Nat} (hr : r < t.many) : t.hs.taken r = rI ((t.sky r).1 + sumI (t.off r) t.many) 12 := by
  unfold Hs.taken
  rw [hs_sky hr, rI_add (by decide), rI_sum (by decide)]
  show rI (t.sky r).1 12 + sumQ (t.hs.flow r) t.many = _
  rw [sumQ_congr (fun j hj => hs_flow hr hj)]
theorem hs_part {r j : Nat} (hr : r < t.many) (hj : j < t.many) : t.hs.part r j = rI (if j = r then t.rest r else t.off r j) 12 := by
  unfold Hs.part
  by_cases e : j = r
  · subst e
    rw [if_pos rfl, if_pos rfl, hs_taken hr]
    unfold Td.rest
    rw [show 12 - (t.sky j).1 - sumI (t.off j) t.many = 12 - ((t.sky j).1 + sumI (t.off j) t.many) by omega, sub_same (by decide), rI_self (by decide)]
  · rw [if_neg (Ne.symm e), if_neg e, hs_flow hr hj]
theorem sumI_split {f : Nat → Int} {r : Nat} : ∀ {n}, r < n → sumI f n = f r + sumI (fun j => if j = r then 0 else f j) n
  | 0, h => by omega
  | n + 1, h => by
    simp only [sumI]
    by_cases e : r = n
    · subst e
      rw [if_pos rfl, sumI_congr (f := fun j => if j = r then 0 else f j) (g := f) (fun j hj => if_neg (by omega))]
      omega
    · rw [sumI_split (r := r) (n := n) (by omega), if_neg (by omega)]
      omega
include ok
theorem Td.Ok.hs_warm {r : Nat} (hr : r < t.many) {n : Nat → Int} {m p : Int} (hp : 0 < p) {b : Bool} (hb : b = true → t.stove r ≠ none) :
    t.hs.warm r (fun j => t.warm (n j) p) (t.warm m p) b = t.warm (t.span r n m + (if b = true then 12 * p * heat4 (t.stove r) else 0)) (12 * p) := by
  have p12 : (12 : Int) * p ≠ 0 := by omega
  have e0 : t.hs.warm r (fun j => t.warm (n j) p) (t.warm m p) b = rI (t.sky r).1 12 * t.warm m p + sumQ (fun j => rI (if j = r then t.rest r else t.off r j) 12 * t.warm (n j) p) t.many + (if b = true then heatOf (t.sv r) else 0) := by
    unfold Hs.warm
    rw [hs_sky hr, hs_stove hr]
    congr 2
    exact sumQ_congr fun j hj => by rw [hs_part hr hj]
  rw [e0]
  have e1 : (fun j => rI (if j = r then t.rest r else t.off r j) 12 * t.warm (n j) p) = fun j => rI t.s0 t.s1 * rI ((if j = r then t.rest r else t.off r j) * n j) (12 * p) + rI t.s2 t.s3 * rI (if j = r then t.rest r else t.off r j) 12 := by
    funext j
    rw [ok.warm_eq hp, ← rI_mulr (by decide) (by omega)]
    grind
  rw [e1, sumQ_add, sumQ_mul, sumQ_mul, ← rI_sum p12, ← rI_sum (by decide)]
  have s1 : sumI (fun j => if j = r then t.rest r else t.off r j) t.many = 12 - (t.sky r).1 := by
    rw [sumI_split (r := r) hr, if_pos rfl, sumI_congr (g := t.off r) (fun j hj => by
      by_cases e : j = r
      · rw [if_pos e, e, off_self]
      · rw [if_neg e, if_neg e])]
    unfold Td.rest
    omega
  have s2 : sumI (fun j => (if j = r then t.rest r else t.off r j) * n j) t.many = t.rest r * n r + sumI (fun j => t.off r j * n j) t.many := by
    rw [sumI_split (r := r) hr, if_pos rfl, sumI_congr (g := fun j => t.off r j * n j) (fun j hj => by
      by_cases e : j = r
      · rw [if_pos e, e, off_self, Int.zero_mul]
      · rw [if_neg e, if_neg e])]
  rw [s1, s2, ok.warm_eq hp, ok.warm_eq (n := t.span r n m + _) (by omega), sub_same (by decide), rI_self (by decide), rI_add (a := t.span r n m) p12]
  have e3 : rI (t.span r n m) (12 * p) = rI (t.sky r).1 12 * rI m p + rI (t.rest r * n r + sumI (fun j => t.off r j * n j) t.many) (12 * p) := by
    unfold Td.span
    rw [rI_mulr (by decide) (by omega), ← rI_add p12]
    congr 1
    omega
  have e4 : (if b = true then heatOf (t.sv r) else 0) = rI (if b = true then 12 * p * heat4 (t.stove r) else 0) (12 * p) * rI t.s0 t.s1 := by
    cases b with
    | false =>
      rw [if_neg (by decide), if_neg (by decide), rI_zero]
      grind
    | true =>
      rw [if_pos rfl, if_pos rfl]
      cases hs : t.stove r with
      | none => exact absurd hs (hb rfl)
      | some q =>
        have hv : t.sv r = some (rI (q.1 * t.s0) t.s1, q.2.1, q.2.2.1, q.2.2.2) := by unfold Td.sv; rw [hs]; rfl
        rw [hv]
        show rI (q.1 * t.s0) t.s1 = rI (12 * p * q.1) (12 * p) * rI t.s0 t.s1
        have h1 := ok.p1
        have k1 : rI (12 * p * q.1) (12 * p) = rI q.1 1 := by
          have := rI_scale (a := q.1) (w := 1) (c := 12 * p) (by decide) p12
          rwa [Int.mul_one] at this
        rw [k1, rI_mulr (by decide) (by omega), Int.one_mul]
  rw [e3, e4]
  grind
theorem Td.Ok.warm_same {n p c : Int} (hp : 0 < p) (hc : 0 < c) : t.warm (c * n) (c * p) = t.warm n p := by
  rw [ok.warm_eq (Int.mul_pos hc hp), ok.warm_eq hp, rI_scale (by omega) (by omega)]
end
def Td.lo (t : Td) (r : Nat) (bd : Nat → Nat) (b : Bool) : Int := t.span r (fun j => t.mv j (bd j)) (t.sky r).2.1 + (if b = true then 12 * heat4 (t.stove r) else 0)
def Td.hi (t : Td) (r : Nat) (bd : Nat → Nat) (b : Bool) : Int := t.span r (fun j => t.mv j (bd j + 1)) (t.sky r).2.2 + (if b = true then 12 * heat4 (t.stove r) else 0)
section
variable {t : Td} (ok : t.Ok)
include ok
theorem Td.Ok.span_bd {r : Nat} {n : Nat → Int} {m : Int} (hr : r < t.many) (hn : ∀ j, j < t.many → (n j).natAbs ≤ 1000) (hm : m.natAbs ≤ 1000) : (t.span r n m).natAbs ≤ 30000 := by
  have h1 := ok.span_le hr (n := n) (n' := fun _ => 1000) (m := m) (m' := 1000) (fun j hj => by have := hn j hj; omega) (by omega)
  have h2 := ok.span_le hr (n := fun _ => -1000) (n' := n) (m := -1000) (m' := m) (fun j hj => by have := hn j hj; omega) (by omega)
  have e1 := span_mul (t := t) (r := r) (n := fun _ => 1) (m := 1) (c := 1000)
  have e2 := span_mul (t := t) (r := r) (n := fun _ => 1) (m := 1) (c := -1000)
  have e3 : t.span r (fun _ => 1) 1 = 12 := by
    unfold Td.span Td.rest
    rw [show (fun j => t.off r j * 1) = t.off r from funext fun j => Int.mul_one _]
    show (t.sky r).1 * 1 + sumI (t.off r) t.many + (12 - (t.sky r).1 - sumI (t.off r) t.many) * 1 = 12
    omega
  rw [e3] at e1 e2
  simp only [Int.mul_one] at e1 e2
  omega
theorem Td.Ok.heat_bd (r : Nat) : 0 ≤ heat4 (t.stove r) ∧ heat4 (t.stove r) ≤ 25 := by
  cases e : t.stove r with
  | none => exact ⟨by decide, by decide⟩
  | some q =>
    obtain ⟨h, w, s, f⟩ := q
    exact (ok.st r h w s f e).1
theorem Td.Ok.mv1000 {r b : Nat} (h : b ≤ t.nb r) : (t.mv r b).natAbs ≤ 200 := by
  have h7 := ok.nb7 r
  have h1 := ok.mlo r b; have h2 := ok.mhi r b
  omega
theorem Td.Ok.lo_bd {r : Nat} {bd : Nat → Nat} {b : Bool} (hr : r < t.many) (hbd : ∀ j, j < t.many → bd j < t.nb j) : (t.lo r bd b).natAbs ≤ 40000 := by
  have h1 := ok.span_bd hr (n := fun j => t.mv j (bd j)) (m := (t.sky r).2.1) (fun j hj => by have := ok.mv1000 (r := j) (b := bd j) (by have := hbd j hj; omega); omega) (by have := ok.slo r; have := ok.sle r; have := ok.shi r; omega)
  have h2 := ok.heat_bd r
  unfold Td.lo
  split <;> omega
theorem Td.Ok.hi_bd {r : Nat} {bd : Nat → Nat} {b : Bool} (hr : r < t.many) (hbd : ∀ j, j < t.many → bd j < t.nb j) : (t.hi r bd b).natAbs ≤ 40000 := by
  have h1 := ok.span_bd hr (n := fun j => t.mv j (bd j + 1)) (m := (t.sky r).2.2) (fun j hj => by have := ok.mv1000 (r := j) (b := bd j + 1) (by have := hbd j hj; omega); omega) (by have := ok.slo r; have := ok.sle r; have := ok.shi r; omega)
  have h2 := ok.heat_bd r
  unfold Td.hi
  split <;> omega
theorem Td.Ok.stove_rb {r : Nat} {b : Bool} (hr : r < t.many) (hb : b = true → t.stove r ≠ none) : b = true → ∃ q w s f, t.hs.stove r = some (q, w, s, f) ∧ rb 91 q := fun h => by
  cases e : t.stove r with
  | none => exact absurd e (hb h)
  | some q =>
    obtain ⟨q0, w, s, f⟩ := q
    have hv : t.sv r = some (rI (q0 * t.s0) t.s1, w, s, f) := by unfold Td.sv; rw [e]; rfl
    have hh := (ok.st r q0 w s f e).1
    exact ⟨_, w, s, f, by rw [hs_stove hr, hv], (ok.heat hh.1 hh.2).1⟩
end
end Q

/-! Right holds; a hold laid after another one; what a hold tells. -/
namespace Q
open PySem PySem.Spec PyProof.Rows L2
section
variable {ρ : Env} {S : Store}
theorem ev_callD {Φ : FF} {dd : List D} {as : FL} : eCallD Φ dd as ρ S = (as ρ S).bindE fun ds S1 => RFE (Φ (ds ++ dd) S1) := by
  unfold eCallD
  cases as ρ S <;> rfl
theorem ev_make {c : Nat} {Φ : FF} {dd : List D} {as : FL} : eMake c Φ dd as ρ S = (as ρ S).bindE fun ds S1 => makeR S1.length (Φ (.obj S1.length :: (ds ++ dd)) (S1 ++ [⟨c, []⟩])) := by
  unfold eMake
  cases as ρ S <;> rfl
theorem makeR_ok {n : Nat} {o : Env} : makeR n (.ok .non o S) = .ok (.obj n) S := rfl
theorem makeR_exc {n : Nat} {x : Exc} {o : Env} : makeR n (.exc x o S) = .exc x S := rfl
end
section
variable {t : Td} (ok : t.Ok)
include ok
theorem Td.Ok.mks_rise (r : Nat) : ∀ i (hi : i + 1 < (t.mks r).length), (t.mks r)[i] < (t.mks r)[i + 1] := fun i hi => by
  have hl : (t.mks r).length = t.nb r + 1 := tbl_len
  have g : ∀ k (hk : k < (t.mks r).length), (t.mks r)[k] = t.warm (t.mv r k) 1 := fun k hk => by
    have := tbl_get (f := fun j => t.warm (t.mv r j) 1) (m := t.nb r + 1) (r := k) (by omega)
    rw [List.getElem?_eq_some_iff] at this
    exact this.2
  rw [g, g, ok.warm_lt (by decide) (by decide)]
  have := ok.rise r i
  omega
theorem Td.Ok.bands {n : Nat} (hn : n < t.many) : (tbl n t.mks).foldl (fun z q => z * ((q.length : Int) - 1)) (((t.mks n).length : Int) - 1) ≤ 400 := by
  have m4 := ok.m4
  have e : ∀ r, (((t.mks r).length : Nat) : Int) - 1 = t.nb r := fun r => by
    have : (t.mks r).length = t.nb r + 1 := tbl_len
    omega
  have h1 : ∀ r, (1 : Int) ≤ t.nb r := fun r => by have := ok.nb1 r; omega
  have h6 : ∀ r, (t.nb r : Int) ≤ (if t.many ≤ 2 then 6 else 4) := fun r => by
    have := ok.nb6 r
    split at this <;> rename_i h <;> simp only [h, if_true, if_false] <;> omega
  have mm : ∀ a b c d : Int, 0 ≤ a → 0 ≤ b → a ≤ c → b ≤ d → a * b ≤ c * d ∧ 0 ≤ a * b := fun a b c d ha hb hc hd => ⟨Int.mul_le_mul hc hd hb (by omega), Int.mul_nonneg ha hb⟩
  rw [e]
  have a0 := h1 0; have a1 := h1 1; have a2 := h1 2; have a3 := h1 3
  have b0 := h6 0; have b1 := h6 1; have b2 := h6 2; have b3 := h6 3
  have hn4 : n = 0 ∨ n = 1 ∨ n = 2 ∨ n = 3 := by omega
  rcases hn4 with h | h | h | h <;> subst h
  · show (t.nb 0 : Int) ≤ 400
    split at b0 <;> omega
  · show (t.nb 1 : Int) * (((t.mks 0).length : Int) - 1) ≤ 400
    rw [e]
    split at b0 <;> rename_i h <;> simp only [h, if_true, if_false] at b1
    · have := mm _ _ _ _ (by omega) (by omega) b1 b0; omega
    · have := mm _ _ _ _ (by omega) (by omega) b1 b0; omega
  · rw [if_neg (by omega)] at b0 b1 b2
    show (t.nb 2 : Int) * (((t.mks 0).length : Int) - 1) * (((t.mks 1).length : Int) - 1) ≤ 400
    rw [e, e]
    have u := mm _ _ _ _ (by omega) (by omega) b2 b0
    have := mm _ _ _ _ (by omega) (by omega) u.1 b1
    omega
  · rw [if_neg (by omega)] at b0 b1 b2 b3
    show (t.nb 3 : Int) * (((t.mks 0).length : Int) - 1) * (((t.mks 1).length : Int) - 1) * (((t.mks 2).length : Int) - 1) ≤ 400
    rw [e, e, e]
    have u := mm _ _ _ _ (by omega) (by omega) b3 b0
    have v := mm _ _ _ _ (by omega) (by omega) u.1 b1
    have := mm _ _ _ _ (by omega) (by omega) v.1 b2
    omega
end
/-- a hold that was laid rightly, its fractions of so many bits -/
structure Hs.Good (g : Hs) (k : Nat) : Prop where
  k5 : k ≤ 500
  b0 : 0 ≤ g.most ∧ g.most ≤ 4
  b1 : 0 ≤ g.cap ∧ g.cap ≤ 30
  b2 : 0 ≤ g.load ∧ g.load ≤ 30
  m4 : g.many ≤ 4
  l2 : ∀ i, i < g.many → 2 ≤ (g.marks i).length
  l7 : ∀ i, i < g.many → (g.marks i).length ≤ 7
  mb : ∀ i, i < g.many → ∀ q ∈ g.marks i, rb k q
  rise : ∀ i, i < g.many → ∀ j (hj : j + 1 < (g.marks i).length), (g.marks i)[j] < (g.marks i)[j + 1]
  bands : ∀ i, i < g.many → (tbl i g.marks).foldl (fun z q => z * ((q.length : Int) - 1)) (((g.marks i).length : Int) - 1) ≤ 400
  fb : ∀ i j, i < g.many → j < g.many → rb k (g.flow i j)
  f0 : ∀ i j, i < g.many → j < g.many → 0 ≤ g.flow i j
  fs : ∀ i, i < g.many → g.flow i i = 0
  sb : ∀ i, i < g.many → rb k (g.sky i).1
  s0 : ∀ i, i < g.many → 0 ≤ (g.sky i).1
  lb : ∀ i, i < g.many → rb k (g.sky i).2.1
  hb : ∀ i, i < g.many → rb k (g.sky i).2.2
  lh : ∀ i, i < g.many → ¬ (g.sky i).2.2 < (g.sky i).2.1
  t1 : ∀ i, i < g.many → ¬ 1 < g.taken i
  st : ∀ i q w s f, i < g.many → g.stove i = some (q, w, s, f) → rb k q ∧ ¬ q < 0 ∧ (0 ≤ w ∧ w ≤ 9) ∧ (0 ≤ s ∧ s ≤ 3) ∧ (0 ≤ f ∧ f ≤ 3)
theorem Hs.Good.wf {g : Hs} {k : Nat} (G : g.Good k) : g.Wf k := ⟨G.m4, G.fb, G.sb⟩
theorem Td.Ok.good {t : Td} (ok : t.Ok) : t.hs.Good 91 where
  k5 := by decide
  b0 := ⟨ok.b00, ok.b04⟩
  b1 := ⟨ok.b10, ok.b130⟩
  b2 := ⟨ok.b20, ok.b230⟩
  m4 := ok.m4
  l2 i hi := by rw [hs_marks hi, mks_len]; have := ok.nb1 i; omega
  l7 i hi := by rw [hs_marks hi, mks_len]; have := ok.nb7 i; omega
  mb i hi := by rw [hs_marks hi]; exact ok.mk_rb i
  rise i hi := by
    have e : t.hs.marks i = t.mks i := hs_marks hi
    exact (congrArg (fun l : List Rat => ∀ j (hj : j + 1 < l.length), l[j] < l[j + 1]) e).mpr (ok.mks_rise i)
  bands i hi := by
    have hi : i < t.many := hi
    rw [hs_marks hi, tbl_congr (f := t.hs.marks) (g := t.mks) (fun r hr => hs_marks (by omega))]
    exact ok.bands hi
  fb i j hi hj := ((hk_part t.many).wf ok).bf i j hi hj
  f0 i j hi hj := by rw [hs_flow hi hj]; exact rI_nonneg (ok.off0 i j) (by decide)
  fs i _ := (hk_part t.many).self i
  sb i hi := ((hk_part t.many).wf ok).bs i hi
  s0 i hi := by rw [hs_sky hi]; exact rI_nonneg (ok.sk0 i) (by decide)
  lb i hi := by rw [hs_sky hi]; exact ok.lo_rb i
  hb i hi := by rw [hs_sky hi]; exact ok.hi_rb i
  lh i hi := by rw [hs_sky hi]; exact ok.lo_hi i
  t1 i hi := (hk_part t.many).le ok hi
  st i q w s f hi e := by
    rw [hs_stove hi] at e
    unfold Td.sv at e
    cases h : t.stove i with
    | none => rw [h] at e; cases e
    | some z =>
      obtain ⟨z0, z1, z2, z3⟩ := z
      rw [h] at e
      simp only [Option.map_some, Option.some.injEq, Prod.mk.injEq] at e
      obtain ⟨rfl, rfl, rfl, rfl⟩ := e
      obtain ⟨h0, h1, h2, h3⟩ := ok.st i z0 z1 z2 z3 h
      obtain ⟨a, b, _⟩ := ok.heat h0.1 h0.2
      exact ⟨a, b, h1, h2, h3⟩
/-! ### laid step by step -/
def Hs.st0 (g : Hs) (n : Nat) : Hs := ⟨g.most, g.cap, g.load, n, fun i => if i < n then g.marks i else [], fun _ _ => 0, fun _ => (0, 0, 0), fun _ => .none⟩
/-- skies below sk, stoves below st, what rooms below a take of others, of room a what it takes of those below b -/
def Hs.stage (g : Hs) (sk st a b : Nat) : Hs := { g.st0 g.many with flow := fun i j => if (i < a ∧ j < g.many ∨ i = a ∧ j < b) ∧ i ≠ j then g.flow i j else 0, sky := fun i => if i < sk then g.sky i else (0, 0, 0), stove := fun i => if i < st then g.stove i else .none }
section
variable {g : Hs} {sk st a b k i o c : Nat}
theorem st0_add : (g.st0 i).add (g.marks i) = g.st0 (i + 1) := by
  unfold Hs.st0 Hs.add
  simp only [ite_self]
  congr 1
  funext j
  by_cases h : j = i
  · subst h
    rw [if_pos rfl, if_pos (by omega)]
  · rw [if_neg h]
    by_cases h2 : j < i
    · rw [if_pos h2, if_pos (by omega)]
    · rw [if_neg h2, if_neg (by omega)]
theorem st0_stage : g.st0 g.many = g.stage 0 0 0 0 := by
  unfold Hs.stage
  simp only [Nat.not_lt_zero, false_and, and_false, or_self, if_false]
  rfl
theorem stage_sky : (g.stage i st a b).setSky i (g.sky i) = g.stage (i + 1) st a b := by
  unfold Hs.stage Hs.setSky
  simp only [Hs.mk.injEq, true_and, and_true]
  funext j
  by_cases h : j = i
  · subst h; rw [if_pos rfl, if_pos (by omega)]
  · rw [if_neg h]
    by_cases h2 : j < i
    · rw [if_pos h2, if_pos (by omega)]
    · rw [if_neg h2, if_neg (by omega)]
theorem stage_stove : (g.stage sk i a b).setStove i (g.stove i) = g.stage sk (i + 1) a b := by
  unfold Hs.stage Hs.setStove
  simp only [Hs.mk.injEq, true_and, and_true]
  funext j
  by_cases h : j = i
  · subst h; rw [if_pos rfl, if_pos (by omega)]
  · rw [if_neg h]
    by_cases h2 : j < i
    · rw [if_pos h2, if_pos (by omega)]
    · rw [if_neg h2, if_neg (by omega)]
theorem stage_stove0 (h : g.stove k = .none) : g.stage sk k a b = g.stage sk (k + 1) a b := by
  unfold Hs.stage
  simp only [Hs.mk.injEq, true_and, and_true]
  funext i
  by_cases e : i = k
  · subst e; rw [if_neg (by omega), if_pos (by omega), h]
  · by_cases h2 : i < k
    · rw [if_pos h2, if_pos (by omega)]
    · rw [if_neg h2, if_neg (by omega)]
theorem stage_flow (h : o ≠ k) : (g.stage sk st k o).setFlow k o (g.flow k o) = g.stage sk st k (o + 1) := by
  unfold Hs.stage Hs.setFlow
  simp only [Hs.mk.injEq, true_and, and_true]
  funext i j
  by_cases e1 : i = k
  · subst e1
    rw [if_pos rfl]
    by_cases e2 : j = o
    · subst e2
      rw [if_pos rfl, if_pos (by omega)]
    · rw [if_neg e2]
      congr 1
      apply propext
      omega
  · rw [if_neg e1]
    congr 1
    apply propext
    omega
theorem stage_same : g.stage sk st k k = g.stage sk st k (k + 1) := by
  unfold Hs.stage
  simp only [Hs.mk.injEq, true_and, and_true]
  funext i j
  congr 1
  apply propext
  omega
theorem stage_next : g.stage sk st k g.many = g.stage sk st (k + 1) 0 := by
  unfold Hs.stage
  simp only [Hs.mk.injEq, true_and, and_true]
  funext i j
  congr 1
  apply propext
  omega
section
variable (G : g.Good k)
include G
theorem stage_wf (h : a ≤ g.many) : (g.stage sk st a b).Wf k where
  m4 := G.m4
  bf i j hi hj := by
    show rb k (if (i < a ∧ j < g.many ∨ i = a ∧ j < b) ∧ i ≠ j then g.flow i j else 0)
    split
    · exact G.fb i j hi hj
    · have := G.fb i j hi hj
      refine ⟨?_, ?_⟩
      · show 0 < 2 ^ k
        exact Nat.pow_pos (by decide)
      · show 1 < 2 ^ k
        have h1 := this.2
        have h2 := (g.flow i j).den_pos
        have : k ≠ 0 := by
          rintro rfl
          simp at h1
          omega
        exact Nat.one_lt_two_pow this
  bs i hi := by
    show rb k (if i < sk then g.sky i else (0, 0, 0)).1
    split
    · exact G.sb i hi
    · have := G.sb i hi
      refine ⟨?_, ?_⟩
      · show 0 < 2 ^ k
        exact Nat.pow_pos (by decide)
      · show 1 < 2 ^ k
        have h1 := this.2
        have h2 := (g.sky i).1.den_pos
        have : k ≠ 0 := by
          rintro rfl
          simp at h1
          omega
        exact Nat.one_lt_two_pow this
theorem stage_taken (hi : i < g.many) : ¬ 1 < (g.stage sk st a b).taken i := by
  have h1 := G.t1 i hi
  unfold Hs.taken at h1 ⊢
  have e1 : ((g.stage sk st a b).sky i).1 ≤ (g.sky i).1 := by
    show (if i < sk then g.sky i else (0, 0, 0)).1 ≤ _
    split
    · exact Rat.le_refl
    · exact G.s0 i hi
  have e2 : sumQ ((g.stage sk st a b).flow i) (g.stage sk st a b).many ≤ sumQ (g.flow i) g.many := sumQ_le fun j hj => by
    show (if (i < a ∧ j < g.many ∨ i = a ∧ j < b) ∧ i ≠ j then g.flow i j else 0) ≤ _
    split
    · exact Rat.le_refl
    · exact G.f0 i j hi hj
  grind
theorem stage_end : (g.stage g.many g.many g.many 0).ob c = g.ob c := by
  unfold Hs.ob Hs.fs Hs.flows
  have e1 : (tbl g.many fun i => rsD ((g.stage g.many g.many g.many 0).marks i)) = tbl g.many fun i => rsD (g.marks i) := tbl_congr fun i hi => by
    show rsD (if i < g.many then g.marks i else []) = _
    rw [if_pos hi]
  have e2 : (tbl g.many fun i => D.lst (tbl (g.stage g.many g.many g.many 0).many fun j => rD ((g.stage g.many g.many g.many 0).flow i j))) = tbl g.many fun i => D.lst (tbl g.many fun j => rD (g.flow i j)) := tbl_congr fun i hi => by
    congr 1
    refine tbl_congr fun j hj => ?_
    show rD (if (i < g.many ∧ j < g.many ∨ i = g.many ∧ j < 0) ∧ i ≠ j then g.flow i j else 0) = _
    by_cases e : i = j
    · subst e; rw [if_neg (by omega), G.fs i hi]
    · have hj : j < g.many := hj
      rw [if_pos (by omega)]
  have e3 : (tbl g.many fun i => skyD ((g.stage g.many g.many g.many 0).sky i)) = tbl g.many fun i => skyD (g.sky i) := tbl_congr fun i hi => by
    show skyD (if i < g.many then g.sky i else (0, 0, 0)) = _
    rw [if_pos hi]
  have e4 : (tbl g.many fun i => stoveD ((g.stage g.many g.many g.many 0).stove i)) = tbl g.many fun i => stoveD (g.stove i) := tbl_congr fun i hi => by
    show stoveD (if i < g.many then g.stove i else .none) = _
    rw [if_pos hi]
  show Ob.mk c [("most", .int g.most), ("cap", .int g.cap), ("load", .int g.load), ("my_marks", .lst (tbl g.many _)), ("my_flows", .lst (tbl g.many _)), ("my_skies", .lst (tbl g.many _)), ("my_stoves", .lst (tbl g.many _))] = _
  rw [e1, e2, e3, e4]
end
end
def Hs.like (h : Hs) (u v w : Int) : Hs := { h with most := u, cap := v, load := w }
theorem Hs.Good.like {h : Hs} {k : Nat} (G : h.Good k) {u v w : Int} (hu : 0 ≤ u ∧ u ≤ 4) (hv : 0 ≤ v ∧ v ≤ 30) (hw : 0 ≤ w ∧ w ≤ 30) : (h.like u v w).Good k where
  k5 := G.k5
  b0 := hu
  b1 := hv
  b2 := hw
  m4 := G.m4
  l2 := G.l2
  l7 := G.l7
  mb := G.mb
  rise := G.rise
  bands := G.bands
  fb := G.fb
  f0 := G.f0
  fs := G.fs
  sb := G.sb
  s0 := G.s0
  lb := G.lb
  hb := G.hb
  lh := G.lh
  t1 := G.t1
  st := G.st
theorem At.app {S : Store} {n c : Nat} {h : Hs} (a : At S n c h) (l : List Ob) : At (S ++ l) n c h := by
  have hl := a.lt
  unfold At at a ⊢
  rw [List.getElem?_append_left hl]
  exact a
theorem At.setNe {S : Store} {n m c : Nat} {h : Hs} {o : Ob} (a : At S n c h) (e : m ≠ n) : At (S.set m o) n c h := by
  unfold At at a ⊢
  rw [List.getElem?_set_ne e]
  exact a
def oD : Option Int → D
  | none => .non
  | some i => .int i
theorem isN_o : hIsN (oD none) .non = some (.bl true) := rfl
theorem isN_i {i : Int} : hIsN (.int i) .non = some (.bl false) := rfl
theorem isN_n : hIsN .non .non = some (.bl true) := rfl
/-! ### what a hold tells -/
def Hs.roomD (h : Hs) (i : Nat) : D := .tup [rsD (h.marks i), skyD (h.sky i), stoveD (h.stove i)]
def Hs.sharesD (h : Hs) (i : Nat) : D := .lst (tbl h.many fun j => rD (h.part i j))
def Hs.seenL (h : Hs) : Nat → List D
  | 0 => [.int h.many]
  | i + 1 => h.seenL i ++ [h.roomD i] ++ [h.sharesD i]
theorem seenL_len {h : Hs} : ∀ i, (h.seenL i).length = 1 + 2 * i
  | 0 => rfl
  | i + 1 => by
    show (h.seenL i ++ [h.roomD i] ++ [h.sharesD i]).length = _
    rw [List.length_append, List.length_append, seenL_len i, List.length_singleton, List.length_singleton]
    omega
theorem seenL_like {h : Hs} {u v w : Int} : ∀ i, (h.like u v w).seenL i = h.seenL i
  | 0 => rfl
  | i + 1 => by
    show (h.like u v w).seenL i ++ [h.roomD i] ++ [h.sharesD i] = _
    rw [seenL_like i]
    rfl
theorem plD_rD {n : Nat} {q : Rat} : plD (n + 1) (rD q) = true := plD_tup fun d hd => by
  simp only [List.mem_cons, List.not_mem_nil, or_false] at hd
  rcases hd with e | e <;> rw [e] <;> exact plD_int
theorem plD_seen {h : Hs} : ∀ i, ∀ d ∈ h.seenL i, plD 59 d = true
  | 0, d, hd => by
    have : d = .int h.many := List.mem_singleton.mp hd
    rw [this]; exact plD_int
  | i + 1, d, hd => by
    have hd : d ∈ h.seenL i ++ [h.roomD i] ++ [h.sharesD i] := hd
    rcases List.mem_append.mp hd with hd | hd
    · rcases List.mem_append.mp hd with hd | hd
      · exact plD_seen i d hd
      · rw [List.mem_singleton.mp hd]
        refine plD_tup fun d hd => ?_
        simp only [List.mem_cons, List.not_mem_nil, or_false] at hd
        rcases hd with e | e | e
        · rw [e]
          refine plD_lst fun d hd => ?_
          obtain ⟨q, _, rfl⟩ := List.mem_map.mp hd
          exact plD_rD
        · rw [e]
          refine plD_tup fun d hd => ?_
          simp only [List.mem_cons, List.not_mem_nil, or_false] at hd
          rcases hd with e | e | e <;> rw [e] <;> exact plD_rD
        · rw [e]
          cases h.stove i with
          | none => exact plD_non
          | some z =>
            obtain ⟨q, w, s, f⟩ := z
            refine plD_tup fun d hd => ?_
            simp only [List.mem_cons, List.not_mem_nil, or_false] at hd
            rcases hd with e | e | e | e <;> rw [e]
            · exact plD_rD
            · exact plD_int
            · exact plD_int
            · exact plD_int
    · rw [List.mem_singleton.mp hd]
      refine plD_lst fun d hd => ?_
      obtain ⟨j, _, rfl⟩ := tbl_mem.mp hd
      exact plD_rD
theorem seen_ne {h : Hs} {i : Nat} : hNe (.lst (h.seenL i)) (.lst (h.seenL i)) = some (.bl false) := hNe_t (plD_lst (plD_seen i))
theorem rD_lit {a b : Int} (hb : 0 < b) (g : Int.gcd a b = 1) : D.tup [.int a, .int b] = rD (rI a b) := by
  obtain ⟨h1, h2⟩ := rI_low hb g
  unfold rD
  rw [h1, h2]
theorem rD_one {a : Int} : D.tup [.int a, .int 1] = rD (rI a 1) := rD_lit (by decide) (by
  show Nat.gcd a.natAbs 1 = 1
  exact Nat.gcd_one_right _)
theorem rI_lt1 {a b : Int} (h : a ≤ b) : ¬ rI b 1 < rI a 1 := by
  have := rI_le (a := a) (w := 1) (c := b) (d := 1) (by decide) (by decide) (by omega)
  grind
end Q

/-! Bits, states, stoves: what they are, no program in sight. -/
namespace Q
open PySem PySem.Spec PyProof.Rows L2
/-! ### sets of rooms as bits -/
/-- the rooms of m, from r on, k at most -/
def rr : Nat → Nat → Nat → List Int
  | 0, _, _ => []
  | k + 1, m, r => if m % 2 = 1 then (r : Int) :: rr k (m / 2) (r + 1) else rr k (m / 2) (r + 1)
theorem rr_zero : ∀ (k r : Nat), rr k 0 r = []
  | 0, _ => rfl
  | k + 1, r => by rw [rr]; exact rr_zero k (r + 1)
theorem rr_mem {x : Int} : ∀ {k m r : Nat}, x ∈ rr k m r ↔ ∃ j : Nat, j < k ∧ x = ((r + j : Nat) : Int) ∧ m.testBit j = true
  | 0, m, r => by simp [rr]
  | k + 1, m, r => by
    have hd : m.testBit 0 = true ↔ m % 2 = 1 := by simp [Nat.testBit_zero]
    have ih := rr_mem (x := x) (k := k) (m := m / 2) (r := r + 1)
    have key : (x ∈ rr k (m / 2) (r + 1)) ↔ ∃ j : Nat, j < k ∧ x = ((r + (j + 1) : Nat) : Int) ∧ m.testBit (j + 1) = true := by
      rw [ih]
      constructor
      · rintro ⟨j, h1, h2, h3⟩
        exact ⟨j, h1, by rw [h2]; congr 1; omega, by rw [Nat.testBit_succ]; exact h3⟩
      · rintro ⟨j, h1, h2, h3⟩
        exact ⟨j, h1, by rw [h2]; congr 1; omega, by rw [Nat.testBit_succ] at h3; exact h3⟩
    rw [rr]
    split
    · rename_i h1
      rw [List.mem_cons, key]
      constructor
      · rintro (h | ⟨j, h⟩)
        · exact ⟨0, Nat.succ_pos _, by rw [h]; rfl, hd.mpr h1⟩
        · exact ⟨j + 1, by omega, h.2⟩
      · rintro ⟨j, h2, h3, h4⟩
        cases j with
        | zero => left; rw [h3]; rfl
        | succ j => right; exact ⟨j, by omega, h3, h4⟩
    · rename_i h1
      rw [key]
      constructor
      · rintro ⟨j, h⟩
        exact ⟨j + 1, by omega, h.2⟩
      · rintro ⟨j, h2, h3, h4⟩
        cases j with
        | zero => exact absurd (hd.mp h4) h1
        | succ j => exact ⟨j, by omega, h3, h4⟩
theorem rr_sorted : ∀ (k m r : Nat), (rr k m r).Pairwise (· < ·)
  | 0, _, _ => .nil
  | k + 1, m, r => by
    rw [rr]
    split
    · rw [List.pairwise_cons]
      refine ⟨fun z hz => ?_, rr_sorted k _ _⟩
      obtain ⟨j, _, h2, _⟩ := rr_mem.mp hz
      rw [h2]
      omega
    · exact rr_sorted k _ _
theorem rr_length : ∀ (k m r : Nat), (rr k m r).length ≤ k
  | 0, _, _ => Nat.le_refl _
  | k + 1, m, r => by
    rw [rr]
    have := rr_length k (m / 2) (r + 1)
    split
    · rw [List.length_cons]; omega
    · omega
theorem mod2_int (n : Nat) : ((n : Int) % 2 == 1) = decide (n % 2 = 1) := by
  by_cases h : n % 2 = 1
  · rw [decide_eq_true h]; simp; omega
  · rw [decide_eq_false h]; simp; omega
theorem hShr_nat {n r : Nat} : hShr (.int n) (.int r) = some (.int ((n / 2 ^ r : Nat) : Int)) := by
  show (if (0 : Int) ≤ (r : Int) then some (D.int ((n : Int) / 2 ^ (r : Int).toNat)) else none) = _
  rw [if_pos (by omega), Int.toNat_natCast]
  rfl
theorem hShl_nat {r : Nat} (h : r ≤ 1000000) : hShl (.int 1) (.int r) = some (.int ((2 ^ r : Nat) : Int)) := by
  show (if (0 : Int) ≤ (r : Int) ∧ (r : Int) ≤ 1000000 ∧ (1 : Int).natAbs < 2 ^ 64 then some (D.int (1 * 2 ^ (r : Int).toNat)) else none) = _
  rw [if_pos ⟨by omega, by omega, by decide⟩, Int.toNat_natCast, Int.one_mul]
  congr 2
theorem hOr_nat {a b : Nat} : hOr (.int a) (.int b) = some (.int ((a ||| b : Nat) : Int)) := by
  show some (D.int (Builtin.bitOr a b)) = _
  rw [L2.bitOr_nn (by omega) (by omega)]
  rfl
theorem pow_le_of_bit {n r : Nat} (h : n.testBit r = true) : 2 ^ r ≤ n := Nat.ge_two_pow_of_testBit h
theorem bit_less {n r : Nat} (h : n.testBit r = true) (j : Nat) : (n - 2 ^ r).testBit j = (n.testBit j && decide (j ≠ r)) := by
  obtain ⟨a, b, hb, e⟩ : ∃ a b, b < 2 ^ r ∧ n = 2 ^ (r + 1) * a + (2 ^ r + b) := by
    have h1 : n / 2 ^ r % 2 = 1 := by
      rw [Nat.testBit_eq_decide_div_mod_eq] at h
      exact of_decide_eq_true h
    refine ⟨n / 2 ^ (r + 1), n % 2 ^ r, Nat.mod_lt _ (Nat.two_pow_pos r), ?_⟩
    have e1 := Nat.div_add_mod n (2 ^ r)
    have e2 := Nat.div_add_mod (n / 2 ^ r) 2
    rw [h1, Nat.div_div_eq_div_mul, ← Nat.pow_succ] at e2
    rw [← e2, Nat.mul_add, Nat.mul_one, ← Nat.mul_assoc, ← Nat.pow_succ] at e1
    rw [Nat.succ_eq_add_one] at e1
    omega
  have lt1 : 2 ^ r + b < 2 ^ (r + 1) := by rw [Nat.pow_succ]; omega
  have lt2 : b < 2 ^ (r + 1) := by omega
  have e2 : n - 2 ^ r = 2 ^ (r + 1) * a + b := by omega
  rw [e2, e, Nat.testBit_two_pow_mul_add _ lt1, Nat.testBit_two_pow_mul_add _ lt2]
  by_cases hj : j < r + 1
  · rw [if_pos hj, if_pos hj]
    by_cases hr : j = r
    · subst hr
      rw [Nat.testBit_lt_two_pow hb]
      simp
    · rw [Nat.testBit_two_pow_add_gt (by omega)]
      simp [hr]
  · rw [if_neg hj, if_neg hj]
    have : j ≠ r := by omega
    simp [this]
/-- the bits of a list of rooms -/
def bitsOf (l : List Nat) : Nat := l.foldl (fun n r => n ||| 2 ^ r) 0
theorem bits_mem {l : List Nat} {j n : Nat} : (l.foldl (fun n r => n ||| 2 ^ r) n).testBit j = (n.testBit j || decide (j ∈ l)) := by
  induction l generalizing n with
  | nil => simp
  | cons a r ih =>
    rw [List.foldl_cons, ih, Nat.testBit_or, Nat.testBit_two_pow]
    by_cases h : a = j
    · subst h; simp
    · have : ¬ j = a := fun z => h z.symm
      simp [h, this]
theorem bits_lt {l : List Nat} {n k : Nat} (hn : n < 2 ^ k) (h : ∀ r ∈ l, r < k) : l.foldl (fun n r => n ||| 2 ^ r) n < 2 ^ k := by
  induction l generalizing n with
  | nil => exact hn
  | cons a r ih =>
    rw [List.foldl_cons]
    exact ih (Nat.or_lt_two_pow hn (Nat.pow_lt_pow_right (by decide) (h a List.mem_cons_self))) fun x hx => h x (List.mem_cons_of_mem _ hx)
theorem bit_mod {n r : Nat} : (((n / 2 ^ r : Nat) : Int) % 2 == 1) = n.testBit r := by rw [mod2_int, ← Nat.testBit_eq_decide_div_mod_eq]
/-- the rooms of bits below k -/
def rms (k n : Nat) : List Nat := (List.range k).filter fun j => n.testBit j
theorem rr_rms : ∀ (k m r : Nat), rr k m r = (rms k m).map fun j => ((r + j : Nat) : Int)
  | 0, _, _ => rfl
  | k + 1, m, r => by
    have ih := rr_rms k (m / 2) (r + 1)
    unfold rms
    rw [List.range_succ_eq_map, List.filter_cons, List.filter_map]
    have e : ((fun j => m.testBit j) ∘ Nat.succ) = fun j => (m / 2).testBit j := by
      funext j
      show m.testBit (j + 1) = _
      rw [Nat.testBit_succ]
    rw [e, rr, ih]
    have hd : m.testBit 0 = true ↔ m % 2 = 1 := by simp [Nat.testBit_zero]
    unfold rms
    have f2 : ((List.range k).filter fun j => (m / 2).testBit j).map (fun j => ((r + 1 + j : Nat) : Int)) = (((List.range k).filter fun j => (m / 2).testBit j).map Nat.succ).map fun j => ((r + j : Nat) : Int) := by
      rw [List.map_map]
      refine List.map_congr_left fun j _ => ?_
      show ((r + 1 + j : Nat) : Int) = ((r + (j + 1) : Nat) : Int)
      congr 1
      omega
    rw [f2]
    by_cases h : m % 2 = 1
    · rw [if_pos h, if_pos (hd.mpr h), List.map_cons]
      rfl
    · rw [if_neg h, if_neg (fun z => h (hd.mp z))]
theorem rr_rms0 (k m : Nat) : rr k m 0 = (rms k m).map fun j : Nat => (j : Int) := by
  rw [rr_rms]
  refine List.map_congr_left fun j _ => ?_
  rw [Nat.zero_add]
theorem rms_mem {k n j : Nat} : j ∈ rms k n ↔ j < k ∧ n.testBit j = true := by
  unfold rms
  rw [List.mem_filter, List.mem_range]
theorem rms_succ {k n : Nat} : rms (k + 1) n = if n.testBit k = true then rms k n ++ [k] else rms k n := by
  unfold rms
  rw [List.range_succ, List.filter_append]
  split
  · rename_i h
    rw [List.filter_cons_of_pos h]
    rfl
  · rename_i h
    rw [List.filter_cons_of_neg h, List.filter_nil, List.append_nil]
theorem bit_of_lt {n k j : Nat} (h : n < 2 ^ k) (hj : k ≤ j) : n.testBit j = false := Nat.testBit_lt_two_pow (Nat.lt_of_lt_of_le h (Nat.pow_le_pow_right (by decide) hj))
theorem rms_sorted (k n : Nat) : (rms k n).Pairwise (· < ·) := List.Pairwise.filter _ List.pairwise_lt_range
theorem rms_nodup (k n : Nat) : (rms k n).Nodup := (rms_sorted k n).imp fun h => Nat.ne_of_lt h
theorem rms_more {n k : Nat} (h : n < 2 ^ k) : ∀ j, rms (k + j) n = rms k n
  | 0 => rfl
  | j + 1 => by
    have e : rms (k + (j + 1)) n = rms (k + j) n := by
      unfold rms
      rw [show k + (j + 1) = (k + j) + 1 from rfl, List.range_succ, List.filter_append, List.filter_cons_of_neg (by rw [bit_of_lt h (by omega)]; decide), List.filter_nil, List.append_nil]
    rw [e, rms_more h j]
theorem rms_eq {n k l : Nat} (h : n < 2 ^ k) (h2 : n < 2 ^ l) : rms k n = rms l n := by
  by_cases e : k ≤ l
  · obtain ⟨j, rfl⟩ := Nat.exists_eq_add_of_le e
    exact (rms_more h j).symm
  · obtain ⟨j, rfl⟩ := Nat.exists_eq_add_of_le (show l ≤ k by omega)
    exact rms_more h2 j
theorem rms_len (k n : Nat) : (rms k n).length ≤ k := by
  have := List.length_filter_le (fun j => n.testBit j) (List.range k)
  rwa [List.length_range] at this
/-- how many rooms -/
def cntB (n : Nat) : Nat := (rms 61 n).length
theorem bitsOf_bit {l : List Nat} {j : Nat} : (bitsOf l).testBit j = decide (j ∈ l) := by
  unfold bitsOf
  rw [bits_mem, Nat.zero_testBit, Bool.false_or]
theorem bitsOf_lt {l : List Nat} {k : Nat} (h : ∀ r ∈ l, r < k) : bitsOf l < 2 ^ k := bits_lt (Nat.two_pow_pos k) h
/-! ### states -/
structure Stt where
  bd : List Int
  bu : Nat
  wt : List Int
  fl : List Int
  hp : Int
def itD (l : List Int) : D := .tup (l.map .int)
def Stt.d (s : Stt) : D := .tup [itD s.bd, .int s.bu, itD s.wt, itD s.fl, .int s.hp]
def gi (l : List Int) (r : Nat) : Int := l.getD r 0
section
variable {s : Stt} {l : List Int} {r : Nat}
theorem sd_0 : hIx s.d (.int 0) = some (itD s.bd) := hIxT0
theorem sd_1 : hIx s.d (.int 1) = some (.int s.bu) := hIxT1
theorem sd_2 : hIx s.d (.int 2) = some (itD s.wt) := hIxT2
theorem sd_3 : hIx s.d (.int 3) = some (itD s.fl) := hIxT3
theorem sd_4 : hIx s.d (.int 4) = some (.int s.hp) := hIxT4
theorem it_ix (h : r < l.length) : hIx (itD l) (.int r) = some (.int (gi l r)) := by
  unfold itD gi
  show atI (l.map D.int) (r : Int) = _
  unfold atI
  rw [List.length_map, ixN_nat h]
  show (l.map D.int)[r]? = _
  rw [List.getElem?_map, List.getElem?_eq_getElem h, List.getD_eq_getElem?_getD, List.getElem?_eq_getElem h]
  rfl
theorem it_len : hLen [itD l] = some (.int l.length) := by
  unfold itD
  rw [hLen_tup, List.length_map]
end
theorem fFld_at2 {fm : Nat → Str → Nat} {c n k i : Nat} {f : Str} {d : D} {e : FE} {ρ : Env} {S S1 : Store} {fs : List (Str × D)} (he : e ρ S = .ok d S1) (hi : ρ[i]? = some (some (.obj n))) (ho : S1[n]? = some ⟨c, fs⟩) (hf : fm c f = k) (hl : fs.length < 1000) : fFld fm [c] k f (eVar i) e ρ S = .nx ρ (S1.set n ⟨c, putD f d fs⟩) := by
  unfold fFld
  rw [he]
  show (eVar i ρ S1).bindS ρ _ = _
  unfold eVar
  rw [hi]
  exact fldPut_at ho hf hl
/-! ### truths flow -/
section
variable {b c : Bool} {S : Store} {ρ : Env}
theorem fl_or : condE (.bl b) (.ok (.bl true) S) (.ok (.bl c) S) = .ok (.bl (b || c)) S := by cases b <;> rfl
theorem fl_and : condE (.bl b) (.ok (.bl c) S) (.ok (.bl false) S) = .ok (.bl (b && c)) S := by cases b <;> rfl
theorem fl_seq {x y : RS} {h : FS} : (condS (.bl b) x y).seq h = condS (.bl b) (x.seq h) (y.seq h) := by cases b <;> rfl
theorem fl_toF {x y : RS} {ms : List Md} {n : Nat} : (condS (.bl b) x y).toF ms n = if b = true then x.toF ms n else y.toF ms n := by cases b <;> rfl
theorem fl_f {o : Env} {S : Store} : (if b = true then RF.ok (.bl false) o S else .ok (.bl c) o S) = .ok (.bl (!b && c)) o S := by cases b <;> rfl
theorem fl_t {o : Env} {S : Store} : (if b = true then RF.ok (.bl true) o S else .ok (.bl c) o S) = .ok (.bl (b || c)) o S := by cases b <;> rfl
theorem fl_b {o : Env} {S : Store} {x y : Bool} : (if b = true then RF.ok (.bl x) o S else .ok (.bl y) o S) = .ok (.bl (if b = true then x else y)) o S := by cases b <;> rfl
end
/-- a loop that ends at the first that fails -/
theorem forL_ck {v : Nat} {b : FS} {ret : D} (I : Env → Prop) (p : Nat → Bool) {m : Nat} {ρ : Env} {S : Store} (h0 : I ρ) (turn : ∀ i, i < m → ∀ ρ, I ρ → ∃ ρ2, I ρ2 ∧ b (ρ.set v (some (.int i))) S = if p i = true then .nx ρ2 S else .rt ret ρ2 S) :
    ∃ ρ2, I ρ2 ∧ forL (tfName v) b (rangeL 0 (m : Int)) ρ S = if (List.range m).all p = true then .nx ρ2 S else .rt ret ρ2 S := by
  have key : ∀ (l : List Nat), (∀ i ∈ l, i < m) → ∀ ρ, I ρ → ∃ ρ2, I ρ2 ∧ forL (tfName v) b (l.map fun (k : Nat) => D.int k) ρ S = if l.all p = true then .nx ρ2 S else .rt ret ρ2 S := by
    intro l
    induction l with
    | nil => intro _ ρ h; exact ⟨ρ, h, rfl⟩
    | cons a l ih =>
      intro hl ρ h
      obtain ⟨ρ2, h2, e⟩ := turn a (hl a List.mem_cons_self) ρ h
      rw [List.map_cons, List.all_cons]
      simp only [forL, tfName, e]
      cases hp : p a with
      | true =>
        obtain ⟨ρ3, h3, e3⟩ := ih (fun i hi => hl i (List.mem_cons_of_mem _ hi)) ρ2 h2
        exact ⟨ρ3, h3, by simpa using e3⟩
      | false => exact ⟨ρ2, h2, by simp⟩
  rw [rangeL_map]
  exact key (List.range m) (fun i hi => List.mem_range.mp hi) ρ h0
/-- a loop that may end amid -/
theorem forL_or {v : Nat} {b : FS} {ret : D} (I : Nat → Env → Prop) (Bad : Prop) {m : Nat} {ρ : Env} {S : Store} (h0 : I 0 ρ) (turn : ∀ i, i < m → ∀ ρ, I i ρ → (∃ ρ2, b (ρ.set v (some (.int i))) S = .nx ρ2 S ∧ I (i + 1) ρ2) ∨ (∃ ρ2, b (ρ.set v (some (.int i))) S = .rt ret ρ2 S ∧ Bad)) :
    (∃ ρ2, forL (tfName v) b (rangeL 0 (m : Int)) ρ S = .nx ρ2 S ∧ I m ρ2) ∨ (∃ ρ2, forL (tfName v) b (rangeL 0 (m : Int)) ρ S = .rt ret ρ2 S ∧ Bad) := by
  have key : ∀ (j i : Nat), i + j = m → ∀ ρ, I i ρ → (∃ ρ2, forL (tfName v) b ((List.range' i j).map fun (k : Nat) => D.int k) ρ S = .nx ρ2 S ∧ I m ρ2) ∨ (∃ ρ2, forL (tfName v) b ((List.range' i j).map fun (k : Nat) => D.int k) ρ S = .rt ret ρ2 S ∧ Bad) := by
    intro j
    induction j with
    | zero =>
      intro i hi ρ h
      have : i = m := by omega
      subst this
      exact .inl ⟨ρ, rfl, h⟩
    | succ j ih =>
      intro i hi ρ h
      rw [List.range'_succ, List.map_cons]
      rcases turn i (by omega) ρ h with ⟨ρ2, e, h2⟩ | ⟨ρ2, e, h2⟩
      · simp only [forL, tfName, e]
        exact ih (i + 1) (by omega) ρ2 h2
      · simp only [forL, tfName, e]
        exact .inr ⟨ρ2, rfl, h2⟩
  rw [rangeL_map, List.range_eq_range']
  exact key m 0 (by omega) ρ h0
/-- a loop that folds -/
theorem forL_fold {α β : Type} {v : Nat} {b : FS} (f : α → D) (E : β → Env → Prop) (step : β → α → β) : ∀ {l : List α} {z : β} {ρ : Env} {S : Store}, E z ρ → (∀ x ∈ l, ∀ z ρ, E z ρ → ∃ ρ2, b (ρ.set v (some (f x))) S = .nx ρ2 S ∧ E (step z x) ρ2) → ∃ ρ2, forL (tfName v) b (l.map f) ρ S = .nx ρ2 S ∧ E (l.foldl step z) ρ2
  | [], z, ρ, S, h, _ => ⟨ρ, rfl, h⟩
  | a :: l, z, ρ, S, h, turn => by
    obtain ⟨ρ1, e1, h1⟩ := turn a List.mem_cons_self z ρ h
    obtain ⟨ρ2, e2, h2⟩ := forL_fold (v := v) (b := b) f E step (l := l) h1 fun x hx => turn x (List.mem_cons_of_mem _ hx)
    refine ⟨ρ2, ?_, h2⟩
    rw [List.map_cons]
    simp only [forL, tfName, e1]
    exact e2
/-! ### what is a state -/
def fitsB (h : Hs) (s : Stt) (r : Nat) : Bool := decide (0 ≤ gi s.bd r) && decide (gi s.bd r + 2 ≤ (h.marks r).length) && (match h.stove r with
  | none => !s.bu.testBit r && (gi s.wt r == 0 && gi s.fl r == 0)
  | some q => decide (0 ≤ gi s.wt r) && decide (gi s.wt r ≤ q.2.2.1) && decide (0 ≤ gi s.fl r) && decide (gi s.fl r ≤ q.2.2.2) && (gi s.fl r == 0 || (!s.bu.testBit r && gi s.wt r == 0)))
def isB (h : Hs) (s : Stt) : Bool := s.bd.length == h.many && s.wt.length == h.many && s.fl.length == h.many && decide (s.bu < 2 ^ h.many) && decide ((cntB s.bu : Int) ≤ h.most) && decide (0 ≤ s.hp) && decide (s.hp ≤ h.cap) && (List.range h.many).all (fitsB h s)
structure IsSt (h : Hs) (s : Stt) : Prop where
  l0 : s.bd.length = h.many
  l2 : s.wt.length = h.many
  l3 : s.fl.length = h.many
  bu : s.bu < 2 ^ h.many
  mo : (cntB s.bu : Int) ≤ h.most
  h0 : 0 ≤ s.hp
  h1 : s.hp ≤ h.cap
  b0 : ∀ r, r < h.many → 0 ≤ gi s.bd r
  b1 : ∀ r, r < h.many → gi s.bd r + 2 ≤ (h.marks r).length
  n : ∀ r, r < h.many → h.stove r = none → s.bu.testBit r = false ∧ gi s.wt r = 0 ∧ gi s.fl r = 0
  y : ∀ r q, r < h.many → h.stove r = some q → (0 ≤ gi s.wt r ∧ gi s.wt r ≤ q.2.2.1) ∧ (0 ≤ gi s.fl r ∧ gi s.fl r ≤ q.2.2.2) ∧ (gi s.fl r = 0 ∨ s.bu.testBit r = false ∧ gi s.wt r = 0)
theorem fitsB_iff {h : Hs} {s : Stt} {r : Nat} : fitsB h s r = true ↔ (0 ≤ gi s.bd r ∧ gi s.bd r + 2 ≤ (h.marks r).length) ∧ (h.stove r = none → s.bu.testBit r = false ∧ gi s.wt r = 0 ∧ gi s.fl r = 0) ∧ (∀ q, h.stove r = some q → (0 ≤ gi s.wt r ∧ gi s.wt r ≤ q.2.2.1) ∧ (0 ≤ gi s.fl r ∧ gi s.fl r ≤ q.2.2.2) ∧ (gi s.fl r = 0 ∨ s.bu.testBit r = false ∧ gi s.wt r = 0)) := by
  unfold fitsB
  cases hs : h.stove r with
  | none =>
    simp only [Bool.and_eq_true, decide_eq_true_eq, beq_iff_eq, Bool.not_eq_true']
    constructor
    · rintro ⟨h1, h2⟩; exact ⟨h1, fun _ => h2, fun q e => by cases e⟩
    · rintro ⟨h1, h2, _⟩; exact ⟨h1, h2 trivial⟩
  | some q =>
    simp only [Bool.and_eq_true, Bool.or_eq_true, decide_eq_true_eq, beq_iff_eq, Bool.not_eq_true']
    constructor
    · rintro ⟨h1, ⟨⟨⟨h2, h3⟩, h4⟩, h5⟩, h6⟩; exact ⟨h1, (fun e => by cases e), fun q e => by cases e; exact ⟨⟨h2, h3⟩, ⟨h4, h5⟩, h6⟩⟩
    · rintro ⟨h1, _, h2⟩
      obtain ⟨⟨a, b⟩, ⟨c, d⟩, e⟩ := h2 q rfl
      exact ⟨h1, ⟨⟨⟨a, b⟩, c⟩, d⟩, e⟩
theorem isB_iff {h : Hs} {s : Stt} : isB h s = true ↔ IsSt h s := by
  unfold isB
  simp only [Bool.and_eq_true, decide_eq_true_eq, beq_iff_eq, List.all_eq_true, List.mem_range]
  constructor
  · rintro ⟨⟨⟨⟨⟨⟨⟨a1, a2⟩, a3⟩, a4⟩, a5⟩, a6⟩, a7⟩, a8⟩
    exact ⟨a1, a2, a3, a4, a5, a6, a7, fun r hr => (fitsB_iff.mp (a8 r hr)).1.1, fun r hr => (fitsB_iff.mp (a8 r hr)).1.2, fun r hr => (fitsB_iff.mp (a8 r hr)).2.1, fun r q hr => (fitsB_iff.mp (a8 r hr)).2.2 q⟩
  · rintro a
    exact ⟨⟨⟨⟨⟨⟨⟨a.l0, a.l2⟩, a.l3⟩, a.bu⟩, a.mo⟩, a.h0⟩, a.h1⟩, fun r hr => fitsB_iff.mpr ⟨⟨a.b0 r hr, a.b1 r hr⟩, a.n r hr, fun q => a.y r q hr⟩⟩
/-! ### stoves -/
def woodAt (h : Hs) (r : Nat) : Int := match h.stove r with
  | none => 0
  | some q => q.2.1
def woodL (h : Hs) (l : List Nat) : Int := l.foldl (fun z r => z + woodAt h r) 0
/-- the wood that rooms' stoves take -/
def woodOf (h : Hs) (n : Nat) : Int := woodL h (rms h.many n)
theorem woodL_snoc {h : Hs} {l : List Nat} {r : Nat} : woodL h (l ++ [r]) = woodL h l + woodAt h r := by
  unfold woodL
  rw [List.foldl_append]
  rfl
/-- the stoves that have to go on -/
def boundS (h : Hs) (s : Stt) : Nat := bitsOf ((rms h.many s.bu).filter fun r => decide (0 < gi s.wt r))
def freeS (h : Hs) (s : Stt) : Nat := bitsOf ((List.range h.many).filter fun r => (h.stove r).isSome && gi s.wt r == 0)
theorem boundS_lt {h : Hs} {s : Stt} : boundS h s < 2 ^ h.many := bitsOf_lt fun r hr => (rms_mem.mp (List.mem_filter.mp hr).1).1
theorem freeS_lt {h : Hs} {s : Stt} : freeS h s < 2 ^ h.many := bitsOf_lt fun r hr => List.mem_range.mp (List.mem_filter.mp hr).1
theorem boundS_bit {h : Hs} {s : Stt} {r : Nat} : (boundS h s).testBit r = true ↔ r < h.many ∧ s.bu.testBit r = true ∧ 0 < gi s.wt r := by
  unfold boundS
  rw [bitsOf_bit, decide_eq_true_eq, List.mem_filter, rms_mem, decide_eq_true_eq, and_assoc]
theorem freeS_bit {h : Hs} {s : Stt} {r : Nat} : (freeS h s).testBit r = true ↔ r < h.many ∧ (h.stove r).isSome = true ∧ gi s.wt r = 0 := by
  unfold freeS
  rw [bitsOf_bit, decide_eq_true_eq, List.mem_filter, List.mem_range, Bool.and_eq_true, beq_iff_eq]
/-- an order that a state allows -/
def okO (h : Hs) (s : Stt) (o : Nat) : Bool := decide (o < 2 ^ h.many) && ((List.range h.many).all fun r => (!o.testBit r || (h.stove r).isSome) && (!decide (0 < gi s.wt r) || (o.testBit r == s.bu.testBit r))) && decide ((cntB o : Int) ≤ h.most) && decide (woodOf h o ≤ s.hp)
structure OkO (h : Hs) (s : Stt) (o : Nat) : Prop where
  lt : o < 2 ^ h.many
  st : ∀ r, r < h.many → o.testBit r = true → (h.stove r).isSome = true
  wt : ∀ r, r < h.many → 0 < gi s.wt r → o.testBit r = s.bu.testBit r
  mo : (cntB o : Int) ≤ h.most
  wd : woodOf h o ≤ s.hp
theorem okO_iff {h : Hs} {s : Stt} {o : Nat} : okO h s o = true ↔ OkO h s o := by
  unfold okO
  simp only [Bool.and_eq_true, decide_eq_true_eq, List.all_eq_true, List.mem_range]
  constructor
  · rintro ⟨⟨⟨a1, a2⟩, a3⟩, a4⟩
    refine ⟨a1, fun r hr hb => ?_, fun r hr hw => ?_, a3, a4⟩
    · have := (a2 r hr).1
      rw [hb] at this
      exact this
    · have := (a2 r hr).2
      rw [decide_eq_true hw] at this
      exact eq_of_beq this
  · rintro a
    refine ⟨⟨⟨a.lt, fun r hr => ⟨?_, ?_⟩⟩, a.mo⟩, a.wd⟩
    · cases hb : o.testBit r with
      | false => rfl
      | true => rw [a.st r hr hb]; rfl
    · by_cases hw : 0 < gi s.wt r
      · rw [a.wt r hr hw]; simp
      · rw [decide_eq_false hw]; rfl
def ordersL (h : Hs) (s : Stt) : List Nat := (List.range (2 ^ h.many)).filter (okO h s)
/-- all parts of a row of rooms -/
def subsL (l : List Nat) : List Nat := l.foldl (fun f r => f ++ f.map (· + 2 ^ r)) [0]
theorem subsL_snoc (l : List Nat) (r : Nat) : subsL (l ++ [r]) = subsL l ++ (subsL l).map (· + 2 ^ r) := by
  unfold subsL
  rw [List.foldl_append]
  rfl
theorem add_pow_bit {x r j : Nat} (hx : x < 2 ^ r) : (x + 2 ^ r).testBit j = (x.testBit j || decide (j = r)) := by
  rw [Nat.add_comm]
  by_cases h : j < r
  · rw [Nat.testBit_two_pow_add_gt h]
    simp [show j ≠ r by omega]
  · by_cases h2 : j = r
    · subst h2
      rw [Nat.testBit_two_pow_add_eq, Nat.testBit_lt_two_pow hx]
      simp
    · have : 2 ^ r + x < 2 ^ j := by
        have : 2 ^ (r + 1) ≤ 2 ^ j := Nat.pow_le_pow_right (by decide) (by omega)
        rw [Nat.pow_succ] at this
        omega
      rw [Nat.testBit_lt_two_pow this, bit_of_lt hx (by omega)]
      simp [h2]
theorem subs_spec : ∀ (n : Nat) (l : List Nat), l.length = n → l.Pairwise (· < ·) → (subsL l).Pairwise (· < ·) ∧ (∀ k, (∀ r ∈ l, r < k) → ∀ x ∈ subsL l, x < 2 ^ k) ∧ ∀ x, x ∈ subsL l ↔ ∀ r, x.testBit r = true → r ∈ l
  | 0, l, hl, _ => by
    have : l = [] := List.length_eq_zero_iff.mp hl
    subst this
    refine ⟨List.pairwise_singleton _ _, fun k _ x hx => ?_, fun x => ?_⟩
    · rw [List.mem_singleton.mp hx]; exact Nat.two_pow_pos k
    · show x ∈ [0] ↔ _
      rw [List.mem_singleton]
      constructor
      · rintro rfl r h; simp at h
      · intro h
        refine Nat.eq_of_testBit_eq fun j => ?_
        rw [Nat.zero_testBit]
        cases hb : x.testBit j with
        | false => rfl
        | true => have := h j hb; simp at this
  | n + 1, l, hl, hs => by
    have hne : l ≠ [] := by intro e; rw [e] at hl; simp at hl
    obtain ⟨l', r, rfl⟩ : ∃ l' r, l = l' ++ [r] := ⟨l.dropLast, l.getLast hne, (List.dropLast_concat_getLast hne).symm⟩
    rw [List.length_append, List.length_singleton] at hl
    rw [List.pairwise_append] at hs
    obtain ⟨h1, _, h3⟩ := hs
    have hlt : ∀ q ∈ l', q < r := fun q hq => h3 q hq r List.mem_cons_self
    obtain ⟨i1, i2, i3⟩ := subs_spec n l' (by omega) h1
    have ilt := i2 r hlt
    rw [subsL_snoc]
    refine ⟨?_, ?_, ?_⟩
    · rw [List.pairwise_append]
      refine ⟨i1, ?_, ?_⟩
      · rw [List.pairwise_map]
        exact i1.imp fun h => by omega
      · intro a ha b hb
        obtain ⟨c, hc, rfl⟩ := List.mem_map.mp hb
        have := ilt a ha
        omega
    · intro k hk x hx
      have hr := hk r (List.mem_append_right _ List.mem_cons_self)
      have : 2 ^ (r + 1) ≤ 2 ^ k := Nat.pow_le_pow_right (by decide) hr
      rw [Nat.pow_succ] at this
      rcases List.mem_append.mp hx with hx | hx
      · have := ilt x hx; omega
      · obtain ⟨c, hc, rfl⟩ := List.mem_map.mp hx
        have := ilt c hc; omega
    · intro x
      rw [List.mem_append]
      constructor
      · rintro (hx | hx) q hq
        · exact List.mem_append_left _ ((i3 x).mp hx q hq)
        · obtain ⟨c, hc, rfl⟩ := List.mem_map.mp hx
          rw [add_pow_bit (ilt c hc), Bool.or_eq_true, decide_eq_true_eq] at hq
          rcases hq with hq | hq
          · exact List.mem_append_left _ ((i3 c).mp hc q hq)
          · rw [hq]; exact List.mem_append_right _ List.mem_cons_self
      · intro h
        by_cases hb : x.testBit r = true
        · right
          refine List.mem_map.mpr ⟨x - 2 ^ r, (i3 _).mpr fun q hq => ?_, ?_⟩
          · rw [bit_less hb, Bool.and_eq_true, decide_eq_true_eq] at hq
            rcases List.mem_append.mp (h q hq.1) with z | z
            · exact z
            · exact absurd (List.mem_singleton.mp z) hq.2
          · have := pow_le_of_bit hb
            show x - 2 ^ r + 2 ^ r = x
            omega
        · left
          refine (i3 x).mpr fun q hq => ?_
          rcases List.mem_append.mp (h q hq) with z | z
          · exact z
          · rw [List.mem_singleton.mp z] at hq; exact absurd hq hb
theorem subsL_len : ∀ (n : Nat) (l : List Nat), l.length = n → (subsL l).length = 2 ^ n
  | 0, l, hl => by rw [List.length_eq_zero_iff.mp hl]; rfl
  | n + 1, l, hl => by
    have hne : l ≠ [] := by intro e; rw [e] at hl; simp at hl
    obtain ⟨l', r, rfl⟩ : ∃ l' r, l = l' ++ [r] := ⟨l.dropLast, l.getLast hne, (List.dropLast_concat_getLast hne).symm⟩
    rw [List.length_append, List.length_singleton] at hl
    rw [subsL_snoc, List.length_append, List.length_map, subsL_len n l' (by omega), Nat.pow_succ]
    omega
theorem add_or {a b k : Nat} (ha : a < 2 ^ k) (hb : b < 2 ^ k) (h : ∀ r, a.testBit r = true → b.testBit r = false) : a + b = a ||| b ∧ a + b < 2 ^ k := by
  have hand : BitVec.ofNat k a &&& BitVec.ofNat k b = 0#k := by
    apply BitVec.eq_of_getLsbD_eq
    intro i hi
    rw [BitVec.getLsbD_and, BitVec.getLsbD_ofNat, BitVec.getLsbD_ofNat, BitVec.getLsbD_zero]
    cases ha : a.testBit i with
    | false => simp
    | true => rw [h i ha]; simp
  have e := BitVec.toNat_add_of_and_eq_zero hand
  rw [BitVec.toNat_add, BitVec.toNat_ofNat, BitVec.toNat_ofNat, Nat.mod_eq_of_lt ha, Nat.mod_eq_of_lt hb] at e
  have hlt : a + b < 2 ^ k := by rw [← e]; exact Nat.mod_lt _ (Nat.two_pow_pos k)
  have e2 := congrArg BitVec.toNat (BitVec.add_eq_or_of_and_eq_zero _ _ hand)
  rw [BitVec.toNat_add, BitVec.toNat_or, BitVec.toNat_ofNat, BitVec.toNat_ofNat, Nat.mod_eq_of_lt ha, Nat.mod_eq_of_lt hb, Nat.mod_eq_of_lt hlt] at e2
  exact ⟨e2, hlt⟩
/-- the parts of bits -/
def partsL (k n : Nat) : List Nat := subsL (rms k n)
theorem parts_rise {k n : Nat} : (partsL k n).Pairwise (· < ·) := (subs_spec _ _ rfl (rms_sorted k n)).1
theorem parts_lt {k n x : Nat} (h : x ∈ partsL k n) : x < 2 ^ k := (subs_spec _ _ rfl (rms_sorted k n)).2.1 k (fun r hr => (rms_mem.mp hr).1) x h
theorem parts_mem {k n x : Nat} : x ∈ partsL k n ↔ ∀ r, x.testBit r = true → r < k ∧ n.testBit r = true := by
  have := (subs_spec _ _ rfl (rms_sorted k n)).2.2 x
  unfold partsL
  rw [this]
  constructor
  · exact fun h r hr => rms_mem.mp (h r hr)
  · exact fun h r hr => rms_mem.mpr (h r hr)
theorem parts_len {k n : Nat} : (partsL k n).length ≤ 2 ^ k := by
  have := List.Nodup.length_le_of_subset (l₁ := partsL k n) (l₂ := List.range (2 ^ k)) (parts_rise.imp fun h => Nat.ne_of_lt h) (fun x hx => List.mem_range.mpr (parts_lt hx))
  rwa [List.length_range] at this
/-- which stoves of an order may fail -/
def failsAt (h : Hs) (r : Nat) : Int := match h.stove r with
  | none => 0
  | some q => q.2.2.2
def stayAt (h : Hs) (r : Nat) : Int := match h.stove r with
  | none => 0
  | some q => q.2.2.1
def mayS (h : Hs) (s : Stt) (o : Nat) : Nat := bitsOf (((rms h.many o).filter fun r => !s.bu.testBit r).filter fun r => decide (gi s.fl r < failsAt h r))
theorem failsAt_some {h : Hs} {r : Nat} {q : Rat × Int × Int × Int} (e : h.stove r = some q) : failsAt h r = q.2.2.2 := by unfold failsAt; rw [e]
theorem stayAt_some {h : Hs} {r : Nat} {q : Rat × Int × Int × Int} (e : h.stove r = some q) : stayAt h r = q.2.2.1 := by unfold stayAt; rw [e]
theorem woodAt_some {h : Hs} {r : Nat} {q : Rat × Int × Int × Int} (e : h.stove r = some q) : woodAt h r = q.2.1 := by unfold woodAt; rw [e]
theorem mayS_bit {h : Hs} {s : Stt} {o r : Nat} : (mayS h s o).testBit r = true ↔ r < h.many ∧ o.testBit r = true ∧ s.bu.testBit r = false ∧ gi s.fl r < failsAt h r := by
  unfold mayS
  rw [bitsOf_bit, decide_eq_true_eq, List.mem_filter, List.mem_filter, rms_mem, decide_eq_true_eq, Bool.not_eq_true', and_assoc, and_assoc]
theorem mayS_lt {h : Hs} {s : Stt} {o : Nat} : mayS h s o < 2 ^ h.many := bitsOf_lt fun r hr => (rms_mem.mp (List.mem_filter.mp (List.mem_filter.mp hr).1).1).1
/-- behind a turn -/
def waitB (h : Hs) (s : Stt) (b : Nat) (r : Nat) : Int := if b.testBit r ≠ s.bu.testBit r then stayAt h r else max 0 (gi s.wt r - 1)
def failB (s : Stt) (b out : Nat) (r : Nat) : Int := if b.testBit r = true then (if out.testBit r = true then 1 else 0) else gi s.fl r + (if out.testBit r = true then 1 else 0)
def heapB (h : Hs) (s : Stt) (b : Nat) : Int := min h.cap (s.hp - woodOf h b + h.load)
def behS (h : Hs) (s : Stt) (o out : Nat) (bd : List Int) : Stt := ⟨bd, o - out, tbl h.many (waitB h s (o - out)), tbl h.many (failB s (o - out) out), heapB h s (o - out)⟩
/-- a wish heeded -/
def heedStep (h : Hs) (s : Stt) (w : Nat) (t r : Nat) : Nat := if w.testBit r = true ∧ (cntB t : Int) < h.most ∧ woodOf h (t ||| 2 ^ r) ≤ s.hp then t ||| 2 ^ r else t
def heedS (h : Hs) (s : Stt) (w : Nat) : Option Nat := if s.hp < woodOf h (boundS h s) then none else some ((rms h.many (freeS h s)).foldl (heedStep h s w) (boundS h s))
theorem orders_mem {h : Hs} {s : Stt} (i : IsSt h s) (x : Nat) : x ∈ ((partsL h.many (freeS h s)).map (boundS h s + ·)).filter (fun o => decide ((cntB o : Int) ≤ h.most) && decide (woodOf h o ≤ s.hp)) ↔ x ∈ ordersL h s := by
  unfold ordersL
  rw [List.mem_filter, List.mem_filter, List.mem_range, okO_iff, List.mem_map]
  simp only [Bool.and_eq_true, decide_eq_true_eq]
  have bl := boundS_lt (h := h) (s := s)
  constructor
  · rintro ⟨⟨y, hy, rfl⟩, h1, h2⟩
    have hp := parts_mem.mp hy
    obtain ⟨e, lt⟩ := add_or bl (parts_lt hy) (fun r hr => by
      cases hb : y.testBit r with
      | false => rfl
      | true =>
        have a := (freeS_bit.mp (hp r hb).2).2.2
        have b := (boundS_bit.mp hr).2.2
        omega)
    refine ⟨lt, lt, fun r hr hb => ?_, fun r hr hw => ?_, h1, h2⟩
    · rw [e, Nat.testBit_or, Bool.or_eq_true] at hb
      rcases hb with hb | hb
      · cases hs : h.stove r with
        | none =>
          have := (i.n r hr hs).1
          rw [(boundS_bit.mp hb).2.1] at this
          cases this
        | some q => rfl
      · exact (freeS_bit.mp (hp r hb).2).2.1
    · rw [e, Nat.testBit_or]
      have z : y.testBit r = false := by
        cases hb : y.testBit r with
        | false => rfl
        | true =>
          have := (freeS_bit.mp (hp r hb).2).2.2
          omega
      rw [z, Bool.or_false, Bool.eq_iff_iff, boundS_bit]
      exact ⟨fun q => q.2.1, fun q => ⟨hr, q, hw⟩⟩
  · rintro ⟨h0, a⟩
    refine ⟨⟨bitsOf ((rms h.many x).filter fun r => !(boundS h s).testBit r), ?_, ?_⟩, a.mo, a.wd⟩
    · refine parts_mem.mpr fun r hr => ?_
      rw [bitsOf_bit, decide_eq_true_eq, List.mem_filter, rms_mem, Bool.not_eq_true'] at hr
      obtain ⟨⟨h1, h2⟩, h3⟩ := hr
      refine ⟨h1, freeS_bit.mpr ⟨h1, a.st r h1 h2, ?_⟩⟩
      have hs := a.st r h1 h2
      cases hq : h.stove r with
      | none => rw [hq] at hs; cases hs
      | some q =>
        have y := (i.y r q h1 hq).1.1
        by_cases hw : 0 < gi s.wt r
        · have hb := a.wt r h1 hw
          rw [h2] at hb
          have : (boundS h s).testBit r = true := boundS_bit.mpr ⟨h1, hb.symm, hw⟩
          rw [this] at h3
          cases h3
        · omega
    · have hl : bitsOf ((rms h.many x).filter fun r => !(boundS h s).testBit r) < 2 ^ h.many := bitsOf_lt fun r hr => (rms_mem.mp (List.mem_filter.mp hr).1).1
      obtain ⟨e, _⟩ := add_or bl hl (fun r hr => by
        rw [bitsOf_bit, decide_eq_false_iff_not, List.mem_filter, hr]
        rintro ⟨_, z⟩
        cases z)
      show boundS h s + _ = x
      rw [e]
      refine Nat.eq_of_testBit_eq fun j => ?_
      rw [Nat.testBit_or, bitsOf_bit, Bool.eq_iff_iff, Bool.or_eq_true, decide_eq_true_eq, List.mem_filter, rms_mem, Bool.not_eq_true']
      constructor
      · rintro (hb | hb)
        · have hb := boundS_bit.mp hb
          rw [a.wt j hb.1 hb.2.2]
          exact hb.2.1
        · exact hb.1.2
      · intro hb
        have hj : j < h.many := by
          by_cases hj : j < h.many
          · exact hj
          · rw [bit_of_lt h0 (by omega)] at hb; cases hb
        cases hc : (boundS h s).testBit j with
        | true => exact .inl rfl
        | false => exact .inr ⟨⟨hj, hb⟩, rfl⟩
theorem intsOf_nD : ∀ l : List Nat, intsOf (l.map fun b : Nat => D.int b) = some (l.map fun b : Nat => (b : Int))
  | [] => rfl
  | a :: l => by rw [List.map_cons, List.map_cons, intsOf, intsOf_nD l]; rfl
theorem sort_nat {a b : List Nat} (ha : a.Pairwise (· < ·)) (hb : b.Nodup) (h : ∀ x, x ∈ b ↔ x ∈ a) : hSort (.lst (b.map fun b : Nat => D.int b)) = some (.lst (a.map fun b : Nat => D.int b)) := by
  have p : a.Perm b := (List.perm_ext_iff_of_nodup (ha.imp fun h => Nat.ne_of_lt h) hb).mpr fun x => (h x).symm
  have e := isort_eq (a := a.map fun b : Nat => (b : Int)) (b := b.map fun b : Nat => (b : Int)) (by
    rw [List.pairwise_map]
    exact ha.imp fun h => by omega) (p.map _)
  show Option.map (fun ns => D.lst ((isort ns).map .int)) (intsOf (b.map fun b : Nat => D.int b)) = _
  rw [intsOf_nD, Option.map_some, ← e, List.map_map]
  rfl
theorem okO_lt {h : Hs} {s : Stt} {o : Nat} (e : okO h s o = true) : o < 2 ^ h.many := (okO_iff.mp e).lt
theorem orders16 {h : Hs} {s : Stt} (m4 : h.many ≤ 4) : (List.range 16).filter (okO h s) = ordersL h s := by
  have h16 : (2 : Nat) ^ h.many ≤ 16 := Nat.pow_le_pow_right (n := 2) (j := 4) (by decide) m4
  unfold ordersL
  obtain ⟨d, hd⟩ := Nat.exists_eq_add_of_le h16
  have en : ((List.range d).map fun x => 2 ^ h.many + x).filter (okO h s) = [] := List.filter_eq_nil_iff.mpr fun x hx e => by
    obtain ⟨y, _, rfl⟩ := List.mem_map.mp hx
    have := okO_lt e
    omega
  rw [hd, List.range_add, List.filter_append, en, List.append_nil]
theorem orders_rise {h : Hs} {s : Stt} : (ordersL h s).Pairwise (· < ·) := List.Pairwise.filter _ List.pairwise_lt_range
theorem orders_nodup {h : Hs} {s : Stt} : (((partsL h.many (freeS h s)).map (boundS h s + ·)).filter (fun o => decide ((cntB o : Int) ≤ h.most) && decide (woodOf h o ≤ s.hp))).Nodup := by
  refine List.Pairwise.filter _ ?_
  refine List.Pairwise.imp (fun {a b} (h : a < b) => Nat.ne_of_lt h) ?_
  rw [List.pairwise_map]
  exact parts_rise.imp fun h => by omega
end Q

set_option maxHeartbeats 2000000
set_option pp.maxSteps 400
namespace K04
open PySem PySem.Spec PyProof.Rows L2 Q
local macro_rules | `(tactic| walk_at "ev") => `(tactic| simp -implicitDefEqProofs only [hTru_of, ev_meth, ev_fldV, rfe_ok, tbl_len, hIx_rD0, hIx_rD1, ev_body, outsOf, ΓS, List.replicate, List.map_cons, List.map_nil, List.cons_append, List.nil_append, List.headD_cons, List.tail_cons, ev_var, ev_c, ev_op, ev_un, ev_nil, ev_cons, ev_L, ev_tup, ev_lst, ev_call, ev_and, ev_or, ev_not, ev_if, ev_seq, ev_set, ev_ret, ev_drop, ev_pass, ev_brk, ev_ct, ev_raise, ev_ifS, ev_for, ev_held, ev_tru, ev_mut, ev_mutset, mutK_lst, mutR_some, ev_flat, flatK_int, flatK_bl, flatK_str, flatK_non, ev_m1, m1K_str, hIsi_list_lst, hIsi_bool_bl, hIsi_int_bl, hEq_bl, hNe_bl, List.length_map, bind_ok, bind_exc, bindS_ok, bindS_exc, of_some, seq_nx, seq_rt, seq_exc, seq_bk, seq_ct, condS_t, condS_f, condE_t, condE_f, notD_bl, bindE_ok, bindE_exc, bindL_ok, bindL_exc, bindLL_ok, bindLL_exc, bindLS_ok, bindLS_exc, toE_ok, toE_exc, toF_nx, toF_rt, toF_exc, slotE_some, List.getElem?_cons_zero, List.getElem?_cons_succ, List.set_cons_zero, List.set_cons_succ, hNe_int, hEq_int, hAdd_int, hSub_int, hLt_int, hLe_int, hGt_int, hGe_int, hNeg_int, hAbs_int, hIsi_int_int, hIsi_bool_int, hIsi_tuple_tup, hIxT0, hIxT1, hIxT2, hIxT3, hIxT4, hIxL0, hIxL1, hIxL2, hIxL3, hLen_lst, hLen_tup, hLen_scr, ev_sl, bnd_none, bnd_some, bndK_int, hSl_scr, hSl_lst, ev_range1, ev_iseq, seqK_lst, seqK_tup, seqK_scr, Bool.not_true, Bool.not_false, List.length_cons, List.length_nil, Nat.sub_self, Nat.reduceSub, Nat.reduceAdd, Nat.reduceLeDiff, decide_true, decide_false, reduceIte, Int.reduceSub, Int.reduceAdd, Int.reduceMul, Int.reduceNeg, Int.reduceMod, Int.reduceDiv, Int.reduceBEq, Int.reduceLT, Int.reduceLE, Int.cast_ofNat_Int, BEq.rfl, Nat.reduceBEq, Nat.zero_add])
local macro_rules | `(tactic| walk_at "evh") => `(tactic| simp -implicitDefEqProofs only [hTru_of, ev_meth, ev_fldV, rfe_ok, tbl_len, hIx_rD0, hIx_rD1, ev_body, outsOf, ΓS, List.replicate, List.map_cons, List.map_nil, List.cons_append, List.nil_append, List.headD_cons, List.tail_cons, ev_var, ev_c, ev_op, ev_un, ev_nil, ev_cons, ev_L, ev_tup, ev_lst, ev_call, ev_and, ev_or, ev_not, ev_if, ev_seq, ev_set, ev_ret, ev_drop, ev_pass, ev_brk, ev_ct, ev_raise, ev_ifS, ev_for, ev_held, ev_tru, ev_mut, ev_mutset, mutK_lst, mutR_some, ev_flat, flatK_int, flatK_bl, flatK_str, flatK_non, ev_m1, m1K_str, hIsi_list_lst, hIsi_bool_bl, hIsi_int_bl, hEq_bl, hNe_bl, List.length_map, bind_ok, bind_exc, bindS_ok, bindS_exc, of_some, seq_nx, seq_rt, seq_exc, seq_bk, seq_ct, condS_t, condS_f, condE_t, condE_f, notD_bl, bindE_ok, bindE_exc, bindL_ok, bindL_exc, bindLL_ok, bindLL_exc, bindLS_ok, bindLS_exc, toE_ok, toE_exc, toF_nx, toF_rt, toF_exc, slotE_some, List.getElem?_cons_zero, List.getElem?_cons_succ, List.set_cons_zero, List.set_cons_succ, hNe_int, hEq_int, hAdd_int, hSub_int, hLt_int, hLe_int, hGt_int, hGe_int, hNeg_int, hAbs_int, hIsi_int_int, hIsi_bool_int, hIsi_tuple_tup, hIxT0, hIxT1, hIxT2, hIxT3, hIxT4, hIxL0, hIxL1, hIxL2, hIxL3, hLen_lst, hLen_tup, hLen_scr, ev_sl, bnd_none, bnd_some, bndK_int, hSl_scr, hSl_lst, ev_range1, ev_iseq, seqK_lst, seqK_tup, seqK_scr, Bool.not_true, Bool.not_false, List.length_cons, List.length_nil, Nat.sub_self, Nat.reduceSub, Nat.reduceAdd, Nat.reduceLeDiff, decide_true, decide_false, reduceIte, Int.reduceSub, Int.reduceAdd, Int.reduceMul, Int.reduceNeg, Int.reduceMod, Int.reduceDiv, Int.reduceBEq, Int.reduceLT, Int.reduceLE, Int.cast_ofNat_Int, BEq.rfl, Nat.reduceBEq, Nat.zero_add, *])
local macro_rules | `(tactic| walk_at "gs") => `(tactic| simp -implicitDefEqProofs (disch := first | omega | (exact rfl) | assumption) only [hTru_of, ev_meth, ev_fldV, rfe_ok, tbl_len, hIx_rD0, hIx_rD1, ev_body, outsOf, ΓS, List.replicate, List.map_cons, List.map_nil, List.cons_append, List.nil_append, List.headD_cons, List.tail_cons, ev_var, ev_c, ev_op, ev_un, ev_nil, ev_cons, ev_L, ev_tup, ev_lst, ev_call, ev_and, ev_or, ev_not, ev_if, ev_seq, ev_set, ev_ret, ev_drop, ev_pass, ev_brk, ev_ct, ev_raise, ev_ifS, ev_for, ev_held, ev_tru, ev_mut, ev_mutset, mutK_lst, mutR_some, ev_flat, flatK_int, flatK_bl, flatK_str, flatK_non, ev_m1, m1K_str, hIsi_list_lst, hIsi_bool_bl, hIsi_int_bl, hEq_bl, hNe_bl, List.length_map, bind_ok, bind_exc, bindS_ok, bindS_exc, of_some, seq_nx, seq_rt, seq_exc, seq_bk, seq_ct, condS_t, condS_f, condE_t, condE_f, notD_bl, bindE_ok, bindE_exc, bindL_ok, bindL_exc, bindLL_ok, bindLL_exc, bindLS_ok, bindLS_exc, toE_ok, toE_exc, toF_nx, toF_rt, toF_exc, slotE_some, List.getElem?_cons_zero, List.getElem?_cons_succ, List.set_cons_zero, List.set_cons_succ, hNe_int, hEq_int, hAdd_int, hSub_int, hLt_int, hLe_int, hGt_int, hGe_int, hNeg_int, hAbs_int, hIsi_int_int, hIsi_bool_int, hIsi_tuple_tup, hIxT0, hIxT1, hIxT2, hIxT3, hIxT4, hIxL0, hIxL1, hIxL2, hIxL3, hLen_lst, hLen_tup, hLen_scr, ev_sl, bnd_none, bnd_some, bndK_int, hSl_scr, hSl_lst, ev_range1, ev_iseq, seqK_lst, seqK_tup, seqK_scr, Bool.not_true, Bool.not_false, List.length_cons, List.length_nil, Nat.sub_self, Nat.reduceSub, Nat.reduceAdd, Nat.reduceLeDiff, decide_true, decide_false, reduceIte, Int.reduceSub, Int.reduceAdd, Int.reduceMul, Int.reduceNeg, Int.reduceMod, Int.reduceDiv, Int.reduceBEq, Int.reduceLT, Int.reduceLE, Int.cast_ofNat_Int, BEq.rfl, Nat.reduceBEq, Nat.zero_add, hMul_sm, hDiv_sm, hMod_pos, rgK1_ok, rgK2_ok, beq_f, beq_t, decide_eq_true, decide_eq_false, hAdd_int, ev_pvar, ev_pkey, pKeyK_ok, ev_vmut, ev_vput, slotPut_ok, rv_ok, rl_bindR, lstK_lst, dctK_dct, optK_some, mAppend_ok, setAt_nil, hIxD_lst, hIxD_tup, keyF_str, keyF_pair, ev_range2, Nat.not_lt_zero, Bool.false_eq_true, slotK_ok, ev_call0', call0K_ok, call0R_ok, noObjL_nil, noObjL_cons, noObj_int, noObj_bl, noObj_str, noObj_non, noObj_tup, noObj_lst, noObj_scr, noObj_rD, noObjL_ints, noObjL_rats, Bool.and_self, Bool.and_true, Bool.true_and, ev_dct, dctR_ok, itms_nil, itms_l, itms_d, itms_s, itS_ok, Option.map_some, call0C_t, rfe_exc, List.append_nil, Bool.false_and, Bool.and_false, ev_callD, ev_make, makeR_ok, makeR_exc, ev_fld])
local macro_rules | `(tactic| walk_at "go") => `(tactic| try simp -implicitDefEqProofs (disch := first | omega | (exact rfl) | assumption) only [hTru_of, ev_meth, ev_fldV, rfe_ok, tbl_len, hIx_rD0, hIx_rD1, ev_body, outsOf, ΓS, List.replicate, List.map_cons, List.map_nil, List.cons_append, List.nil_append, List.headD_cons, List.tail_cons, ev_var, ev_c, ev_op, ev_un, ev_nil, ev_cons, ev_L, ev_tup, ev_lst, ev_call, ev_and, ev_or, ev_not, ev_if, ev_seq, ev_set, ev_ret, ev_drop, ev_pass, ev_brk, ev_ct, ev_raise, ev_ifS, ev_for, ev_held, ev_tru, ev_mut, ev_mutset, mutK_lst, mutR_some, ev_flat, flatK_int, flatK_bl, flatK_str, flatK_non, ev_m1, m1K_str, hIsi_list_lst, hIsi_bool_bl, hIsi_int_bl, hEq_bl, hNe_bl, List.length_map, bind_ok, bind_exc, bindS_ok, bindS_exc, of_some, seq_nx, seq_rt, seq_exc, seq_bk, seq_ct, condS_t, condS_f, condE_t, condE_f, notD_bl, bindE_ok, bindE_exc, bindL_ok, bindL_exc, bindLL_ok, bindLL_exc, bindLS_ok, bindLS_exc, toE_ok, toE_exc, toF_nx, toF_rt, toF_exc, slotE_some, List.getElem?_cons_zero, List.getElem?_cons_succ, List.set_cons_zero, List.set_cons_succ, hNe_int, hEq_int, hAdd_int, hSub_int, hLt_int, hLe_int, hGt_int, hGe_int, hNeg_int, hAbs_int, hIsi_int_int, hIsi_bool_int, hIsi_tuple_tup, hIxT0, hIxT1, hIxT2, hIxT3, hIxT4, hIxL0, hIxL1, hIxL2, hIxL3, hLen_lst, hLen_tup, hLen_scr, ev_sl, bnd_none, bnd_some, bndK_int, hSl_scr, hSl_lst, ev_range1, ev_iseq, seqK_lst, seqK_tup, seqK_scr, Bool.not_true, Bool.not_false, List.length_cons, List.length_nil, Nat.sub_self, Nat.reduceSub, Nat.reduceAdd, Nat.reduceLeDiff, decide_true, decide_false, reduceIte, Int.reduceSub, Int.reduceAdd, Int.reduceMul, Int.reduceNeg, Int.reduceMod, Int.reduceDiv, Int.reduceBEq, Int.reduceLT, Int.reduceLE, Int.cast_ofNat_Int, BEq.rfl, Nat.reduceBEq, Nat.zero_add, hMul_sm, hDiv_sm, hMod_pos, rgK1_ok, rgK2_ok, beq_f, beq_t, decide_eq_true, decide_eq_false, hAdd_int, ev_pvar, ev_pkey, pKeyK_ok, ev_vmut, ev_vput, slotPut_ok, rv_ok, rl_bindR, lstK_lst, dctK_dct, optK_some, mAppend_ok, setAt_nil, hIxD_lst, hIxD_tup, keyF_str, keyF_pair, ev_range2, Nat.not_lt_zero, Bool.false_eq_true, slotK_ok, ev_call0', call0K_ok, call0R_ok, noObjL_nil, noObjL_cons, noObj_int, noObj_bl, noObj_str, noObj_non, noObj_tup, noObj_lst, noObj_scr, noObj_rD, noObjL_ints, noObjL_rats, Bool.and_self, Bool.and_true, Bool.true_and, ev_dct, dctR_ok, itms_nil, itms_l, itms_d, itms_s, itS_ok, Option.map_some, call0C_t, rfe_exc, List.append_nil, Bool.false_and, Bool.and_false, ev_callD, ev_make, makeR_ok, makeR_exc, ev_fld])
theorem mem_loop (S : Store) : ∀ (k m r : Nat) (acc : List D), m < 2 ^ k → acc.length + k < 1000000 → ∃ y, fWhile c_members_1 b_members_2 [some (.int m), some (.lst acc), some (.int r)] S = .nx [some (.int 0), some (.lst (acc ++ (rr k m r).map .int)), y] S := by
  intro k
  induction k with
  | zero =>
    intro m r acc hm hl
    have : m = 0 := by simpa using hm
    subst this
    rw [fWhile_turn]
    simp only [u_c_members_1]
    walk_at "ev"
    exact ⟨_, by simp [rr]; rfl⟩
  | succ k ih =>
    intro m r acc hm hl
    rw [fWhile_turn]
    simp only [u_c_members_1, u_b_members_2]
    by_cases h0 : m = 0
    · subst h0
      walk_at "ev"
      exact ⟨_, by simp [rr_zero]; rfl⟩
    · have m2 : hMod (.int m) (.int 2) = some (.int ((m : Int) % 2)) := hMod_pos (by decide)
      have d2 : hDiv (.int m) (.int 2) = some (.int ((m : Int) / 2)) := hDiv_pos (by decide) (by decide)
      walk_at "ev"
      rw [decide_eq_true (show (0 : Int) < m by omega)]
      walk_at "ev"
      simp only [m2]
      walk_at "ev"
      rw [mod2_int, condS_bl]
      have hm2 : m / 2 < 2 ^ k := by rw [Nat.pow_succ] at hm; omega
      by_cases h1 : m % 2 = 1
      · rw [if_pos (decide_eq_true h1), mAppend_lt (by omega)]
        walk_at "ev"
        simp only [d2]
        walk_at "ev"
        obtain ⟨y, ih2⟩ := ih (m / 2) (r + 1) (acc ++ [.int r]) hm2 (by simp; omega)
        rw [show ((m : Int) / 2) = ((m / 2 : Nat) : Int) from rfl, show ((r : Int) + 1) = ((r + 1 : Nat) : Int) from rfl, ih2]
        rw [rr, if_pos h1, List.map_cons, List.append_assoc]
        exact ⟨_, rfl⟩
      · rw [if_neg (by simpa using h1)]
        walk_at "ev"
        simp only [d2]
        walk_at "ev"
        obtain ⟨y, ih2⟩ := ih (m / 2) (r + 1) acc hm2 (by omega)
        rw [show ((m : Int) / 2) = ((m / 2 : Nat) : Int) from rfl, show ((r : Int) + 1) = ((r + 1 : Nat) : Int) from rfl, ih2]
        rw [rr, if_neg h1]
        exact ⟨_, rfl⟩
theorem members_eq {n k : Nat} (h : n < 2 ^ k) (hk : k < 900000) (S : Store) : f_members [.int n] S = .ok (.lst ((rr k n 0).map .int)) [none] S := by
  unfold f_members m_members
  walk_at "ev"
  obtain ⟨y, e⟩ := mem_loop S k n 0 [] h (by simp; omega)
  rw [show ((0 : Nat) : Int) = (0 : Int) from rfl] at e
  rw [e]
  try walk_at "ev"
def nD (b : Nat) : D := .int b
local macro_rules | `(tactic| walk_at "gs") => `(tactic| simp -implicitDefEqProofs (disch := first | omega | (exact rfl) | assumption) only [hTru_of, ev_meth, ev_fldV, rfe_ok, tbl_len, hIx_rD0, hIx_rD1, ev_body, outsOf, ΓS, List.replicate, List.map_cons, List.map_nil, List.cons_append, List.nil_append, List.headD_cons, List.tail_cons, ev_var, ev_c, ev_op, ev_un, ev_nil, ev_cons, ev_L, ev_tup, ev_lst, ev_call, ev_and, ev_or, ev_not, ev_if, ev_seq, ev_set, ev_ret, ev_drop, ev_pass, ev_brk, ev_ct, ev_raise, ev_ifS, ev_for, ev_held, ev_tru, ev_mut, ev_mutset, mutK_lst, mutR_some, ev_flat, flatK_int, flatK_bl, flatK_str, flatK_non, ev_m1, m1K_str, hIsi_list_lst, hIsi_bool_bl, hIsi_int_bl, hEq_bl, hNe_bl, List.length_map, bind_ok, bind_exc, bindS_ok, bindS_exc, of_some, seq_nx, seq_rt, seq_exc, seq_bk, seq_ct, condS_t, condS_f, condE_t, condE_f, notD_bl, bindE_ok, bindE_exc, bindL_ok, bindL_exc, bindLL_ok, bindLL_exc, bindLS_ok, bindLS_exc, toE_ok, toE_exc, toF_nx, toF_rt, toF_exc, slotE_some, List.getElem?_cons_zero, List.getElem?_cons_succ, List.set_cons_zero, List.set_cons_succ, hNe_int, hEq_int, hAdd_int, hSub_int, hLt_int, hLe_int, hGt_int, hGe_int, hNeg_int, hAbs_int, hIsi_int_int, hIsi_bool_int, hIsi_tuple_tup, hIxT0, hIxT1, hIxT2, hIxT3, hIxT4, hIxL0, hIxL1, hIxL2, hIxL3, hLen_lst, hLen_tup, hLen_scr, ev_sl, bnd_none, bnd_some, bndK_int, hSl_scr, hSl_lst, ev_range1, ev_iseq, seqK_lst, seqK_tup, seqK_scr, Bool.not_true, Bool.not_false, List.length_cons, List.length_nil, Nat.sub_self, Nat.reduceSub, Nat.reduceAdd, Nat.reduceLeDiff, decide_true, decide_false, reduceIte, Int.reduceSub, Int.reduceAdd, Int.reduceMul, Int.reduceNeg, Int.reduceMod, Int.reduceDiv, Int.reduceBEq, Int.reduceLT, Int.reduceLE, Int.cast_ofNat_Int, BEq.rfl, Nat.reduceBEq, Nat.zero_add, hMul_sm, hDiv_sm, hMod_pos, rgK1_ok, rgK2_ok, beq_f, beq_t, decide_eq_true, decide_eq_false, hAdd_int, ev_pvar, ev_pkey, pKeyK_ok, ev_vmut, ev_vput, slotPut_ok, rv_ok, rl_bindR, lstK_lst, dctK_dct, optK_some, mAppend_ok, setAt_nil, hIxD_lst, hIxD_tup, keyF_str, keyF_pair, ev_range2, Nat.not_lt_zero, Bool.false_eq_true, slotK_ok, ev_call0', call0K_ok, call0R_ok, noObjL_nil, noObjL_cons, noObj_int, noObj_bl, noObj_str, noObj_non, noObj_tup, noObj_lst, noObj_scr, noObj_rD, noObjL_ints, noObjL_rats, Bool.and_self, Bool.and_true, Bool.true_and, ev_dct, dctR_ok, itms_nil, itms_l, itms_d, itms_s, itS_ok, Option.map_some, call0C_t, rfe_exc, List.append_nil, Bool.false_and, Bool.and_false, ev_callD, ev_make, makeR_ok, makeR_exc, ev_fld, nD])
local macro_rules | `(tactic| walk_at "go") => `(tactic| try simp -implicitDefEqProofs (disch := first | omega | (exact rfl) | assumption) only [hTru_of, ev_meth, ev_fldV, rfe_ok, tbl_len, hIx_rD0, hIx_rD1, ev_body, outsOf, ΓS, List.replicate, List.map_cons, List.map_nil, List.cons_append, List.nil_append, List.headD_cons, List.tail_cons, ev_var, ev_c, ev_op, ev_un, ev_nil, ev_cons, ev_L, ev_tup, ev_lst, ev_call, ev_and, ev_or, ev_not, ev_if, ev_seq, ev_set, ev_ret, ev_drop, ev_pass, ev_brk, ev_ct, ev_raise, ev_ifS, ev_for, ev_held, ev_tru, ev_mut, ev_mutset, mutK_lst, mutR_some, ev_flat, flatK_int, flatK_bl, flatK_str, flatK_non, ev_m1, m1K_str, hIsi_list_lst, hIsi_bool_bl, hIsi_int_bl, hEq_bl, hNe_bl, List.length_map, bind_ok, bind_exc, bindS_ok, bindS_exc, of_some, seq_nx, seq_rt, seq_exc, seq_bk, seq_ct, condS_t, condS_f, condE_t, condE_f, notD_bl, bindE_ok, bindE_exc, bindL_ok, bindL_exc, bindLL_ok, bindLL_exc, bindLS_ok, bindLS_exc, toE_ok, toE_exc, toF_nx, toF_rt, toF_exc, slotE_some, List.getElem?_cons_zero, List.getElem?_cons_succ, List.set_cons_zero, List.set_cons_succ, hNe_int, hEq_int, hAdd_int, hSub_int, hLt_int, hLe_int, hGt_int, hGe_int, hNeg_int, hAbs_int, hIsi_int_int, hIsi_bool_int, hIsi_tuple_tup, hIxT0, hIxT1, hIxT2, hIxT3, hIxT4, hIxL0, hIxL1, hIxL2, hIxL3, hLen_lst, hLen_tup, hLen_scr, ev_sl, bnd_none, bnd_some, bndK_int, hSl_scr, hSl_lst, ev_range1, ev_iseq, seqK_lst, seqK_tup, seqK_scr, Bool.not_true, Bool.not_false, List.length_cons, List.length_nil, Nat.sub_self, Nat.reduceSub, Nat.reduceAdd, Nat.reduceLeDiff, decide_true, decide_false, reduceIte, Int.reduceSub, Int.reduceAdd, Int.reduceMul, Int.reduceNeg, Int.reduceMod, Int.reduceDiv, Int.reduceBEq, Int.reduceLT, Int.reduceLE, Int.cast_ofNat_Int, BEq.rfl, Nat.reduceBEq, Nat.zero_add, hMul_sm, hDiv_sm, hMod_pos, rgK1_ok, rgK2_ok, beq_f, beq_t, decide_eq_true, decide_eq_false, hAdd_int, ev_pvar, ev_pkey, pKeyK_ok, ev_vmut, ev_vput, slotPut_ok, rv_ok, rl_bindR, lstK_lst, dctK_dct, optK_some, mAppend_ok, setAt_nil, hIxD_lst, hIxD_tup, keyF_str, keyF_pair, ev_range2, Nat.not_lt_zero, Bool.false_eq_true, slotK_ok, ev_call0', call0K_ok, call0R_ok, noObjL_nil, noObjL_cons, noObj_int, noObj_bl, noObj_str, noObj_non, noObj_tup, noObj_lst, noObj_scr, noObj_rD, noObjL_ints, noObjL_rats, Bool.and_self, Bool.and_true, Bool.true_and, ev_dct, dctR_ok, itms_nil, itms_l, itms_d, itms_s, itS_ok, Option.map_some, call0C_t, rfe_exc, List.append_nil, Bool.false_and, Bool.and_false, ev_callD, ev_make, makeR_ok, makeR_exc, ev_fld, nD])
theorem members_c {n k : Nat} (h : n < 2 ^ k) (hk : k ≤ 1000) (S : Store) : f_members [.int n] S = .ok (.lst ((rms k n).map nD)) [none] S := by
  rw [members_eq h (by omega), rr_rms0, List.map_map]
  rfl
theorem subsets_eq {S : Store} {n k : Nat} (hn : n < 2 ^ k) (hk : k ≤ 1000) (h8 : (rms k n).length ≤ 8) : f_subsets [.int n] S = .ok (.lst ((partsL k n).map nD)) [none] S := by
  have em := members_c hn hk S
  have h256 : ∀ m, m ≤ 8 → (2 : Nat) ^ m ≤ 256 := fun m hm => Nat.pow_le_pow_right (n := 2) (by decide) hm
  obtain ⟨ρ2, S2, e, x2, x3, rfl, rfl⟩ := forL_list (v := 2) (b := b_subsets_2) nD (fun i ρ S2 => ∃ x2 x3, ρ = [some (.int n), some (.lst ((subsL ((rms k n).take i)).map nD)), x2, x3] ∧ S = S2) (l := rms k n) (ρ := [some (.int n), some (.lst [.int 0]), none, none]) (S := S) ⟨_, _, rfl, rfl⟩ (by
    rintro i hi ρ S2 ⟨x2, x3, rfl, rfl⟩
    have hr := (rms_mem.mp (List.getElem_mem hi)).1
    rw [List.take_succ_eq_append_getElem hi, subsL_snoc, List.map_append, List.map_map]
    have hl := subsL_len _ ((rms k n).take i) rfl
    rw [List.length_take, Nat.min_eq_left (by omega)] at hl
    have hl2 := h256 i (by omega)
    generalize subsL ((rms k n).take i) = f at hl
    generalize (rms k n)[i] = r at hr
    have el := eLc_map (it := iSeq (eVar 1)) (vs := [3]) (v := 3) (E := e_subsets_1) (ρ := [some (.int n), some (.lst (f.map nD)), some (.int r), x3]) (S := S) (S1 := S) nD (nD ∘ fun x => x + 2 ^ r) (l := f) (by (repeat (walk_at "gs")) <;> exact rfl) (by omega) (fun x hx => by
      simp only [u_e_subsets_1, wipeE]
      (repeat (first | simp only [hShl_nat (r := r) (by omega)] | walk_at "gs")) <;> exact rfl)
    have ha : hCat (.lst (f.map nD)) (.lst (f.map (nD ∘ fun x => x + 2 ^ r))) = some (.lst (f.map nD ++ f.map (nD ∘ fun x => x + 2 ^ r))) := by
      show (if _ then _ else _) = _
      rw [if_pos (by rw [List.length_map, List.length_map]; omega)]
    refine ⟨_, _, ?_, some (.int r), x3, rfl, rfl⟩
    simp only [u_b_subsets_2]
    (repeat (first | simp only [el, ha] | walk_at "gs")) <;> exact rfl)
  rw [List.take_length] at e
  unfold f_subsets m_subsets
  (repeat (first | simp only [em, e] | walk_at "gs")) <;> exact rfl
theorem rooms_loop (S : Store) : ∀ (k m r : Nat) (acc : List D) (x : Option D), acc.length + k < 1000000 → ∃ y m', forL (tfName 2) b__law_rooms_1 ((List.range' r k).map fun j : Nat => D.int j) [some (.int m), some (.lst acc), x] S = .nx [some (.int (m' : Int)), some (.lst (acc ++ (rr k m r).map .int)), y] S := by
  intro k
  induction k with
  | zero =>
    intro m r acc x hl
    refine ⟨x, m, ?_⟩
    simp [rr, forL]
  | succ k ih =>
    intro m r acc x hl
    have m2 : hMod (.int m) (.int 2) = some (.int ((m : Int) % 2)) := hMod_pos (by decide)
    have d2 : hDiv (.int m) (.int 2) = some (.int ((m : Int) / 2)) := hDiv_pos (by decide) (by decide)
    rw [List.range'_succ, List.map_cons, forL]
    simp only [tfName, u_b__law_rooms_1]
    walk_at "ev"
    simp only [m2]
    walk_at "ev"
    rw [mod2_int, condS_bl]
    by_cases h1 : m % 2 = 1
    · obtain ⟨y, m', e⟩ := ih (m / 2) (r + 1) (acc ++ [.int r]) (some (.int r)) (by simp; omega)
      rw [if_pos (decide_eq_true h1), mAppend_lt (by omega)]
      walk_at "ev"
      simp only [d2]
      walk_at "ev"
      rw [show ((m : Int) / 2) = ((m / 2 : Nat) : Int) from rfl, e, rr, if_pos h1, List.map_cons, List.append_assoc]
      exact ⟨_, _, rfl⟩
    · obtain ⟨y, m', e⟩ := ih (m / 2) (r + 1) acc (some (.int r)) (by omega)
      rw [if_neg (by simpa using h1)]
      walk_at "ev"
      simp only [d2]
      walk_at "ev"
      rw [show ((m : Int) / 2) = ((m / 2 : Nat) : Int) from rfl, e, rr, if_neg h1]
      exact ⟨_, _, rfl⟩
theorem range61 : rangeL 0 61 = (List.range' 0 61).map fun j : Nat => D.int j := by
  unfold rangeL
  rw [List.range_eq_range']
  simp
theorem rooms_eq (n : Nat) (S : Store) : f__law_rooms [.int n] S = .ok (.lst ((rms 61 n).map nD)) [none] S := by
  obtain ⟨y, m', e⟩ := rooms_loop S 61 n 0 [] none (by simp)
  unfold f__law_rooms m__law_rooms
  walk_at "ev"
  rw [rgK1_int (by decide)]
  walk_at "ev"
  rw [range61, e, rr_rms0, List.map_map]
  walk_at "ev"
  rfl
/-! ### the parts of bits, in a row -/
theorem parts_le {k n x : Nat} (h : x ∈ partsL k n) : x &&& n = x := by
  refine Nat.eq_of_testBit_eq fun j => ?_
  rw [Nat.testBit_and]
  cases hb : x.testBit j with
  | false => rfl
  | true => rw [((parts_mem.mp h) j hb).2]; rfl
theorem parts_first {k n : Nat} (h : 0 < (partsL k n).length) : (partsL k n)[0] = 0 := by
  have h0 : 0 ∈ partsL k n := parts_mem.mpr fun r hr => by rw [Nat.zero_testBit] at hr; cases hr
  obtain ⟨i, hi, e⟩ := List.getElem_of_mem h0
  by_cases hz : i = 0
  · subst hz; exact e
  · have := (List.pairwise_iff_getElem.mp (parts_rise (k := k) (n := n))) 0 i h hi (by omega)
    omega
theorem parts_last {k n : Nat} (hn : n < 2 ^ k) (h : (partsL k n).length - 1 < (partsL k n).length) : (partsL k n)[(partsL k n).length - 1] = n := by
  have h0 : n ∈ partsL k n := parts_mem.mpr fun r hr => by
    by_cases q : r < k
    · exact ⟨q, hr⟩
    · rw [bit_of_lt hn (by omega)] at hr
      cases hr
  obtain ⟨i, hi, e⟩ := List.getElem_of_mem h0
  have l := parts_le (k := k) (n := n) (List.getElem_mem h)
  have l2 : (partsL k n)[(partsL k n).length - 1] ≤ n := by
    have := Nat.and_le_right (n := (partsL k n)[(partsL k n).length - 1]) (m := n)
    omega
  by_cases hz : i = (partsL k n).length - 1
  · subst hz; exact e
  · have := (List.pairwise_iff_getElem.mp (parts_rise (k := k) (n := n))) i ((partsL k n).length - 1) hi h (by omega)
    omega
theorem hAnd_nat {a b : Nat} : hAnd (.int a) (.int b) = some (.int ((a &&& b : Nat) : Int)) := by
  show some (D.int (Builtin.bitAnd a b)) = _
  rw [bitAnd_pp (by omega) (by omega), Int.toNat_natCast, Int.toNat_natCast]
def lastOf (f : List Nat) (i : Nat) : Int := if i = 0 then -1 else ((f.getD (i - 1) 0 : Nat) : Int)
theorem right_eq {n : Nat} (hn : n < 2 ^ 61) (h8 : (rms 61 n).length ≤ 8) (S : Store) : f__law_right [.int n] S = .ok (.bl true) [none] S := by
  have er := rooms_eq n S
  have es := subsets_eq (S := S) hn (by decide) h8
  have hl : (partsL 61 n).length = 2 ^ (rms 61 n).length := subsL_len _ _ rfl
  have h256 : (2 : Nat) ^ (rms 61 n).length ≤ 256 := Nat.pow_le_pow_right (n := 2) (j := 8) (by decide) h8
  have hp := Nat.two_pow_pos (rms 61 n).length
  have hr := parts_rise (k := 61) (n := n)
  have hle : ∀ x ∈ partsL 61 n, x &&& n = x := fun x hx => parts_le hx
  have f0 : (partsL 61 n)[0]? = some 0 := by rw [List.getElem?_eq_getElem (by omega), parts_first (by omega)]
  have f1 : (partsL 61 n)[(partsL 61 n).length - 1]? = some n := by rw [List.getElem?_eq_getElem (by omega), parts_last hn (by omega)]
  have sh := hShl_nat (r := (rms 61 n).length) (by omega)
  generalize hrl : (rms 61 n).length = m at hl h256 hp sh h8
  generalize partsL 61 n = f at es hl hr hle f0 f1
  have i0 : hIx (.lst (f.map nD)) (.int 0) = some (.int 0) := by
    have e : hIx (.lst (f.map nD)) (.int ((0 : Nat) : Int)) = some (nD 0) := hIx_lst (by rw [List.getElem?_map, f0]; rfl)
    exact e
  have i1 : hIx (.lst (f.map nD)) (.int (-1)) = some (.int n) := hIx_last (fun z => by
    have := congrArg List.length z
    rw [List.length_map] at this
    simp only [List.length_nil] at this
    omega) (by
    rw [List.length_map, List.getElem?_map, f1]
    rfl)
  have hlen : hLen [.lst (f.map nD)] = some (.int ((2 ^ m : Nat) : Int)) := by rw [hLen_lst, List.length_map, hl]
  have hlr : hLen [.lst ((rms 61 n).map nD)] = some (.int ((m : Nat) : Int)) := by rw [hLen_lst, List.length_map, hrl]
  have isl : hIsi "list" (.lst (f.map nD)) = some (.bl true) := rfl
  obtain ⟨ρ2, S2, e, x5, rfl, rfl⟩ := forL_list (v := 5) (b := b__law_right_1) nD (fun i ρ S2 => ∃ x5, ρ = [some (.int n), some (.lst ((rms 61 n).map nD)), some (.int ((2 ^ m : Nat) : Int)), some (.lst (f.map nD)), some (.int (lastOf f i)), x5] ∧ S = S2) (l := f) (ρ := [some (.int n), some (.lst ((rms 61 n).map nD)), some (.int ((2 ^ m : Nat) : Int)), some (.lst (f.map nD)), some (.int (-1)), none]) (S := S) ⟨_, rfl, rfl⟩ (by
    rintro i hi ρ S2 ⟨x5, rfl, rfl⟩
    have hx := hle _ (List.getElem_mem hi)
    have hx2 : f[i] ≤ n := by
      have := Nat.and_le_right (n := f[i]) (m := n)
      omega
    have hlast : lastOf f i < (f[i] : Int) := by
      unfold lastOf
      split
      · omega
      · have := (List.pairwise_iff_getElem.mp hr) (i - 1) i (by omega) hi (by omega)
        rw [List.getD_eq_getElem?_getD, List.getElem?_eq_getElem (by omega)]
        show ((f[i - 1] : Nat) : Int) < _
        omega
    have hnx : lastOf f (i + 1) = (f[i] : Int) := by
      unfold lastOf
      rw [if_neg (by omega), Nat.add_sub_cancel, List.getD_eq_getElem?_getD, List.getElem?_eq_getElem hi]
      rfl
    rw [hnx]
    generalize f[i] = x at hx hx2 hlast
    generalize lastOf f i = la at hlast
    have c1 : decide ((x : Int) ≤ la) = false := decide_eq_false (by omega)
    have c2 : decide ((n : Int) < (x : Int)) = false := decide_eq_false (by omega)
    have a1 : hAnd (.int x) (.int n) = some (.int x) := by rw [hAnd_nat, hx]
    refine ⟨_, _, ?_, some (.int x), rfl, rfl⟩
    simp only [u_b__law_right_1]
    (repeat (first | simp only [c1, c2, a1] | walk_at "gs")) <;> exact rfl)
  have ef : fForR 3 (tfName 5) b__law_right_1 [some (.int n), some (.lst ((rms 61 n).map nD)), some (.int ((2 ^ m : Nat) : Int)), some (.lst (f.map nD)), some (.int (-1)), none] S = .nx [some (.int n), some (.lst ((rms 61 n).map nD)), some (.int ((2 ^ m : Nat) : Int)), some (.lst (f.map nD)), some (.int (lastOf f f.length)), x5] S := by
    unfold fForR
    simp only [List.getElem?_cons_succ, List.getElem?_cons_zero, e]
    rfl
  obtain ⟨d, ed⟩ : ∃ d, mPop (f.map nD) [] = some (d, (f.map nD).dropLast) := by
    refine ⟨nD n, ?_⟩
    show ((f.map nD)[(f.map nD).length - 1]?).map (fun d => (d, (f.map nD).dropLast)) = _
    rw [List.length_map, List.getElem?_map, f1]
    rfl
  unfold f__law_right m__law_right
  (repeat (first | simp only [er, es, hrl, sh, i0, i1, hlen, hlr, hl, isl, ef, ed] | walk_at "gs")) <;> exact rfl
theorem rms_add {n r : Nat} (hn : n < 2 ^ 61) (hr : r < 61) (hb : n.testBit r = false) : n + 2 ^ r < 2 ^ 61 ∧ (rms 61 (n + 2 ^ r)).length ≤ (rms 61 n).length + 1 := by
  obtain ⟨e, l⟩ := add_or (k := 61) hn (Nat.pow_lt_pow_right (by decide) hr) (b := 2 ^ r) fun q hq => by
    rw [Nat.testBit_two_pow]
    refine decide_eq_false fun z => ?_
    rw [← z, hb] at hq
    cases hq
  refine ⟨l, ?_⟩
  rw [e]
  refine List.Nodup.length_le_of_subset (l₂ := r :: rms 61 n) (rms_nodup _ _) fun x hx => ?_
  obtain ⟨h1, h2⟩ := rms_mem.mp hx
  rw [Nat.testBit_or, Bool.or_eq_true, Nat.testBit_two_pow, decide_eq_true_eq] at h2
  rcases h2 with h2 | h2
  · exact List.mem_cons_of_mem _ (rms_mem.mpr ⟨h1, h2⟩)
  · rw [h2]; exact List.mem_cons_self
theorem mem61 {n r : Nat} (hr : r < 61) : hIn true (.int r) (.lst ((rms 61 n).map nD)) = some (.bl (!n.testBit r)) := by
  have : (rms 61 n).map nD = ((rms 61 n).map fun j : Nat => (j : Int)).map .int := by rw [List.map_map]; rfl
  rw [this, hIn_ints]
  simp only [if_true]
  congr 3
  cases h : n.testBit r with
  | true => exact decide_eq_true (List.mem_map.mpr ⟨r, rms_mem.mpr ⟨hr, h⟩, rfl⟩)
  | false =>
    refine decide_eq_false fun z => ?_
    obtain ⟨j, h1, h2⟩ := List.mem_map.mp z
    have e : j = r := by omega
    subst e
    rw [(rms_mem.mp h1).2] at h
    cases h
theorem hMul_small {a b : Int} (ha : a.natAbs < 2 ^ 100) (hb : b.natAbs < 2 ^ 100) : hMul (.int a) (.int b) = some (.int (a * b)) := hMul_bd ha hb (by decide)
theorem bits_by_eq {c : Int} {k : Nat} (hk : k < 100) (S : Store) : ∃ n : Nat, n < 2 ^ 61 ∧ (rms 61 n).length ≤ 8 ∧ f__law_bits_by [.int c, .int k] S = .ok (.int n) [none, none] S := by
  have e0 : (rms 61 0).length = 0 := by decide
  generalize hc : (c % 1000003 + 1) * ((k : Int) * k + 48271) % 65537 = z0
  have kk : ((k : Int) * k).natAbs < 10000 := by
    rw [← Int.natCast_mul, Int.natAbs_natCast]
    have : k * k ≤ 99 * 99 := Nat.mul_le_mul (by omega) (by omega)
    omega
  have p100 : (2 : Nat) ^ 100 = 1267650600228229401496703205376 := by decide
  have h1 : hMul (.int k) (.int k) = some (.int ((k : Int) * k)) := hMul_small (by omega) (by omega)
  have h2 : hMul (.int (c % 1000003 + 1)) (.int ((k : Int) * k + 48271)) = some (.int ((c % 1000003 + 1) * ((k : Int) * k + 48271))) := hMul_small (by omega) (by omega)
  have m1 : ∀ a : Int, hMod (.int a) (.int 1000003) = some (.int (a % 1000003)) := fun a => hMod_pos (by decide)
  have m2 : ∀ a : Int, hMod (.int a) (.int 65537) = some (.int (a % 65537)) := fun a => hMod_pos (by decide)
  have m3 : ∀ a : Int, hMod (.int a) (.int 61) = some (.int (a % 61)) := fun a => hMod_pos (by decide)
  have m4 : ∀ a : Int, hMod (.int a) (.int 9) = some (.int (a % 9)) := fun a => hMod_pos (by decide)
  obtain ⟨t, ht⟩ : ∃ t : Nat, z0 % 9 = (t : Int) := ⟨(z0 % 9).toNat, by omega⟩
  have ht9 : t ≤ 8 := by omega
  obtain ⟨ρ2, S2, e, n, a, x4, x5, rfl, rfl, hn, hl, _⟩ := forL_list (v := 4) (b := b__law_bits_by_1) nD (fun i ρ S2 => ∃ (n : Nat) (a : Int) (x4 x5 : Option D), ρ = [some (.int c), some (.int k), some (.int a), some (.int n), x4, x5] ∧ S = S2 ∧ n < 2 ^ 61 ∧ (rms 61 n).length ≤ i ∧ (0 ≤ a ∧ a < 65537)) (l := List.range t) (ρ := [some (.int c), some (.int k), some (.int z0), some (.int 0), none, none]) (S := S) ⟨0, z0, none, none, rfl, rfl, by decide, by rw [e0]; exact Nat.le_refl _, by omega⟩ (by
    rintro i hi ρ S2 ⟨n, a, x4, x5, rfl, rfl, hn, hl, ha⟩
    rw [List.getElem_range]
    have q1 : hMul (.int a) (.int 75) = some (.int (a * 75)) := hMul_small (by omega) (by omega)
    generalize ha2 : (a * 75 + 74) % 65537 = a2
    obtain ⟨r, hr⟩ : ∃ r : Nat, a2 % 61 = (r : Int) := ⟨(a2 % 61).toNat, by omega⟩
    have hr1 : r < 61 := by omega
    have er := rooms_eq n S
    have em := mem61 (n := n) hr1
    have sh := hShl_nat (r := r) (by omega)
    simp only [u_b__law_bits_by_1]
    cases hb : n.testBit r with
    | true =>
      rw [hb] at em
      refine ⟨_, _, ?_, n, a2, some (.int i), some (.int r), rfl, rfl, hn, by omega, by omega⟩
      (repeat (first | simp only [q1, m2, ha2, m3, hr, er, em] | walk_at "gs")) <;> exact rfl
    | false =>
      rw [hb] at em
      obtain ⟨w1, w2⟩ := rms_add hn hr1 hb
      refine ⟨_, _, ?_, n + 2 ^ r, a2, some (.int i), some (.int r), rfl, rfl, w1, by omega, by omega⟩
      (repeat (first | simp only [q1, m2, ha2, m3, hr, er, em, sh] | walk_at "gs")) <;> exact rfl)
  rw [List.length_range] at hl
  refine ⟨n, hn, by omega, ?_⟩
  rw [show (List.range t).map nD = rangeL 0 (t : Int) from (rangeL_map t).symm] at e
  have rg : rgK1 [.int (t : Int)] S = .ok (rangeL 0 (t : Int)) S := rgK1_int (by omega)
  unfold f__law_bits_by m__law_bits_by
  (repeat (first | simp only [m1, h1, h2, m2, hc, m4, ht, rg, e] | walk_at "gs")) <;> exact rfl
theorem law_eq (ns : List Int) (hl : ns.length ≤ 63) (_ : ∀ z ∈ ns, Builtin.Int.intBits z ≤ 1048576) : ∃ outs S', f_law [.scr (ns.map .int)] [] = .ok (.bl true) outs S' := by
  generalize hz : ([0, 37] ++ ns.take 12 : List Int) = zs
  have zl : zs.length ≤ 14 := by rw [← hz]; simp; omega
  have cut : hAdd (.lst [.int 0, .int 37]) (.lst ((ns.take 12).map D.int)) = some (.lst (zs.map D.int)) := by
    rw [hAdd_lst (by simp; omega), ← hz]
    rfl
  have sl : cutD (ns.map D.int) none (some 12) = (ns.take 12).map D.int := by
    rw [show ((12 : Int)) = ((12 : Nat) : Int) from rfl, cutD_take, ← List.map_take]
  obtain ⟨ρ2, S2, e, x2, rfl, rfl⟩ := forL_list (v := 2) (b := b_law_1) nD (fun i ρ S2 => ∃ x2, ρ = [some (.scr (ns.map D.int)), some (.lst (zs.map D.int)), x2] ∧ S2 = []) (l := List.range zs.length) (ρ := [some (.scr (ns.map D.int)), some (.lst (zs.map D.int)), none]) (S := []) ⟨_, rfl, rfl⟩ (by
    rintro i hi ρ S2 ⟨x2, rfl, rfl⟩
    rw [List.length_range] at hi
    rw [List.getElem_range]
    obtain ⟨n, h1, h2, h3⟩ := bits_by_eq (c := zs[i]) (k := i) (by omega) []
    have h4 := right_eq h1 h2 []
    have i1 : hIx (.lst (zs.map D.int)) (.int i) = some (.int zs[i]) := hIx_lst (by rw [List.getElem?_map, List.getElem?_eq_getElem hi]; rfl)
    refine ⟨_, _, ?_, some (.int i), rfl, rfl⟩
    simp only [u_b_law_1]
    (repeat (first | simp only [i1, h3, h4] | walk_at "gs")) <;> exact rfl)
  rw [show (List.range zs.length).map nD = rangeL 0 (zs.length : Int) from (rangeL_map zs.length).symm] at e
  have rg : rgK1 [.int (zs.length : Int)] [] = .ok (rangeL 0 (zs.length : Int)) [] := rgK1_int (by omega)
  have ln : hLen [.lst (zs.map D.int)] = some (.int (zs.length : Int)) := by rw [hLen_lst, List.length_map]
  refine ⟨[none], [], ?_⟩
  unfold f_law m_law
  (repeat (first | simp only [sl, cut, ln, rg, e] | walk_at "gs")) <;> exact rfl
end K04

namespace K04
open PySem PySem.Spec PyProof.Rows L2 Q
def hd1 : He.DefD := ⟨("_law_rooms", none), "_law_rooms", "_law_rooms", defArgs s__law_rooms, defBody s__law_rooms, defScope s__law_rooms, [], []⟩
def hd2 : He.DefD := ⟨("members", none), "members", "members", defArgs s_members, defBody s_members, defScope s_members, [], []⟩
def hd3 : He.DefD := ⟨("subsets", none), "subsets", "subsets", defArgs s_subsets, defBody s_subsets, defScope s_subsets, [], []⟩
def hd4 : He.DefD := ⟨("_law_right", none), "_law_right", "_law_right", defArgs s__law_right, defBody s__law_right, defScope s__law_right, [], []⟩
def hd5 : He.DefD := ⟨("_law_bits_by", none), "_law_bits_by", "_law_bits_by", defArgs s__law_bits_by, defBody s__law_bits_by, defScope s__law_bits_by, [], []⟩
def hd6 : He.DefD := ⟨("law", none), "law", "law", defArgs s_law, defBody s_law, defScope s_law, [], []⟩
def hfn0 : List He.DefD := [hd1, hd2, hd3, hd4, hd5, hd6]
def hfn : List He.DefD := hfn0
def hck (K : PySem.W.Frag) : Bool := decide (cg0 K)
def hnm0 : List PySem.Str := ["__name__", "members", "subsets", "_law_rooms", "_law_bits_by", "_law_right"]
def hnm : List PySem.Str := hnm0
abbrev R : PySem.W.OpenRow := PySem.W.OpenLaw.row PySem.Challenge.rw_stoke_k04_parts_of_bits
abbrev hk : PySem.W.Hook := Q.hookH 0 hck hfn
def hob (s : PySem.W.SharedT) : Q.AlH := Q.obsS 0 hck hfn s
theorem hob_eq (s : PySem.W.SharedT) : hob s = hk.obs s.abs := Q.obsS_eq 0 hck hfn s
set_option maxHeartbeats 0 in
theorem hrun (w : World) : HandSHeadRun.RunEq R (PySem.W.view R.prog [7]) hk hob 12000 hnm w := by
  intro os
  kernel_rfl
set_option maxHeartbeats 0 in
theorem law_mk {l : PySem.W.OpenLaw} {w : World} {K : PySem.W.Frag} {h : Heap} {mg : Str → Option Value} {fa : Addr} (X : K.In h) (G : h.Ns mainGlobals mg) (hfa : mg "law" = some (.ref fa)) (c : Q.SaysH hck hfn K)
    : ∃ fd : FuncData, (∀ (s : Shared) (v : Value), BindsTo s fd ⟨[v], []⟩ [("_law_script", v)]) ∧ ∀ base : Heap, K.In base → base.Ns mainGlobals mg → FnOk l.prog w K mg base (L2.CX l.prog w) 4 fa fd ["_law_script"] (spLaw K) := by
  have hc := c.chk
  have hg0 := hc
  have hg0 := of_decide_eq_true hg0
  obtain ⟨d1, F1⟩ := c.def_ 0 (d := hd1) (by kernel_rfl)
  have F1 := fun_of (st := s__law_rooms) F1
  obtain ⟨d2, F2⟩ := c.def_ 1 (d := hd2) (by kernel_rfl)
  have F2 := fun_of (st := s_members) F2
  obtain ⟨d3, F3⟩ := c.def_ 2 (d := hd3) (by kernel_rfl)
  have F3 := fun_of (st := s_subsets) F3
  obtain ⟨d4, F4⟩ := c.def_ 3 (d := hd4) (by kernel_rfl)
  have F4 := fun_of (st := s__law_right) F4
  obtain ⟨d5, F5⟩ := c.def_ 4 (d := hd5) (by kernel_rfl)
  have F5 := fun_of (st := s__law_bits_by) F5
  obtain ⟨d6, F6⟩ := c.def_ 5 (d := hd6) (by kernel_rfl)
  have F6 := fun_of (st := s_law) F6
  obtain ⟨Fx, ea, hb⟩ := facts_mk X G hg0 F1 F2 F3 F4 F5 F6
  have e := hfa.symm.trans Fx.g_law
  cases e
  exact ⟨Fx.d_law, hb, fun base _ _ => law_ok (T := th l.prog w Fx) (ok_law Fx) law_eq⟩
end K04
open PySem PySem.W PyProof.Rows
set_option maxRecDepth 100000 in
set_option maxHeartbeats 0 in
theorem PySem.Challenge.cw_stoke_k04_parts_of_bits_holds : PySem.Challenge.rw_stoke_k04_parts_of_bits.Holds := by
  w_on; o_law
  refine HandSHeadRun.head_any (r := OpenLaw.row PySem.Challenge.rw_stoke_k04_parts_of_bits) (q := view (OpenLaw.row PySem.Challenge.rw_stoke_k04_parts_of_bits).prog [7]) (H := K04.hk) (ob := K04.hob) (M := 12000) (loose := K04.hnm) (d := HandSHeadRun.topDef (OpenLaw.row PySem.Challenge.rw_stoke_k04_parts_of_bits).prog 7) (kwd := []) K04.hob_eq
    (by kernel_rfl) (fun s => by kernel_rfl) K04.hrun (by kernel_rfl) (by kernel_rfl) (by kernel_rfl) (by rfl) (by first | assumption | decide +kernel) (by decide +kernel) ⟨rfl, rfl, rfl, rfl, rfl, by decide +kernel⟩ ?hw ?hc
  case hw => w_witness2
  case hc =>
    refine Q.walk_ofBE (l := PySem.Challenge.rw_stoke_k04_parts_of_bits) (n := 63) (k := 4) (x := "_law_script") (CX := fun w => L2.CX PySem.Challenge.rw_stoke_k04_parts_of_bits.prog w) (sp := fun K => Q.spLaw K) rfl (by decide) (by kernel_rfl) ⟨rfl, by decide, by decide⟩ ?F (fun K H a ns h1 h2 _ h3 => Q.law_sp K H a ns h1 h2 h3) (fun w H s e s' h => Q.law_cx PySem.Challenge.rw_stoke_k04_parts_of_bits.prog w H s e s' h)
    intro w mg fa h Y G hmg0
    obtain ⟨K, KX, c⟩ := Y
    have hmg : mg ("law" : PySem.Str) = some (.ref fa) := by
      have e : (HandSHeadRun.topDef (OpenLaw.row PySem.Challenge.rw_stoke_k04_parts_of_bits).prog 7).name = ("law" : PySem.Str) := by kernel_rfl
      rw [← e]
      exact hmg0
    exact ⟨K, KX, K04.law_mk KX G hmg c⟩
