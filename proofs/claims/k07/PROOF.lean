import PyProof.Rows.All
import Wide.All
import OpenK.AllK
import Wide.FinOn
import HandS.ForMost
import HandS.ForExc
import HandS.Wide
import HandS.Dict
import KE.KeyNested
import HandS.Text
import KE.IntBitsLaws
import HandS.IsInst
import HandS.ExcIs
import HandS.EndBits
import HandS.SetFor
import HandS.SortInts
import HandS.Replace
import HandS.StrMore
import HandS.WideBits
import Wide.Txt
import KE.IntTextLaws
import HandS.Defaults
import HandS.More
import PyProof.SeqI3
import PySem.Challenge.RW_stoke_k07_a_hold_like_another
set_option Elab.async false
set_option linter.all false
set_option maxRecDepth 100000
/-! The value layer: data by value, what stands for them on the heap, who may write where. -/
namespace Q
open PySem PySem.Spec PyProof.Rows L2
/-- data by value -/
inductive D where
  | non | bl (b : Bool) | int (i : Int) | str (x : Str)
  | tup (l : List D) | lst (l : List D) | scr (l : List D) | dct (l : List (D × D))
  | obj (n : Nat) | fn (k : Nat) (l : List D) | gone (k : Nat)
/-- an own object: its class's number, its fields -/
structure Ob where
  cls : Nat
  fs : List (Str × D)
abbrev Store := List Ob
abbrev Env := List (Option D)
/-- an exception: its class's number, what its fields hold -/
structure Exc where
  cls : Nat
  args : List (Str × D)
/-- what an expression comes to -/
inductive RE where
  | ok (d : D) (S : Store)
  | exc (x : Exc) (S : Store)
  | no
inductive RL where
  | ok (ds : List D) (S : Store)
  | exc (x : Exc) (S : Store)
  | no
/-- what a statement comes to -/
inductive RS where
  | nx (ρ : Env) (S : Store)
  | bk (ρ : Env) (S : Store)
  | ct (ρ : Env) (S : Store)
  | rt (d : D) (ρ : Env) (S : Store)
  | exc (x : Exc) (ρ : Env) (S : Store)
  | no
abbrev FE := Env → Store → RE
abbrev FL := Env → Store → RL
abbrev FS := Env → Store → RS
/-- the fixed part of a program: the written part, the classes' places, how deep a class's field is owned -/
structure Th where
  K : PySem.W.Frag
  pr : Program
  w : World
  cA : Nat → Addr
  /-- so many classes of exceptions -/
  nc : Nat
  fm : Nat → Str → Nat
/-- who may write where, and where the objects stand -/
structure G where
  N : Nat
  μ : Nat → Addr
  /-- others' (callers', pending values') -/
  O : Addr → Prop
  /-- slot i's -/
  F : Nat → Addr → Prop
  /-- the objects' -/
  B : Addr → Prop
  BF : Nat → Str → Addr → Prop
  /-- where a pinned parameter stands -/
  P : Nat → V
/-- what is out of its place for a while -/
def G.Z (g : G) (k : Nat) : V := g.P (1000000 + k)
def G.U (g : G) (a : Addr) : Prop := g.O a ∨ (∃ i, g.F i a) ∨ g.B a
def WrL (K : PySem.W.Frag) (a : Addr) (xs : List V) : Prop := ∃ (o : Obj) (its : Array Value) (n : Nat), K.lookup a = some o ∧ o.cls = .type "list" ∧ o.dict = none ∧ o.data = .seq its n ∧ its.size ≤ sizeLine ∧ Vals xs its.toList
def WrT (K : PySem.W.Frag) (a : Addr) (xs : List V) : Prop := ∃ (o : Obj) (its : Array Value) (n : Nat), K.lookup a = some o ∧ o.cls = .type "tuple" ∧ o.data = .seq its n ∧ its.size ≤ sizeLine ∧ Vals xs its.toList
def LkL (K : PySem.W.Frag) (U : Addr → Prop) (H : Hp) (a : Addr) (xs : List V) : Prop := (Rd H a (.lst xs) ∧ ¬ U a) ∨ WrL K a xs
def LkT (K : PySem.W.Frag) (U : Addr → Prop) (H : Hp) (a : Addr) (xs : List V) : Prop := (Rd H a (.tup xs) ∧ ¬ U a) ∨ WrT K a xs
theorem LkL.sq {K : PySem.W.Frag} {U : Addr → Prop} {H : Hp} {a : Addr} {xs : List V} (h : LkL K U H a xs) : SqL K H a xs := h.imp (·.1) id
theorem LkT.sq {K : PySem.W.Frag} {U : Addr → Prop} {H : Hp} {a : Addr} {xs : List V} (h : LkT K U H a xs) : SqT K H a xs := h.imp (·.1) id

mutual
/-- data as a key -/
def nk : D → Option PySem.NestedKey
  | .non => some .none
  | .bl b => some (.num (if b = true then 1 else 0))
  | .int i => some (.num i)
  | .str x => some (.text x)
  | .tup l => (nkL l).map .tup
  | _ => none
def nkL : List D → Option (List PySem.NestedKey)
  | [] => some []
  | d :: r => match nk d, nkL r with
    | some k, some ks => some (k :: ks)
    | _, _ => none
end
/-- the dict at a, its keys tuples -/
def dN (P : Program) (w : World) (a : Addr) (ps : List (PySem.NestedKey × Addr × V)) : HO := .ext fun h => ps.length ≤ sizeLine ∧ (a == sysModules) = false ∧ ∃ (o : Obj) (es : Array DictEntry) (ep : Nat) (xs : List (PySem.NestedKey × Addr × Value)), h.get? a = some o ∧ o.ExactDict ∧ o.data = .dict es ep ∧ es.toList = xs.map (PySem.entryOfKey (PySem.nestedKind P w)) ∧ (xs.map (·.1)).Nodup ∧
  Paired (fun (p : PySem.NestedKey × Addr × V) (x : PySem.NestedKey × Addr × Value) => p.1 = x.1 ∧ p.2.1 = x.2.1 ∧ RelV p.2.2 x.2.2) ps xs
/-- a dict's places: of keys that are ints and texts, or tuples -/
def DRep (T : Th) (H : Hp) (a : Addr) (l : List (D × D)) (kvs : List (V × V)) : Prop :=
  (∃ ks : List (Key × V), H a = some (.dK ks) ∧ kvs = ks.map fun p => (kV p.1, p.2)) ∨
  (∃ ps : List (PySem.NestedKey × Addr × V), H a = some (dN T.pr T.w a ps) ∧ kvs = (ps.map fun p => (V.ref p.2.1, p.2.2)) ∧ ps.map (fun p => some p.1) = (l.map fun p => nk p.1) ∧ ps ≠ [] ∧ ∀ p ∈ ps, p.1.depth ≤ 8)
theorem DRep.at {T : Th} {H H' : Hp} {a : Addr} {l : List (D × D)} {kvs : List (V × V)} (h : DRep T H a l kvs) (k : ∀ o, H a = some o → H' a = some o) : DRep T H' a l kvs := by
  rcases h with ⟨ks, h1, h2⟩ | ⟨ps, h1, h2, h3⟩
  · exact .inl ⟨ks, k _ h1, h2⟩
  · exact .inr ⟨ps, k _ h1, h2, h3⟩
/-- keys that are ints and texts -/
def flatKs (l : List (D × D)) : Bool := l.all fun p => match p.1 with
  | .int _ => true
  | .str _ => true
  | _ => false
theorem DRep.there {T : Th} {H : Hp} {a : Addr} {l : List (D × D)} {kvs : List (V × V)} (h : DRep T H a l kvs) : ∃ o, H a = some o := by
  rcases h with ⟨ks, h1, h2⟩ | ⟨ps, h1, h2, h3⟩
  · exact ⟨_, h1⟩
  · exact ⟨_, h1⟩

mutual
def Shr (T : Th) (g : G) (H : Hp) : D → V → Prop
  | .non, v => v = .non
  | .bl b, v => v = .bl b
  | .int i, v => v = .int i
  | .str x, v => v = .str x
  | .tup l, v => ∃ a vs, v = .ref a ∧ LkT T.K g.U H a vs ∧ ShrL T g H l vs
  | .lst l, v => ∃ a vs, v = .ref a ∧ (H a = some (.lst vs) ∧ ¬ g.U a) ∧ ShrL T g H l vs
  | .scr l, v => ∃ a vs, v = .ref a ∧ LkL T.K g.U H a vs ∧ ShrL T g H l vs
  | .dct l, v => ∃ a kvs, v = .ref a ∧ (DRep T H a l kvs ∧ ¬ g.U a) ∧ ShrK T g H l kvs
  | .obj n, v => n < g.N ∧ v = .ref (g.μ n)
  | .fn _ _, _ => False
  | .gone _, _ => False
def ShrL (T : Th) (g : G) (H : Hp) : List D → List V → Prop
  | [], vs => vs = []
  | d :: ds, vs => ∃ v ws, vs = v :: ws ∧ Shr T g H d v ∧ ShrL T g H ds ws
def ShrK (T : Th) (g : G) (H : Hp) : List (D × D) → List (V × V) → Prop
  | [], vs => vs = []
  | (k, d) :: ds, vs => ∃ u v ws, vs = (u, v) :: ws ∧ Shr T g H k u ∧ Shr T g H d v ∧ ShrK T g H ds ws
end

/-- what was shared stays so -/
structure Stay (g : G) (H : Hp) (g' : G) (H' : Hp) : Prop where
  keep : ∀ a o, H a = some o → ¬ g.U a → H' a = some o
  own : ∀ a, g'.U a → g.U a ∨ H a = none
  N : g.N ≤ g'.N
  μ : ∀ n, n < g.N → g'.μ n = g.μ n
  Z : g'.Z = g.Z
theorem Stay.refl (g : G) (H : Hp) : Stay g H g H := ⟨fun _ _ h _ => h, fun _ h => .inl h, Nat.le_refl _, fun _ _ => rfl, rfl⟩
theorem Stay.off {g : G} {H : Hp} {g' : G} {H' : Hp} (s : Stay g H g' H') {a : Addr} {o : HO} (h : H a = some o) (hu : ¬ g.U a) : ¬ g'.U a := fun z => by
  rcases s.own a z with z | z
  · exact hu z
  · rw [h] at z; cases z
theorem Stay.rd {g : G} {H : Hp} {g' : G} {H' : Hp} (s : Stay g H g' H') {a : Addr} {u : HO} (h : Rd H a u) (hu : ¬ g.U a) : Rd H' a u ∧ ¬ g'.U a := by
  rcases h with h | ⟨o, h⟩
  · exact ⟨.inl (s.keep a _ h hu), s.off h hu⟩
  · exact ⟨.inr ⟨o, s.keep a _ h hu⟩, s.off h hu⟩
theorem Stay.trans {g g1 g2 : G} {H H1 H2 : Hp} (a : Stay g H g1 H1) (b : Stay g1 H1 g2 H2) : Stay g H g2 H2 where
  keep := fun x o h hu => b.keep x o (a.keep x o h hu) (a.off h hu)
  own := fun x h => by
    rcases b.own x h with h | h
    · exact a.own x h
    · cases e : H x with
      | none => exact .inr rfl
      | some o =>
        by_cases hu : g.U x
        · exact .inl hu
        · have := a.keep x o e hu
          rw [h] at this; cases this
  N := Nat.le_trans a.N b.N
  μ := fun n h => (b.μ n (Nat.lt_of_lt_of_le h a.N)).trans (a.μ n h)
  Z := b.Z.trans a.Z
section
variable {T : Th} {g g' : G} {H H' : Hp}
mutual
theorem Shr.stay (s : Stay g H g' H') : ∀ (d : D) (v : V), Shr T g H d v → Shr T g' H' d v
  | .non, _, h => by simpa only [Shr] using h
  | .bl _, _, h => by simpa only [Shr] using h
  | .int _, _, h => by simpa only [Shr] using h
  | .str _, _, h => by simpa only [Shr] using h
  | .tup l, v, h => by
    simp only [Shr] at h ⊢
    obtain ⟨a, vs, e, q, r⟩ := h
    exact ⟨a, vs, e, q.imp (fun z => s.rd z.1 z.2) id, ShrL.stay s l vs r⟩
  | .lst l, v, h => by
    simp only [Shr] at h ⊢
    obtain ⟨a, vs, e, q, r⟩ := h
    exact ⟨a, vs, e, ⟨s.keep _ _ q.1 q.2, s.off q.1 q.2⟩, ShrL.stay s l vs r⟩
  | .scr l, v, h => by
    simp only [Shr] at h ⊢
    obtain ⟨a, vs, e, q, r⟩ := h
    exact ⟨a, vs, e, q.imp (fun z => s.rd z.1 z.2) id, ShrL.stay s l vs r⟩
  | .dct l, v, h => by
    simp only [Shr] at h ⊢
    obtain ⟨a, vs, e, q, r⟩ := h
    obtain ⟨o, h0⟩ := q.1.there
    exact ⟨a, vs, e, ⟨q.1.at fun o h => s.keep _ _ h q.2, s.off h0 q.2⟩, ShrK.stay s l vs r⟩
  | .obj n, v, h => by
    simp only [Shr] at h ⊢
    exact ⟨Nat.lt_of_lt_of_le h.1 s.N, by rw [s.μ n h.1]; exact h.2⟩
  | .fn _ _, v, h => by simp only [Shr] at h
  | .gone _, v, h => by simp only [Shr] at h
theorem ShrL.stay (s : Stay g H g' H') : ∀ (ds : List D) (vs : List V), ShrL T g H ds vs → ShrL T g' H' ds vs
  | [], _, h => by simpa only [ShrL] using h
  | d :: ds, vs, h => by
    simp only [ShrL] at h ⊢
    obtain ⟨v, ws, e, q, r⟩ := h
    exact ⟨v, ws, e, Shr.stay s d v q, ShrL.stay s ds ws r⟩
theorem ShrK.stay (s : Stay g H g' H') : ∀ (ds : List (D × D)) (vs : List (V × V)), ShrK T g H ds vs → ShrK T g' H' ds vs
  | [], _, h => by simpa only [ShrK] using h
  | (k, d) :: ds, vs, h => by
    simp only [ShrK] at h ⊢
    obtain ⟨u, v, ws, e, p, q, r⟩ := h
    exact ⟨u, v, ws, e, Shr.stay s k u p, Shr.stay s d v q, ShrK.stay s ds ws r⟩
end
end
section
variable {T : Th} {g : G} {H : Hp}
theorem ShrL.length : ∀ {ds : List D} {vs : List V}, ShrL T g H ds vs → ds.length = vs.length
  | [], _, h => by simp only [ShrL] at h; subst h; rfl
  | d :: ds, vs, h => by
    simp only [ShrL] at h
    obtain ⟨v, ws, rfl, _, r⟩ := h
    simp only [List.length_cons, ShrL.length r]
theorem ShrL.get : ∀ {ds : List D} {vs : List V} {i : Nat} {d : D}, ShrL T g H ds vs → ds[i]? = some d → ∃ v, vs[i]? = some v ∧ Shr T g H d v
  | [], _, _, _, _, e => by simp at e
  | d :: ds, vs, i, d', h, e => by
    simp only [ShrL] at h
    obtain ⟨v, ws, rfl, q, r⟩ := h
    cases i with
    | zero => simp at e; subst e; exact ⟨v, rfl, q⟩
    | succ i =>
      obtain ⟨w, h1, h2⟩ := ShrL.get (i := i) r (by simpa using e)
      exact ⟨w, by simpa using h1, h2⟩
theorem ShrL.of {ds : List D} {vs : List V} (hl : ds.length = vs.length) (h : ∀ (i : Nat) d v, ds[i]? = some d → vs[i]? = some v → Shr T g H d v) : ShrL T g H ds vs := by
  induction ds generalizing vs with
  | nil =>
    simp only [ShrL]
    cases vs with
    | nil => rfl
    | cons _ _ => simp at hl
  | cons d ds ih =>
    cases vs with
    | nil => simp at hl
    | cons v vs =>
      simp only [ShrL]
      exact ⟨v, vs, rfl, h 0 d v rfl rfl, ih (by simpa using hl) fun i a b p q => h (i + 1) a b (by simpa using p) (by simpa using q)⟩
theorem ShrL.append {ds es : List D} {vs ws : List V} (h : ShrL T g H ds vs) (h' : ShrL T g H es ws) : ShrL T g H (ds ++ es) (vs ++ ws) := by
  induction ds generalizing vs with
  | nil => simp only [ShrL] at h; subst h; exact h'
  | cons d ds ih =>
    simp only [ShrL] at h
    obtain ⟨v, us, rfl, q, r⟩ := h
    show ShrL T g H (d :: (ds ++ es)) (v :: (us ++ ws))
    simp only [ShrL]
    exact ⟨v, _, rfl, q, ih r⟩
theorem ShrL.nil : ShrL T g H [] [] := by simp only [ShrL]
theorem ShrL.cons {d : D} {v : V} {ds : List D} {vs : List V} (h : Shr T g H d v) (r : ShrL T g H ds vs) : ShrL T g H (d :: ds) (v :: vs) := by
  simp only [ShrL]; exact ⟨v, vs, rfl, h, r⟩
theorem ShrL.take {ds : List D} {vs : List V} (n : Nat) (h : ShrL T g H ds vs) : ShrL T g H (ds.take n) (vs.take n) := by
  refine .of (by rw [List.length_take, List.length_take, h.length]) fun i d v e1 e2 => ?_
  rw [List.getElem?_take] at e1 e2
  split at e1
  · rename_i hi
    rw [if_pos hi] at e2
    obtain ⟨w, h1, h2⟩ := h.get e1
    rw [e2] at h1; cases h1
    exact h2
  · cases e1
theorem ShrL.drop {ds : List D} {vs : List V} (n : Nat) (h : ShrL T g H ds vs) : ShrL T g H (ds.drop n) (vs.drop n) := by
  refine .of (by rw [List.length_drop, List.length_drop, h.length]) fun i d v e1 e2 => ?_
  rw [List.getElem?_drop] at e1 e2
  obtain ⟨w, h1, h2⟩ := h.get e1
  rw [e2] at h1; cases h1
  exact h2
end
section
variable {T : Th} {g : G} {H : Hp}
theorem ShrK.length : ∀ {ds : List (D × D)} {vs : List (V × V)}, ShrK T g H ds vs → ds.length = vs.length
  | [], _, h => by simp only [ShrK] at h; subst h; rfl
  | (k, d) :: ds, vs, h => by
    simp only [ShrK] at h
    obtain ⟨u, v, ws, rfl, _, _, r⟩ := h
    simp only [List.length_cons, ShrK.length r]
theorem ShrK.get : ∀ {ds : List (D × D)} {vs : List (V × V)} {i : Nat} {d : D × D}, ShrK T g H ds vs → ds[i]? = some d → ∃ w : V × V, vs[i]? = some w ∧ Shr T g H d.1 w.1 ∧ Shr T g H d.2 w.2
  | [], _, _, _, _, e => by simp at e
  | (k, d) :: ds, vs, i, d', h, e => by
    simp only [ShrK] at h
    obtain ⟨u, v, ws, rfl, p, q, r⟩ := h
    cases i with
    | zero => simp at e; subst e; exact ⟨(u, v), rfl, p, q⟩
    | succ i =>
      obtain ⟨w, h1, h2⟩ := ShrK.get (i := i) r (by simpa using e)
      exact ⟨w, by simpa using h1, h2⟩
theorem ShrK.of {ds : List (D × D)} {vs : List (V × V)} (hl : ds.length = vs.length) (h : ∀ (i : Nat) (d : D × D) (v : V × V), ds[i]? = some d → vs[i]? = some v → Shr T g H d.1 v.1 ∧ Shr T g H d.2 v.2) : ShrK T g H ds vs := by
  induction ds generalizing vs with
  | nil =>
    simp only [ShrK]
    cases vs with
    | nil => rfl
    | cons _ _ => simp at hl
  | cons d ds ih =>
    cases vs with
    | nil => simp at hl
    | cons v vs =>
      obtain ⟨k, d⟩ := d
      obtain ⟨u, v⟩ := v
      simp only [ShrK]
      obtain ⟨h1, h2⟩ := h 0 (k, d) (u, v) rfl rfl
      exact ⟨u, v, vs, rfl, h1, h2, ih (by simpa using hl) fun i a b p q => h (i + 1) a b (by simpa using p) (by simpa using q)⟩
end
theorem drep_flat {T : Th} {g : G} {H : Hp} {a : Addr} {l : List (D × D)} {kvs : List (V × V)} (h : DRep T H a l kvs) (s : ShrK T g H l kvs) (f : flatKs l = true) : ∃ ks : List (Key × V), H a = some (.dK ks) ∧ kvs = ks.map fun p => (kV p.1, p.2) := by
  rcases h with h | ⟨ps, h1, h2, h3, h4, _⟩
  · exact h
  · exfalso
    cases ps with
    | nil => exact h4 rfl
    | cons p ps =>
      subst h2
      cases l with
      | nil => simp at h3
      | cons d l =>
        obtain ⟨k, d⟩ := d
        simp only [List.map_cons, ShrK] at s
        obtain ⟨u, v, ws, e, q, _⟩ := s
        cases e
        unfold flatKs at f
        rw [List.all_cons, Bool.and_eq_true] at f
        have f := f.1
        cases k <;> simp only [Shr] at q <;> first | (cases q; done) | (dsimp only at f; cases f)
/-- the owned form, k levels of it: F's to write -/
def Own (T : Th) (g : G) (H : Hp) : Nat → (Addr → Prop) → D → V → Prop
  | k + 1, F, .lst l, v => ∃ p vs, v = .ref p ∧ F p ∧ H p = some (.lst vs) ∧ l.length = vs.length ∧ ∃ Gs : Nat → Addr → Prop, (∀ j q, Gs j q → F q ∧ q ≠ p) ∧ (∀ i j q, Gs i q → Gs j q → i = j) ∧ ∀ (j : Nat) d w, l[j]? = some d → vs[j]? = some w → Own T g H k (Gs j) d w
  | k + 1, F, .dct l, v => ∃ p vs, v = .ref p ∧ F p ∧ DRep T H p l vs ∧ l.length = vs.length ∧ ∃ Gs : Nat → Addr → Prop, (∀ j q, Gs j q → F q ∧ q ≠ p) ∧ (∀ i j q, Gs i q → Gs j q → i = j) ∧ ∀ (j : Nat) (d : D × D) (w : V × V), l[j]? = some d → vs[j]? = some w → Shr T g H d.1 w.1 ∧ Own T g H k (Gs j) d.2 w.2
  | _, _, d, v => Shr T g H d v
inductive Md where

  | s | o (k : Nat) | r (k : Nat) | p (k : Nat) | e (v : V) | l
/-- .. but for what others may write -/
def G.bare (g : G) : G := { g with O := fun _ => False }
def RepM (T : Th) (g : G) (H : Hp) (i : Nat) : Md → D → V → Prop
  | .s, d, v => Shr T g H d v
  | .o k, d, v => Own T g H k (g.F i) d v
  | .r k, d, v => Own T g H k g.O d v
  | .p k, d, v => v = g.P i ∧ Own T g H k (g.F i) d v
  | .e w, _, v => v = w
  | .l, d, v => Shr T g.bare H d v
/-- the objects -/
structure SR (T : Th) (g : G) (S : Store) (H : Hp) : Prop where
  N : g.N = S.length
  inj : ∀ m n, m < g.N → n < g.N → g.μ m = g.μ n → m = n
  mB : ∀ n, n < g.N → g.B (g.μ n)
  bB : ∀ n f a, g.BF n f a → g.B a ∧ ∀ m, m < g.N → a ≠ g.μ m
  bd : ∀ n f m e a, g.BF n f a → g.BF m e a → n = m ∧ f = e
  nd : ∀ (n : Nat) (o : Ob), S[n]? = some o → (o.fs.map (·.1)).Nodup
  ob : ∀ n o, S[n]? = some o → ∃ dx fs, H (g.μ n) = some (.ins (T.cA o.cls) dx fs) ∧ fs.map (·.1) = o.fs.map (·.1) ∧ ∀ (j : Nat) (d : Str × D) (w : Str × V), o.fs[j]? = some d → fs[j]? = some w → Own T g H (T.fm o.cls d.1) (g.BF n d.1) d.2 w.2
structure Rel (T : Th) (g : G) (Γ : List Md) (ρ : Env) (S : Store) (σ : L2.St) (H : Hp) : Prop where
  len : ρ.length = σ.length
  slot : ∀ (i : Nat) d, ρ[i]? = some (some d) → ∃ v, σ[i]? = some (some v) ∧ RepM T g H i (Γ.getD i .s) d v
  dF : ∀ i j a, g.F i a → g.F j a → i = j
  dFO : ∀ i a, g.F i a → ¬ g.O a
  dFB : ∀ i a, g.F i a → ¬ g.B a
  dOB : ∀ a, g.O a → ¬ g.B a
  dom : ∀ a, g.U a → ∃ o, H a = some o
  st : SR T g S H
  /-- what may be written is no tuple -/
  nt : ∀ a, g.U a → ∀ u, ¬ Rd H a (.tup u)
end Q

/-! What expressions come to. -/
namespace Q
open PySem PySem.Spec PyProof.Rows L2
abbrev Exx (H H' : Hp) : Prop := ∀ a o, H a = some o → H' a = some o
theorem Exx.nt {H H' : Hp} {U : Addr → Prop} (dm : ∀ a, U a → ∃ o, H a = some o) (nt : ∀ a, U a → ∀ u, ¬ Rd H a (.tup u)) (e : Exx H H') : ∀ a, U a → ∀ u, ¬ Rd H' a (.tup u) := fun a h u r => by
  obtain ⟨o, q⟩ := dm a h
  have q' := e a o q
  refine nt a h u (r.imp (fun z => ?_) fun ⟨b, z⟩ => ⟨b, ?_⟩)
  · rw [q'] at z; cases z; exact q
  · rw [q'] at z; cases z; exact q
theorem Exx.refl (H : Hp) : Exx H H := fun _ _ h => h
theorem Exx.new {H : Hp} {p : Addr} {o : HO} (h : H p = none) : Exx H (upd H p o) := fun a u e => by
  rw [upd_ne (ne_of_none e h)]; exact e
theorem Exx.trans {H H1 H2 : Hp} (a : Exx H H1) (b : Exx H1 H2) : Exx H H2 := fun x o h => b x o (a x o h)
section
variable {T : Th} {g g' : G} {H H' : Hp}
theorem Stay.ex (e : Exx H H') : Stay g H g H' := ⟨fun a o h _ => e a o h, fun _ h => .inl h, Nat.le_refl _, fun _ _ => rfl, rfl⟩
/-- the owned form stands where all that was tracked stands -/
theorem Own.keep (st : Stay g H g' H') (ke : ∀ (F : Addr → Prop) a o, F a → H a = some o → H' a = some o) : ∀ (k : Nat) (F : Addr → Prop) (d : D) (v : V), Own T g H k F d v → Own T g' H' k F d v := by
  intro k
  induction k with
  | zero =>
    intro F d v h
    simp only [Own] at h ⊢
    exact h.stay st
  | succ k ih =>
    intro F d v h
    cases d with
    | lst l =>
      simp only [Own] at h ⊢
      obtain ⟨p, vs, e, hF, hH, hl, Gs, h1, h2, h3⟩ := h
      exact ⟨p, vs, e, hF, ke F p _ hF hH, hl, Gs, h1, h2, fun j d w a b => ih (Gs j) d w (h3 j d w a b)⟩
    | dct l =>
      simp only [Own] at h ⊢
      obtain ⟨p, vs, e, hF, hH, hl, Gs, h1, h2, h3⟩ := h
      exact ⟨p, vs, e, hF, hH.at fun o z => ke F p o hF z, hl, Gs, h1, h2, fun j d w a b => ⟨(h3 j d w a b).1.stay st, ih (Gs j) d.2 w.2 (h3 j d w a b).2⟩⟩
    | _ => simp only [Own] at h ⊢; exact h.stay st
/-- .. where what F may write stands -/
theorem Own.keepF (st : Stay g H g' H') : ∀ (k : Nat) (F : Addr → Prop) (d : D) (v : V), (∀ a o, F a → H a = some o → H' a = some o) → Own T g H k F d v → Own T g' H' k F d v := by
  intro k
  induction k with
  | zero =>
    intro F d v ke h
    simp only [Own] at h ⊢
    exact h.stay st
  | succ k ih =>
    intro F d v ke h
    cases d with
    | lst l =>
      simp only [Own] at h ⊢
      obtain ⟨p, vs, e, hF, hH, hl, Gs, h1, h2, h3⟩ := h
      exact ⟨p, vs, e, hF, ke p _ hF hH, hl, Gs, h1, h2, fun j d w a b => ih (Gs j) d w (fun a o z q => ke a o (h1 j a z).1 q) (h3 j d w a b)⟩
    | dct l =>
      simp only [Own] at h ⊢
      obtain ⟨p, vs, e, hF, hH, hl, Gs, h1, h2, h3⟩ := h
      exact ⟨p, vs, e, hF, hH.at fun o z => ke p o hF z, hl, Gs, h1, h2, fun j d w a b => ⟨(h3 j d w a b).1.stay st, ih (Gs j) d.2 w.2 (fun a o z q => ke a o (h1 j a z).1 q) (h3 j d w a b).2⟩⟩
    | _ => simp only [Own] at h ⊢; exact h.stay st
/-- the same at a larger ground -/
theorem Own.wide : ∀ (k : Nat) (F F' : Addr → Prop) (d : D) (v : V), (∀ a, F a → F' a) → Own T g H k F d v → Own T g H k F' d v := by
  intro k F F' d v hf h
  cases k with
  | zero => simpa only [Own] using h
  | succ k =>
    cases d with
    | lst l =>
      simp only [Own] at h ⊢
      obtain ⟨p, vs, e, hF, hH, hl, Gs, h1, h2, h3⟩ := h
      exact ⟨p, vs, e, hf _ hF, hH, hl, Gs, fun j q z => ⟨hf _ (h1 j q z).1, (h1 j q z).2⟩, h2, h3⟩
    | dct l =>
      simp only [Own] at h ⊢
      obtain ⟨p, vs, e, hF, hH, hl, Gs, h1, h2, h3⟩ := h
      exact ⟨p, vs, e, hf _ hF, hH, hl, Gs, fun j q z => ⟨hf _ (h1 j q z).1, (h1 j q z).2⟩, h2, h3⟩
    | _ => simpa only [Own] using h
theorem SR.keep {S : Store} (r : SR T g S H) (st : Stay g H g' H') (ke : ∀ a o, g.B a → H a = some o → H' a = some o) (hN : g'.N = g.N) (hB : g'.B = g.B) (hBF : g'.BF = g.BF) (hμ : ∀ n, n < g.N → g'.μ n = g.μ n) : SR T g' S H' where
  N := hN.trans r.N
  inj := fun m n hm hn e => by
    rw [hN] at hm hn
    rw [hμ m hm, hμ n hn] at e
    exact r.inj m n hm hn e
  mB := fun n hn => by rw [hN] at hn; rw [hμ n hn, hB]; exact r.mB n hn
  bB := fun n f a h => by
    rw [hBF] at h
    rw [hB]
    exact ⟨(r.bB n f a h).1, fun m hm => by rw [hN] at hm; rw [hμ m hm]; exact (r.bB n f a h).2 m hm⟩
  bd := fun n f m e a h h' => by rw [hBF] at h h'; exact r.bd n f m e a h h'
  nd := r.nd
  ob := fun n o e => by
    have hn : n < g.N := by rw [r.N]; exact (List.getElem?_eq_some_iff.mp e).1
    obtain ⟨dx, fs, h1, h2, h3⟩ := r.ob n o e
    refine ⟨dx, fs, ?_, h2, fun j d w a b => ?_⟩
    · rw [hμ n hn]; exact ke _ _ (r.mB n hn) h1
    · rw [hBF]
      exact Own.keepF st _ _ _ _ (fun a o z q => ke a o (r.bB n _ a z).1 q) (h3 j d w a b)
theorem Rel.ex {Γ : List Md} {ρ : Env} {S : Store} {σ : L2.St} (r : Rel T g Γ ρ S σ H) (e : Exx H H') : Rel T g Γ ρ S σ H' where
  len := r.len
  slot := fun i d h => by
    obtain ⟨v, h1, h2⟩ := r.slot i d h
    refine ⟨v, h1, ?_⟩
    cases hm : Γ.getD i .s <;> rw [hm] at h2 <;> simp only [RepM] at h2 ⊢
    · exact h2.stay (.ex e)
    · exact Own.keepF (.ex e) _ _ _ _ (fun a o _ q => e a o q) h2
    · exact Own.keepF (.ex e) _ _ _ _ (fun a o _ q => e a o q) h2
    · exact ⟨h2.1, Own.keepF (.ex e) _ _ _ _ (fun a o _ q => e a o q) h2.2⟩
    · exact h2
    · exact h2.stay (.ex e)
  dF := r.dF
  dFO := r.dFO
  dFB := r.dFB
  dOB := r.dOB
  dom := fun a h => by obtain ⟨o, q⟩ := r.dom a h; exact ⟨o, e a o q⟩
  st := r.st.keep (.ex e) (fun a o _ q => e a o q) rfl rfl rfl fun _ _ => rfl
  nt := e.nt r.dom r.nt
end
theorem G.bare_U {g : G} {a : Addr} (h : g.bare.U a) : g.U a := by
  rcases h with h | h | h
  · exact h.elim
  · exact .inr (.inl h)
  · exact .inr (.inr h)
theorem bare_sub {g g2 : G} {H : Hp} (hN : g.N = g2.N) (hμ : g2.μ = g.μ) (hF : ∀ i a, g2.F i a → ∃ j, g.F j a) (hB : ∀ a, g2.B a → g.B a) (hZ : g2.Z = g.Z := by rfl) : Stay g.bare H g2.bare H := ⟨fun _ _ h _ => h, fun a h => .inl (by
  rcases h with h | ⟨i, h⟩ | h
  · exact h.elim
  · exact .inr (.inl (hF i a h))
  · exact .inr (.inr (hB a h))), by show g.N ≤ g2.N; rw [hN]; exact Nat.le_refl _, fun n _ => by show g2.μ n = g.μ n; rw [hμ], hZ⟩
/-- behind an expression -/
structure FrE (g : G) (H : Hp) (g' : G) (H' : Hp) : Prop where
  keep : ∀ a o, H a = some o → ¬ g.B a → H' a = some o
  B : ∀ a, g'.B a → g.B a ∨ H a = none
  F : g'.F = g.F
  O : g'.O = g.O
  P : g'.P = g.P
  N : g.N ≤ g'.N
  μ : ∀ n, n < g.N → g'.μ n = g.μ n
  dom : ∀ a o, H a = some o → ∃ o', H' a = some o'
section
variable {T : Th} {g g1 g2 : G} {H H1 H2 : Hp}
theorem FrE.refl (g : G) (H : Hp) : FrE g H g H := ⟨fun _ _ h _ => h, fun _ h => .inl h, rfl, rfl, rfl, Nat.le_refl _, fun _ _ => rfl, fun _ o h => ⟨o, h⟩⟩
theorem FrE.ex (e : Exx H H1) : FrE g H g H1 := ⟨fun a o h _ => e a o h, fun _ h => .inl h, rfl, rfl, rfl, Nat.le_refl _, fun _ _ => rfl, fun a o h => ⟨o, e a o h⟩⟩
theorem FrE.Z (f : FrE g H g1 H1) : g1.Z = g.Z := by funext k; show g1.P _ = g.P _; rw [f.P]
theorem FrE.stay (f : FrE g H g1 H1) : Stay g H g1 H1 where
  Z := f.Z
  keep := fun a o h hu => f.keep a o h fun z => hu (.inr (.inr z))
  own := fun a h => by
    rcases h with h | h | h
    · rw [f.O] at h; exact .inl (.inl h)
    · rw [f.F] at h; exact .inl (.inr (.inl h))
    · exact (f.B a h).imp (fun z => .inr (.inr z)) id
  N := f.N
  μ := f.μ
theorem FrE.bare (f : FrE g H g1 H1) : Stay g.bare H g1.bare H1 where
  Z := f.Z
  keep := fun a o h hu => f.keep a o h fun z => hu (.inr (.inr z))
  own := fun a h => by
    rcases h with h | h | h
    · exact h.elim
    · have h : ∃ i, g1.F i a := h
      rw [f.F] at h; exact .inl (.inr (.inl h))
    · exact (f.B a h).imp (fun z => .inr (.inr z)) id
  N := f.N
  μ := f.μ
theorem FrE.trans (a : FrE g H g1 H1) (b : FrE g1 H1 g2 H2) : FrE g H g2 H2 where
  keep := fun x o h hb => b.keep x o (a.keep x o h hb) fun z => by
    rcases a.B x z with z | z
    · exact hb z
    · rw [h] at z; cases z
  B := fun x h => by
    rcases b.B x h with h | h
    · exact a.B x h
    · cases e : H x with
      | none => exact .inr rfl
      | some o =>
        by_cases hb : g.B x
        · exact .inl hb
        · have := a.keep x o e hb
          rw [h] at this; cases this
  F := b.F.trans a.F
  O := b.O.trans a.O
  P := b.P.trans a.P
  N := Nat.le_trans a.N b.N
  μ := fun n h => (b.μ n (Nat.lt_of_lt_of_le h a.N)).trans (a.μ n h)
  dom := fun x o h => by
    obtain ⟨o', h'⟩ := a.dom x o h
    exact b.dom x o' h'
end
/-- an exception's class and own dict -/
def ExcR (T : Th) (g : G) (H : Hp) (x : Exc) (c : Value) (dd : Option Addr) : Prop :=
  x.cls < T.nc ∧ c = .ref (T.cA x.cls) ∧ ((x.args = [] ∧ dd = none) ∨ ∃ d fs, x.args ≠ [] ∧ dd = some d ∧ H d = some (.xd fs) ∧ fs.map (·.1) = x.args.map (·.1) ∧ ShrL T g H (x.args.map (·.2)) (fs.map (·.2)))
def GoodE (T : Th) (W : WX) (Γ : List Md) (ρ : Env) (σ : L2.St) (g : G) (H : Hp) : RE → VK → Prop
  | .ok d S', Q => ∀ v g' H', Rel T g' Γ ρ S' σ H' → FrE g H g' H' → Shr T g' H' d v → Q v H'
  | .exc x S', _ => ∀ c dd g' H', Rel T g' Γ ρ S' σ H' → FrE g H g' H' → ExcR T g' H' x c dd → W c dd σ H'
  | .no, _ => False
def GoodL (T : Th) (W : WX) (Γ : List Md) (ρ : Env) (σ : L2.St) (g : G) (H : Hp) : RL → (List V → Hp → Prop) → Prop
  | .ok d S', Q => ∀ v g' H', Rel T g' Γ ρ S' σ H' → FrE g H g' H' → ShrL T g' H' d v → Q v H'
  | .exc x S', _ => ∀ c dd g' H', Rel T g' Γ ρ S' σ H' → FrE g H g' H' → ExcR T g' H' x c dd → W c dd σ H'
  | .no, _ => False
def GoodT (T : Th) (W : WX) (Γ : List Md) (ρ : Env) (σ : L2.St) (g : G) (H : Hp) : RE → (Bool → Hp → Prop) → Prop
  | .ok d S', Q => ∃ b, d = .bl b ∧ ∀ g' H', Rel T g' Γ ρ S' σ H' → FrE g H g' H' → Q b H'
  | .exc x S', _ => ∀ c dd g' H', Rel T g' Γ ρ S' σ H' → FrE g H g' H' → ExcR T g' H' x c dd → W c dd σ H'
  | .no, _ => False
def tX (T : Th) (W : WX) (Γ : List Md) (F : FE) : TE := fun σ H Q => ∃ g ρ S, Rel T g Γ ρ S σ H ∧ GoodE T W Γ ρ σ g H (F ρ S) Q
def tXL (T : Th) (W : WX) (Γ : List Md) (F : FL) : TA := fun σ H Q => ∃ g ρ S, Rel T g Γ ρ S σ H ∧ GoodL T W Γ ρ σ g H (F ρ S) Q
def tXT (T : Th) (W : WX) (Γ : List Md) (F : FE) : TT := fun σ H Q => ∃ g ρ S, Rel T g Γ ρ S σ H ∧ GoodT T W Γ ρ σ g H (F ρ S) Q
abbrev XE (X : Cx) (T : Th) (W : WX) (Γ : List Md) (e : Expr) (F : FE) : Prop := PE X e (tX T W Γ F)
abbrev XL (X : Cx) (T : Th) (W : WX) (Γ : List Md) (es : List Expr) (F : FL) : Prop := PA X es (tXL T W Γ F)
abbrev XT (X : Cx) (T : Th) (W : WX) (Γ : List Md) (e : Expr) (F : FE) : Prop := PT X e (tXT T W Γ F)
theorem pe_imp {X : Cx} {e : Expr} {t t' : TE} (h : PE X e t) (i : ∀ σ H Q, t' σ H Q → t σ H Q) : PE X e t' := ⟨fun pins s σ H Q I q => h.run pins s σ H Q I (i σ H Q q)⟩
theorem pt_imp {X : Cx} {e : Expr} {t t' : TT} (h : PT X e t) (i : ∀ σ H Q, t' σ H Q → t σ H Q) : PT X e t' := ⟨fun pins s σ H Q I q => h.run pins s σ H Q I (i σ H Q q)⟩
theorem pw_imp {X : Cx} {e : Expr} {t t' : TT} (h : PW X e t) (i : ∀ σ H Q, t' σ H Q → t σ H Q) : PW X e t' := ⟨fun w pins s σ H Q I q => h.run w pins s σ H Q I (i σ H Q q)⟩
theorem pa_imp {X : Cx} {e : List Expr} {t t' : TA} (h : PA X e t) (i : ∀ σ H Q, t' σ H Q → t σ H Q) : PA X e t' := ⟨fun pos pins s σ H Q I q => h.run pos pins s σ H Q I (i σ H Q q)⟩
/-! ### what the readings are, over the data -/
def RE.bind : RE → (D → Store → RE) → RE
  | .ok d S, k => k d S
  | .exc x S, _ => .exc x S
  | .no, _ => .no
def RE.of (S : Store) : Option D → RE
  | some d => .ok d S
  | none => .no
def eC (d : D) : FE := fun _ S => .ok d S
def eVar (i : Nat) : FE := fun ρ S => match ρ[i]? with
  | some (some d) => .ok d S
  | _ => .no
def eOp (h : D → D → Option D) (a b : FE) : FE := fun ρ S => (a ρ S).bind fun x S1 => (b ρ S1).bind fun y S2 => .of S2 (h x y)
def eUn (h : D → Option D) (a : FE) : FE := fun ρ S => (a ρ S).bind fun x S1 => .of S1 (h x)
def lNil : FL := fun _ S => .ok [] S
def lCons (a : FE) (r : FL) : FL := fun ρ S => match a ρ S with
  | .ok x S1 => (match r ρ S1 with
    | .ok xs S2 => .ok (x :: xs) S2
    | .exc x S2 => .exc x S2
    | .no => .no)
  | .exc x S1 => .exc x S1
  | .no => .no
def eL (h : List D → Option D) (a : FL) : FE := fun ρ S => match a ρ S with
  | .ok xs S1 => .of S1 (h xs)
  | .exc x S1 => .exc x S1
  | .no => .no
def eTup (a : FL) : FE := eL (fun ds => if ds.length ≤ 1000000 then some (.tup ds) else none) a
def eLst (a : FL) : FE := eL (fun ds => if ds.length ≤ 1000000 then some (.lst ds) else none) a
def eAnd (a b : FE) : FE := fun ρ S => (a ρ S).bind fun x S1 => match x with
  | .bl true => b ρ S1
  | .bl false => .ok (.bl false) S1
  | _ => .no
def eOr (a b : FE) : FE := fun ρ S => (a ρ S).bind fun x S1 => match x with
  | .bl true => .ok (.bl true) S1
  | .bl false => b ρ S1
  | _ => .no
def eNot (a : FE) : FE := fun ρ S => (a ρ S).bind fun x S1 => match x with
  | .bl b => .ok (.bl (!b)) S1
  | _ => .no
def eIf (c a b : FE) : FE := fun ρ S => (c ρ S).bind fun x S1 => match x with
  | .bl true => a ρ S1
  | .bl false => b ρ S1
  | _ => .no
section
variable {X : Cx} {T : Th} {W : WX} {Γ : List Md}
/-- from a part's reading to the whole's -/
theorem good_bind {ρ : Env} {σ : L2.St} {g : G} {H : Hp} {r : RE} {k : D → Store → RE} {Q Q' : VK} (h : GoodE T W Γ ρ σ g H (r.bind k) Q)
    (hk : ∀ d S v g' H', r = .ok d S → Rel T g' Γ ρ S σ H' → FrE g H g' H' → Shr T g' H' d v → GoodE T W Γ ρ σ g' H' (k d S) Q → Q' v H') : GoodE T W Γ ρ σ g H r Q' := by
  cases r with
  | ok d S =>
    intro v g' H' R f s
    refine hk d S v g' H' rfl R f s ?_
    have h' : GoodE T W Γ ρ σ g H (k d S) Q := h
    cases e : k d S with
    | ok d2 S2 =>
      rw [e] at h'
      exact fun v2 g2 H2 R2 f2 s2 => h' v2 g2 H2 R2 (f.trans f2) s2
    | exc x S2 =>
      rw [e] at h'
      exact fun c dd g2 H2 R2 f2 s2 => h' c dd g2 H2 R2 (f.trans f2) s2
    | no => rw [e] at h'; exact h'
  | exc x S => exact h
  | no => exact h
theorem good_of {ρ : Env} {σ : L2.St} {g : G} {H : Hp} {S : Store} {o : Option D} {Q : VK} (h : GoodE T W Γ ρ σ g H (.of S o) Q) : ∃ d, o = some d ∧ GoodE T W Γ ρ σ g H (.ok d S) Q := by
  cases o with
  | none => exact h.elim
  | some d => exact ⟨d, rfl, h⟩
theorem xe_c {d : D} {v : V} {e : Expr} (he : PE X e (tC v)) (hs : ∀ g H, Shr T g H d v) : XE X T W Γ e (eC d) := pe_imp he fun σ H Q ⟨g, ρ, S, R, h⟩ => h v g H R (.refl g H) (hs g H)
theorem xe_int {i : Int} {j : Nat} {pos : Pos} : XE X T W Γ (.Constant (.int i) j pos) (eC (.int i)) := xe_c pe_int fun _ _ => by simp only [Shr]
theorem xe_str {x : Str} {j : Nat} {pos : Pos} : XE X T W Γ (.Constant (.str x) j pos) (eC (.str x)) := xe_c pe_str fun _ _ => by simp only [Shr]
theorem xe_bl {b : Bool} {j : Nat} {pos : Pos} : XE X T W Γ (.Constant (.bool b) j pos) (eC (.bl b)) := xe_c pe_bl fun _ _ => by simp only [Shr]
theorem xe_non {j : Nat} {pos : Pos} : XE X T W Γ (.Constant .none j pos) (eC .non) := xe_c pe_non fun _ _ => by simp only [Shr]
/-- a name whose value is shared -/
theorem xe_var {i : Nat} {e : Expr} (he : PE X e (tVar i)) (hm : Γ.getD i .s = .s) : XE X T W Γ e (eVar i) := pe_imp he fun σ H Q ⟨g, ρ, S, R, h⟩ => by
  have h : GoodE T W Γ ρ σ g H (match ρ[i]? with | some (some d) => RE.ok d S | _ => .no) Q := h
  split at h
  · rename_i d e
    obtain ⟨v, h1, h2⟩ := R.slot i d e
    rw [hm] at h2
    exact ⟨v, h1, h v g H R (.refl g H) h2⟩
  · exact h.elim
/-- an operation on values, by its rule -/
def OpOk (T : Th) (r : R2) (h : D → D → Option D) : Prop := ∀ (g : G) (H : Hp) (x y z : D) (v w : V), Shr T g H x v → Shr T g H y w → h x y = some z → (∀ a, g.U a → ∃ o, H a = some o) → ∀ Q : VK, (∀ u H', Exx H H' → Shr T g H' z u → Q u H') → r v w H Q
def UnOk (T : Th) (r : V → Hp → VK → Prop) (h : D → Option D) : Prop := ∀ (g : G) (H : Hp) (x z : D) (v : V), Shr T g H x v → h x = some z → (∀ a, g.U a → ∃ o, H a = some o) → ∀ Q : VK, (∀ u H', Exx H H' → Shr T g H' z u → Q u H') → r v H Q
def LsOk (T : Th) (r : List V → Hp → VK → Prop) (h : List D → Option D) : Prop := ∀ (g : G) (H : Hp) (xs : List D) (z : D) (vs : List V), ShrL T g H xs vs → h xs = some z → (∀ a, g.U a → ∃ o, H a = some o) → ∀ Q : VK, (∀ u H', Exx H H' → Shr T g H' z u → Q u H') → r vs H Q
theorem xe_op {e : Expr} {r : R2} {h : D → D → Option D} {a b : Expr} {A B : FE} (ok : OpOk T r h) (ha : XE X T W Γ a A) (hb : XE X T W Γ b B)
    (he : PE X a (tX T W Γ A) → PE X b (tX T W Γ B) → PE X e (tOp r (tX T W Γ A) (tX T W Γ B))) : XE X T W Γ e (eOp h A B) := pe_imp (he ha hb) fun σ H Q ⟨g, ρ, S, R, hg⟩ =>
  ⟨g, ρ, S, R, good_bind hg fun x S1 v g1 H1 _ R1 f1 s1 hg1 => ⟨g1, ρ, S1, R1, good_bind hg1 fun y S2 w g2 H2 _ R2 f2 s2 hg2 => by
    obtain ⟨z, ez, hg3⟩ := good_of hg2
    exact ok g2 H2 x y z v w (s1.stay f2.stay) s2 ez R2.dom Q fun u H' ex su => hg3 u g2 H' (R2.ex ex) (.ex ex) su⟩⟩
theorem xe_un {e : Expr} {r : V → Hp → VK → Prop} {h : D → Option D} {a : Expr} {A : FE} (ok : UnOk T r h) (ha : XE X T W Γ a A) (he : PE X a (tX T W Γ A) → PE X e (tUn r (tX T W Γ A))) : XE X T W Γ e (eUn h A) := pe_imp (he ha) fun σ H Q ⟨g, ρ, S, R, hg⟩ =>
  ⟨g, ρ, S, R, good_bind hg fun x S1 v g1 H1 _ R1 f1 s1 hg1 => by
    obtain ⟨z, ez, hg3⟩ := good_of hg1
    exact ok g1 H1 x z v s1 ez R1.dom Q fun u H' ex su => hg3 u g1 H' (R1.ex ex) (.ex ex) su⟩
theorem goodL_then {ρ : Env} {σ : L2.St} {g : G} {H : Hp} {A : FL} {h : List D → Option D} {S : Store} {Q : VK} {Q' : List V → Hp → Prop} (hg : GoodE T W Γ ρ σ g H (eL h A ρ S) Q)
    (hk : ∀ ds S' z vs g' H', h ds = some z → Rel T g' Γ ρ S' σ H' → FrE g H g' H' → ShrL T g' H' ds vs → GoodE T W Γ ρ σ g' H' (.ok z S') Q → Q' vs H') : GoodL T W Γ ρ σ g H (A ρ S) Q' := by
  unfold eL at hg
  cases e : A ρ S with
  | ok ds S' =>
    rw [e] at hg
    intro vs g' H' R f s
    obtain ⟨z, ez, hg⟩ := good_of hg
    exact hk ds S' z vs g' H' ez R f s fun v2 g2 H2 R2 f2 s2 => hg v2 g2 H2 R2 (f.trans f2) s2
  | exc x S' => rw [e] at hg; exact hg
  | no => rw [e] at hg; exact hg
theorem xe_L {e : Expr} {r : List V → Hp → VK → Prop} {h : List D → Option D} {as : List Expr} {A : FL} (ok : LsOk T r h) (ha : XL X T W Γ as A) (he : PA X as (tXL T W Γ A) → PE X e (tCB r (tXL T W Γ A))) : XE X T W Γ e (eL h A) := pe_imp (he ha) fun σ H Q ⟨g, ρ, S, R, hg⟩ =>
  ⟨g, ρ, S, R, goodL_then hg fun ds S1 z vs g1 H1 ez R1 f1 s1 hg1 => ok g1 H1 ds z vs s1 ez R1.dom Q fun u H' ex su => hg1 u g1 H' (R1.ex ex) (.ex ex) su⟩
theorem xl_nil : XL X T W Γ [] lNil := pa_imp pa_nil fun σ H Q ⟨g, ρ, S, R, hg⟩ => hg [] g H R (.refl g H) .nil
theorem xl_cons {e : Expr} {es : List Expr} {A : FE} {B : FL} (ha : XE X T W Γ e A) (hb : XL X T W Γ es B) (hx : PE X e (tX T W Γ A) → PA X es (tXL T W Γ B) → PA X (e :: es) (tCons (tX T W Γ A) (tXL T W Γ B))) : XL X T W Γ (e :: es) (lCons A B) := pa_imp (hx ha hb) fun σ H Q ⟨g, ρ, S, R, hg⟩ => by
  refine ⟨g, ρ, S, R, ?_⟩
  unfold lCons at hg
  cases e : A ρ S with
  | ok x S1 =>
    rw [e] at hg
    intro v g1 H1 R1 f1 s1
    refine ⟨g1, ρ, S1, R1, ?_⟩
    cases e2 : B ρ S1 with
    | ok xs S2 =>
      have hg : GoodL T W Γ ρ σ g H (match B ρ S1 with | .ok xs S2 => .ok (x :: xs) S2 | .exc x S2 => .exc x S2 | .no => .no) Q := hg
      rw [e2] at hg
      exact fun vs g2 H2 R2 f2 s2 => hg (v :: vs) g2 H2 R2 (f1.trans f2) (.cons (s1.stay f2.stay) s2)
    | exc y S2 =>
      have hg : GoodL T W Γ ρ σ g H (match B ρ S1 with | .ok xs S2 => .ok (x :: xs) S2 | .exc x S2 => .exc x S2 | .no => .no) Q := hg
      rw [e2] at hg
      exact fun c dd g2 H2 R2 f2 s2 => hg c dd g2 H2 R2 (f1.trans f2) s2
    | no =>
      have hg : GoodL T W Γ ρ σ g H (match B ρ S1 with | .ok xs S2 => .ok (x :: xs) S2 | .exc x S2 => .exc x S2 | .no => .no) Q := hg
      rw [e2] at hg
      exact hg
  | exc y S1 => rw [e] at hg; exact hg
  | no => rw [e] at hg; exact hg
end
end Q

/-! Operations on values. -/
namespace Q
open PySem PySem.Spec PyProof.Rows L2
theorem opr_or {X : Cx} {f : Value → Value → Sem Value} {r1 r2 : R2} (a : OpR X f r1) (b : OpR X f r2) : OpR X f (fun x y H Q => r1 x y H Q ∨ r2 x y H Q) := fun pins s σ H x y v u Q I rx ry h =>
  h.elim (a pins s σ H x y v u Q I rx ry) (b pins s σ H x y v u Q I rx ry)
theorem callr_or {X : Cx} {f : Value} {r1 r2 : List V → Hp → VK → Prop} (a : CallR X f r1) (b : CallR X f r2) : CallR X f (fun x H Q => r1 x H Q ∨ r2 x H Q) := fun pins s σ H xs us Q I r h =>
  h.elim (a pins s σ H xs us Q I r) (b pins s σ H xs us Q I r)
theorem ixr_or {X : Cx} {r1 r2 : R2} (a : IxR X r1) (b : IxR X r2) : IxR X (fun x y H Q => r1 x y H Q ∨ r2 x y H Q) := fun value slice pins s σ H x y v u Q I rx ry h =>
  h.elim (a value slice pins s σ H x y v u Q I rx ry) (b value slice pins s σ H x y v u Q I rx ry)
section
variable {T : Th} {g : G} {H : Hp}
theorem shr_int {i : Int} {v : V} : Shr T g H (.int i) v ↔ v = .int i := by simp only [Shr]
theorem shr_bl {i : Bool} {v : V} : Shr T g H (.bl i) v ↔ v = .bl i := by simp only [Shr]
theorem shr_str {i : Str} {v : V} : Shr T g H (.str i) v ↔ v = .str i := by simp only [Shr]
theorem shr_non {v : V} : Shr T g H .non v ↔ v = .non := by simp only [Shr]
theorem shr_tup {l : List D} {v : V} : Shr T g H (.tup l) v ↔ ∃ a vs, v = .ref a ∧ LkT T.K g.U H a vs ∧ ShrL T g H l vs := by simp only [Shr]
theorem shr_lst {l : List D} {v : V} : Shr T g H (.lst l) v ↔ ∃ a vs, v = .ref a ∧ (H a = some (.lst vs) ∧ ¬ g.U a) ∧ ShrL T g H l vs := by simp only [Shr]
theorem shr_scr {l : List D} {v : V} : Shr T g H (.scr l) v ↔ ∃ a vs, v = .ref a ∧ LkL T.K g.U H a vs ∧ ShrL T g H l vs := by simp only [Shr]
/-- a new tuple, a new list -/
theorem shr_newT {l : List D} {vs : List V} {p : Addr} (h : ShrL T g H l vs) (hp : H p = none) (hd : ∀ a, g.U a → ∃ o, H a = some o) : Shr T g (upd H p (.tup vs)) (.tup l) (.ref p) := shr_tup.mpr
  ⟨p, vs, rfl, .inl ⟨.inl upd_same, fun u => by obtain ⟨o, e⟩ := hd p u; rw [hp] at e; cases e⟩, h.stay (.ex (Exx.new hp)) _ _⟩
theorem shr_newL {l : List D} {vs : List V} {p : Addr} (h : ShrL T g H l vs) (hp : H p = none) (hd : ∀ a, g.U a → ∃ o, H a = some o) : Shr T g (upd H p (.lst vs)) (.lst l) (.ref p) := shr_lst.mpr
  ⟨p, vs, rfl, ⟨upd_same, fun u => by obtain ⟨o, e⟩ := hd p u; rw [hp] at e; cases e⟩, h.stay (.ex (Exx.new hp)) _ _⟩
end
/-! ### ints -/
def oI (f : Int → Int → Option D) : D → D → Option D
  | .int a, .int b => f a b
  | _, _ => none
theorem oI_ok {T : Th} {C : Int → Int → Prop} {g : Int → Int → V} {f : Int → Int → Option D} (h : ∀ a b z, f a b = some z → C a b ∧ ∀ (g' : G) (H : Hp), Shr T g' H z (g a b)) : OpOk T (rI C g) (oI f) := by
  intro g' H x y z v w sx sy e hd Q q
  cases x <;> cases y <;> simp only [oI] at e <;> first | cases e | skip
  obtain ⟨c, s⟩ := h _ _ _ e
  exact ⟨_, _, shr_int.mp sx, shr_int.mp sy, c, q _ H (.refl H) (s g' H)⟩
theorem oI0_ok {T : Th} {g : Int → Int → V} {f : Int → Int → Option D} (h : ∀ a b z, f a b = some z → ∀ (g' : G) (H : Hp), Shr T g' H z (g a b)) : OpOk T (rI0 g) (oI f) := by
  intro g' H x y z v w sx sy e hd Q q
  cases x <;> cases y <;> simp only [oI] at e <;> first | cases e | skip
  exact ⟨_, _, shr_int.mp sx, shr_int.mp sy, q _ H (.refl H) (h _ _ _ e g' H)⟩
/-- // by a divisor that is not nought, below 2 ^ 9000 in size -/
theorem op_fdivA {X : Cx} : OpR X (binaryOp .FloorDiv) (rI (fun _ j => j ≠ 0 ∧ j.natAbs.log2 < 9000) fun i j => .int (i.fdiv j)) := opI fun i j _ _ _ _ _ hc q => floordiv_int hc.1 q (.inl (PyProof.noPylong_of_log2 hc.2))
def hSub := oI fun a b => some (.int (a - b))
def hMod := oI fun a b => if 0 < b then some (.int (a % b)) else none
def hDiv := oI fun a b => if b = 0 ∨ 9000 ≤ b.natAbs.log2 then none else some (.int (a.fdiv b))
def hPow := oI fun a b => if 0 ≤ b ∧ b ≤ 1000000 ∧ a.natAbs < 2 ^ 64 then some (.int (a ^ b.toNat)) else none
def hShl := oI fun a b => if 0 ≤ b ∧ b ≤ 1000000 ∧ a.natAbs < 2 ^ 64 then some (.int (a * 2 ^ b.toNat)) else none
def hShr := oI fun a b => if 0 ≤ b then some (.int (a / 2 ^ b.toNat)) else none
def hAnd := oI fun a b => some (.int (Builtin.bitAnd a b))
def hOr := oI fun a b => some (.int (Builtin.bitOr a b))
def hLt := oI fun a b => some (.bl (decide (a < b)))
def hLe := oI fun a b => some (.bl (decide (a ≤ b)))
def hGt := oI fun a b => some (.bl (decide (b < a)))
def hGe := oI fun a b => some (.bl (decide (b ≤ a)))
def hMulI (a b : Int) : Option D := if a.natAbs.log2 + b.natAbs.log2 < 1000000 then some (.int (a * b)) else none
section
variable {T : Th}
theorem ok_sub : OpOk T (rI0 fun i j => .int (i - j)) hSub := oI0_ok fun _ _ _ e _ _ => by cases e; exact shr_int.mpr rfl
theorem ok_mod : OpOk T (rI (fun _ j => 0 < j) fun i j => .int (i % j)) hMod := oI_ok fun _ _ _ e => by
  split at e
  · cases e; exact ⟨by assumption, fun _ _ => shr_int.mpr rfl⟩
  · cases e
theorem ok_div : OpOk T (rI (fun _ j => j ≠ 0 ∧ j.natAbs.log2 < 9000) fun i j => .int (i.fdiv j)) hDiv := oI_ok fun _ _ _ e => by
  split at e
  · cases e
  · rename_i h
    cases e
    exact ⟨⟨fun z => h (.inl z), Nat.lt_of_not_le fun z => h (.inr z)⟩, fun _ _ => shr_int.mpr rfl⟩
theorem ok_pow : OpOk T (rI CPow fun i j => .int (i ^ j.toNat)) hPow := oI_ok fun _ _ _ e => by
  split at e
  · cases e; exact ⟨by assumption, fun _ _ => shr_int.mpr rfl⟩
  · cases e
theorem ok_shl : OpOk T (rI CPow fun i j => .int (i * 2 ^ j.toNat)) hShl := oI_ok fun _ _ _ e => by
  split at e
  · cases e; exact ⟨by assumption, fun _ _ => shr_int.mpr rfl⟩
  · cases e
theorem ok_shr : OpOk T (rI (fun _ j => 0 ≤ j) fun i j => .int (i / 2 ^ j.toNat)) hShr := oI_ok fun _ _ _ e => by
  split at e
  · cases e; exact ⟨by assumption, fun _ _ => shr_int.mpr rfl⟩
  · cases e
theorem ok_and : OpOk T (rI0 fun i j => .int (Builtin.bitAnd i j)) hAnd := oI0_ok fun _ _ _ e _ _ => by cases e; exact shr_int.mpr rfl
theorem ok_or : OpOk T (rI0 fun i j => .int (Builtin.bitOr i j)) hOr := oI0_ok fun _ _ _ e _ _ => by cases e; exact shr_int.mpr rfl
theorem ok_lt : OpOk T (rI0 fun i j => .bl (decide (i < j))) hLt := oI0_ok fun _ _ _ e _ _ => by cases e; exact shr_bl.mpr rfl
theorem ok_le : OpOk T (rI0 fun i j => .bl (decide (i ≤ j))) hLe := oI0_ok fun _ _ _ e _ _ => by cases e; exact shr_bl.mpr rfl
theorem ok_gt : OpOk T (rI0 fun i j => .bl (decide (j < i))) hGt := oI0_ok fun _ _ _ e _ _ => by cases e; exact shr_bl.mpr rfl
theorem ok_ge : OpOk T (rI0 fun i j => .bl (decide (j ≤ i))) hGe := oI0_ok fun _ _ _ e _ _ => by cases e; exact shr_bl.mpr rfl
end
/-! ### + and *, over ints, texts, tuples, lists -/
def hAdd : D → D → Option D
  | .int a, .int b => some (.int (a + b))
  | .str a, .str b => if a.length + b.length ≤ 1000000 then some (.str (a ++ b)) else none
  | .tup a, .tup b => if 0 < a.length ∧ a.length + b.length ≤ 1000000 then (if b.length = 0 then some (.tup a) else some (.tup (a ++ b))) else none
  | .lst a, .lst b => if a.length + b.length ≤ 1000000 then some (.lst (a ++ b)) else none
  | _, _ => none
theorem sz6 {n : Nat} (h : n ≤ 1000000) : n ≤ sizeLine := by rw [sizeLine_eq]; omega
/-- one of several rules -/
theorem hAdd_int (a b : Int) : hAdd (.int a) (.int b) = some (.int (a + b)) := rfl
abbrev rAddA (K : PySem.W.Frag) : R2 := fun x y H Q => rI0 (fun i j => .int (i + j)) x y H Q ∨ (∃ a b, x = .str a ∧ y = .str b ∧ a.length + b.length ≤ sizeLine ∧ Q (.str (a ++ b)) H) ∨ rCatT K x y H Q ∨ rCat x y H Q
theorem op_addA {X : Cx} : OpR X (binaryOp .Add) (rAddA X.K) := opr_or op_add (opr_or op_add_str (opr_or op_catT op_cat))
theorem ok_add {T : Th} : OpOk T (rAddA T.K) hAdd := by
  intro g H x y z v w sx sy e hd Q q
  cases x <;> cases y <;> simp only [hAdd] at e <;> first | cases e | skip
  · exact .inl ⟨_, _, shr_int.mp sx, shr_int.mp sy, q _ H (.refl H) (shr_int.mpr rfl)⟩
  · split at e
    · rename_i hl
      cases e
      exact .inr (.inl ⟨_, _, shr_str.mp sx, shr_str.mp sy, sz6 hl, q _ H (.refl H) (shr_str.mpr rfl)⟩)
    · cases e
  · split at e
    · rename_i hl
      obtain ⟨a, vs, rfl, la, ra⟩ := shr_tup.mp sx
      obtain ⟨b, ws, rfl, lb, rb⟩ := shr_tup.mp sy
      have l1 := ra.length
      have l2 := rb.length
      refine .inr (.inr (.inl ⟨a, b, vs, ws, rfl, rfl, la.sq, lb.sq, ?_, by rw [← l1, ← l2]; exact sz6 hl.2, ?_, ?_⟩))
      · rintro rfl
        have := hl.1
        rw [l1] at this
        exact Nat.lt_irrefl _ this
      · intro hw
        rw [if_pos (by rw [l2, hw]; rfl)] at e
        cases e
        exact q _ H (.refl H) sx
      · intro hw p hp
        rw [if_neg (by rw [l2]; exact fun z => hw (List.length_eq_zero_iff.mp z))] at e
        cases e
        exact q _ _ (Exx.new hp) (shr_newT (ra.append rb) hp hd)
    · cases e
  · split at e
    · rename_i hl
      cases e
      obtain ⟨a, vs, rfl, la, ra⟩ := shr_lst.mp sx
      obtain ⟨b, ws, rfl, lb, rb⟩ := shr_lst.mp sy
      have l1 := ra.length
      have l2 := rb.length
      exact .inr (.inr (.inr ⟨a, b, vs, ws, rfl, rfl, la.1, lb.1, by rw [← l1, ← l2]; exact sz6 hl, fun p hp => q _ _ (Exx.new hp) (shr_newL (ra.append rb) hp hd)⟩))
    · cases e
end Q

/-! More operations; tests. -/
namespace Q
open PySem PySem.Spec PyProof.Rows L2
section
variable {T : Th} {g : G} {H : Hp}
/-! ### subscripts -/
abbrev rIxA (K : PySem.W.Frag) : R2 := fun x y H Q => rIxL K x y H Q ∨ rIxT K x y H Q ∨ rIxS x y H Q
theorem ix_A {X : Cx} : IxR X (rIxA X.K) := ixr_or ix_list (ixr_or ix_tup ix_str)
def hIx : D → D → Option D
  | .lst l, .int i => atI l i
  | .scr l, .int i => atI l i
  | .tup l, .int i => atI l i
  | .str z, .int i => if z.length ≤ 1000000 then (atI z.cps.toList i).map fun c => .str ⟨#[c]⟩ else none
  | _, _ => none
theorem atI_shr {l : List D} {vs : List V} {i : Int} {d : D} (h : ShrL T g H l vs) (e : atI l i = some d) : ∃ v, atI vs i = some v ∧ Shr T g H d v := by
  unfold atI at e ⊢
  rw [← h.length]
  cases q : ixN l.length i with
  | none => rw [q] at e; cases e
  | some j =>
    rw [q] at e
    exact h.get e
theorem ok_ix : OpOk T (rIxA T.K) hIx := by
  intro g H x y z v w sx sy e hd Q q
  cases x <;> cases y <;> simp only [hIx] at e <;> first | cases e | skip
  · split at e
    · rename_i hl
      obtain ⟨c, e1, e2⟩ := Option.map_eq_some_iff.mp e
      subst e2
      exact .inr (.inr ⟨_, _, c, shr_str.mp sx, shr_int.mp sy, sz6 hl, e1, q _ H (.refl H) (shr_str.mpr rfl)⟩)
    · cases e
  · obtain ⟨a, vs, rfl, la, ra⟩ := shr_tup.mp sx
    obtain ⟨u, h1, h2⟩ := atI_shr ra e
    exact .inr (.inl ⟨a, vs, _, u, rfl, shr_int.mp sy, la.sq, h1, q u H (.refl H) h2⟩)
  · obtain ⟨a, vs, rfl, la, ra⟩ := shr_lst.mp sx
    obtain ⟨u, h1, h2⟩ := atI_shr ra e
    exact .inl ⟨a, vs, _, u, rfl, shr_int.mp sy, .of la.1, h1, q u H (.refl H) h2⟩
  · obtain ⟨a, vs, rfl, la, ra⟩ := shr_scr.mp sx
    obtain ⟨u, h1, h2⟩ := atI_shr ra e
    exact .inl ⟨a, vs, _, u, rfl, shr_int.mp sy, la.sq, h1, q u H (.refl H) h2⟩
/-! ### * -/
/-- * of two factors of together less than 134 millions of bits -/
def CMulB (i j : Int) : Prop := i.natAbs.log2 + j.natAbs.log2 < 134000000
theorem CMulB.ok {i j : Int} (h : CMulB i j) : IntMulOk i j := by
  have b : ∀ x : Int, Builtin.Int.intBits x ≤ x.natAbs.log2 + 1 := fun x => by
    unfold Builtin.Int.intBits
    split <;> omega
  have h3 : i.natAbs.log2 + j.natAbs.log2 < 134000000 := h
  exact PySem.IntMulOk.of_le (b i) (b j) (by omega)
theorem op_mulB {X : Cx} : OpR X (binaryOp .Mult) (rI CMulB fun i j => .int (i * j)) := opI fun _ _ _ _ _ _ _ hc q => mul_int q hc.ok
abbrev rMulA : R2 := fun x y H Q => rI CMulB (fun i j => .int (i * j)) x y H Q ∨ rRep x y H Q
theorem op_mulA {X : Cx} : OpR X (binaryOp .Mult) rMulA := opr_or op_mulB op_rep
def rep (l : List D) (k : Nat) : List D := (List.replicate k l).flatten
def hMul : D → D → Option D
  | .int a, .int b => if a.natAbs.log2 + b.natAbs.log2 < 134000000 then some (.int (a * b)) else none
  | .lst l, .int k => if 0 ≤ k ∧ k ≤ 1000000 ∧ l.length * k.toNat ≤ 1000000 then some (.lst (rep l k.toNat)) else none
  | _, _ => none
theorem shrL_rep {l : List D} {vs : List V} (h : ShrL T g H l vs) : ∀ k : Nat, ShrL T g H (rep l k) (List.replicate k vs).flatten
  | 0 => .nil
  | k + 1 => by
    unfold rep
    rw [List.replicate_succ, List.replicate_succ, List.flatten_cons, List.flatten_cons]
    exact h.append (shrL_rep h k)
theorem ok_mul : OpOk T rMulA hMul := by
  intro g H x y z v w sx sy e hd Q q
  cases x <;> cases y <;> simp only [hMul] at e <;> first | cases e | skip
  · split at e
    · rename_i hl
      cases e
      exact .inl ⟨_, _, shr_int.mp sx, shr_int.mp sy, hl, q _ H (.refl H) (shr_int.mpr rfl)⟩
    · cases e
  · split at e
    · rename_i hl
      cases e
      obtain ⟨a, vs, rfl, la, ra⟩ := shr_lst.mp sx
      refine .inr ⟨a, _, vs, rfl, shr_int.mp sy, la.1, by omega, by omega, by rw [← ra.length]; exact sz6 hl.2.2, fun p hp => ?_⟩
      exact q _ _ (Exx.new hp) (shr_newL (shrL_rep ra _) hp hd)
    · cases e
/-! ### unary minus, len, abs, truth -/
def hNeg : D → Option D
  | .int a => some (.int (-a))
  | _ => none
theorem ok_neg : UnOk T (rU fun i => .int (-i)) hNeg := by
  intro g H x z v sx e hd Q q
  cases x <;> simp only [hNeg] at e <;> first | cases e | skip
  exact ⟨_, shr_int.mp sx, q _ H (.refl H) (shr_int.mpr rfl)⟩
abbrev rLenA (K : PySem.W.Frag) : List V → Hp → VK → Prop := fun xs H Q => (∃ p ys, xs = [.ref p] ∧ (SqL K H p ys ∨ SqT K H p ys) ∧ Q (.int ys.length) H) ∨ (∃ z, xs = [.str z] ∧ z.length ≤ sizeLine ∧ Q (.int z.length) H)
theorem call_lenA {X : Cx} : CallR X (.builtin "len") (rLenA X.K) := callr_or call_len_seq call_len_str
def hLen : List D → Option D
  | [.lst l] => some (.int l.length)
  | [.scr l] => some (.int l.length)
  | [.tup l] => some (.int l.length)
  | [.str z] => if z.length ≤ 1000000 then some (.int z.length) else none
  | _ => none
theorem shrL1 {x : D} {vs : List V} (h : ShrL T g H [x] vs) : ∃ v, vs = [v] ∧ Shr T g H x v := by
  simp only [ShrL] at h
  obtain ⟨v, ws, rfl, s, rfl⟩ := h
  exact ⟨v, rfl, s⟩
theorem shrL2 {x y : D} {vs : List V} (h : ShrL T g H [x, y] vs) : ∃ v w, vs = [v, w] ∧ Shr T g H x v ∧ Shr T g H y w := by
  simp only [ShrL] at h
  obtain ⟨v, ws, rfl, s, w, _, rfl, s2, rfl⟩ := h
  exact ⟨v, w, rfl, s, s2⟩
theorem ok_len : LsOk T (rLenA T.K) hLen := by
  intro g H xs z vs sx e hd Q q
  unfold hLen at e
  split at e <;> first | cases e | skip
  · obtain ⟨v, rfl, s⟩ := shrL1 sx
    obtain ⟨a, us, rfl, la, ra⟩ := shr_lst.mp s
    exact .inl ⟨a, us, rfl, .inl (.of la.1), by rw [← ra.length]; exact q _ H (.refl H) (shr_int.mpr rfl)⟩
  · obtain ⟨v, rfl, s⟩ := shrL1 sx
    obtain ⟨a, us, rfl, la, ra⟩ := shr_scr.mp s
    exact .inl ⟨a, us, rfl, .inl la.sq, by rw [← ra.length]; exact q _ H (.refl H) (shr_int.mpr rfl)⟩
  · obtain ⟨v, rfl, s⟩ := shrL1 sx
    obtain ⟨a, us, rfl, la, ra⟩ := shr_tup.mp s
    exact .inl ⟨a, us, rfl, .inr la.sq, by rw [← ra.length]; exact q _ H (.refl H) (shr_int.mpr rfl)⟩
  · split at e
    · rename_i hl
      cases e
      obtain ⟨v, rfl, s⟩ := shrL1 sx
      rw [shr_str.mp s]
      exact .inr ⟨_, rfl, sz6 hl, q _ H (.refl H) (shr_int.mpr rfl)⟩
    · cases e
def hAbs : List D → Option D
  | [.int a] => some (.int (if a < 0 then -a else a))
  | _ => none
theorem ok_abs : LsOk T (fun xs H Q => ∃ i, xs = [.int i] ∧ Q (.int (if i < 0 then -i else i)) H) hAbs := by
  intro g H xs z vs sx e hd Q q
  unfold hAbs at e
  split at e <;> first | cases e | skip
  obtain ⟨v, rfl, s⟩ := shrL1 sx
  rw [shr_int.mp s]
  exact ⟨_, rfl, q _ H (.refl H) (shr_int.mpr rfl)⟩
def hTru : D → Option D
  | .non => some (.bl false)
  | .bl b => some (.bl b)
  | .int i => some (.bl (i != 0))
  | .str z => if z.length ≤ 1000000 then some (.bl ((z.length : Int) != 0)) else none
  | .lst l => some (.bl !l.isEmpty)
  | .scr l => some (.bl !l.isEmpty)
  | .tup l => some (.bl !l.isEmpty)
  | _ => none
theorem isEmpty_len {α β : Type} {l : List α} {vs : List β} (h : l.length = vs.length) : l.isEmpty = vs.isEmpty := by
  cases l <;> cases vs <;> simp_all
theorem tru_shr {d z : D} {v : V} (s : Shr T g H d v) (e : hTru d = some z) : ∃ b, z = .bl b ∧ TruV T.K v H b := by
  cases d <;> simp only [hTru] at e <;> first | cases e | skip
  · rw [shr_non.mp s]; exact ⟨_, rfl, rfl⟩
  · rw [shr_bl.mp s]; exact ⟨_, rfl, rfl⟩
  · rw [shr_int.mp s]; exact ⟨_, rfl, rfl⟩
  · split at e
    · rename_i hl
      cases e
      rw [shr_str.mp s]; exact ⟨_, rfl, sz6 hl, rfl⟩
    · cases e
  · obtain ⟨a, us, rfl, la, ra⟩ := shr_tup.mp s
    exact ⟨_, rfl, .inr (.inl ⟨us, la.sq, by rw [isEmpty_len ra.length]⟩)⟩
  · obtain ⟨a, us, rfl, la, ra⟩ := shr_lst.mp s
    exact ⟨_, rfl, .inl ⟨us, .of la.1, by rw [isEmpty_len ra.length]⟩⟩
  · obtain ⟨a, us, rfl, la, ra⟩ := shr_scr.mp s
    exact ⟨_, rfl, .inl ⟨us, la.sq, by rw [isEmpty_len ra.length]⟩⟩
/-! ### == of data -/
mutual
def toPy : D → Option PyData
  | .non => some .none
  | .bl b => some (.bool b)
  | .int i => some (.int i)
  | .str x => some (.str x)
  | .tup l => (toPyL l).map .tuple
  | .lst l => (toPyL l).map .list
  | _ => none
def toPyL : List D → Option (List PyData)
  | [] => some []
  | d :: ds => match toPy d, toPyL ds with
    | some p, some ps => some (p :: ps)
    | _, _ => none
end
mutual
theorem Shr.dp : ∀ (d : D) (v : V) (p : PyData), Shr T g H d v → toPy d = some p → Dp T.K H v p
  | .non, v, p, s, e => by simp only [toPy] at e; cases e; rw [shr_non.mp s]; exact .non
  | .bl b, v, p, s, e => by simp only [toPy] at e; cases e; rw [shr_bl.mp s]; exact .bl b
  | .int i, v, p, s, e => by simp only [toPy] at e; cases e; rw [shr_int.mp s]; exact .int i
  | .str i, v, p, s, e => by simp only [toPy] at e; cases e; rw [shr_str.mp s]; exact .str i
  | .tup l, v, p, s, e => by
    simp only [toPy] at e
    obtain ⟨ps, e1, e2⟩ := Option.map_eq_some_iff.mp e
    subst e2
    obtain ⟨a, us, rfl, la, ra⟩ := shr_tup.mp s
    exact .tup la.sq (ShrL.dp l us ps ra e1)
  | .lst l, v, p, s, e => by
    simp only [toPy] at e
    obtain ⟨ps, e1, e2⟩ := Option.map_eq_some_iff.mp e
    subst e2
    obtain ⟨a, us, rfl, la, ra⟩ := shr_lst.mp s
    exact .lst (.of la.1) (ShrL.dp l us ps ra e1)
  | .scr l, v, p, s, e => by simp [toPy] at e
  | .dct l, v, p, s, e => by simp [toPy] at e
  | .obj l, v, p, s, e => by simp [toPy] at e
  | .fn k l, v, p, s, e => by simp [toPy] at e
  | .gone k, v, p, s, e => by simp [toPy] at e
theorem ShrL.dp : ∀ (ds : List D) (vs : List V) (ps : List PyData), ShrL T g H ds vs → toPyL ds = some ps → DpAll T.K H vs ps
  | [], vs, ps, s, e => by
    simp only [toPyL] at e; cases e
    simp only [ShrL] at s; subst s
    exact .nil
  | d :: ds, vs, ps, s, e => by
    simp only [toPyL] at e
    simp only [ShrL] at s
    obtain ⟨v, ws, rfl, s1, s2⟩ := s
    split at e
    · rename_i p ps' e1 e2
      cases e
      exact .cons (Shr.dp d v p s1 e1) (ShrL.dp ds ws ps' s2 e2)
    · cases e
end
def hEq (x y : D) : Option D := match toPy x, toPy y with
  | some p, some q => if SeqAt.shaped p = true ∧ SeqAt.shaped q = true then some (.bl (PyData.eqv p q)) else none
  | _, _ => none
def hNe (x y : D) : Option D := match toPy x, toPy y with
  | some p, some q => if SeqAt.shaped p = true ∧ SeqAt.shaped q = true then some (.bl (!PyData.eqv p q)) else none
  | _, _ => none
theorem ok_eq : OpOk T (rEqD T.K) hEq := by
  intro g H x y z v w sx sy e hd Q q
  unfold hEq at e
  split at e
  · rename_i p p' e1 e2
    split at e
    · rename_i h
      cases e
      exact ⟨p, p', sx.dp _ _ _ e1, sy.dp _ _ _ e2, h.1, h.2, q _ H (.refl H) (shr_bl.mpr rfl)⟩
    · cases e
  · cases e
theorem ok_ne : OpOk T (rNeD T.K) hNe := by
  intro g H x y z v w sx sy e hd Q q
  unfold hNe at e
  split at e
  · rename_i p p' e1 e2
    split at e
    · rename_i h
      cases e
      exact ⟨p, p', sx.dp _ _ _ e1, sy.dp _ _ _ e2, h.1, h.2, q _ H (.refl H) (shr_bl.mpr rfl)⟩
    · cases e
  · cases e
def hIsN : D → D → Option D
  | .non, .non => some (.bl true)
  | .fn _ _, _ => none
  | .gone _, _ => none
  | _, .non => some (.bl false)
  | _, _ => none
def hNotN : D → D → Option D
  | .non, .non => some (.bl false)
  | .fn _ _, _ => none
  | .gone _, _ => none
  | _, .non => some (.bl true)
  | _, _ => none
theorem shr_ne_non {d : D} {v : V} (s : Shr T g H d v) (h : d ≠ .non) (h' : ∀ k, d ≠ .gone k) : v ≠ .non := by
  cases d <;> simp only [Shr] at s <;> first | exact absurd rfl h | exact absurd rfl (h' _) | skip
  all_goals first
    | (rw [s]; intro z; cases z)
    | (obtain ⟨a, vs, rfl, _⟩ := s; intro z; cases z)
    | (rw [s.2]; intro z; cases z)
    | exact s.elim
/-! ### in, over lists and tuples of flat data -/
def flatD : D → Bool
  | .non => true
  | .bl _ => true
  | .int _ => true
  | .str _ => true
  | _ => false
def eqD : D → D → Bool
  | .non, .non => true
  | .bl a, .bl b => a == b
  | .bl a, .int b => (if a then 1 else 0) == b
  | .int a, .bl b => a == (if b then 1 else 0)
  | .int a, .int b => a == b
  | .str a, .str b => a == b
  | _, _ => false
theorem flat_shr {d : D} {v : V} (s : Shr T g H d v) (h : flatD d = true) : flatV v = true := by
  cases d <;> simp only [flatD] at h <;> first | cases h | skip
  · rw [shr_non.mp s]; rfl
  · rw [shr_bl.mp s]; rfl
  · rw [shr_int.mp s]; rfl
  · rw [shr_str.mp s]; rfl
theorem eqD_shr {d e : D} {v w : V} (s : Shr T g H d v) (t : Shr T g H e w) (h : flatD d = true) (h' : flatD e = true) : eqV v w = eqD d e := by
  cases d <;> simp only [flatD] at h <;> first | cases h | skip
  all_goals (cases e <;> simp only [flatD] at h' <;> first | cases h' | skip)
  all_goals (simp only [Shr] at s t; subst s; subst t; rfl)
theorem allFlat {ds : List D} {vs : List V} (s : ShrL T g H ds vs) (h : ds.all flatD = true) : vs.all flatV = true := by
  induction ds generalizing vs with
  | nil => simp only [ShrL] at s; subst s; rfl
  | cons d ds ih =>
    simp only [ShrL] at s
    obtain ⟨v, ws, rfl, s1, s2⟩ := s
    rw [List.all_cons, Bool.and_eq_true] at h ⊢
    exact ⟨flat_shr s1 h.1, ih s2 h.2⟩
theorem anyEq {x : D} {v : V} (sx : Shr T g H x v) (hx : flatD x = true) {ds : List D} {vs : List V} (s : ShrL T g H ds vs) (h : ds.all flatD = true) : inV v vs = ds.any fun y => eqD y x := by
  unfold inV
  induction ds generalizing vs with
  | nil => simp only [ShrL] at s; subst s; rfl
  | cons d ds ih =>
    simp only [ShrL] at s
    obtain ⟨v', ws, rfl, s1, s2⟩ := s
    rw [List.all_cons, Bool.and_eq_true] at h
    rw [List.any_cons, List.any_cons, ih s2 h.2, eqD_shr s1 sx h.1 hx]
def inL (neg : Bool) (x : D) (l : List D) : Option D := if flatD x = true ∧ l.all flatD = true then some (.bl (if neg then !(l.any fun y => eqD y x) else l.any fun y => eqD y x)) else none
def hIn (neg : Bool) : D → D → Option D
  | x, .lst l => inL neg x l
  | x, .scr l => inL neg x l
  | x, .tup l => inL neg x l
  | .str a, .str b => if neg then some (.bl !!(Builtin.Str.occurrences b a 0 b.length 1).isEmpty) else some (.bl !(Builtin.Str.occurrences b a 0 b.length 1).isEmpty)
  | _, _ => none
theorem ok_inL {neg : Bool} {x z : D} {l : List D} {a : Addr} {vs : List V} {v : V} (sx : Shr T g H x v) (h : SqL T.K H a vs ∨ SqT T.K H a vs) (s : ShrL T g H l vs) (e : inL neg x l = some z) {Q : VK} (q : ∀ u H', Exx H H' → Shr T g H' z u → Q u H') : rIn T.K neg v (.ref a) H Q := by
  unfold inL at e
  split at e
  · rename_i c
    cases e
    refine ⟨a, vs, rfl, h, flat_shr sx c.1, allFlat s c.2, ?_⟩
    rw [anyEq sx c.1 s c.2]
    exact q _ H (.refl H) (by cases neg <;> exact shr_bl.mpr rfl)
  · cases e
end
end Q

/-! Tests, and, or, not, if. -/
namespace Q
open PySem PySem.Spec PyProof.Rows L2
section
variable {X : Cx} {T : Th} {W : WX} {Γ : List Md}
/-- the same for tests -/
theorem goodT_bind {ρ : Env} {σ : L2.St} {g : G} {H : Hp} {r : RE} {k : D → Store → RE} {Q : Bool → Hp → Prop} {Q' : VK} (h : GoodT T W Γ ρ σ g H (r.bind k) Q)
    (hk : ∀ d S v g' H', r = .ok d S → Rel T g' Γ ρ S σ H' → FrE g H g' H' → Shr T g' H' d v → GoodT T W Γ ρ σ g' H' (k d S) Q → Q' v H') : GoodE T W Γ ρ σ g H r Q' := by
  cases r with
  | ok d S =>
    intro v g' H' R f s
    refine hk d S v g' H' rfl R f s ?_
    have h' : GoodT T W Γ ρ σ g H (k d S) Q := h
    cases e : k d S with
    | ok d2 S2 =>
      rw [e] at h'
      obtain ⟨b, e2, h'⟩ := h'
      exact ⟨b, e2, fun g2 H2 R2 f2 => h' g2 H2 R2 (f.trans f2)⟩
    | exc x S2 =>
      rw [e] at h'
      exact fun c dd g2 H2 R2 f2 s2 => h' c dd g2 H2 R2 (f.trans f2) s2
    | no => rw [e] at h'; exact h'
  | exc x S => exact h
  | no => exact h
theorem goodTT_bind {ρ : Env} {σ : L2.St} {g : G} {H : Hp} {r : RE} {k : D → Store → RE} {Q : Bool → Hp → Prop} {Q' : Bool → Hp → Prop} (h : GoodT T W Γ ρ σ g H (r.bind k) Q) (hb : ∀ d S, r = .ok d S → k d S ≠ .no → ∃ b, d = .bl b)
    (hk : ∀ b S g' H', r = .ok (.bl b) S → Rel T g' Γ ρ S σ H' → FrE g H g' H' → GoodT T W Γ ρ σ g' H' (k (.bl b) S) Q → Q' b H') : GoodT T W Γ ρ σ g H r Q' := by
  cases r with
  | ok d S =>
    have h' : GoodT T W Γ ρ σ g H (k d S) Q := h
    obtain ⟨b, rfl⟩ := hb d S rfl (fun z => by rw [z] at h'; exact h')
    refine ⟨b, rfl, fun g' H' R f => hk b S g' H' rfl R f ?_⟩
    cases e : k (.bl b) S with
    | ok d2 S2 =>
      rw [e] at h'
      obtain ⟨b, e2, h'⟩ := h'
      exact ⟨b, e2, fun g2 H2 R2 f2 => h' g2 H2 R2 (f.trans f2)⟩
    | exc x S2 =>
      rw [e] at h'
      exact fun c dd g2 H2 R2 f2 s2 => h' c dd g2 H2 R2 (f.trans f2) s2
    | no => rw [e] at h'; exact h'
  | exc x S => exact h
  | no => exact h
theorem goodTE_bind {ρ : Env} {σ : L2.St} {g : G} {H : Hp} {r : RE} {k : D → Store → RE} {Q : VK} {Q' : Bool → Hp → Prop} (h : GoodE T W Γ ρ σ g H (r.bind k) Q) (hb : ∀ d S, r = .ok d S → k d S ≠ .no → ∃ b, d = .bl b)
    (hk : ∀ b S g' H', r = .ok (.bl b) S → Rel T g' Γ ρ S σ H' → FrE g H g' H' → GoodE T W Γ ρ σ g' H' (k (.bl b) S) Q → Q' b H') : GoodT T W Γ ρ σ g H r Q' := by
  cases r with
  | ok d S =>
    have h' : GoodE T W Γ ρ σ g H (k d S) Q := h
    obtain ⟨b, rfl⟩ := hb d S rfl (fun z => by rw [z] at h'; exact h')
    refine ⟨b, rfl, fun g' H' R f => hk b S g' H' rfl R f ?_⟩
    cases e : k (.bl b) S with
    | ok d2 S2 =>
      rw [e] at h'
      exact fun v2 g2 H2 R2 f2 s2 => h' v2 g2 H2 R2 (f.trans f2) s2
    | exc x S2 =>
      rw [e] at h'
      exact fun c dd g2 H2 R2 f2 s2 => h' c dd g2 H2 R2 (f.trans f2) s2
    | no => rw [e] at h'; exact h'
  | exc x S => exact h
  | no => exact h
/-- a value that is a truth, as a test -/
theorem xt_val {e : Expr} {A : FE} (ha : XE X T W Γ e A) (he : PE X e (tX T W Γ A) → PT X e (tB (tX T W Γ A)) ∨ PT X e (tTest (tX T W Γ A))) : XT X T W Γ e A := by
  have key : ∀ σ H Q, tXT T W Γ A σ H Q → tX T W Γ A σ H fun x H1 => ∃ c, x = .bl c ∧ Q c H1 := fun σ H Q ⟨g, ρ, S, R, h⟩ => by
    refine ⟨g, ρ, S, R, ?_⟩
    cases r : A ρ S with
    | ok d S1 =>
      rw [r] at h
      obtain ⟨b, rfl, h⟩ := h
      exact fun v g' H' R' f' s => ⟨b, shr_bl.mp s, h g' H' R' f'⟩
    | exc x S1 => rw [r] at h; exact h
    | no => rw [r] at h; exact h
  rcases he ha with h | h
  · exact pt_imp h key
  · exact pt_imp h key
def eTru (a : FE) : FE := eUn hTru a
theorem xt_tru {e : Expr} {A : FE} (ha : XE X T W Γ e A) (hK : X.K = T.K) (he : ∀ whole, isTrue e X.env whole = (do let v ← whole; standAt e.pos; holding [v] (truthy v)) := by intro _; rfl) : XT X T W Γ e (eTru A) := pt_imp (pt_truth ha he) fun σ H Q ⟨g, ρ, S, R, h⟩ =>
  ⟨g, ρ, S, R, goodT_bind h fun d S1 v g1 H1 _ R1 f1 s1 h1 => by
    cases e : hTru d with
    | none => rw [e] at h1; exact h1.elim
    | some z =>
      rw [e] at h1
      obtain ⟨b, rfl, tv⟩ := tru_shr s1 e
      obtain ⟨b', e2, h1⟩ := h1
      cases e2
      exact ⟨b, by rw [hK]; exact tv, h1 g1 H1 R1 (.refl _ _)⟩⟩
theorem bl_and {d : D} {S : Store} {b : FE} {ρ : Env} (h : (match d with | .bl true => b ρ S | .bl false => RE.ok (.bl false) S | _ => .no) ≠ .no) : ∃ b, d = .bl b := by
  split at h
  · exact ⟨_, rfl⟩
  · exact ⟨_, rfl⟩
  · exact absurd rfl h
theorem bl_or {d : D} {S : Store} {b : FE} {ρ : Env} (h : (match d with | .bl true => RE.ok (.bl true) S | .bl false => b ρ S | _ => .no) ≠ .no) : ∃ b, d = .bl b := by
  split at h
  · exact ⟨_, rfl⟩
  · exact ⟨_, rfl⟩
  · exact absurd rfl h
theorem bl_if {d : D} {S : Store} {a b : FE} {ρ : Env} (h : (match d with | .bl true => a ρ S | .bl false => b ρ S | _ => RE.no) ≠ .no) : ∃ b, d = .bl b := by
  split at h
  · exact ⟨_, rfl⟩
  · exact ⟨_, rfl⟩
  · exact absurd rfl h
theorem bl_not {d : D} {S : Store} (h : (match d with | .bl b => RE.ok (.bl (!b)) S | _ => .no) ≠ .no) : ∃ b, d = .bl b := by
  split at h
  · exact ⟨_, rfl⟩
  · exact absurd rfl h
variable {a b c : Expr} {A B C : FE} {pos : Pos} {rest : List Expr}
abbrev XW (X : Cx) (T : Th) (W : WX) (Γ : List Md) (e : Expr) (F : FE) : Prop := PW X e (tXT T W Γ F)
theorem xw_and (ha : XT X T W Γ a A) (hb : XW X T W Γ (.BoolOp .And (b :: rest) pos) B) : XW X T W Γ (.BoolOp .And (a :: b :: rest) pos) (eAnd A B) := pw_imp (pw_and ha hb) fun σ H Q ⟨g, ρ, S, R, h⟩ =>
  ⟨g, ρ, S, R, goodTT_bind h (fun d S1 _ hn => bl_and hn) fun t S1 g1 H1 _ R1 f1 h1 => by
    cases t with
    | true => exact ⟨g1, ρ, S1, R1, h1⟩
    | false =>
      obtain ⟨b', e2, h1⟩ := h1
      cases e2
      exact h1 g1 H1 R1 (.refl _ _)⟩
theorem xw_or (ha : XT X T W Γ a A) (hb : XW X T W Γ (.BoolOp .Or (b :: rest) pos) B) : XW X T W Γ (.BoolOp .Or (a :: b :: rest) pos) (eOr A B) := pw_imp (pw_or ha hb) fun σ H Q ⟨g, ρ, S, R, h⟩ =>
  ⟨g, ρ, S, R, goodTT_bind h (fun d S1 _ hn => bl_or hn) fun t S1 g1 H1 _ R1 f1 h1 => by
    cases t with
    | false => exact ⟨g1, ρ, S1, R1, h1⟩
    | true =>
      obtain ⟨b', e2, h1⟩ := h1
      cases e2
      exact h1 g1 H1 R1 (.refl _ _)⟩
theorem xw_and1 (ha : XT X T W Γ a A) : XW X T W Γ (.BoolOp .And [a] pos) A := pw_and1 ha
theorem xw_or1 (ha : XT X T W Γ a A) : XW X T W Γ (.BoolOp .Or [a] pos) A := pw_or1 ha
theorem xt_not (ha : XT X T W Γ a A) : XT X T W Γ (.UnaryOp .Not a pos) (eNot A) := pt_imp (pt_not ha) fun σ H Q ⟨g, ρ, S, R, h⟩ =>
  ⟨g, ρ, S, R, goodTT_bind h (fun d S1 _ hn => bl_not hn) fun t S1 g1 H1 _ R1 f1 h1 => by
    obtain ⟨b', e2, h1⟩ := h1
    cases e2
    exact h1 g1 H1 R1 (.refl _ _)⟩
theorem xe_and1 {op} (ha : XE X T W Γ a A) : XE X T W Γ (.BoolOp op [a] pos) A := pe_one ha
theorem xe_and (ha : XE X T W Γ a A) (hb : XE X T W Γ (.BoolOp .And (b :: rest) pos) B) : XE X T W Γ (.BoolOp .And (a :: b :: rest) pos) (eAnd A B) := pe_imp (pe_and ha hb) fun σ H Q ⟨g, ρ, S, R, h⟩ =>
  ⟨g, ρ, S, R, good_bind h fun d S1 v g1 H1 _ R1 f1 s1 h1 => by
    obtain ⟨t, rfl⟩ : ∃ t, d = .bl t := by
      have h0 := h1
      split at h0 <;> first | exact ⟨_, rfl⟩ | exact h0.elim
    refine ⟨t, shr_bl.mp s1, ?_⟩
    cases t with
    | true => exact ⟨g1, ρ, S1, R1, h1⟩
    | false => exact h1 (.bl false) g1 H1 R1 (.refl _ _) (shr_bl.mpr rfl)⟩
theorem xe_or (ha : XE X T W Γ a A) (hb : XE X T W Γ (.BoolOp .Or (b :: rest) pos) B) : XE X T W Γ (.BoolOp .Or (a :: b :: rest) pos) (eOr A B) := pe_imp (pe_or ha hb) fun σ H Q ⟨g, ρ, S, R, h⟩ =>
  ⟨g, ρ, S, R, good_bind h fun d S1 v g1 H1 _ R1 f1 s1 h1 => by
    obtain ⟨t, rfl⟩ : ∃ t, d = .bl t := by
      have h0 := h1
      split at h0 <;> first | exact ⟨_, rfl⟩ | exact h0.elim
    refine ⟨t, shr_bl.mp s1, ?_⟩
    cases t with
    | false => exact ⟨g1, ρ, S1, R1, h1⟩
    | true => exact h1 (.bl true) g1 H1 R1 (.refl _ _) (shr_bl.mpr rfl)⟩
theorem xe_not (ha : XE X T W Γ a A) : XE X T W Γ (.UnaryOp .Not a pos) (eNot A) := pe_imp (pe_not ha) fun σ H Q ⟨g, ρ, S, R, h⟩ =>
  ⟨g, ρ, S, R, good_bind h fun d S1 v g1 H1 _ R1 f1 s1 h1 => by
    obtain ⟨t, rfl⟩ : ∃ t, d = .bl t := by
      have h0 := h1
      split at h0 <;> first | exact ⟨_, rfl⟩ | exact h0.elim
    exact ⟨t, shr_bl.mp s1, h1 (.bl (!t)) g1 H1 R1 (.refl _ _) (shr_bl.mpr rfl)⟩⟩
theorem xe_if (hc : XT X T W Γ c C) (ha : XE X T W Γ a A) (hb : XE X T W Γ b B) : XE X T W Γ (.IfExp c a b pos) (eIf C A B) := pe_imp (pe_ifExp hc ha hb) fun σ H Q ⟨g, ρ, S, R, h⟩ =>
  ⟨g, ρ, S, R, goodTE_bind h (fun d S1 _ hn => bl_if hn) fun t S1 g1 H1 _ R1 f1 h1 => by
    cases t with
    | true => exact ⟨g1, ρ, S1, R1, h1⟩
    | false => exact ⟨g1, ρ, S1, R1, h1⟩⟩
/-- a op b op' c -/
def eChain (h h' : D → D → Option D) (a b c : FE) : FE := fun ρ S => (a ρ S).bind fun x S1 => (b ρ S1).bind fun y S2 => (RE.of S2 (h x y)).bind fun z S3 => match z with
  | .bl true => (c ρ S3).bind fun w S4 => .of S4 (h' y w)
  | .bl false => .ok (.bl false) S3
  | _ => .no
theorem xe_chain {e : Expr} {r r' : R2} {h h' : D → D → Option D} (ok : OpOk T r h) (ok' : OpOk T r' h') (ha : XE X T W Γ a A) (hb : XE X T W Γ b B) (hc : XE X T W Γ c C)
    (he : PE X a (tX T W Γ A) → PE X b (tX T W Γ B) → PE X c (tX T W Γ C) → PE X e (tChain r r' (tX T W Γ A) (tX T W Γ B) (tX T W Γ C))) : XE X T W Γ e (eChain h h' A B C) := pe_imp (he ha hb hc) fun σ H Q ⟨g, ρ, S, R, hg⟩ =>
  ⟨g, ρ, S, R, good_bind hg fun x S1 v g1 H1 _ R1 f1 s1 hg1 => ⟨g1, ρ, S1, R1, good_bind hg1 fun y S2 w g2 H2 _ R2 f2 s2 hg2 => by
    cases ez : h x y with
    | none => rw [ez] at hg2; exact hg2.elim
    | some z =>
      rw [ez] at hg2
      refine ok g2 H2 x y z v w (s1.stay f2.stay) s2 ez R2.dom _ fun u H3 ex su => ?_
      obtain ⟨t, rfl⟩ : ∃ t, z = .bl t := by
        have h0 := hg2
        unfold RE.of RE.bind at h0
        dsimp only at h0
        split at h0 <;> first | exact ⟨_, rfl⟩ | exact h0.elim
      refine ⟨t, shr_bl.mp su, ?_⟩
      have R3 := R2.ex ex
      cases t with
      | true =>
        rw [if_pos rfl]
        refine ⟨g2, ρ, S2, R3, ?_⟩
        have h0 : GoodE T W Γ ρ σ g2 H3 ((C ρ S2).bind fun w S4 => .of S4 (h' y w)) Q := by
          have h1 : GoodE T W Γ ρ σ g2 H2 ((C ρ S2).bind fun w S4 => .of S4 (h' y w)) Q := hg2
          cases q : (C ρ S2).bind fun w S4 => .of S4 (h' y w) with
          | ok d S4 => rw [q] at h1; exact fun v g' H' R' f' s' => h1 v g' H' R' ((FrE.ex ex).trans f') s'
          | exc d S4 => rw [q] at h1; exact fun v dd g' H' R' f' s' => h1 v dd g' H' R' ((FrE.ex ex).trans f') s'
          | no => rw [q] at h1; exact h1
        refine good_bind h0 fun w4 S4 v4 g4 H4 _ R4 f4 s4 hg4 => ?_
        obtain ⟨z4, e4, hg5⟩ := good_of hg4
        exact ok' g4 H4 y w4 z4 w v4 ((s2.stay (Stay.ex ex)).stay f4.stay) s4 e4 R4.dom Q fun u5 H5 ex5 su5 => hg5 u5 g4 H5 (R4.ex ex5) (.ex ex5) su5
      | false =>
        rw [if_neg Bool.false_ne_true]
        exact hg2 (.bl false) g2 H3 R3 (.ex ex) (shr_bl.mpr rfl)⟩⟩
end
/-! ### displays, slices -/
section
variable {X : Cx} {T : Th} {W : WX} {Γ : List Md} {es : List Expr} {A : FL} {e : Expr}
theorem xe_tup (ha : XL X T W Γ es A) {x1} {pos : Pos} : XE X T W Γ (.Tuple es x1 pos) (eTup A) := pe_imp (pe_tup ha) fun σ H Q ⟨g, ρ, S, R, hg⟩ =>
  ⟨g, ρ, S, R, goodL_then hg fun ds S1 z vs g1 H1 ez R1 f1 s1 hg1 => by
    split at ez
    · rename_i hl
      cases ez
      exact ⟨by rw [← s1.length]; exact sz6 hl, fun p hp => hg1 _ g1 _ (R1.ex (Exx.new hp)) (.ex (Exx.new hp)) (shr_newT s1 hp R1.dom)⟩
    · cases ez⟩
theorem xe_lst (ha : XL X T W Γ es A) {pos : Pos} : XE X T W Γ (.List es pos) (eLst A) := pe_imp (pe_lst ha) fun σ H Q ⟨g, ρ, S, R, hg⟩ =>
  ⟨g, ρ, S, R, goodL_then hg fun ds S1 z vs g1 H1 ez R1 f1 s1 hg1 => by
    split at ez
    · rename_i hl
      cases ez
      exact ⟨by rw [← s1.length]; exact sz6 hl, fun p hp => hg1 _ g1 _ (R1.ex (Exx.new hp)) (.ex (Exx.new hp)) (shr_newL s1 hp R1.dom)⟩
    · cases ez⟩
end
end Q

/-! Statements. -/
namespace Q
open PySem PySem.Spec PyProof.Rows L2
/-- behind a statement -/
structure FrS (g : G) (H : Hp) (g' : G) (H' : Hp) : Prop where
  keep : ∀ a o, H a = some o → (¬ g.U a ∨ g.O a) → H' a = some o
  own : ∀ a, g'.U a → g.U a ∨ H a = none
  O : g'.O = g.O
  P : g'.P = g.P
  N : g.N ≤ g'.N
  μ : ∀ n, n < g.N → g'.μ n = g.μ n
  dom : ∀ a o, H a = some o → ∃ o', H' a = some o'
section
variable {T : Th} {g g1 g2 : G} {H H1 H2 : Hp} {Γ : List Md} {ρ : Env} {S : Store} {σ : L2.St}
theorem FrS.refl (g : G) (H : Hp) : FrS g H g H := ⟨fun _ _ h _ => h, fun _ h => .inl h, rfl, rfl, Nat.le_refl _, fun _ _ => rfl, fun _ o h => ⟨o, h⟩⟩
theorem FrS.Z (f : FrS g H g1 H1) : g1.Z = g.Z := by funext k; show g1.P _ = g.P _; rw [f.P]
theorem FrS.stay (f : FrS g H g1 H1) : Stay g H g1 H1 := ⟨fun a o h hu => f.keep a o h (.inl hu), f.own, f.N, f.μ, f.Z⟩
theorem FrE.frs (f : FrE g H g1 H1) (hd : ∀ a, g.O a → ¬ g.B a) : FrS g H g1 H1 where
  keep := fun a o h hu => f.keep a o h fun z => hu.elim (fun w => w (.inr (.inr z))) (fun w => hd a w z)
  own := f.stay.own
  O := f.O
  P := f.P
  N := f.N
  μ := f.μ
  dom := f.dom
theorem FrS.trans (a : FrS g H g1 H1) (b : FrS g1 H1 g2 H2) : FrS g H g2 H2 where
  keep := fun x o h hu => b.keep x o (a.keep x o h hu) (hu.elim (fun w => .inl (a.stay.off h w)) fun w => .inr (by rw [a.O]; exact w))
  own := (a.stay.trans b.stay).own
  O := b.O.trans a.O
  P := b.P.trans a.P
  N := Nat.le_trans a.N b.N
  μ := (a.stay.trans b.stay).μ
  dom := fun x o h => by
    obtain ⟨o', h'⟩ := a.dom x o h
    exact b.dom x o' h'
end
/-- g, with F's places given to others -/
def G.plus (g : G) (Fo : Addr → Prop) : G := { g with O := fun a => g.O a ∨ Fo a }
/-- how a block is left -/
structure Jd where
  W : WX
  ΓX : List Md → Prop
  ΓR : List Md → Prop
  kr : Nat
  Γl : List Md
def GoodS (T : Th) (J : Jd) (Γ' : List Md) (g : G) (H : Hp) : RS → Ends → Prop
  | .nx ρ' S', D => ∀ σ' g' H', Rel T g' Γ' ρ' S' σ' H' → FrS g H g' H' → D.nx σ' H'
  | .bk ρ' S', D => ∀ σ' g' H', Rel T g' J.Γl ρ' S' σ' H' → FrS g H g' H' → D.bk σ' H'
  | .ct ρ' S', D => ∀ σ' g' H', Rel T g' J.Γl ρ' S' σ' H' → FrS g H g' H' → D.ct σ' H'
  | .rt d ρ' S', D => ∀ Γ'' v σ' g' H' Fo, J.ΓR Γ'' → Rel T (g'.plus Fo) Γ'' ρ' S' σ' H' → FrS g H g' H' → (∀ a, Fo a → ¬ g.O a ∧ (g.U a ∨ H a = none)) → Own T (g'.plus Fo) H' J.kr Fo d v → D.rt v H'
  | .exc x ρ' S', _ => ∀ Γ'' c dd σ' g' H', J.ΓX Γ'' → Rel T g' Γ'' ρ' S' σ' H' → FrS g H g' H' → ExcR T g' H' x c dd → J.W c dd σ' H'
  | .no, _ => False
def tS (T : Th) (J : Jd) (Γ Γ' : List Md) (F : FS) : TS := fun D σ H => ∃ g ρ S, Rel T g Γ ρ S σ H ∧ GoodS T J Γ' g H (F ρ S) D
abbrev XS (X : Cx) (T : Th) (J : Jd) (Γ Γ' : List Md) (st : Stmt) (F : FS) : Prop := PS X st (tS T J Γ Γ' F)
abbrev XB (X : Cx) (T : Th) (J : Jd) (Γ Γ' : List Md) (st : List Stmt) (F : FS) : Prop := PSs X st (tS T J Γ Γ' F)
theorem ps_imp {X : Cx} {e : Stmt} {t t' : TS} (h : PS X e t) (i : ∀ D σ H, t' D σ H → t D σ H) : PS X e t' := ⟨fun pins s σ H D I q => h.run pins s σ H D I (i D σ H q)⟩
theorem pss_imp {X : Cx} {e : List Stmt} {t t' : TS} (h : PSs X e t) (i : ∀ D σ H, t' D σ H → t D σ H) : PSs X e t' := ⟨fun pins s σ H D I q => h.run pins s σ H D I (i D σ H q)⟩
/-! ### what the readings are -/
def RE.bindS (ρ : Env) : RE → (D → Store → RS) → RS
  | .ok d S, k => k d S
  | .exc x S, _ => .exc x ρ S
  | .no, _ => .no
def fPass : FS := fun ρ S => .nx ρ S
def fBrk : FS := fun ρ S => .bk ρ S
def fCt : FS := fun ρ S => .ct ρ S
def fSet (i : Nat) (a : FE) : FS := fun ρ S => (a ρ S).bindS ρ fun d S1 => .nx (ρ.set i (some d)) S1
def fDrop (a : FE) : FS := fun ρ S => (a ρ S).bindS ρ fun _ S1 => .nx ρ S1
def fRet (a : FE) : FS := fun ρ S => (a ρ S).bindS ρ fun d S1 => .rt d ρ S1
def fSeq (f h : FS) : FS := fun ρ S => match f ρ S with
  | .nx ρ1 S1 => h ρ1 S1
  | r => r
def fIf (c : FE) (f h : FS) : FS := fun ρ S => (c ρ S).bindS ρ fun d S1 => match d with
  | .bl true => f ρ S1
  | .bl false => h ρ S1
  | _ => .no
/-- at most n turns -/
def loopN (c : FE) (b : FS) : Nat → Env → Store → Option RS
  | 0, _, _ => none
  | n + 1, ρ, S => match c ρ S with
    | .ok (.bl true) S1 => (match b ρ S1 with
      | .nx ρ2 S2 => loopN c b n ρ2 S2
      | .ct ρ2 S2 => loopN c b n ρ2 S2
      | .bk ρ2 S2 => some (.nx ρ2 S2)
      | r => some r)
    | .ok (.bl false) S1 => some (.nx ρ S1)
    | .exc x S1 => some (.exc x ρ S1)
    | _ => some .no
open Classical in
noncomputable def fWhile (c : FE) (b : FS) : FS := fun ρ S => if h : ∃ n r, loopN c b n ρ S = some r then Classical.choose (Classical.choose_spec h) else .no
theorem loopN_more {c : FE} {b : FS} : ∀ (n : Nat) (ρ : Env) (S : Store) (r : RS), loopN c b n ρ S = some r → loopN c b (n + 1) ρ S = some r
  | 0, _, _, _, h => by cases h
  | n + 1, ρ, S, r, h => by
    rw [loopN] at h ⊢
    split at h
    · split at h
      · exact loopN_more n _ _ _ h
      · exact loopN_more n _ _ _ h
      · exact h
      · exact h
    · exact h
    · exact h
    · exact h
theorem loopN_le {c : FE} {b : FS} {n m : Nat} {ρ : Env} {S : Store} {r : RS} (h : loopN c b n ρ S = some r) (l : n ≤ m) : loopN c b m ρ S = some r := by
  induction l with
  | refl => exact h
  | step _ ih => exact loopN_more _ _ _ _ ih
theorem loopN_uniq {c : FE} {b : FS} {n m : Nat} {ρ : Env} {S : Store} {r r' : RS} (h : loopN c b n ρ S = some r) (h' : loopN c b m ρ S = some r') : r = r' := by
  have a := loopN_le h (Nat.le_max_left n m)
  have a' := loopN_le h' (Nat.le_max_right n m)
  rw [a] at a'
  exact Option.some.inj a'
theorem fWhile_eq {c : FE} {b : FS} {n : Nat} {ρ : Env} {S : Store} {r : RS} (h : loopN c b n ρ S = some r) : fWhile c b ρ S = r := by
  have hx : ∃ n r, loopN c b n ρ S = some r := ⟨n, r, h⟩
  unfold fWhile
  rw [dif_pos hx]
  exact loopN_uniq (Classical.choose_spec (Classical.choose_spec hx)) h
theorem fWhile_get {c : FE} {b : FS} {ρ : Env} {S : Store} (h : fWhile c b ρ S ≠ .no) : ∃ n, loopN c b n ρ S = some (fWhile c b ρ S) := by
  by_cases hx : ∃ n r, loopN c b n ρ S = some r
  · obtain ⟨n, r, e⟩ := hx
    exact ⟨n, by rw [fWhile_eq e]; exact e⟩
  · unfold fWhile at h
    rw [dif_neg hx] at h
    exact absurd rfl h
/-- one turn -/
theorem fWhile_turn {c : FE} {b : FS} {ρ : Env} {S : Store} : fWhile c b ρ S = (c ρ S).bindS ρ fun d S1 => match d with
    | .bl true => (match b ρ S1 with
      | .nx ρ2 S2 => fWhile c b ρ2 S2
      | .ct ρ2 S2 => fWhile c b ρ2 S2
      | .bk ρ2 S2 => .nx ρ2 S2
      | r => r)
    | .bl false => .nx ρ S1
    | _ => .no := by
  have fin : ∀ r, loopN c b 1 ρ S = some r → fWhile c b ρ S = r := fun r h => fWhile_eq h
  have rec' : ∀ ρ2 S2, (∀ n, loopN c b (n + 1) ρ S = loopN c b n ρ2 S2) → fWhile c b ρ S = fWhile c b ρ2 S2 := fun ρ2 S2 h => by
    by_cases hx : ∃ n r, loopN c b n ρ2 S2 = some r
    · obtain ⟨n, r, e⟩ := hx
      rw [fWhile_eq e, fWhile_eq ((h n).trans e)]
    · have hy : ¬ ∃ n r, loopN c b n ρ S = some r := fun ⟨n, r, e⟩ => by
        cases n with
        | zero => cases e
        | succ n => exact hx ⟨n, r, (h n).symm.trans e⟩
      unfold fWhile
      rw [dif_neg hx, dif_neg hy]
  cases e : c ρ S with
  | ok d S1 =>
    show _ = (match d with
      | .bl true => (match b ρ S1 with
        | .nx ρ2 S2 => fWhile c b ρ2 S2
        | .ct ρ2 S2 => fWhile c b ρ2 S2
        | .bk ρ2 S2 => .nx ρ2 S2
        | r => r)
      | .bl false => RS.nx ρ S1
      | _ => .no)
    split
    · split
      · rename_i eb; exact rec' _ _ fun n => by rw [loopN, e]; simp only [eb]
      · rename_i eb; exact rec' _ _ fun n => by rw [loopN, e]; simp only [eb]
      · rename_i eb; exact fin _ (by rw [loopN, e]; simp only [eb])
      · rename_i h1 h2 h3
        refine fin _ ?_
        rw [loopN, e]
        dsimp only
        split
        · rename_i q; exact absurd q (h1 _ _)
        · rename_i q; exact absurd q (h2 _ _)
        · rename_i q; exact absurd q (h3 _ _)
        · rfl
    · exact fin _ (by rw [loopN, e])
    · rename_i h1 h2
      refine fin _ ?_
      rw [loopN, e]
      split
      · rename_i q; cases q; exact absurd rfl h1
      · rename_i q; cases q; exact absurd rfl h2
      · rename_i q; cases q
      · rfl
  | exc x S1 => exact fin _ (by rw [loopN, e]; rfl)
  | no => exact fin _ (by rw [loopN, e]; rfl)
def forL (tf : D → Env → Option Env) (b : FS) : List D → Env → Store → RS
  | [], ρ, S => .nx ρ S
  | d :: ds, ρ, S => match tf d ρ with
    | none => .no
    | some ρ1 => match b ρ1 S with
      | .nx ρ2 S2 => forL tf b ds ρ2 S2
      | .ct ρ2 S2 => forL tf b ds ρ2 S2
      | .bk ρ2 S2 => .nx ρ2 S2
      | r => r
def fFor (it : FL) (tf : D → Env → Option Env) (b : FS) : FS := fun ρ S => match it ρ S with
  | .ok ds S1 => forL tf b ds ρ S1
  | .exc x S1 => .exc x ρ S1
  | .no => .no
section
variable {X : Cx} {T : Th} {J : Jd} {Γ Γ' Γ1 : List Md}
theorem GoodS.after {g g1 : G} {H H1 : Hp} {r : RS} {D : Ends} (h : GoodS T J Γ' g H r D) (f : FrS g H g1 H1) (fo : ∀ a, g1.O a ↔ g.O a) (hu : ∀ a, g1.U a ∨ H1 a = none → g.U a ∨ H a = none) : GoodS T J Γ' g1 H1 r D := by
  cases r with
  | nx ρ' S' => exact fun σ' g' H' R f' => h σ' g' H' R (f.trans f')
  | bk ρ' S' => exact fun σ' g' H' R f' => h σ' g' H' R (f.trans f')
  | ct ρ' S' => exact fun σ' g' H' R f' => h σ' g' H' R (f.trans f')
  | rt d ρ' S' => exact fun Γ'' v σ' g' H' Fo a R f' b c => h Γ'' v σ' g' H' Fo a R (f.trans f') (fun x q => ⟨fun z => (b x q).1 ((fo x).mpr z), hu x (b x q).2⟩) c
  | exc x ρ' S' => exact fun Γ'' c dd σ' g' H' a R f' e => h Γ'' c dd σ' g' H' a R (f.trans f') e
  | no => exact h
theorem FrS.back {g g1 : G} {H H1 : Hp} (f : FrS g H g1 H1) : ∀ a, g1.U a ∨ H1 a = none → g.U a ∨ H a = none := fun a h => by
  rcases h with h | h
  · exact f.own a h
  · cases e : H a with
    | none => exact .inr rfl
    | some o =>
      by_cases hu : g.U a
      · exact .inl hu
      · have := f.keep a o e (.inl hu)
        rw [h] at this; cases this
theorem GoodS.then {g g1 : G} {H H1 : Hp} {r : RS} {D : Ends} (h : GoodS T J Γ' g H r D) (f : FrS g H g1 H1) : GoodS T J Γ' g1 H1 r D := h.after f (fun a => by rw [f.O]) f.back
/-- an expression ahead of what follows -/
theorem good_bindS {ρ : Env} {σ : L2.St} {S : Store} {g : G} {H : Hp} {r : RE} {k : D → Store → RS} {D : Ends} {Q' : VK} (R : Rel T g Γ ρ S σ H) (hx : J.ΓX Γ) (h : GoodS T J Γ' g H (r.bindS ρ k) D)
    (hk : ∀ d S v g' H', r = .ok d S → Rel T g' Γ ρ S σ H' → FrS g H g' H' → Shr T g' H' d v → GoodS T J Γ' g' H' (k d S) D → Q' v H') : GoodE T J.W Γ ρ σ g H r Q' := by
  cases r with
  | ok d S1 =>
    intro v g' H' R' f s
    have f' := f.frs R.dOB
    exact hk d S1 v g' H' rfl R' f' s (GoodS.then h f')
  | exc x S1 =>
    intro c dd g' H' R' f e
    exact h Γ c dd σ g' H' hx R' (f.frs R.dOB) e
  | no => exact h
theorem good_bindT {ρ : Env} {σ : L2.St} {S : Store} {g : G} {H : Hp} {r : RE} {k : D → Store → RS} {D : Ends} {Q' : Bool → Hp → Prop} (R : Rel T g Γ ρ S σ H) (hx : J.ΓX Γ) (h : GoodS T J Γ' g H (r.bindS ρ k) D) (hb : ∀ d S, k d S ≠ .no → ∃ b, d = .bl b)
    (hk : ∀ b S g' H', r = .ok (.bl b) S → Rel T g' Γ ρ S σ H' → FrS g H g' H' → GoodS T J Γ' g' H' (k (.bl b) S) D → Q' b H') : GoodT T J.W Γ ρ σ g H r Q' := by
  cases r with
  | ok d S1 =>
    have h' : GoodS T J Γ' g H (k d S1) D := h
    obtain ⟨b, rfl⟩ := hb d S1 (fun z => by rw [z] at h'; exact h')
    exact ⟨b, rfl, fun g' H' R' f => hk b S1 g' H' rfl R' (f.frs R.dOB) (GoodS.then h' (f.frs R.dOB))⟩
  | exc x S1 =>
    intro c dd g' H' R' f e
    exact h Γ c dd σ g' H' hx R' (f.frs R.dOB) e
  | no => exact h
theorem xs_drop {e : Expr} {A : FE} {st : Stmt} (hx : J.ΓX Γ) (ha : XE X T J.W Γ e A) (he : PE X e (tX T J.W Γ A) → PS X st (tDrop (tX T J.W Γ A))) : XS X T J Γ Γ st (fDrop A) := ps_imp (he ha) fun D σ H ⟨g, ρ, S, R, h⟩ =>
  ⟨g, ρ, S, R, good_bindS R hx h fun d S1 v g1 H1 _ R1 f1 s1 h1 => h1 σ g1 H1 R1 (.refl _ _)⟩
theorem xs_pass {st : Stmt} (h : PS X st tNext) : XS X T J Γ Γ st fPass := ps_imp h fun D σ H ⟨g, ρ, S, R, h⟩ => h σ g H R (.refl _ _)
theorem xs_brk {st : Stmt} (h : PS X st tBreak) (hl : J.Γl = Γ) : XS X T J Γ Γ' st fBrk := ps_imp h fun D σ H ⟨g, ρ, S, R, h⟩ => h σ g H (by rw [hl]; exact R) (.refl _ _)
theorem xs_ct {st : Stmt} (h : PS X st tCont) (hl : J.Γl = Γ) : XS X T J Γ Γ' st fCt := ps_imp h fun D σ H ⟨g, ρ, S, R, h⟩ => h σ g H (by rw [hl]; exact R) (.refl _ _)
theorem xb_nil : XB X T J Γ Γ [] fPass := pss_imp pss_nil fun D σ H ⟨g, ρ, S, R, h⟩ => h σ g H R (.refl _ _)
theorem xb_one {st : Stmt} {A : FS} (ha : XS X T J Γ Γ' st A) : XB X T J Γ Γ' [st] A := pss_one ha
theorem xb_cons {st : Stmt} {rest : List Stmt} {A B : FS} (ha : XS X T J Γ Γ1 st A) (hb : XB X T J Γ1 Γ' rest B) : XB X T J Γ Γ' (st :: rest) (fSeq A B) := pss_imp (pss_cons ha hb) fun D σ H ⟨g, ρ, S, R, h⟩ => by
  refine ⟨g, ρ, S, R, ?_⟩
  unfold fSeq at h
  cases e : A ρ S with
  | nx ρ' S' =>
    rw [e] at h
    exact fun σ' g' H' R' f' => ⟨g', ρ', S', R', GoodS.then h f'⟩
  | bk ρ' S' => rw [e] at h; exact h
  | ct ρ' S' => rw [e] at h; exact h
  | rt d ρ' S' => rw [e] at h; exact h
  | exc x ρ' S' => rw [e] at h; exact h
  | no => rw [e] at h; exact h
theorem xs_if {c : Expr} {a b : List Stmt} {C : FE} {A B : FS} {pos : Pos} (hx : J.ΓX Γ) (hc : XT X T J.W Γ c C) (ha : XB X T J Γ Γ' a A) (hb : XB X T J Γ Γ' b B) : XS X T J Γ Γ' (.If c a b pos) (fIf C A B) := ps_imp (ps_if hc ha hb) fun D σ H ⟨g, ρ, S, R, h⟩ =>
  ⟨g, ρ, S, R, good_bindT R hx h (fun d S1 hn => by
    split at hn
    · exact ⟨_, rfl⟩
    · exact ⟨_, rfl⟩
    · exact absurd rfl hn) fun t S1 g1 H1 _ R1 f1 h1 => by
    cases t with
    | true => exact ⟨g1, ρ, S1, R1, h1⟩
    | false => exact ⟨g1, ρ, S1, R1, h1⟩⟩
/-- the ownership changes, the values stand -/
theorem Rel.shift {g g2 : G} {Γ Γ2 : List Md} {ρ ρ2 : Env} {S : Store} {σ σ2 : L2.St} {H : Hp} (R : Rel T g Γ ρ S σ H) (hN : g2.N = g.N) (hμ : g2.μ = g.μ) (hB : g2.B = g.B) (hBF : g2.BF = g.BF) (hU : ∀ a, g2.U a → g.U a)
    (dF : ∀ i j a, g2.F i a → g2.F j a → i = j) (dFO : ∀ i a, g2.F i a → ¬ g2.O a) (hO : ∀ a, g2.O a → g.O a ∨ ∃ i, g.F i a) (hF : ∀ i a, g2.F i a → (∃ j, g.F j a) ∨ g.O a) (hl : ρ2.length = σ2.length)
    (slot : Stay g H g2 H → ∀ (i : Nat) d, ρ2[i]? = some (some d) → ∃ v, σ2[i]? = some (some v) ∧ RepM T g2 H i (Γ2.getD i .s) d v) (hZ : g2.Z = g.Z := by rfl) : Rel T g2 Γ2 ρ2 S σ2 H := by
  have st : Stay g H g2 H := ⟨fun _ _ h _ => h, fun a h => .inl (hU a h), by rw [hN]; exact Nat.le_refl _, fun n _ => by rw [hμ], hZ⟩
  refine ⟨hl, slot st, dF, dFO, fun i a h => ?_, fun a h => ?_, fun a h => R.dom a (hU a h), R.st.keep st (fun _ _ _ h => h) hN hB hBF fun n _ => by rw [hμ], fun a h => R.nt a (hU a h)⟩
  · rw [hB]
    rcases hF i a h with ⟨j, z⟩ | z
    · exact R.dFB j a z
    · exact R.dOB a z
  · rw [hB]
    rcases hO a h with z | ⟨i, z⟩
    · exact R.dOB a z
    · exact R.dFB i a z
/-- slot i loses what it owned -/
def G.drop (g : G) (i : Nat) : G := { g with F := fun j a => j ≠ i ∧ g.F j a }
theorem G.drop_U {g : G} {i : Nat} {a : Addr} (h : (g.drop i).U a) : g.U a := by
  rcases h with h | ⟨j, _, h⟩ | h
  · exact .inl h
  · exact .inr (.inl ⟨j, h⟩)
  · exact .inr (.inr h)
theorem RepM.stay {g g2 : G} {H : Hp} {i : Nat} {m : Md} {d : D} {v : V} (h : RepM T g H i m d v) (st : Stay g H g2 H) (hF : ∀ a, g.F i a → g2.F i a) (hO : ∀ a, g.O a → g2.O a) (hP : g2.P i = g.P i) (hb : Stay g.bare H g2.bare H) : RepM T g2 H i m d v := by
  cases m with
  | s => exact Shr.stay st _ _ h
  | o k => exact (Own.wide k _ _ d v hF (Own.keepF st k _ d v (fun _ _ _ q => q) h) : Own T g2 H k (g2.F i) d v)
  | r k => exact (Own.wide k _ _ d v hO (Own.keepF st k _ d v (fun _ _ _ q => q) h) : Own T g2 H k g2.O d v)
  | p k => exact ⟨by rw [hP]; exact h.1, (Own.wide k _ _ d v hF (Own.keepF st k _ d v (fun _ _ _ q => q) h.2) : Own T g2 H k (g2.F i) d v)⟩
  | e w => exact h
  | l => exact Shr.stay hb _ _ h
theorem getD_set_self {Γ : List Md} {i : Nat} {m : Md} (h : i < Γ.length) : (Γ.set i m).getD i .s = m := by
  simp [List.getD, h]
theorem getD_set_ne {Γ : List Md} {i j : Nat} {m : Md} (h : i ≠ j) : (Γ.set i m).getD j .s = Γ.getD j .s := by
  simp [List.getD, List.getElem?_set_ne h]
/-- Γ is known where i is: shared slots need no row -/
theorem getD_set_s {Γ : List Md} {i : Nat} : (Γ.set i .s).getD i .s = .s := by
  by_cases h : i < Γ.length
  · exact getD_set_self h
  · rw [List.set_eq_of_length_le (Nat.le_of_not_lt h)]
    simp [List.getD, List.getElem?_eq_none (Nat.le_of_not_lt h)]
/-- a slot takes a shared value -/
theorem Rel.set {g : G} {ρ : Env} {S : Store} {σ : L2.St} {H : Hp} {d : D} {v : V} {i : Nat} (R : Rel T g Γ ρ S σ H) (s : Shr T g H d v) : Rel T (g.drop i) (Γ.set i .s) (ρ.set i (some d)) S (σ.set i (some v)) H := by
  refine R.shift rfl rfl rfl rfl (fun a h => G.drop_U h) (fun j k a h h' => R.dF j k a h.2 h'.2) (fun j a h => R.dFO j a h.2) (fun a h => .inl h) (fun j a h => .inl ⟨j, h.2⟩) (by simp [R.len]) fun st j d' e => ?_
  by_cases hj : i = j
  · subst hj
    by_cases hlt : i < ρ.length
    · rw [List.getElem?_set_self hlt] at e
      cases e
      refine ⟨v, by rw [List.getElem?_set_self (by rw [← R.len]; exact hlt)], ?_⟩
      rw [getD_set_s]
      exact s.stay st
    · rw [List.getElem?_eq_none (by simpa using hlt)] at e
      cases e
  · rw [List.getElem?_set_ne hj] at e
    obtain ⟨w, h1, h2⟩ := R.slot j d' e
    refine ⟨w, by rw [List.getElem?_set_ne hj]; exact h1, ?_⟩
    rw [getD_set_ne hj]
    exact h2.stay st (fun a z => ⟨fun q => hj q.symm, z⟩) (fun a z => z) rfl (bare_sub rfl rfl (fun i a z => ⟨i, z.2⟩) fun _ z => z)
theorem FrS.drop {g : G} {H : Hp} {i : Nat} : FrS g H (g.drop i) H := ⟨fun _ _ h _ => h, fun a h => .inl (G.drop_U h), rfl, rfl, Nat.le_refl _, fun _ _ => rfl, fun _ o h => ⟨o, h⟩⟩
theorem xs_set {i : Nat} {e : Expr} {A : FE} {st : Stmt} (hx : J.ΓX Γ) (ha : XE X T J.W Γ e A) (he : PE X e (tX T J.W Γ A) → PS X st (tAsg (tX T J.W Γ A) (gName i))) (hΓ : Γ.set i .s = Γ') : XS X T J Γ Γ' st (fSet i A) := ps_imp (he ha) fun D σ H ⟨g, ρ, S, R, h⟩ =>
  ⟨g, ρ, S, R, good_bindS R hx h fun d S1 v g1 H1 _ R1 f1 s1 h1 => h1 _ (g1.drop i) H1 (by rw [← hΓ]; exact R1.set s1) .drop⟩
theorem plus_none {g : G} {ρ : Env} {S : Store} {σ : L2.St} {H : Hp} (R : Rel T g Γ ρ S σ H) : Rel T (g.plus fun _ => False) Γ ρ S σ H := by
  have hU : ∀ a, (g.plus fun _ => False).U a → g.U a := fun a h => by
    rcases h with (h | h) | h | h
    · exact .inl h
    · exact h.elim
    · exact .inr (.inl h)
    · exact .inr (.inr h)
  exact R.shift rfl rfl rfl rfl hU R.dF (fun i a h z => z.elim (R.dFO i a h) id) (fun a h => h.elim .inl False.elim) (fun i a h => .inl ⟨i, h⟩) R.len fun st i d e => by
    obtain ⟨v, h1, h2⟩ := R.slot i d e
    exact ⟨v, h1, h2.stay st (fun _ z => z) (fun _ z => .inl z) rfl (bare_sub rfl rfl (fun i a z => ⟨i, z⟩) fun _ z => z)⟩
theorem stay_plus {g : G} {H : Hp} : Stay g H (g.plus fun _ => False) H := ⟨fun _ _ h _ => h, fun a h => by
    rcases h with (h | h) | h | h
    · exact .inl (.inl h)
    · exact h.elim
    · exact .inl (.inr (.inl h))
    · exact .inl (.inr (.inr h)), Nat.le_refl _, fun _ _ => rfl, rfl⟩
theorem shr_plus {g : G} {H : Hp} {d : D} {v : V} (s : Shr T g H d v) : Shr T (g.plus fun _ => False) H d v := s.stay stay_plus
theorem own_shr {g : G} {H : Hp} {d : D} {v : V} {F : Addr → Prop} (s : Shr T g H d v) : Own T g H 0 F d v := by simpa only [Own] using s
theorem xs_ret {e : Expr} {A : FE} {st : Stmt} (hx : J.ΓX Γ) (hr : J.ΓR Γ) (hk : J.kr = 0) (ha : XE X T J.W Γ e A) (he : PE X e (tX T J.W Γ A) → PS X st (tRet (tX T J.W Γ A))) : XS X T J Γ Γ' st (fRet A) := ps_imp (he ha) fun D σ H ⟨g, ρ, S, R, h⟩ =>
  ⟨g, ρ, S, R, good_bindS R hx h fun d S1 v g1 H1 _ R1 f1 s1 h1 => h1 Γ v σ g1 H1 (fun _ => False) hr (plus_none R1) (.refl _ _) (fun _ z => z.elim) (by rw [hk]; exact own_shr (shr_plus s1))⟩
theorem xs_retN {st : Stmt} (hr : J.ΓR Γ) (hk : J.kr = 0) (he : PS X st tRetN) : XS X T J Γ Γ' st (fRet (eC .non)) := ps_imp he fun D σ H ⟨g, ρ, S, R, h⟩ =>
  h Γ .non σ g H (fun _ => False) hr (plus_none R) (.refl _ _) (fun _ z => z.elim) (by rw [hk]; exact own_shr (shr_non.mpr rfl))
end
end Q

/-! Loops. -/
namespace Q
open PySem PySem.Spec PyProof.Rows L2
section
variable {X : Cx} {T : Th} {J : Jd} {Γ Γ' Γ1 : List Md}
theorem xs_while {c : Expr} {body : List Stmt} {C : FE} {B : FS} {pos : Pos} (hx : J.ΓX Γ) (hp : PassesOwn (model X.prog X.w) X.A X.env X.xe) (hc : XT X T J.W Γ c C) (hb : XB X T { J with Γl := Γ } Γ Γ body B) : XS X T J Γ Γ (.While c body [] pos) (fWhile C B) := ps_imp (ps_while hp hc hb) fun D σ H ⟨g, ρ, S, R, h⟩ => by
  have hne : fWhile C B ρ S ≠ .no := fun z => by rw [z] at h; exact h
  obtain ⟨n, hn⟩ := fWhile_get hne
  generalize fWhile C B ρ S = r at h hn
  refine ⟨fun m σ' H' => ∃ g' ρ' S', Rel T g' Γ ρ' S' σ' H' ∧ FrS g H g' H' ∧ loopN C B m ρ' S' = some r, ⟨n, g, ρ, S, R, .refl _ _, hn⟩, fun m σ' H' ⟨g', ρ', S', R', f', hm⟩ => ?_⟩
  have h' := GoodS.then h f'
  refine ⟨g', ρ', S', R', ?_⟩
  cases m with
  | zero => cases hm
  | succ m =>
    rw [loopN] at hm
    split at hm
    · rename_i S1 e
      rw [e]
      refine ⟨true, rfl, fun g1 H1 R1 f1 => ?_⟩
      have f1' := f1.frs R'.dOB
      have h1 := GoodS.then h' f1'
      refine iteT ⟨fun σ2 H2 => ∃ m', m' < m + 1 ∧ ∃ g' ρ' S', Rel T g' Γ ρ' S' σ2 H2 ∧ FrS g H g' H2 ∧ loopN C B m' ρ' S' = some r, fun σ2 H2 ⟨m', l, w⟩ => ⟨m', l, w⟩, g1, ρ', S1, R1, ?_⟩
      split at hm
      · rename_i eb
        rw [eb]
        exact fun σ2 g2 H2 R2 f2 => ⟨m, Nat.lt_succ_self _, g2, _, _, R2, (f'.trans f1').trans f2, hm⟩
      · rename_i eb
        rw [eb]
        exact fun σ2 g2 H2 R2 f2 => ⟨m, Nat.lt_succ_self _, g2, _, _, R2, (f'.trans f1').trans f2, hm⟩
      · rename_i eb
        rw [eb]
        cases hm
        exact fun σ2 g2 H2 R2 f2 => h1 σ2 g2 H2 R2 f2
      · rename_i h3 h4 h5
        cases hm
        cases eb : B ρ' S1 with
        | nx a b => exact absurd eb (h3 a b)
        | ct a b => exact absurd eb (h4 a b)
        | bk a b => exact absurd eb (h5 a b)
        | rt d a b => rw [eb] at h1; exact h1
        | exc x a b => rw [eb] at h1; exact h1
        | no => rw [eb] at h1; exact h1
    · rename_i S1 e
      rw [e]
      cases hm
      refine ⟨false, rfl, fun g1 H1 R1 f1 => ?_⟩
      exact iteF (h' σ' g1 H1 R1 (f1.frs R'.dOB))
    · rename_i x S1 e
      rw [e]
      cases hm
      exact fun c dd g1 H1 R1 f1 ex => h' Γ c dd σ' g1 H1 hx R1 (f1.frs R'.dOB) ex
    · cases hm
      exact h'.elim
/-! ### what a for walks -/
def ItOk (T : Th) (g : G) (H : Hp) (It1 : It) (ds : List D) : Prop := ∀ g' H' (i : Nat), Stay g H g' H' → (ds.length ≤ i → It1.stop i H') ∧ ∀ d, ds[i]? = some d → It1.go i H' ∧ ∀ x H'', It1.yld i H' x H'' → Exx H' H'' ∧ Shr T g' H'' d x
def GoodI (T : Th) (W : WX) (Γ : List Md) (ρ : Env) (σ : L2.St) (g : G) (H : Hp) : RL → (It → Hp → Prop) → Prop
  | .ok ds S', R => ∀ It1 g' H', Rel T g' Γ ρ S' σ H' → FrE g H g' H' → ItOk T g' H' It1 ds → R It1 H'
  | .exc x S', _ => ∀ c dd g' H', Rel T g' Γ ρ S' σ H' → FrE g H g' H' → ExcR T g' H' x c dd → W c dd σ H'
  | .no, _ => False
def tI (T : Th) (W : WX) (Γ : List Md) (F : FL) : TI := fun σ H Q => ∃ g ρ S, Rel T g Γ ρ S σ H ∧ GoodI T W Γ ρ σ g H (F ρ S) Q
abbrev XI (X : Cx) (T : Th) (W : WX) (Γ : List Md) (tg it : Expr) (F : FL) : Prop := PI X tg it (tI T W Γ F)
theorem pi_imp {X : Cx} {tg e : Expr} {t t' : TI} (h : PI X tg e t) (i : ∀ σ H Q, t' σ H Q → t σ H Q) : PI X tg e t' := ⟨fun pins s σ H Q I q => h.run pins s σ H Q I (i σ H Q q)⟩
/-- a value is walked -/
def ItR (X : Cx) (tg : Expr) (r : V → Hp → (It → Hp → Prop) → Prop) : Prop := ∀ (pins : List (Addr × Obj)) (s : Shared) (σ : L2.St) (H : Hp) (x : V) (v : Value) (R : It → Hp → Prop), Inv X pins σ H s → RelV x v → r x H R →
  wpAny (model X.prog X.w) X.A (pyIter v) (PIE X pins σ tg R) X.xe s
theorem itr_or {tg : Expr} {r1 r2 : V → Hp → (It → Hp → Prop) → Prop} (a : ItR X tg r1) (b : ItR X tg r2) : ItR X tg (fun x H R => r1 x H R ∨ r2 x H R) := fun pins s σ H x v R I rx h =>
  h.elim (a pins s σ H x v R I rx) (b pins s σ H x v R I rx)
theorem pi_of {tg l : Expr} {tl : TE} {r : V → Hp → (It → Hp → Prop) → Prop} (hl : PE X l tl) (hr : ItR X tg r) : PI X tg l (fun σ H R => tl σ H fun x H1 => r x H1 R) := by
  refine ⟨fun pins s σ H R I h => ?_⟩
  refine thn (hl.run pins s σ H _ I h) fun v s1 ⟨x, H1, I1, r1, q1⟩ => ?_
  exact hr pins s1 σ H1 x v R I1 r1 q1
theorem itr_list {tg : Expr} : ItR X tg (fun x H R => ∃ a, x = .ref a ∧ (∃ xs, SqL X.K H a xs) ∧ R (Itl X.K a) H) := by
  intro pins s1 σ H1 x v R I1 r1 h
  obtain ⟨a, e, ⟨xs, hq⟩, q⟩ := h
  subst e
  cases r1
  obtain ⟨its, rv, p, hz⟩ := I1.list hq
  refine wpAny_pyIter_list p.isList ?_
  refine ⟨s1.heap.objs.size, [s1.heap.objs.size], _, _, H1, rfl, I1.kept (t' := s1.toks) fun b o e => Heap.get?_push_of_some _ e, turn_list a _, ⟨_, Heap.get?_push_size _ rfl, rfl, rfl⟩, fun b hb => ?_, q⟩
  have e : b = s1.heap.objs.size := by simpa using hb
  subst e
  exact I1.fpOk (Nat.le_refl _) (I1.hok.fresh (Nat.le_refl _))
theorem itr_tup {tg : Expr} : ItR X tg (fun x H R => ∃ a, x = .ref a ∧ (∃ xs, SqT X.K H a xs) ∧ R (Itt X.K a) H) := by
  intro pins s1 σ H1 x v R I1 r1 h
  obtain ⟨a, e, ⟨xs, hq⟩, q⟩ := h
  subst e
  cases r1
  obtain ⟨its, rv, p, hz⟩ := I1.tuple hq
  refine wpAny_pyIter_tuple (show s1.heap.IsTuple a its.toArray from p) ?_
  refine ⟨s1.heap.objs.size, [s1.heap.objs.size], _, _, H1, rfl, I1.kept (t' := s1.toks) fun b o e => Heap.get?_push_of_some _ e, turn_tuple a _, ⟨_, Heap.get?_push_size _ rfl, rfl, rfl⟩, fun b hb => ?_, q⟩
  have e : b = s1.heap.objs.size := by simpa using hb
  subst e
  exact I1.fpOk (Nat.le_refl _) (I1.hok.fresh (Nat.le_refl _))
def hSeq : D → Option (List D)
  | .lst l => some l
  | .scr l => some l
  | .tup l => some l
  | _ => none
def iSeq (a : FE) : FL := fun ρ S => match a ρ S with
  | .ok d S1 => (match hSeq d with
    | some l => .ok l S1
    | none => .no)
  | .exc x S1 => .exc x S1
  | .no => .no
theorem itOk_list {g : G} {H : Hp} {a : Addr} {l : List D} {vs : List V} (st : ∀ g' H', Stay g H g' H' → SqL T.K H' a vs) (s : ShrL T g H l vs) : ItOk T g H (Itl T.K a) l := fun g' H' i y => by
  refine ⟨fun h => ⟨vs, st g' H' y, by rw [← s.length]; exact h⟩, fun d e => ?_⟩
  obtain ⟨v, h1, h2⟩ := (s.stay y l vs).get e
  exact ⟨⟨vs, v, st g' H' y, h1⟩, fun x H'' ⟨e1, e2⟩ => by subst e1; have := e2 vs (st g' _ y); rw [h1] at this; cases this; exact ⟨.refl _, h2⟩⟩
theorem itOk_tup {g : G} {H : Hp} {a : Addr} {l : List D} {vs : List V} (st : ∀ g' H', Stay g H g' H' → SqT T.K H' a vs) (s : ShrL T g H l vs) : ItOk T g H (Itt T.K a) l := fun g' H' i y => by
  refine ⟨fun h => ⟨vs, st g' H' y, by rw [← s.length]; exact h⟩, fun d e => ?_⟩
  obtain ⟨v, h1, h2⟩ := (s.stay y l vs).get e
  exact ⟨⟨vs, v, st g' H' y, h1⟩, fun x H'' ⟨e1, e2⟩ => by subst e1; have := e2 vs (st g' _ y); rw [h1] at this; cases this; exact ⟨.refl _, h2⟩⟩
theorem xi_seq {W : WX} {tg e : Expr} {A : FE} (hK : X.K = T.K) (ha : XE X T W Γ e A) : XI X T W Γ tg e (iSeq A) := pi_imp (pi_of ha (itr_or itr_list itr_tup)) fun σ H Q ⟨g, ρ, S, R, h⟩ => by
  refine ⟨g, ρ, S, R, ?_⟩
  unfold iSeq at h
  cases e : A ρ S with
  | ok d S1 =>
    rw [e] at h
    intro v g' H' R' f' s
    rw [hK]
    have h : GoodI T W Γ ρ σ g H (match hSeq d with | some l => RL.ok l S1 | none => .no) Q := h
    cases d <;> simp only [hSeq] at h <;> first | exact h.elim | skip
    · obtain ⟨a, vs, rfl, la, ra⟩ := shr_tup.mp s
      exact .inr ⟨a, rfl, ⟨vs, la.sq⟩, h _ g' H' R' f' (itOk_tup (fun g2 H2 y => by
        rcases la with z | z
        · exact .inl (y.rd z.1 z.2).1
        · exact .inr z) ra)⟩
    · obtain ⟨a, vs, rfl, la, ra⟩ := shr_lst.mp s
      exact .inl ⟨a, rfl, ⟨vs, .of la.1⟩, h _ g' H' R' f' (itOk_list (fun g2 H2 y => .of (y.keep _ _ la.1 la.2)) ra)⟩
    · obtain ⟨a, vs, rfl, la, ra⟩ := shr_scr.mp s
      exact .inl ⟨a, rfl, ⟨vs, la.sq⟩, h _ g' H' R' f' (itOk_list (fun g2 H2 y => by
        rcases la with z | z
        · exact .inl (y.rd z.1 z.2).1
        · exact .inr z) ra)⟩
  | exc x S1 => rw [e] at h; exact h
  | no => rw [e] at h; exact h
/-- range(n), range(a, b) -/
def rangeL (lo hi : Int) : List D := (List.range (hi - lo).toNat).map fun (k : Nat) => D.int (lo + k)
def rgK1 (ds : List D) (S : Store) : RL := match ds with
  | [.int n] => if -1000000000000 ≤ n ∧ n ≤ 1000000000000 then .ok (rangeL 0 n) S else .no
  | _ => .no
def rgK2 (ds : List D) (S : Store) : RL := match ds with
  | [.int lo, .int hi] => if (-1000000000000 ≤ lo ∧ lo ≤ 1000000000000) ∧ -1000000000000 ≤ hi ∧ hi ≤ 1000000000000 then .ok (rangeL lo hi) S else .no
  | _ => .no
def iRange1 (a : FL) : FL := fun ρ S => match a ρ S with
  | .ok ds S1 => rgK1 ds S1
  | .exc x S1 => .exc x S1
  | .no => .no
def iRange2 (a : FL) : FL := fun ρ S => match a ρ S with
  | .ok ds S1 => rgK2 ds S1
  | .exc x S1 => .exc x S1
  | .no => .no
theorem itOk_range {g : G} {H : Hp} {lo hi : Int} : ItOk T g H (Itr lo (hi - lo).toNat) (rangeL lo hi) := fun g' H' i y => by
  refine ⟨fun h => ?_, fun d e => ?_⟩
  · show (hi - lo).toNat ≤ i
    simpa [rangeL] using h
  · unfold rangeL at e
    rw [List.getElem?_map] at e
    obtain ⟨k, e1, e2⟩ := Option.map_eq_some_iff.mp e
    obtain ⟨hk, e3⟩ := List.getElem?_eq_some_iff.mp e1
    rw [List.getElem_range] at e3
    subst e3
    subst e2
    rw [List.length_range] at hk
    exact ⟨hk, fun x H'' ⟨e1, e2⟩ => by subst e1; subst e2; exact ⟨.refl _, shr_int.mpr rfl⟩⟩
theorem xi_range1 {W : WX} {tg e a : Expr} {A : FL} (ha : XL X T W Γ [a] A) (he : PA X [a] (tXL T W Γ A) → PI X tg e (iRng1 (tXL T W Γ A))) : XI X T W Γ tg e (iRange1 A) := pi_imp (he ha) fun σ H Q ⟨g, ρ, S, R, h⟩ => by
  refine ⟨g, ρ, S, R, ?_⟩
  unfold iRange1 at h
  cases e : A ρ S with
  | exc x S1 => rw [e] at h; exact h
  | no => rw [e] at h; exact h
  | ok ds S1 =>
    rw [e] at h
    replace h : GoodI T W Γ ρ σ g H (rgK1 ds S1) Q := h
    unfold rgK1 at h
    split at h
    · rename_i n
      split at h
      · rename_i hl
        intro v g' H' R' f' s
        obtain ⟨v, rfl, s1⟩ := shrL1 s
        rw [shr_int.mp s1]
        refine ⟨n, rfl, by omega, by omega, h _ g' H' R' f' ?_⟩
        have := itOk_range (T := T) (g := g') (H := H') (lo := 0) (hi := n)
        rw [Int.sub_zero] at this
        exact this
      · exact h.elim
    · exact h.elim
theorem xi_range2 {W : WX} {tg e a b : Expr} {A : FL} (ha : XL X T W Γ [a, b] A) (he : PA X [a, b] (tXL T W Γ A) → PI X tg e (iRng2 (tXL T W Γ A))) : XI X T W Γ tg e (iRange2 A) := pi_imp (he ha) fun σ H Q ⟨g, ρ, S, R, h⟩ => by
  refine ⟨g, ρ, S, R, ?_⟩
  unfold iRange2 at h
  cases e : A ρ S with
  | exc x S1 => rw [e] at h; exact h
  | no => rw [e] at h; exact h
  | ok ds S1 =>
    rw [e] at h
    replace h : GoodI T W Γ ρ σ g H (rgK2 ds S1) Q := h
    unfold rgK2 at h
    split at h
    · rename_i lo hi
      split at h
      · rename_i hl
        intro v g' H' R' f' s
        obtain ⟨v, w, rfl, s1, s2⟩ := shrL2 s
        rw [shr_int.mp s1, shr_int.mp s2]
        exact ⟨lo, hi, rfl, ⟨by omega, by omega, by omega, by omega⟩, h _ g' H' R' f' itOk_range⟩
      · exact h.elim
    · exact h.elim
/-- a text, sign by sign -/
def iStrD (a : FE) : FL := fun ρ S => match a ρ S with
  | .ok (.str x) S1 => .ok (x.cps.toList.map fun c => D.str ⟨#[c]⟩) S1
  | .exc x S1 => .exc x S1
  | _ => .no
theorem xi_str {W : WX} {tg e : Expr} {A : FE} (ha : XE X T W Γ e A) : XI X T W Γ tg e (iStrD A) := pi_imp (pi_str ha) fun σ H Q ⟨g, ρ, S, R, h⟩ => by
  refine ⟨g, ρ, S, R, ?_⟩
  unfold iStrD at h
  split at h
  · rename_i x S1 e
    rw [e]
    intro v g' H' R' f' s
    refine ⟨x, shr_str.mp s, h _ g' H' R' f' fun g2 H2 i y => ?_⟩
    refine ⟨fun hl => ?_, fun d e => ?_⟩
    · show x.cps.size ≤ i
      simpa using hl
    · rw [List.getElem?_map] at e
      obtain ⟨c, e1, e2⟩ := Option.map_eq_some_iff.mp e
      subst e2
      have e3 : x.cps[i]? = some c := by simpa using e1
      refine ⟨?_, fun z H3 ⟨z1, c', z2, z3⟩ => ?_⟩
      · show i < x.cps.size
        exact (Array.getElem?_eq_some_iff.mp e3).1
      · subst z1
        rw [e3] at z2
        cases z2
        exact ⟨.refl _, shr_str.mpr z3⟩
  · rename_i e
    rw [e]
    exact h
  · exact h.elim
/-! ### targets -/
def G.drops (g : G) (is : List Nat) : G := { g with F := fun j a => j ∉ is ∧ g.F j a }
theorem G.drops_U {g : G} {is : List Nat} {a : Addr} (h : (g.drops is).U a) : g.U a := by
  rcases h with h | ⟨j, _, h⟩ | h
  · exact .inl h
  · exact .inr (.inl ⟨j, h⟩)
  · exact .inr (.inr h)
theorem FrS.drops {g : G} {H : Hp} {is : List Nat} : FrS g H (g.drops is) H := ⟨fun _ _ h _ => h, fun a h => .inl (G.drops_U h), rfl, rfl, Nat.le_refl _, fun _ _ => rfl, fun _ o h => ⟨o, h⟩⟩
theorem G.drops_one {g : G} {i : Nat} : g.drop i = g.drops [i] := by
  unfold G.drop G.drops
  congr 1
  funext j a
  simp
theorem G.drops_nil {g : G} : g.drops [] = g := by
  unfold G.drops
  congr 1
  funext j a
  simp
theorem G.drops_app {g : G} {is js : List Nat} : (g.drops is).drops js = g.drops (is ++ js) := by
  unfold G.drops
  congr 1
  funext j a
  simp only [List.mem_append, not_or, eq_iff_iff]
  exact ⟨fun h => ⟨⟨h.2.1, h.1⟩, h.2.2⟩, fun h => ⟨h.1.2, h.1.1, h.2⟩⟩
def TgOk (T : Th) (Γ Γ' : List Md) (is : List Nat) (t : TG) (tf : D → Env → Option Env) : Prop := ∀ (g : G) (ρ ρ' : Env) (S : Store) (σ : L2.St) (H : Hp) (d : D) (v : V) (Q : L2.St → Hp → Prop), Rel T g Γ ρ S σ H → Shr T g H d v → tf d ρ = some ρ' →
  (∀ σ', Rel T (g.drops is) Γ' ρ' S σ' H → σ'.length = σ.length → (∀ j, j ∉ is → σ'[j]? = σ[j]?) → Q σ' H) → t v σ H Q
def tfName (i : Nat) : D → Env → Option Env := fun d ρ => some (ρ.set i (some d))
theorem tg_name {i : Nat} (h : Γ.set i .s = Γ') : TgOk T Γ Γ' [i] (gName i) (tfName i) := fun g ρ ρ' S σ H d v Q R s e k => by
  cases e
  subst h
  refine k _ ?_ (by simp) fun j hj => List.getElem?_set_ne (fun z => hj (by simp [z]))
  rw [← G.drops_one]
  exact R.set s
def TgsOk (T : Th) (Γ Γ' : List Md) (is : List Nat) (t : TGs) (tf : List D → Env → Option Env) : Prop := ∀ (g : G) (ρ ρ' : Env) (S : Store) (σ : L2.St) (H : Hp) (d : List D) (v : List V) (Q : L2.St → Hp → Prop), Rel T g Γ ρ S σ H → ShrL T g H d v → tf d ρ = some ρ' →
  (∀ σ', Rel T (g.drops is) Γ' ρ' S σ' H → σ'.length = σ.length → (∀ j, j ∉ is → σ'[j]? = σ[j]?) → Q σ' H) → t v σ H Q
def tfNil : List D → Env → Option Env := fun ds ρ => match ds with
  | [] => some ρ
  | _ => none
def tfCons (t : D → Env → Option Env) (u : List D → Env → Option Env) : List D → Env → Option Env := fun ds ρ => match ds with
  | d :: r => (t d ρ).bind (u r)
  | _ => none
theorem tgs_nil : TgsOk T Γ Γ [] gNil tfNil := fun g ρ ρ' S σ H d v Q R s e k => by
  unfold tfNil at e
  split at e
  · cases e
    simp only [ShrL] at s
    exact ⟨s, k σ (by rw [G.drops_nil]; exact R) rfl fun _ _ => rfl⟩
  · cases e
theorem tgs_cons {is js : List Nat} {t : TG} {u : TGs} {tf : D → Env → Option Env} {uf : List D → Env → Option Env} (h : TgOk T Γ Γ1 is t tf) (h' : TgsOk T Γ1 Γ' js u uf) : TgsOk T Γ Γ' (is ++ js) (gCons t u) (tfCons tf uf) := fun g ρ ρ' S σ H d v Q R s e k => by
  unfold tfCons at e
  split at e
  · rename_i d' r
    simp only [ShrL] at s
    obtain ⟨v', ws, rfl, s1, s2⟩ := s
    obtain ⟨ρ1, e1, e2⟩ := Option.bind_eq_some_iff.mp e
    refine ⟨v', ws, rfl, h g ρ ρ1 S σ H d' v' _ R s1 e1 fun σ1 R1 l1 k1 => ?_⟩
    exact h' _ ρ1 ρ' S σ1 H r ws Q R1 (ShrL.stay FrS.drops.stay _ _ s2) e2 fun σ2 R2 l2 k2 => k σ2 (by rw [G.drops_app] at R2; exact R2) (l2.trans l1) fun j hj => by
      rw [List.mem_append, not_or] at hj
      rw [k2 j hj.2, k1 j hj.1]
  · cases e
def tfTup (n : Nat) (u : List D → Env → Option Env) : D → Env → Option Env := fun d ρ => match d with
  | .tup l => if l.length = n then u l ρ else none
  | _ => none
theorem tg_tup {n : Nat} {is : List Nat} {u : TGs} {uf : List D → Env → Option Env} (h : TgsOk T Γ Γ' is u uf) : TgOk T Γ Γ' is (gTup T.K n u) (tfTup n uf) := fun g ρ ρ' S σ H d v Q R s e k => by
  unfold tfTup at e
  split at e
  · rename_i l
    split at e
    · rename_i hl
      obtain ⟨a, vs, rfl, la, ra⟩ := shr_tup.mp s
      exact ⟨a, vs, rfl, la.sq, by rw [← ra.length]; exact hl, h g ρ ρ' S σ H l vs Q R ra e k⟩
    · cases e
  · cases e
/-- a target takes a value -/
def fAsg (a : FE) (tf : D → Env → Option Env) : FS := fun ρ S => (a ρ S).bindS ρ fun d S1 => match tf d ρ with
  | some ρ1 => .nx ρ1 S1
  | none => .no
theorem xs_asg {e : Expr} {A : FE} {st : Stmt} {t : TG} {tf : D → Env → Option Env} {is : List Nat} (hx : J.ΓX Γ) (ht : TgOk T Γ Γ' is t tf) (ha : XE X T J.W Γ e A) (he : PE X e (tX T J.W Γ A) → PS X st (tAsg (tX T J.W Γ A) t)) : XS X T J Γ Γ' st (fAsg A tf) := ps_imp (he ha) fun D σ H ⟨g, ρ, S, R, h⟩ =>
  ⟨g, ρ, S, R, good_bindS R hx h fun d S1 v g1 H1 _ R1 f1 s1 h1 => by
    cases e : tf d ρ with
    | none => rw [e] at h1; exact h1.elim
    | some ρ1 =>
      rw [e] at h1
      exact ht g1 ρ ρ1 S1 σ H1 d v D.nx R1 s1 e fun σ' R' _ _ => h1 σ' _ H1 R' .drops⟩
theorem xs_for {tg it : Expr} {body : List Stmt} {F : FL} {B : FS} {tf : D → Env → Option Env} {t : TG} {is : List Nat} {pos : Pos} (hx : J.ΓX Γ) (hp : PassesOwn (model X.prog X.w) X.A X.env X.xe) (hc : X.calm = true) (hi : XI X T J.W Γ tg it F) (hg : PG X tg t) (ht : TgOk T Γ Γ is t tf)
    (hb : XB X T { J with Γl := Γ } Γ Γ body B) (hs : ∀ x, foldedSetIterable it X.env x = pure x := by intro _; rfl) : XS X T J Γ Γ (.For tg it body [] pos) (fFor F tf B) := ps_imp (ps_for hp hc hi hg hb hs) fun D σ H ⟨g, ρ, S, R, h⟩ => by
  refine ⟨g, ρ, S, R, ?_⟩
  unfold fFor at h
  cases e : F ρ S with
  | exc x S1 => rw [e] at h; exact fun c dd g' H' R' f' s => h Γ c dd σ g' H' hx R' (f'.frs R.dOB) s
  | no => rw [e] at h; exact h
  | ok ds S1 =>
    rw [e] at h
    intro It1 g1 H1 R1 f1 io
    have h : GoodS T J Γ g H (forL tf B ds ρ S1) D := h
    have f1' := f1.frs R.dOB
    have h0 := GoodS.then h f1'
    generalize hr : forL tf B ds ρ S1 = r at h0
    clear h
    refine ⟨fun i m σ' H' => ∃ g' ρ' S', Rel T g' Γ ρ' S' σ' H' ∧ FrS g1 H1 g' H' ∧ m = ds.length - i ∧ i ≤ ds.length ∧ forL tf B (ds.drop i) ρ' S' = r, ⟨ds.length, g1, ρ, S1, R1, .refl _ _, by simp, Nat.zero_le _, by rw [List.drop_zero]; exact hr⟩, fun i m σ' H' ⟨g', ρ', S', R', f', em, hi', er⟩ => ?_⟩
    obtain ⟨i1, i2⟩ := io g' H' i f'.stay
    have h2 := GoodS.then h0 f'
    by_cases hlt : i < ds.length
    · obtain ⟨d, hd⟩ : ∃ d, ds[i]? = some d := ⟨ds[i], List.getElem?_eq_getElem hlt⟩
      obtain ⟨go, yl⟩ := i2 d hd
      refine .inr ⟨go, fun σ2 H2 => ∃ m', m' < m ∧ ∃ g' ρ' S', Rel T g' Γ ρ' S' σ2 H2 ∧ FrS g1 H1 g' H2 ∧ m' = ds.length - (i + 1) ∧ i + 1 ≤ ds.length ∧ forL tf B (ds.drop (i + 1)) ρ' S' = r, fun σ2 H2 ⟨m', l, w⟩ => ⟨m', l, w⟩, fun x H2 y => ?_⟩
      obtain ⟨ex, sx⟩ := yl x H2 y
      have R2 := R'.ex ex
      have f2 : FrS g1 H1 g' H2 := f'.trans ((FrE.ex ex).frs R'.dOB)
      have ed : ds.drop i = d :: ds.drop (i + 1) := by
        rw [List.drop_eq_getElem_cons hlt]
        rw [List.getElem?_eq_getElem hlt] at hd
        rw [Option.some.inj hd]
      rw [ed] at er
      rw [forL] at er
      split at er
      · rename_i e1
        rw [← er] at h2
        exact h2.elim
      · rename_i ρ1 e1
        refine ht g' ρ' ρ1 S' σ' H2 d x _ R2 sx e1 fun σ3 R3 _ _ => ⟨g'.drops is, ρ1, S', R3, ?_⟩
        have f3 : FrS g' H2 (g'.drops is) H2 := .drops
        have h3 := GoodS.then h2 (((FrE.ex ex).frs R'.dOB).trans f3)
        have nxt : ∀ {ρ2 : Env} {S2 : Store}, forL tf B (ds.drop (i + 1)) ρ2 S2 = r → ∀ σ4 g4 H4, Rel T g4 Γ ρ2 S2 σ4 H4 → FrS (g'.drops is) H2 g4 H4 → ∃ m', m' < m ∧ ∃ g' ρ' S', Rel T g' Γ ρ' S' σ4 H4 ∧ FrS g1 H1 g' H4 ∧ m' = ds.length - (i + 1) ∧ i + 1 ≤ ds.length ∧ forL tf B (ds.drop (i + 1)) ρ' S' = r :=
          fun {ρ2 S2} e2 σ4 g4 H4 R4 f4 => ⟨ds.length - (i + 1), by omega, g4, ρ2, S2, R4, (f2.trans f3).trans f4, rfl, hlt, e2⟩
        split at er
        · rename_i eb; rw [eb]; exact nxt er
        · rename_i eb; rw [eb]; exact nxt er
        · rename_i eb
          rw [eb]
          rw [← er] at h3
          exact h3
        · rename_i n1 n2 n3
          rw [← er] at h3
          cases eb : B ρ1 S' with
          | nx a b => exact absurd eb (n1 a b)
          | ct a b => exact absurd eb (n2 a b)
          | bk a b => exact absurd eb (n3 a b)
          | rt d a b => rw [eb] at h3; exact h3
          | exc x a b => rw [eb] at h3; exact h3
          | no => rw [eb] at h3; exact h3
    · have e1 : i = ds.length := by omega
      subst e1
      refine .inl ⟨i1 (Nat.le_refl _), ?_⟩
      rw [List.drop_length] at er
      rw [← er] at h2
      exact h2 σ' g' H' R' (.refl _ _)
end
end Q

/-! Defs and calls. -/
namespace Q
open PySem PySem.Spec PyProof.Rows L2
/-- what a call comes to; outs: what its pinned parameters hold at its end -/
inductive RF where
  | ok (d : D) (outs : Env) (S : Store)
  | exc (x : Exc) (outs : Env) (S : Store)
  | no
abbrev FF := List D → Store → RF
structure Sig where
  ms : List Md
  kr : Nat
def GoodF (T : Th) (sg : Sig) (g : G) (vs : List V) (H : Hp) : RF → VK → XK → Prop
  | .ok d outs S', Q, _ => ∀ v g' H' Fo, Rel T (g'.plus Fo) sg.ms outs S' (vs.map some) H' → FrS g H g' H' → (∀ i a, g'.F i a → ∃ k, sg.ms.getD i .s = .p k) → (∀ a, Fo a → ¬ g.O a ∧ (g.U a ∨ H a = none)) → Own T (g'.plus Fo) H' sg.kr Fo d v → Q v H'
  | .exc x outs S', _, E => ∀ c dd g' H', Rel T g' sg.ms outs S' (vs.map some) H' → FrS g H g' H' → (∀ i a, g'.F i a → ∃ k, sg.ms.getD i .s = .p k) → ExcR T g' H' x c dd → E c dd H'
  | .no, _, _ => False
/-- what a def promises: on data it comes to Φ -/
def spD (T : Th) (n : Nat) (sg : Sig) (Φ : FF) : Sp := fun vs H Q E => vs.length = n ∧ ∃ g ds S, Rel T g sg.ms (ds.map some) S (vs.map some) H ∧ GoodF T sg g vs H (Φ ds S) Q E
/-- what the pinned parameters hold -/
def outsOf : List Md → Nat → Env → Env
  | _, 0, _ => []
  | ms, n + 1, ρ => (match ms.headD .s with
    | .p _ => ρ.headD none
    | _ => none) :: outsOf ms.tail n ρ.tail
def fBody (N n : Nat) (ms : List Md) (b : FS) : FF := fun ds S => match b (ds.map some ++ List.replicate (N - n) none) S with
  | .nx ρ S' => .ok .non (outsOf ms n ρ) S'
  | .rt d ρ S' => .ok d (outsOf ms n ρ) S'
  | .exc x ρ S' => .exc x (outsOf ms n ρ) S'
  | _ => .no
theorem outsOf_length : ∀ (ms : List Md) (n : Nat) (ρ : Env), (outsOf ms n ρ).length = n
  | _, 0, _ => rfl
  | ms, n + 1, ρ => by rw [outsOf, List.length_cons, outsOf_length]
theorem outsOf_get : ∀ (ms : List Md) (n : Nat) (ρ : Env) (i : Nat) (d : D), (outsOf ms n ρ)[i]? = some (some d) → i < n ∧ (∃ k, ms.getD i .s = .p k) ∧ ρ[i]? = some (some d)
  | _, 0, _, i, d, h => by simp [outsOf] at h
  | ms, n + 1, ρ, 0, d, h => by
    rw [outsOf, List.getElem?_cons_zero] at h
    have h := Option.some.inj h
    split at h
    · rename_i k e
      refine ⟨Nat.succ_pos _, ⟨k, ?_⟩, ?_⟩
      · cases ms with
        | nil => cases e
        | cons m r => exact e
      · cases ρ with
        | nil => cases h
        | cons x r => simp at h; simp [h]
    · cases h
  | ms, n + 1, ρ, i + 1, d, h => by
    rw [outsOf, List.getElem?_cons_succ] at h
    obtain ⟨h1, ⟨k, h2⟩, h3⟩ := outsOf_get ms.tail n ρ.tail i d h
    refine ⟨by omega, ⟨k, ?_⟩, ?_⟩
    · cases ms with
      | nil => simp at h2
      | cons m r => simpa using h2
    · cases ρ with
      | nil => simp at h3
      | cons x r => simpa using h3
/-- a pinned parameter is pinned still -/
def ΓP (ms : List Md) : List Md → Prop := fun Γ => ∀ i k, ms.getD i .s = .p k → Γ.getD i .s = .p k
section
variable {T : Th}
/-- the slots go, but the pinned parameters -/
def G.only (g : G) (ms : List Md) : G := { g with F := fun i a => (∃ k, ms.getD i .s = .p k) ∧ g.F i a }
theorem G.only_U {g : G} {ms : List Md} {a : Addr} (h : (g.only ms).U a) : g.U a := by
  rcases h with h | ⟨j, _, h⟩ | h
  · exact .inl h
  · exact .inr (.inl ⟨j, h⟩)
  · exact .inr (.inr h)
theorem Rel.outs {g g0 : G} {Γ ms : List Md} {ρ : Env} {S : Store} {σ : L2.St} {H : Hp} {vs : List V} {n : Nat} (R : Rel T g Γ ρ S σ H) (hΓ : ΓP ms Γ) (hn : vs.length = n) (hP : g.P = g0.P) (h0 : ∀ i k, ms.getD i .s = .p k → i < n → vs[i]? = some (g0.P i)) :
    Rel T (g.only ms) ms (outsOf ms n ρ) S (vs.map some) H := by
  refine R.shift rfl rfl rfl rfl (fun a h => G.only_U h) (fun i j a h h' => R.dF i j a h.2 h'.2) (fun i a h => R.dFO i a h.2) (fun a h => .inl h) (fun i a h => .inl ⟨i, h.2⟩) (by rw [outsOf_length, List.length_map, hn]) fun st i d e => ?_
  obtain ⟨hi, ⟨k, hk⟩, e2⟩ := outsOf_get ms n ρ i d e
  obtain ⟨v, h1, h2⟩ := R.slot i d e2
  rw [hΓ i k hk] at h2
  have h3 := h2.stay (g2 := g.only ms) st (fun a z => ⟨⟨k, hk⟩, z⟩) (fun a z => z) rfl (bare_sub rfl rfl (fun i a z => ⟨i, z.2⟩) fun _ z => z)
  refine ⟨v, ?_, by rw [hk]; exact h3⟩
  have ev : v = g0.P i := by rw [← hP]; exact h2.1
  rw [List.getElem?_map, h0 i k hk hi, ev]
  rfl
theorem own_non {g : G} {H : Hp} {k : Nat} {F : Addr → Prop} : Own T g H k F .non .non := by
  cases k <;> simp [Own, Shr]
theorem FrS.only {g g1 : G} {H H1 : Hp} {ms : List Md} (f : FrS g H g1 H1) : FrS g H (g1.only ms) H1 := ⟨f.keep, fun a h => f.own a (G.only_U h), f.O, f.P, f.N, f.μ, f.dom⟩
end
section
variable {P : Program} {w : World} {K : PySem.W.Frag} {mg : Str → Option Value} {base : Heap} {T : Th}
/-- how a def's body is left -/
def jdF (ms : List Md) (kr : Nat) (E : XK) : Jd := ⟨fun c dd _ H => E c dd H, ΓP ms, ΓP ms, kr, []⟩
theorem start_eq {N : List Str} {vs : List V} {n : Nat} (h : vs.length = n) : L2.start N vs = vs.map some ++ List.replicate (N.length - n) none := by
  unfold L2.start
  rw [h]
/-- how a def is known -/
def OkRule (P : Program) (w : World) (K : PySem.W.Frag) (mg : Str → Option Value) (base : Heap) (qual : Str) (st : Stmt) (f : Addr) (fd : FuncData) : Prop := ∀ {N ps : List Str} {k : Nat} {sp : Sp}, FnScope N ps (defScope st) → (∀ vs H Q E, sp vs H Q E → vs.length = ps.length) →
  (∀ (cdv : Value) (A : Around) (outer : List PySem.Env) (s : Shared) (H : Hp) (vs : List V) (Q : VK) (E : XK), Room k (A.deeper (envOfC qual (defScope st) s.heap.objs.size f cdv)) → sp vs H Q E →
    ∃ t, PSs (cxOf (L2.CX P w) P w K mg base N qual (defScope st) f cdv A outer s H E) (defBody st) t ∧ t { nx := fun _ H' => Q .non H', rt := Q } (L2.start N vs) H) → FnOk P w K mg base (L2.CX P w) (k + 1) f fd ps sp
theorem okRule_fun {x qual : Str} {st : Stmt} {f : Addr} {fd : FuncData} (F : Fun K x qual st f fd) : OkRule P w K mg base qual st f fd := fun Sc len h => F.okX Sc len h
/-- THE RULE of a def: its body's derivation for every entry -/
theorem fn_okR {qual : Str} {st : Stmt} {f : Addr} {fd : FuncData} {N ps : List Str} {k n : Nat} {sg : Sig} {B : FS} {Γ' : List Md} (F : OkRule P w K mg base qual st f fd) (Sc : FnScope N ps (defScope st)) (hn : ps.length = n) (hN : n ≤ N.length)
    (hbody : ∀ (cdv : Value) (A : Around) (outer : List PySem.Env) (s : Shared) (H : Hp) (E : XK), Room k (A.deeper (envOfC qual (defScope st) s.heap.objs.size f cdv)) →
      XB (cxOf (L2.CX P w) P w K mg base N qual (defScope st) f cdv A outer s H E) T (jdF sg.ms sg.kr E) (sg.ms ++ List.replicate (N.length - sg.ms.length) .s) Γ' (defBody st) B) (hl : ΓP sg.ms Γ') :
    FnOk P w K mg base (L2.CX P w) (k + 1) f fd ps (spD T n sg (fBody N.length n sg.ms B)) := by
  refine F Sc (fun vs H Q E h => by rw [hn]; exact h.1) (fun cdv A outer s H vs Q E hr h => ⟨_, hbody cdv A outer s H E hr, ?_⟩)
  obtain ⟨hvn, g, ds, S, R, hg⟩ := h
  have hdn : ds.length = n := by
    have := R.len
    rw [List.length_map, List.length_map] at this
    omega
  have gd : ∀ i, (sg.ms ++ List.replicate (N.length - sg.ms.length) Md.s).getD i .s = sg.ms.getD i .s := fun i => by
    by_cases hi : i < sg.ms.length
    · simp [List.getD, List.getElem?_append_left hi]
    · simp only [List.getD]
      rw [List.getElem?_append_right (by omega), List.getElem?_eq_none (l := sg.ms) (by omega), List.getElem?_replicate]
      split <;> rfl
  have R0 : Rel T g (sg.ms ++ List.replicate (N.length - sg.ms.length) .s) (ds.map some ++ List.replicate (N.length - n) none) S (L2.start N vs) H := by
    rw [start_eq hvn]
    refine ⟨by rw [List.length_append, List.length_append, R.len]; simp, fun i d e => ?_, R.dF, R.dFO, R.dFB, R.dOB, R.dom, R.st, R.nt⟩
    by_cases hi : i < ds.length
    · rw [List.getElem?_append_left (by simpa using hi)] at e
      obtain ⟨v, h1, h2⟩ := R.slot i d e
      refine ⟨v, ?_, by rw [gd]; exact h2⟩
      rw [List.getElem?_append_left (by simp; omega)]
      exact h1
    · rw [List.getElem?_append_right (by simpa using hi), List.getElem?_replicate] at e
      split at e <;> cases e
  have pin : ∀ i k, sg.ms.getD i .s = .p k → i < n → vs[i]? = some (g.P i) := fun i k hk hi => by
    obtain ⟨v, h1, h2⟩ := R.slot i ds[i] (by rw [List.getElem?_map, List.getElem?_eq_getElem (by omega)]; rfl)
    rw [hk] at h2
    rw [List.getElem?_map] at h1
    cases e : vs[i]? with
    | none => rw [e] at h1; cases h1
    | some u =>
      rw [e] at h1
      cases h1
      rw [h2.1]
  refine ⟨g, _, S, R0, ?_⟩
  unfold fBody at hg
  cases e : B (ds.map some ++ List.replicate (N.length - n) none) S with
  | nx ρ S' =>
    rw [e] at hg
    intro σ' g' H' R' f'
    refine hg .non (g'.only sg.ms) H' (fun _ => False) ?_ f'.only (fun i a z => z.1) (fun _ z => z.elim) own_non
    exact plus_none (R'.outs hl hvn f'.P pin)
  | rt d ρ S' =>
    rw [e] at hg
    intro Γ'' v σ' g' H' Fo hr' R' f' ho hw
    have R2 := R'.outs hr' hvn (show (g'.plus Fo).P = g.P from f'.P) pin
    have st2 : Stay (g'.plus Fo) H' ((g'.only sg.ms).plus Fo) H' := ⟨fun _ _ h _ => h, fun a h => .inl (by
      rcases h with h | ⟨j, _, h⟩ | h
      · exact .inl h
      · exact .inr (.inl ⟨j, h⟩)
      · exact .inr (.inr h)), Nat.le_refl _, fun _ _ => rfl, rfl⟩
    have hw' : Own T ((g'.only sg.ms).plus Fo) H' sg.kr Fo d v := Own.keepF st2 _ _ _ _ (fun _ _ _ q => q) hw
    exact hg v (g'.only sg.ms) H' Fo R2 f'.only (fun i a z => z.1) ho hw'
  | exc x ρ S' =>
    rw [e] at hg
    intro Γ'' c dd σ' g' H' hx' R' f' ex
    refine hg c dd (g'.only sg.ms) H' (R'.outs hx' hvn f'.P pin) f'.only (fun i a z => z.1) ?_
    obtain ⟨e0, e1, e2⟩ := ex
    refine ⟨e0, e1, e2.imp id fun ⟨d, fs, h1, h2, h3, h4, h5⟩ => ⟨d, fs, h1, h2, h3, h4, ?_⟩⟩
    exact ShrL.stay ⟨fun _ _ h _ => h, fun a h => .inl (G.only_U h), Nat.le_refl _, fun _ _ => rfl, rfl⟩ _ _ h5
  | bk ρ S' => rw [e] at hg; exact hg.elim
  | ct ρ S' => rw [e] at hg; exact hg.elim
  | no => rw [e] at hg; exact hg.elim
theorem fn_ok {x qual : Str} {st : Stmt} {f : Addr} {fd : FuncData} {N ps : List Str} {k n : Nat} {sg : Sig} {B : FS} {Γ' : List Md} (F : Fun K x qual st f fd) (Sc : FnScope N ps (defScope st)) (hn : ps.length = n) (hN : n ≤ N.length)
    (hbody : ∀ (cdv : Value) (A : Around) (outer : List PySem.Env) (s : Shared) (H : Hp) (E : XK), Room k (A.deeper (envOfC qual (defScope st) s.heap.objs.size f cdv)) →
      XB (cxOf (L2.CX P w) P w K mg base N qual (defScope st) f cdv A outer s H E) T (jdF sg.ms sg.kr E) (sg.ms ++ List.replicate (N.length - sg.ms.length) .s) Γ' (defBody st) B) (hl : ΓP sg.ms Γ') :
    FnOk P w K mg base (L2.CX P w) (k + 1) f fd ps (spD T n sg (fBody N.length n sg.ms B)) := fn_okR (okRule_fun F) Sc hn hN hbody hl
end
/-! ### calls whose arguments are shared -/
def eCall (Φ : FF) (as : FL) : FE := fun ρ S => match as ρ S with
  | .ok ds S1 => (match Φ ds S1 with
    | .ok d _ S2 => .ok d S2
    | .exc x _ S2 => .exc x S2
    | .no => .no)
  | .exc x S1 => .exc x S1
  | .no => .no
/-- the callee's ghost: all slots are others' -/
def G.callee (g : G) : G := { g with O := fun a => g.O a ∨ ∃ i, g.F i a, F := fun _ _ => False }
theorem G.callee_U {g : G} {a : Addr} : (g.callee).U a ↔ g.U a := by
  constructor
  · rintro ((h | h) | ⟨i, h⟩ | h)
    · exact .inl h
    · exact .inr (.inl h)
    · exact h.elim
    · exact .inr (.inr h)
  · rintro (h | h | h)
    · exact .inl (.inl h)
    · exact .inl (.inr h)
    · exact .inr (.inr h)
theorem stay_iff {g g2 : G} {H : Hp} (hU : ∀ a, g2.U a → g.U a) (hN : g.N = g2.N) (hμ : g2.μ = g.μ) (hZ : g2.Z = g.Z := by rfl) : Stay g H g2 H := ⟨fun _ _ h _ => h, fun a h => .inl (hU a h), by rw [hN]; exact Nat.le_refl _, fun n _ => by rw [hμ], hZ⟩
section
variable {X : Cx} {T : Th} {W : WX} {Γ : List Md}
/-- behind a call: the caller's ghost -/
def G.back (g1 g' : G) : G := { g' with O := g1.O, F := g1.F }
theorem call_back {g1 g' : G} {ρ : Env} {S1 S2 : Store} {σ : L2.St} {H1 H' : Hp} {Fo : Addr → Prop} {outs : Env} {ms : List Md} {vs : List V} (R1 : Rel T g1 Γ ρ S1 σ H1) (R' : Rel T (g'.plus Fo) ms outs S2 (vs.map some) H') (f' : FrS g1.callee H1 g' H') (nf : ∀ i a, ¬ g'.F i a) :
    Rel T (g1.back g') Γ ρ S2 σ H' ∧ FrE g1 H1 (g1.back g') H' ∧ (∀ a, (g1.back g').U a → (g'.plus Fo).U a) := by
  have eO : ∀ a, g'.O a ↔ (g1.O a ∨ ∃ i, g1.F i a) := fun a => by rw [f'.O]; exact Iff.rfl
  have bB : ∀ a, g'.B a → g1.B a ∨ H1 a = none := fun a h => by
    rcases f'.own a (.inr (.inr h)) with z | z
    · rcases G.callee_U.mp z with z | z | z
      · exact absurd h (R'.dOB a (.inl ((eO a).mpr (.inl z))))
      · exact absurd h (R'.dOB a (.inl ((eO a).mpr (.inr z))))
      · exact .inl z
    · exact .inr z
  have hU : ∀ a, (g1.back g').U a → (g'.plus Fo).U a := fun a h => by
    rcases h with h | h | h
    · exact .inl (.inl ((eO a).mpr (.inl h)))
    · exact .inl (.inl ((eO a).mpr (.inr h)))
    · exact .inr (.inr h)
  have kp : ∀ a o, H1 a = some o → ¬ g1.B a → H' a = some o := fun a o e hb => f'.keep a o e (by
    by_cases ho : g1.O a ∨ ∃ i, g1.F i a
    · exact .inr ho
    · exact .inl fun z => by
        rcases G.callee_U.mp z with z | z | z
        · exact ho (.inl z)
        · exact ho (.inr z)
        · exact hb z)
  have fe : FrE g1 H1 (g1.back g') H' := ⟨kp, bB, rfl, rfl, f'.P, f'.N, f'.μ, f'.dom⟩
  refine ⟨⟨R1.len, fun i d e => ?_, R1.dF, R1.dFO, fun i a h => ?_, fun a h => ?_, fun a h => ?_, ?_, fun a h => R'.nt a (hU a h)⟩, fe, hU⟩
  · obtain ⟨v, h1, h2⟩ := R1.slot i d e
    refine ⟨v, h1, ?_⟩
    have st := fe.stay
    cases hm : Γ.getD i .s <;> rw [hm] at h2 <;> simp only [RepM] at h2 ⊢
    · exact h2.stay st
    · exact Own.keepF st _ _ _ _ (fun a o z q => kp a o q (R1.dFB i a z)) h2
    · exact Own.keepF st _ _ _ _ (fun a o z q => kp a o q (R1.dOB a z)) h2
    · exact ⟨h2.1.trans (by show g1.P i = g'.P i; rw [f'.P]; rfl), Own.keepF st _ _ _ _ (fun a o z q => kp a o q (R1.dFB i a z)) h2.2⟩
    · exact h2
    · exact h2.stay fe.bare
  · exact R'.dOB a (.inl ((eO a).mpr (.inr ⟨i, h⟩)))
  · exact R'.dOB a (.inl ((eO a).mpr (.inl h)))
  · exact R'.dom a (hU a h)
  · exact R'.st.keep (stay_iff hU rfl rfl) (fun _ _ _ h => h) rfl rfl rfl fun _ _ => rfl
theorem rel_args {g1 : G} {ρ : Env} {S1 : Store} {σ : L2.St} {H1 : Hp} {ds : List D} {vs : List V} {ms : List Md} (R1 : Rel T g1 Γ ρ S1 σ H1) (s : ShrL T g1 H1 ds vs) (hm : ∀ i, ms.getD i .s = .s) : Rel T g1.callee ms (ds.map some) S1 (vs.map some) H1 := by
  refine R1.shift rfl rfl rfl rfl (fun a h => G.callee_U.mp h) (fun i j a h => h.elim) (fun i a h => h.elim) (fun a h => h) (fun i a h => h.elim) (by simp [s.length]) fun st i d e => ?_
  rw [List.getElem?_map] at e
  cases q : ds[i]? with
  | none => rw [q] at e; cases e
  | some d' =>
    rw [q] at e
    cases e
    obtain ⟨v, h1, h2⟩ := s.get q
    refine ⟨v, by rw [List.getElem?_map, h1]; rfl, ?_⟩
    rw [hm]
    exact h2.stay st
theorem shr_of_own {g : G} {H : Hp} : ∀ (k : Nat) (Fo : Addr → Prop) (d : D) (v : V), (∀ a, Fo a → ¬ g.U a) → (∀ a, Fo a → ∃ o, H a = some o) → Own T (g.plus Fo) H k Fo d v → Shr T g H d v := by
  intro k
  have base : ∀ (Fo : Addr → Prop), Stay (g.plus Fo) H g H := fun Fo => ⟨fun _ _ h _ => h, fun a h => .inl (by
    rcases h with h | h | h
    · exact .inl (.inl h)
    · exact .inr (.inl h)
    · exact .inr (.inr h)), Nat.le_refl _, fun _ _ => rfl, rfl⟩
  suffices hs : ∀ (k : Nat) (Fo F : Addr → Prop) (d : D) (v : V), (∀ a, F a → Fo a) → (∀ a, Fo a → ¬ g.U a) → Own T (g.plus Fo) H k F d v → Shr T g H d v from fun Fo d v h1 _ h => hs k Fo Fo d v (fun _ z => z) h1 h
  intro k
  induction k with
  | zero => intro Fo F d v hf hu h; simp only [Own] at h; exact h.stay (base Fo)
  | succ k ih =>
    intro Fo F d v hf hu h
    cases d with
    | lst l =>
      simp only [Own] at h
      obtain ⟨p, vs, e, hF, hH, hl, Gs, h1, h2, h3⟩ := h
      exact shr_lst.mpr ⟨p, vs, e, ⟨hH, hu p (hf p hF)⟩, .of hl fun i d w a b => ih Fo (Gs i) d w (fun a z => hf a (h1 i a z).1) hu (h3 i d w a b)⟩
    | dct l =>
      simp only [Own] at h
      obtain ⟨p, vs, e, hF, hH, hl, Gs, h1, h2, h3⟩ := h
      simp only [Shr]
      exact ⟨p, vs, e, ⟨hH, hu p (hf p hF)⟩, .of hl fun i d w a b => ⟨(h3 i d w a b).1.stay (base Fo), ih Fo (Gs i) d.2 w.2 (fun a z => hf a (h1 i a z).1) hu (h3 i d w a b).2⟩⟩
    | _ => simp only [Own] at h; exact h.stay (base Fo)
theorem xe_call {k n : Nat} {f : Addr} {fd : FuncData} {ps : List Str} {sg : Sig} {Φ : FF} {e : Expr} {es : List Expr} {A : FL} (F : FnOk X.prog X.w X.K X.mg X.base (L2.CX X.prog X.w) k f fd ps (spD T n sg Φ)) (hm : ∀ i, sg.ms.getD i .s = .s) (hn : es.length = n) (hA : ∀ ρ S ds S1, A ρ S = .ok ds S1 → ds.length = n)
    (ha : XL X T W Γ es A) (he : PA X es (tXL T W Γ A) → PE X e (tCallS (spD T n sg Φ) (WE W) (tXL T W Γ A))) : XE X T W Γ e (eCall Φ A) := pe_imp (he ha) fun σ H Q ⟨g, ρ, S, R, hg⟩ => by
  refine ⟨g, ρ, S, R, ?_⟩
  unfold eCall at hg
  cases ea : A ρ S with
  | exc x S1 => rw [ea] at hg; exact hg
  | no => rw [ea] at hg; exact hg
  | ok ds S1 =>
    rw [ea] at hg
    intro vs g1 H1 R1 f1 s1
    have hg : GoodE T W Γ ρ σ g H (match Φ ds S1 with | .ok d _ S2 => .ok d S2 | .exc x _ S2 => .exc x S2 | .no => .no) Q := hg
    refine ⟨by rw [← s1.length]; exact hA ρ S ds S1 ea, g1.callee, ds, S1, rel_args R1 s1 hm, ?_⟩
    cases ef : Φ ds S1 with
    | no => rw [ef] at hg; exact hg
    | ok d outs S2 =>
      rw [ef] at hg
      intro v g' H' Fo R' f' nf ho hw
      have nf' : ∀ i a, ¬ g'.F i a := fun i a z => by
        obtain ⟨k, e⟩ := nf i a z
        rw [hm] at e; cases e
      obtain ⟨R2, f2, hU⟩ := call_back R1 R' f' nf'
      refine hg v (g1.back g') H' R2 (f1.trans f2) ?_
      have st : Stay (g'.plus Fo) H' ((g1.back g').plus Fo) H' := ⟨fun _ _ h _ => h, fun a h => .inl (by
        rcases h with (h | h) | h | h
        · exact hU a (.inl h)
        · exact .inl (.inr h)
        · exact hU a (.inr (.inl h))
        · exact .inr (.inr h)), Nat.le_refl _, fun _ _ => rfl, rfl⟩
      refine shr_of_own sg.kr Fo d v (fun a z u => ?_) (fun a z => R'.dom a (.inl (.inr z))) (Own.keepF st _ _ _ _ (fun _ _ _ q => q) hw)
      have ho' := (ho a z).1
      rcases u with u | u | u
      · exact ho' (.inl u)
      · exact ho' (.inr u)
      · exact R'.dOB a (.inr z) u
    | exc x outs S2 =>
      rw [ef] at hg
      intro c dd g' H' R' f' nf ex
      have nf' : ∀ i a, ¬ g'.F i a := fun i a z => by
        obtain ⟨k, e⟩ := nf i a z
        rw [hm] at e; cases e
      obtain ⟨R2, f2, hU⟩ := call_back R1 (plus_none R') f' nf'
      refine hg c dd (g1.back g') H' R2 (f1.trans f2) ?_
      obtain ⟨e0, e1, e2⟩ := ex
      refine ⟨e0, e1, e2.imp id fun ⟨d, fs, h1, h2, h3, h4, h5⟩ => ⟨d, fs, h1, h2, h3, h4, ?_⟩⟩
      have st : Stay g' H' (g1.back g') H' := ⟨fun _ _ h _ => h, fun a h => .inl (by
        rcases hU a h with (h | h) | h | h
        · exact .inl h
        · exact h.elim
        · exact .inr (.inl h)
        · exact .inr (.inr h)), Nat.le_refl _, fun _ _ => rfl, rfl⟩
      exact ShrL.stay st _ _ h5
theorem lNil_len {ρ : Env} {S : Store} {ds : List D} {S1 : Store} (h : lNil ρ S = .ok ds S1) : ds.length = 0 := by cases h; rfl
theorem lCons_len {A : FE} {B : FL} {n : Nat} (hB : ∀ ρ S ds S1, B ρ S = .ok ds S1 → ds.length = n) (ρ : Env) (S : Store) (ds : List D) (S1 : Store) (h : lCons A B ρ S = .ok ds S1) : ds.length = n + 1 := by
  unfold lCons at h
  split at h
  · split at h
    · rename_i e2
      cases h
      rw [List.length_cons, hB _ _ _ _ e2]
    · cases h
    · cases h
  · cases h
  · cases h
/-! ### raise -/
def fRaise (k : Nat) : FS := fun ρ S => .exc ⟨k, []⟩ ρ S
theorem xs_raise {J : Jd} {Γ Γ' : List Md} {k : Nat} {st : Stmt} (hk : k < T.nc) (hx : J.ΓX Γ) (he : PS X st (fun D σ H => J.W (.ref (T.cA k)) none σ H)) : XS X T J Γ Γ' st (fRaise k) := ps_imp he fun D σ H ⟨g, ρ, S, R, h⟩ =>
  h Γ _ none σ g H hx R (.refl _ _) ⟨hk, rfl, .inl ⟨rfl, rfl⟩⟩
end
end Q

/-! isinstance; try. -/
namespace Q
open PySem PySem.Spec PyProof.Rows L2
/-- a built-in type's name -/
def tyD : D → Option String
  | .non => some "NoneType"
  | .bl _ => some "bool"
  | .int _ => some "int"
  | .str _ => some "str"
  | .tup _ => some "tuple"
  | .lst _ => some "list"
  | .dct l => if flatKs l = true then some "dict" else none
  | _ => none
def hIsi (T : String) (d : D) : Option D := (tyD d).bind fun n => (kitB n T).map .bl
section
variable {T : Th} {g : G} {H : Hp}
theorem ty_shr {d : D} {v : V} {n : String} (s : Shr T g H d v) (e : tyD d = some n) : TyX T.K H v (.type n) := by
  cases d <;> simp only [tyD] at e <;> first | cases e | skip
  · rw [shr_non.mp s]; exact .base .non
  · rw [shr_bl.mp s]; exact .base (.bl _)
  · rw [shr_int.mp s]; exact .base (.int _)
  · rw [shr_str.mp s]; exact .base (.str _)
  · obtain ⟨a, vs, rfl, la, ra⟩ := shr_tup.mp s
    rcases la with ⟨z | ⟨o, z⟩, _⟩ | ⟨o, its, n, z, zc, _⟩
    · exact .base (.tup z)
    · exact .fTuple z
    · exact .kTuple z zc
  · obtain ⟨a, vs, rfl, la, ra⟩ := shr_lst.mp s
    exact .base (.lst la.1)
  · split at e
    · rename_i hf
      cases e
      simp only [Shr] at s
      obtain ⟨a, vs, rfl, la, ra⟩ := s
      obtain ⟨ks, h1, _⟩ := drep_flat la.1 ra hf
      exact .base (.dK h1)
    · cases e
end
section
variable {X : Cx} {T : Th} {W : WX} {Γ : List Md}
/-- isinstance(x, T), T a built-in type -/
theorem xe_isi {e a : Expr} {A : FE} {n : String} (hK : X.K = T.K) (ha : XE X T W Γ a A) (he : PE X a (tX T W Γ A) → PE X e (tCB (rIsi X.K) (tCons (tX T W Γ A) (tCons (tC (.ty n)) tNil)))) : XE X T W Γ e (eUn (hIsi n) A) := pe_imp (he ha) fun σ H Q ⟨g, ρ, S, R, hg⟩ =>
  ⟨g, ρ, S, R, good_bind hg fun x S1 v g1 H1 _ R1 f1 s1 hg1 => by
    obtain ⟨z, ez, hg3⟩ := good_of hg1
    obtain ⟨m, e1, e2⟩ := Option.bind_eq_some_iff.mp ez
    obtain ⟨b, e3, e4⟩ := Option.map_eq_some_iff.mp e2
    subst e4
    refine ⟨v, .ty n, .type m, .type n, b, rfl, .ty n, by rw [hK]; exact ty_shr s1 e1, kit_ty e3, hg3 _ g1 H1 R1 (.refl _ _) (shr_bl.mpr rfl)⟩⟩
/-! ### the exception that a suite holds -/
def eHeld (i : Nat) (b : Bool) : FE := fun ρ S => match ρ[i]? with
  | some (some _) => .ok (.bl b) S
  | _ => .no
theorem held_slot {g : G} {ρ : Env} {S : Store} {σ : L2.St} {H : Hp} {i : Nat} {b : Bool} {a : Addr} {Q : VK} (R : Rel T g Γ ρ S σ H) (hΓ : Γ.getD i .s = .e (.ref a)) (h : GoodE T W Γ ρ σ g H (eHeld i b ρ S) Q) : σ[i]? = some (some (.ref a)) ∧ Q (.bl b) H := by
  unfold eHeld at h
  split at h
  · rename_i d e
    obtain ⟨v, h1, h2⟩ := R.slot i d e
    rw [hΓ] at h2
    have h2 : v = .ref a := h2
    subst h2
    exact ⟨h1, h _ g H R (.refl _ _) (shr_bl.mpr rfl)⟩
  · exact h.elim
/-- isinstance(e, C) -/
theorem xe_isE {e : Expr} {i : Nat} {a Dc : Addr} {c : V} {cv : Value} {b : Bool} (hΓ : Γ.getD i .s = .e (.ref a)) (hcv : ∀ u, RelV c u → u = cv) (hk : PySem.W.kitOne X.K (.ref Dc) cv = some b) (he : PE X e (tCB (rIsE X.K Dc a) (tCons (tVar i) (tCons (tC c) tNil)))) : XE X T W Γ e (eHeld i b) :=
  pe_imp he fun σ H Q ⟨g, ρ, S, R, hg⟩ => by
    obtain ⟨h1, h2⟩ := held_slot R hΓ hg
    exact ⟨_, h1, c, cv, b, rfl, hcv, hk, h2⟩
/-- isinstance(e, (C1, C2, ..)), e the exception that the suite holds, the tuple just made -/
def rIsET (K : PySem.W.Frag) (D a : Addr) : List V → Hp → VK → Prop := fun xs H Q => ∃ (tp : Addr) (cs : List V) (us : List Value) (b : Bool), xs = [.ref a, .ref tp] ∧ H tp = some (.tup cs) ∧ Paired ClsV cs us ∧ PySem.W.kitAny K (.ref D) us = some b ∧ Q (.bl b) H
theorem call_isET {a D : Addr} {oe : Obj} {pn : List (Addr × Obj)} (C : ExcC X.K D) (hz : Zc (.ref D) none oe) (hf : ∃ vs, oe.data = .fields vs) : CallR (X.suite a ((a, oe) :: pn)) (.builtin "isinstance") (rIsET X.K D a) := by
  intro pins s σ H xs us Q I r h
  obtain ⟨tp, cs, ws, b, rfl, hT, k, e, q⟩ := h
  obtain ⟨u1, u2, rfl, r1, r2⟩ := vals2 r
  cases (show u2 = Value.ref tp from r2)
  cases (show u1 = Value.ref a from r1)
  obtain ⟨hget, _⟩ := I.pin (a, oe) (List.mem_append.mpr (.inl List.mem_cons_self))
  obtain ⟨vs, hv⟩ := hf
  have J : PySem.W.InstAt s.heap a oe D none := by
    obtain ⟨oc, od, oda, osl⟩ := oe
    obtain ⟨h1, h2⟩ := hz
    dsimp only at h1 h2 hv
    subst h1 h2 hv
    exact ⟨hget, rfl, rfl, trivial⟩
  obtain ⟨_, its, rv, o, h1, h2, n, h3⟩ := (show ObjOk X.prog X.w H s.heap tp (.tup cs) from I.hok tp _ hT)
  have e3 := ClsV.all k rv
  subst e3
  obtain ⟨oc, od, dt, sl⟩ := o
  simp only at h2 h3
  subst h2 h3
  exact PySem.W.kia_tup (PySem.W.handS_kitx_exc C.hg C.hk C.hs C.hd C.ha C.hn C.ht C.hm) I.kIn J h1 e (fun z => nomatch z) fun tk => ⟨.bl b, H, I.kept (t' := tk) fun _ _ z => z, rfl, q⟩
/-- names of classes, one after the other -/
inductive PCs (X : Cx) : List Expr → List V → Prop where
  | nil : PCs X [] []
  | cons {e : Expr} {es : List Expr} {c : V} {cs : List V} (h : PE X e (tC c)) (r : PCs X es cs) (hs : starEach (e :: es) X.env = (false, eval e X.env) :: starEach es X.env := by rfl) : PCs X (e :: es) (c :: cs)
theorem pcs_pa : ∀ {es : List Expr} {cs : List V}, PCs X es cs → PA X es (fun _ H Q => Q cs H)
  | _, _, .nil => pa_nil
  | _, _, .cons h r hs => pa_imp (pa_cons h (pcs_pa r) hs) fun _ _ _ q => q
theorem xe_isET {e : Expr} {i : Nat} {a Dc : Addr} {cs : List V} {us : List Value} {b : Bool} (hΓ : Γ.getD i .s = .e (.ref a)) (hl : cs.length ≤ 1000) (hcs : Paired ClsV cs us) (hk : PySem.W.kitAny X.K (.ref Dc) us = some b)
    (he : PE X e (tCB (rIsET X.K Dc a) (tCons (tVar i) (tCons (tTup fun _ H Q => Q cs H) tNil)))) : XE X T W Γ e (eHeld i b) :=
  pe_imp he fun σ H Q ⟨g, ρ, S, R, hg⟩ => by
    unfold eHeld at hg
    split at hg
    · rename_i d e
      obtain ⟨v, h1, h2⟩ := R.slot i d e
      rw [hΓ] at h2
      have h2 : v = .ref a := h2
      subst h2
      refine ⟨_, h1, Nat.le_of_lt (small1000 hl), fun p hp => ⟨p, cs, us, b, rfl, upd_same, hcs, hk, ?_⟩⟩
      exact hg _ g _ (R.ex (Exx.new hp)) (.ex (Exx.new hp)) (shr_bl.mpr rfl)
    · exact hg.elim
/-! ### isinstance of classes by what the written part says -/
theorem kit_t {K : PySem.W.Frag} {D C : Addr} (h1 : PySem.W.isClsIn K C = true) (h2 : PySem.W.typeIn K (.ref C) = some (.type "type")) (h3 : PySem.W.subIn K (.ref D) (.ref C) = some true) : PySem.W.kitOne K (.ref D) (.ref C) = some true := by
  unfold PySem.W.kitOne
  split
  · rfl
  · show (if ((PySem.W.clsIn K C).isSome && PySem.W.typeIn K (.ref C) == some (.type "type")) = true then PySem.W.subIn K (.ref D) (.ref C) else none) = _
    have h1' : (PySem.W.clsIn K C).isSome = true := h1
    rw [h1', h2, if_pos (by rfl)]
    exact h3
theorem kit_f {K : PySem.W.Frag} {D C : Addr} (h1 : PySem.W.isClsIn K C = true) (h2 : PySem.W.typeIn K (.ref C) = some (.type "type")) (h3 : PySem.W.subIn K (.ref D) (.ref C) = some false) (hn : (D == C) = false) : PySem.W.kitOne K (.ref D) (.ref C) = some false := by
  unfold PySem.W.kitOne
  split
  · rename_i h
    have : D = C := Value.ref.inj (beq_iff_eq.mp h)
    subst this
    rw [beq_self_eq_true] at hn
    cases hn
  · show (if ((PySem.W.clsIn K C).isSome && PySem.W.typeIn K (.ref C) == some (.type "type")) = true then PySem.W.subIn K (.ref D) (.ref C) else none) = _
    have h1' : (PySem.W.clsIn K C).isSome = true := h1
    rw [h1', h2, if_pos (by rfl)]
    exact h3
theorem kit_ve {K : PySem.W.Frag} {D : Addr} (h3 : PySem.W.subIn K (.ref D) (.type "ValueError") = some true) : PySem.W.kitOne K (.ref D) (.type "ValueError") = some true := by
  unfold PySem.W.kitOne
  split
  · rfl
  · show (if PySem.W.kitMeta "ValueError" = true then PySem.W.subIn K (.ref D) (.type "ValueError") else none) = _
    rw [if_pos (by decide +kernel)]
    exact h3
/-! ### try -/
def fTry (B : FS) (i : Nat) (caught : Nat → Bool) (Hd : Exc → FS) : FS := fun ρ S => match B ρ S with
  | .exc x ρ1 S1 => if caught x.cls = true then (if x.args = [] then (match Hd x (ρ1.set i (some .non)) S1 with
      | .nx ρ2 S2 => .nx (ρ2.set i none) S2
      | .rt d ρ2 S2 => .rt d ρ2 S2
      | _ => .no) else .no) else .exc x ρ1 S1
  | r => r
theorem Rel.setE {g : G} {ρ : Env} {S : Store} {σ : L2.St} {H : Hp} {i : Nat} {v : V} (R : Rel T g Γ ρ S σ H) (hi : i < Γ.length) : Rel T (g.drop i) (Γ.set i (.e v)) (ρ.set i (some .non)) S (σ.set i (some v)) H := by
  refine R.shift rfl rfl rfl rfl (fun a h => G.drop_U h) (fun j k a h h' => R.dF j k a h.2 h'.2) (fun j a h => R.dFO j a h.2) (fun a h => .inl h) (fun j a h => .inl ⟨j, h.2⟩) (by simp [R.len]) fun st j d' e => ?_
  by_cases hj : i = j
  · subst hj
    by_cases hlt : i < ρ.length
    · refine ⟨v, by rw [List.getElem?_set_self (by rw [← R.len]; exact hlt)], ?_⟩
      rw [getD_set_self hi]
      exact rfl
    · rw [List.getElem?_eq_none (by simpa using hlt)] at e
      cases e
  · rw [List.getElem?_set_ne hj] at e
    obtain ⟨w, h1, h2⟩ := R.slot j d' e
    refine ⟨w, by rw [List.getElem?_set_ne hj]; exact h1, ?_⟩
    rw [getD_set_ne hj]
    exact h2.stay st (fun a z => ⟨fun q => hj q.symm, z⟩) (fun a z => z) rfl (bare_sub rfl rfl (fun i a z => ⟨i, z.2⟩) fun _ z => z)
theorem Rel.clear {g : G} {ρ : Env} {S : Store} {σ : L2.St} {H : Hp} {i : Nat} {m : Md} (R : Rel T g (Γ.set i m) ρ S σ H) : Rel T (g.drop i) Γ (ρ.set i none) S (σ.set i none) H := by
  refine R.shift rfl rfl rfl rfl (fun a h => G.drop_U h) (fun j k a h h' => R.dF j k a h.2 h'.2) (fun j a h => R.dFO j a h.2) (fun a h => .inl h) (fun j a h => .inl ⟨j, h.2⟩) (by simp [R.len]) fun st j d' e => ?_
  by_cases hj : i = j
  · subst hj
    by_cases hlt : i < ρ.length
    · rw [List.getElem?_set_self hlt] at e; cases e
    · rw [List.getElem?_eq_none (by simpa using hlt)] at e
      cases e
  · rw [List.getElem?_set_ne hj] at e
    obtain ⟨w, h1, h2⟩ := R.slot j d' e
    refine ⟨w, by rw [List.getElem?_set_ne hj]; exact h1, ?_⟩
    rw [getD_set_ne hj] at h2
    exact h2.stay st (fun a z => ⟨fun q => hj q.symm, z⟩) (fun a z => z) rfl (bare_sub rfl rfl (fun i a z => ⟨i, z.2⟩) fun _ z => z)
/-- how a suite is left -/
def jdH (J : Jd) : Jd := ⟨fun _ _ _ _ => False, fun _ => True, J.ΓR, J.kr, []⟩
theorem xs_try {J : Jd} {Γ Γ' : List Md} {x n : Str} {c : Value} {i : Nat} {body suite : List Stmt} {b₀ : Stmt} {np pos pos' : Pos} {B : FS} {Hd : Exc → FS} {caught : Nat → Bool} (hx : J.ΓX Γ) (hi : i < Γ.length)
    (hs : X.stack = X.env :: X.outer) (hf : X.env.frame = some X.env.locals) (hN : X.N.Nodup) (hin : X.N[i]? = some n) (hln : X.env.kindOf n = some .local) (hc : Names X x c) (tk : Takes X J.W)
    (hex : ∀ k, k < T.nc → PySem.W.exmOne X.K (.ref (T.cA k)) c = some (caught k))
    (hb : ∀ (W : WX) (pn : List (Addr × Obj)) (xe : Value → Shared → Prop), Takes (X.tr pn xe) W → PassesOwn (model X.prog X.w) X.A X.env xe → XB (X.tr pn xe) T { J with W := W, ΓX := fun Γ'' => Γ'' = Γ } Γ Γ' body B)
    (hsu : ∀ (y : Exc) (a : Addr) (oe : Obj) (pn : List (Addr × Obj)), y.cls < T.nc → caught y.cls = true → Zc (.ref (T.cA y.cls)) none oe → (∃ vs, oe.data = .fields vs) → XB (X.suite a ((a, oe) :: pn)) T (jdH J) (Γ.set i (.e (.ref a))) (Γ'.set i (.e (.ref a))) (b₀ :: suite) (Hd y)) :
    XS X T J Γ Γ' (.Try body [.ExceptHandler (some (.Name x np)) (some n) (b₀ :: suite) pos'] [] [] pos) (fTry B i caught Hd) := by
  refine ps_imp (ps_try_as (tb := fun W => tS T { J with W := W, ΓX := fun Γ'' => Γ'' = Γ } Γ Γ' B) (ts := fun a cls d => fun D σ H => ∃ y : Exc, y.cls < T.nc ∧ caught y.cls = true ∧ cls = .ref (T.cA y.cls) ∧ d = none ∧ tS T (jdH J) (Γ.set i (.e (.ref a))) (Γ'.set i (.e (.ref a))) (Hd y) D σ H) (Wout := J.W) hs hf hN hin hln hc tk hb ?_) ?_
  · intro a oe cls d pn hz hfl
    refine ⟨fun pins s σ H D I h => ?_⟩
    obtain ⟨y, h1, h2, rfl, rfl, h3⟩ := h
    exact (hsu y a oe pn h1 h2 hz hfl).run pins s σ H D I h3
  · rintro D σ H ⟨g, ρ, S, R, h⟩
    refine ⟨g, ρ, S, R, ?_⟩
    unfold fTry at h
    cases e : B ρ S with
    | nx ρ1 S1 => rw [e] at h; exact h
    | bk ρ1 S1 => rw [e] at h; exact h
    | ct ρ1 S1 => rw [e] at h; exact h
    | rt d ρ1 S1 => rw [e] at h; exact h
    | no => rw [e] at h; exact h
    | exc y ρ1 S1 =>
      rw [e] at h
      intro Γ'' c' dd σ' g' H' eΓ R' f' ex
      have eΓ : Γ'' = Γ := eΓ
      subst eΓ
      obtain ⟨e0, e1, e2⟩ := id ex
      have h : GoodS T J Γ' g H (if caught y.cls = true then (if y.args = [] then (match Hd y (ρ1.set i (some .non)) S1 with | .nx ρ2 S2 => RS.nx (ρ2.set i none) S2 | .rt d ρ2 S2 => .rt d ρ2 S2 | _ => .no) else .no) else .exc y ρ1 S1) D := h
      refine ⟨caught y.cls, by rw [e1]; exact hex _ e0, fun hb a na => ?_, fun hb => ?_⟩
      · rw [if_pos hb] at h
        by_cases ha : y.args = []
        · rw [if_pos ha] at h
          have ed : dd = none := by
            rcases e2 with ⟨_, z⟩ | ⟨_, _, z, _⟩
            · exact z
            · exact absurd ha z
          refine ⟨y, e0, hb, e1, ed, g'.drop i, ρ1.set i (some .non), S1, R'.setE hi, ?_⟩
          have h' := GoodS.then (g1 := g'.drop i) h (f'.trans .drop)
          cases eh : Hd y (ρ1.set i (some .non)) S1 with
          | nx ρ2 S2 =>
            rw [eh] at h'
            exact fun σ2 g2 H2 R2 f2 => h' (σ2.set i none) (g2.drop i) H2 R2.clear (f2.trans .drop)
          | rt d ρ2 S2 =>
            rw [eh] at h'
            exact fun Γ3 v σ2 g2 H2 Fo r1 R2 f2 ho hw => h' Γ3 v σ2 g2 H2 Fo r1 R2 f2 ho hw
          | bk _ _ => rw [eh] at h'; exact h'.elim
          | ct _ _ => rw [eh] at h'; exact h'.elim
          | exc _ _ _ => rw [eh] at h'; exact h'.elim
          | no => rw [eh] at h'; exact h'.elim
        · rw [if_neg ha] at h; exact h.elim
      · rw [hb, if_neg Bool.false_ne_true] at h
        exact h Γ'' c' dd σ' g' H' hx R' f' ex
end
end Q

/-! Comparisons as tests, in, slices, comprehensions. -/
namespace Q
open PySem PySem.Spec PyProof.Rows L2
section
variable {X : Cx} {T : Th} {W : WX} {Γ : List Md}
/-- a comparison as a test -/
theorem xt_op {e : Expr} {r : R2} {h : D → D → Option D} {a b : Expr} {A B : FE} (ok : OpOk T r h) (ha : XE X T W Γ a A) (hb : XE X T W Γ b B)
    (he : PE X a (tX T W Γ A) → PE X b (tX T W Γ B) → PT X e (tTest (tOp r (tX T W Γ A) (tX T W Γ B)))) : XT X T W Γ e (eOp h A B) := pt_imp (he ha hb) fun σ H Q ⟨g, ρ, S, R, hg⟩ =>
  ⟨g, ρ, S, R, goodT_bind hg fun x S1 v g1 H1 _ R1 f1 s1 hg1 => ⟨g1, ρ, S1, R1, goodT_bind hg1 fun y S2 w g2 H2 _ R2 f2 s2 hg2 => by
    cases ez : h x y with
    | none => rw [ez] at hg2; exact hg2.elim
    | some z =>
      rw [ez] at hg2
      obtain ⟨b, rfl, hg3⟩ := hg2
      exact ok g2 H2 x y _ v w (s1.stay f2.stay) s2 ez R2.dom _ fun u H' ex su => ⟨b, shr_bl.mp su, hg3 g2 H' (R2.ex ex) (.ex ex)⟩⟩⟩
theorem xt_chain {e a b c : Expr} {r r' : R2} {h h' : D → D → Option D} {A B C : FE} (ok : OpOk T r h) (ok' : OpOk T r' h') (ha : XE X T W Γ a A) (hb : XE X T W Γ b B) (hc : XE X T W Γ c C)
    (he : PE X a (tX T W Γ A) → PE X b (tX T W Γ B) → PE X c (tX T W Γ C) → PT X e (tTest (tChain r r' (tX T W Γ A) (tX T W Γ B) (tX T W Γ C)))) : XT X T W Γ e (eChain h h' A B C) := pt_imp (he ha hb hc) fun σ H Q ⟨g, ρ, S, R, hg⟩ =>
  ⟨g, ρ, S, R, goodT_bind hg fun x S1 v g1 H1 _ R1 f1 s1 hg1 => ⟨g1, ρ, S1, R1, goodT_bind hg1 fun y S2 w g2 H2 _ R2 f2 s2 hg2 => by
    cases ez : h x y with
    | none => rw [ez] at hg2; exact hg2.elim
    | some z =>
      rw [ez] at hg2
      refine ok g2 H2 x y z v w (s1.stay f2.stay) s2 ez R2.dom _ fun u H3 ex su => ?_
      obtain ⟨t, rfl⟩ : ∃ t, z = .bl t := by
        have h0 := hg2
        unfold RE.of RE.bind at h0
        dsimp only at h0
        split at h0 <;> first | exact ⟨_, rfl⟩ | exact h0.elim
      refine ⟨t, shr_bl.mp su, ?_⟩
      have R3 := R2.ex ex
      cases t with
      | true =>
        refine iteT ⟨g2, ρ, S2, R3, ?_⟩
        have h0 : GoodT T W Γ ρ σ g2 H3 ((C ρ S2).bind fun w S4 => .of S4 (h' y w)) Q := by
          have h1 : GoodT T W Γ ρ σ g2 H2 ((C ρ S2).bind fun w S4 => .of S4 (h' y w)) Q := hg2
          cases q : (C ρ S2).bind fun w S4 => .of S4 (h' y w) with
          | ok d S4 => rw [q] at h1; obtain ⟨b, e2, h1⟩ := h1; exact ⟨b, e2, fun g' H' R' f' => h1 g' H' R' ((FrE.ex ex).trans f')⟩
          | exc d S4 => rw [q] at h1; exact fun v dd g' H' R' f' s' => h1 v dd g' H' R' ((FrE.ex ex).trans f') s'
          | no => rw [q] at h1; exact h1
        refine goodT_bind h0 fun w4 S4 v4 g4 H4 _ R4 f4 s4 hg4 => ?_
        cases e4 : h' y w4 with
        | none => rw [e4] at hg4; exact hg4.elim
        | some z4 =>
          rw [e4] at hg4
          obtain ⟨b, rfl, hg5⟩ := hg4
          exact ok' g4 H4 y w4 _ w v4 ((s2.stay (Stay.ex ex)).stay f4.stay) s4 e4 R4.dom _ fun u5 H5 ex5 su5 => ⟨b, shr_bl.mp su5, hg5 g4 H5 (R4.ex ex5) (.ex ex5)⟩
      | false =>
        obtain ⟨b, e2, hg3⟩ := hg2
        cases e2
        exact iteF ⟨false, rfl, hg3 g2 H3 R3 (.ex ex)⟩⟩⟩
/-! ### in -/
abbrev rInA0 (K : PySem.W.Frag) : R2 := fun x y H Q => rIn K false x y H Q ∨ (∃ i j, x = .str i ∧ y = .str j ∧ Q (.bl !(Builtin.Str.occurrences j i 0 j.length 1).isEmpty) H)
abbrev rInA1 (K : PySem.W.Frag) : R2 := fun x y H Q => rIn K true x y H Q ∨ (∃ i j, x = .str i ∧ y = .str j ∧ Q (.bl !!(Builtin.Str.occurrences j i 0 j.length 1).isEmpty) H)
theorem op_inA : OpR X (compareOp .In) (rInA0 X.K) := opr_or op_in_seq op_in_str
theorem op_notinA : OpR X (compareOp .NotIn) (rInA1 X.K) := opr_or op_notIn_seq op_notIn_str
theorem ok_in0 : OpOk T (rInA0 T.K) (hIn false) := by
  intro g H x y z v w sx sy e hd Q q
  cases y
  case lst l =>
    have e : inL false x l = some z := by cases x <;> exact e
    obtain ⟨a, vs, rfl, la, ra⟩ := shr_lst.mp sy
    exact .inl (ok_inL sx (.inl (.of la.1)) ra e q)
  case scr l =>
    have e : inL false x l = some z := by cases x <;> exact e
    obtain ⟨a, vs, rfl, la, ra⟩ := shr_scr.mp sy
    exact .inl (ok_inL sx (.inl la.sq) ra e q)
  case tup l =>
    have e : inL false x l = some z := by cases x <;> exact e
    obtain ⟨a, vs, rfl, la, ra⟩ := shr_tup.mp sy
    exact .inl (ok_inL sx (.inr la.sq) ra e q)
  case str b =>
    cases x <;> simp only [hIn] at e <;> first | cases e | skip
    exact .inr ⟨_, _, shr_str.mp sx, shr_str.mp sy, q _ H (.refl H) (shr_bl.mpr rfl)⟩
  all_goals (cases x <;> simp only [hIn] at e <;> cases e)
theorem ok_in1 : OpOk T (rInA1 T.K) (hIn true) := by
  intro g H x y z v w sx sy e hd Q q
  cases y
  case lst l =>
    have e : inL true x l = some z := by cases x <;> exact e
    obtain ⟨a, vs, rfl, la, ra⟩ := shr_lst.mp sy
    exact .inl (ok_inL sx (.inl (.of la.1)) ra e q)
  case scr l =>
    have e : inL true x l = some z := by cases x <;> exact e
    obtain ⟨a, vs, rfl, la, ra⟩ := shr_scr.mp sy
    exact .inl (ok_inL sx (.inl la.sq) ra e q)
  case tup l =>
    have e : inL true x l = some z := by cases x <;> exact e
    obtain ⟨a, vs, rfl, la, ra⟩ := shr_tup.mp sy
    exact .inl (ok_inL sx (.inr la.sq) ra e q)
  case str b =>
    cases x <;> simp only [hIn] at e <;> first | cases e | skip
    exact .inr ⟨_, _, shr_str.mp sx, shr_str.mp sy, q _ H (.refl H) (shr_bl.mpr rfl)⟩
  all_goals (cases x <;> simp only [hIn] at e <;> cases e)
/-! ### slices -/
def cutD (xs : List D) (lo hi : Option Int) : List D := (xs.drop (HT.sIx xs.length 0 lo)).take (HT.sIx xs.length xs.length hi - HT.sIx xs.length 0 lo)
theorem shrL_cut {g : G} {H : Hp} {l : List D} {vs : List V} (h : ShrL T g H l vs) (lo hi : Option Int) : ShrL T g H (cutD l lo hi) (cutV vs lo hi) := by
  unfold cutD cutV
  rw [h.length]
  exact (h.drop _).take _
def hSl (d : D) (lo hi : Option Int) : Option D := match d with
  | .lst l => some (.lst (cutD l lo hi))
  | .scr l => some (.lst (cutD l lo hi))
  | .str z => if z.length ≤ 1000000 then some (.str (cutS z lo hi)) else none
  | .tup l => if HT.sIx l.length 0 lo = 0 ∧ HT.sIx l.length l.length hi = l.length then none else some (.tup (cutD l lo hi))
  | _ => none
abbrev rSlA (K : PySem.W.Frag) : V → Option Int → Option Int → Hp → VK → Prop := fun x lo hi H Q => rSlL K x lo hi H Q ∨ (rSlT K x lo hi H Q ∨ rSlS x lo hi H Q)
theorem sl_A : SlR X (rSlA X.K) := sl_list.or (sl_tup.or sl_str)
/-- a part of a slice: an int, or left out -/
def eBnd (o : Option FE) : Env → Store → (Option Int → Store → RE) → RE := fun ρ S k => match o with
  | none => k none S
  | some a => (a ρ S).bind fun d S1 => match d with
    | .int i => k (some i) S1
    | _ => .no
def eSl (a : FE) (lo hi : Option FE) : FE := fun ρ S => (a ρ S).bind fun d S1 => eBnd lo ρ S1 fun l S2 => eBnd hi ρ S2 fun h S3 => .of S3 (hSl d l h)
/-- the readings of a slice's parts -/
inductive XBd (X : Cx) (T : Th) (W : WX) (Γ : List Md) : Option Expr → Option FE → TO → Prop where
  | none : XBd X T W Γ none none tNoPart
  | some {e : Expr} {A : FE} (h : XE X T W Γ e A) : XBd X T W Γ (some e) (some A) (tPart (tX T W Γ A))
theorem XBd.po {o : Option Expr} {A : Option FE} {t : TO} (h : XBd X T W Γ o A t) : PO X o t := by
  cases h with
  | none => exact po_none
  | some h => exact po_some h
theorem good_bnd {o : Option Expr} {A : Option FE} {t : TO} (hb : XBd X T W Γ o A t) {g : G} {ρ : Env} {S : Store} {σ : L2.St} {H : Hp} {k : Option Int → Store → RE} {Q : VK} {Q' : Option Int → Hp → Prop} (R : Rel T g Γ ρ S σ H) (h : GoodE T W Γ ρ σ g H (eBnd A ρ S k) Q)
    (hk : ∀ i S1 g1 H1, Rel T g1 Γ ρ S1 σ H1 → FrE g H g1 H1 → GoodE T W Γ ρ σ g1 H1 (k i S1) Q → Q' i H1) : t σ H Q' := by
  cases hb with
  | none => exact hk none S g H R (.refl _ _) h
  | some ha =>
    refine ⟨g, ρ, S, R, good_bind h fun d S1 v g1 H1 eR R1 f1 s1 h1 => ?_⟩
    clear eR
    split at h1
    · rename_i i
      exact ⟨i, shr_int.mp s1, hk (some i) S1 g1 H1 R1 f1 h1⟩
    · exact h1.elim
theorem xe_sl {a : Expr} {lo hi : Option Expr} {A : FE} {L U : Option FE} {tl tu : TO} {p2 pos : Pos} (hK : X.K = T.K) (ha : XE X T W Γ a A) (hl : XBd X T W Γ lo L tl) (hu : XBd X T W Γ hi U tu) : XE X T W Γ (.Subscript a (.Slice lo hi none p2) pos) (eSl A L U) :=
  pe_imp (pe_slice sl_A ha hl.po hu.po) fun σ H Q ⟨g, ρ, S, R, hg⟩ =>
    ⟨g, ρ, S, R, good_bind hg fun d S1 v g1 H1 _ R1 f1 s1 hg1 => good_bnd hl R1 hg1 fun l S2 g2 H2 R2 f2 hg2 => good_bnd hu R2 hg2 fun u S3 g3 H3 R3 f3 hg3 => by
      have s3 := (s1.stay f2.stay).stay f3.stay
      obtain ⟨z, ez, hg4⟩ := good_of hg3
      rw [hK]
      cases d <;> simp only [hSl] at ez <;> first | cases ez | skip
      · split at ez
        · rename_i hl
          cases ez
          exact .inr (.inr ⟨_, shr_str.mp s3, sz6 hl, hg4 _ g3 H3 R3 (.refl _ _) (shr_str.mpr rfl)⟩)
        · cases ez
      · split at ez
        · cases ez
        · rename_i hl
          cases ez
          obtain ⟨a, vs, rfl, la, ra⟩ := shr_tup.mp s3
          exact .inr (.inl ⟨a, vs, rfl, la.sq, by rw [← ra.length]; exact hl, fun p hp => hg4 _ g3 _ (R3.ex (Exx.new hp)) (.ex (Exx.new hp)) (shr_newT (shrL_cut ra l u) hp R3.dom)⟩)
      · obtain ⟨a, vs, rfl, la, ra⟩ := shr_lst.mp s3
        exact .inl ⟨a, vs, rfl, .of la.1, fun p hp => hg4 _ g3 _ (R3.ex (Exx.new hp)) (.ex (Exx.new hp)) (shr_newL (shrL_cut ra l u) hp R3.dom)⟩
      · obtain ⟨a, vs, rfl, la, ra⟩ := shr_scr.mp s3
        exact .inl ⟨a, vs, rfl, la.sq, fun p hp => hg4 _ g3 _ (R3.ex (Exx.new hp)) (.ex (Exx.new hp)) (shr_newL (shrL_cut ra l u) hp R3.dom)⟩⟩
/-! ### list comprehensions -/
/-- what of a state does not hang on the slots -/
structure Dj (T : Th) (g : G) (S : Store) (H : Hp) : Prop where
  dF : ∀ i j a, g.F i a → g.F j a → i = j
  dFO : ∀ i a, g.F i a → ¬ g.O a
  dFB : ∀ i a, g.F i a → ¬ g.B a
  dOB : ∀ a, g.O a → ¬ g.B a
  dom : ∀ a, g.U a → ∃ o, H a = some o
  st : SR T g S H
  nt : ∀ a, g.U a → ∀ u, ¬ Rd H a (.tup u)
theorem Rel.dj {g : G} {ρ : Env} {S : Store} {σ : L2.St} {H : Hp} (R : Rel T g Γ ρ S σ H) : Dj T g S H := ⟨R.dF, R.dFO, R.dFB, R.dOB, R.dom, R.st, R.nt⟩
theorem Rel.carry {g g' : G} {ρ : Env} {S S' : Store} {σ : L2.St} {H H' : Hp} {Fo : Addr → Prop} (R : Rel T g Γ ρ S σ H) (f : FrE g H g' H') (hf : ∀ a, Fo a → H a = none) (j : Dj T (g'.plus Fo) S' H') : Rel T (g'.plus Fo) Γ ρ S' σ H' := by
  refine ⟨R.len, fun i d e => ?_, j.dF, j.dFO, j.dFB, j.dOB, j.dom, j.st, j.nt⟩
  have st : Stay g H (g'.plus Fo) H' := ⟨fun a o h hu => f.stay.keep a o h hu, fun a h => by
    rcases h with (h | h) | h | h
    · exact f.stay.own a (.inl h)
    · exact .inr (hf a h)
    · exact f.stay.own a (.inr (.inl h))
    · exact f.stay.own a (.inr (.inr h)), f.N, f.μ, f.Z⟩
  obtain ⟨v, h1, h2⟩ := R.slot i d e
  refine ⟨v, h1, ?_⟩
  cases hm : Γ.getD i .s <;> rw [hm] at h2 <;> simp only [RepM] at h2 ⊢
  · exact h2.stay st
  · have := Own.keepF st _ _ _ _ (fun a o z q => f.keep a o q (R.dFB i a z)) h2
    show Own T (g'.plus Fo) H' _ (g'.F i) d v
    rw [f.F]; exact this
  · have := Own.keepF st _ _ _ _ (fun a o z q => f.keep a o q (R.dOB a z)) h2
    exact Own.wide _ _ _ _ _ (fun a z => .inl (by rw [f.O]; exact z)) this
  · refine ⟨h2.1.trans (by show g.P i = g'.P i; rw [f.P]), ?_⟩
    have := Own.keepF st _ _ _ _ (fun a o z q => f.keep a o q (R.dFB i a z)) h2.2
    show Own T (g'.plus Fo) H' _ (g'.F i) d v
    rw [f.F]; exact this
  · exact h2
  · exact h2.stay (show Stay g.bare H (g'.plus Fo).bare H' from f.bare)
def wipeE (ρ : Env) : List Nat → Env
  | [] => ρ
  | v :: vs => (wipeE ρ vs).set v none
theorem wipeE_some {ρ : Env} {i : Nat} {d : D} : ∀ {vs : List Nat}, (wipeE ρ vs)[i]? = some (some d) → ρ[i]? = some (some d) ∧ i ∉ vs
  | [], h => ⟨h, by simp⟩
  | v :: vs, h => by
    unfold wipeE at h
    by_cases hv : v = i
    · subst hv
      by_cases hl : v < (wipeE ρ vs).length
      · rw [List.getElem?_set_self hl] at h; cases h
      · rw [List.getElem?_eq_none (by simpa using hl)] at h; cases h
    · rw [List.getElem?_set_ne hv] at h
      obtain ⟨h1, h2⟩ := wipeE_some h
      exact ⟨h1, by simp [h2, Ne.symm hv]⟩
theorem wipeE_length (ρ : Env) : ∀ vs : List Nat, (wipeE ρ vs).length = ρ.length
  | [] => rfl
  | v :: vs => by unfold wipeE; rw [List.length_set, wipeE_length ρ vs]
theorem wipe_get {σ σ' : L2.St} {is : List Nat} (hl : σ'.length = σ.length) (h : ∀ j, j ∉ is → σ'[j]? = σ[j]?) : ∀ {vs : List Nat}, (∀ j, j ∈ is → j ∈ vs) → wipe σ' vs = wipe σ vs := by
  intro vs hs
  apply List.ext_getElem?
  intro j
  by_cases hj : j ∈ vs
  · have nn : ∀ (τ : L2.St) (ws : List Nat), j ∈ ws → (wipe τ ws)[j]? = if j < τ.length then some none else none := by
      intro τ ws
      induction ws with
      | nil => intro h; cases h
      | cons w ws ih =>
        intro h
        unfold wipe
        by_cases hw : w = j
        · subst hw
          by_cases hlt : w < τ.length
          · rw [List.getElem?_set_self (by rw [wipe_length]; exact hlt), if_pos hlt]
          · rw [List.getElem?_eq_none (by simpa [wipe_length] using hlt), if_neg hlt]
        · rw [List.getElem?_set_ne hw]
          rcases List.mem_cons.mp h with h | h
          · exact absurd h.symm hw
          · exact ih h
    rw [nn _ _ hj, nn _ _ hj, hl]
  · rw [wipe_out hj, wipe_out hj]
    exact h j fun z => hj (hs j z)
/-- the wiped slots' places are lent -/
def G.lend (g : G) (vs : List Nat) : G := { g with O := fun a => g.O a ∨ ∃ j, j ∈ vs ∧ g.F j a, F := fun j a => j ∉ vs ∧ g.F j a }
theorem G.lend_U {g : G} {vs : List Nat} {a : Addr} : (g.lend vs).U a ↔ g.U a := by
  constructor
  · rintro ((h | ⟨j, _, h⟩) | ⟨j, _, h⟩ | h)
    · exact .inl h
    · exact .inr (.inl ⟨j, h⟩)
    · exact .inr (.inl ⟨j, h⟩)
    · exact .inr (.inr h)
  · rintro (h | ⟨j, h⟩ | h)
    · exact .inl (.inl h)
    · by_cases hj : j ∈ vs
      · exact .inl (.inr ⟨j, hj, h⟩)
      · exact .inr (.inl ⟨j, hj, h⟩)
    · exact .inr (.inr h)
theorem Rel.lend {g : G} {ρ : Env} {S : Store} {σ : L2.St} {H : Hp} (R : Rel T g Γ ρ S σ H) (vs : List Nat) : Rel T (g.lend vs) Γ (wipeE ρ vs) S (wipe σ vs) H := by
  refine R.shift rfl rfl rfl rfl (fun a h => G.lend_U.mp h) (fun i j a h h' => R.dF i j a h.2 h'.2) (fun i a h z => ?_) (fun a h => ?_) (fun i a h => .inl ⟨i, h.2⟩) (by rw [wipeE_length, wipe_length, R.len]) fun st i d e => ?_
  · rcases z with z | ⟨j, hj, z⟩
    · exact R.dFO i a h.2 z
    · have := R.dF i j a h.2 z
      subst this
      exact h.1 hj
  · rcases h with h | ⟨j, _, h⟩
    · exact .inl h
    · exact .inr ⟨j, h⟩
  · obtain ⟨e1, hi⟩ := wipeE_some e
    obtain ⟨v, h1, h2⟩ := R.slot i d e1
    exact ⟨v, by rw [wipe_out hi]; exact h1, h2.stay st (fun a z => ⟨hi, z⟩) (fun a z => .inl z) rfl (bare_sub rfl rfl (fun i a z => ⟨i, z.2⟩) fun _ z => z)⟩
/-- the items that a comprehension makes -/
def lcL (tf : D → Env → Option Env) (c E : FE) : List D → Env → Store → RL
  | [], _, S => .ok [] S
  | d :: r, ρ, S => match tf d ρ with
    | none => .no
    | some ρ1 => match c ρ1 S with
      | .ok (.bl true) S1 => (match E ρ1 S1 with
        | .ok y S2 => (match lcL tf c E r ρ S2 with
          | .ok ys S3 => .ok (y :: ys) S3
          | _ => .no)
        | _ => .no)
      | .ok (.bl false) S1 => lcL tf c E r ρ S1
      | _ => .no
def eLc (it : FL) (vs : List Nat) (tf : D → Env → Option Env) (c E : FE) : FE := fun ρ S => match it ρ S with
  | .ok ds S1 => (match lcL tf c E ds (wipeE ρ vs) S1 with
    | .ok ys S2 => if ds.length ≤ 1000000 then .ok (.lst ys) S2 else .no
    | _ => .no)
  | .exc x S1 => .exc x S1
  | .no => .no

/-- tests of a comprehension's clause -/
abbrev XTs (X : Cx) (T : Th) (W : WX) (Γ : List Md) (es : List Expr) (F : FE) : Prop := PTs X es (tXT T W Γ F)
theorem xts_nil : XTs X T W Γ [] (eC (.bl true)) := ⟨fun pins s σ H Q I ⟨g, ρ, S, R, h⟩ => by
  obtain ⟨b, e, h⟩ := h
  cases e
  exact pts_nil.run pins s σ H Q I (h g H R (.refl _ _))⟩
theorem xts_one {c : Expr} {C : FE} (h : XT X T W Γ c C) : XTs X T W Γ [c] C := pts_one h
theorem Dj.ex {g : G} {S : Store} {H H' : Hp} (j : Dj T g S H) (e : Exx H H') : Dj T g S H' := ⟨j.dF, j.dFO, j.dFB, j.dOB, fun a h => by obtain ⟨o, q⟩ := j.dom a h; exact ⟨o, e a o q⟩, j.st.keep (.ex e) (fun a o _ q => e a o q) rfl rfl rfl fun _ _ => rfl, e.nt j.dom j.nt⟩
theorem nt_upd {H : Hp} {p : Addr} {o : HO} {U : Addr → Prop} (nt : ∀ a, U a → ∀ u, ¬ Rd H a (.tup u)) (ho : ∀ u, o ≠ .tup u ∧ ∀ b, o ≠ .frz b (.tup u)) : ∀ a, U a → ∀ u, ¬ Rd (upd H p o) a (.tup u) := fun a h u r => by
  by_cases ha : a = p
  · subst ha
    rcases r with r | ⟨b, r⟩
    · rw [upd_same] at r; cases r; exact (ho u).1 rfl
    · rw [upd_same] at r; cases r; exact (ho u).2 b rfl
  · refine nt a h u (r.imp (fun z => ?_) fun ⟨b, z⟩ => ⟨b, ?_⟩)
    · rwa [upd_ne ha] at z
    · rwa [upd_ne ha] at z
/-- .. an others' list written -/
theorem Dj.write {g : G} {S : Store} {H : Hp} {p : Addr} {o : HO} (ho : ∀ u, o ≠ .tup u ∧ ∀ b, o ≠ .frz b (.tup u)) (j : Dj T g S H) (hp : g.O p) : Dj T g S (upd H p o) := by
  have st : Stay g H g (upd H p o) := ⟨fun a u h hu => by rw [upd_ne (fun z => hu (.inl (by rw [z]; exact hp)))]; exact h, fun _ h => .inl h, Nat.le_refl _, fun _ _ => rfl, rfl⟩
  refine ⟨j.dF, j.dFO, j.dFB, j.dOB, fun a h => ?_, j.st.keep st (fun a u hb h => by rw [upd_ne (fun z => j.dOB p hp (by rw [← z]; exact hb))]; exact h) rfl rfl rfl fun _ _ => rfl, nt_upd j.nt ho⟩
  by_cases ha : a = p
  · subst ha; exact ⟨o, upd_same⟩
  · rw [upd_ne ha]; exact j.dom a h
theorem Rel.carry0 {g g' : G} {ρ : Env} {S S' : Store} {σ : L2.St} {H H' : Hp} (R : Rel T g Γ ρ S σ H) (f : FrE g H g' H') (j : Dj T g' S' H') : Rel T g' Γ ρ S' σ H' := by
  refine ⟨R.len, fun i d e => ?_, j.dF, j.dFO, j.dFB, j.dOB, j.dom, j.st, j.nt⟩
  have st := f.stay
  obtain ⟨v, h1, h2⟩ := R.slot i d e
  refine ⟨v, h1, ?_⟩
  cases hm : Γ.getD i .s <;> rw [hm] at h2 <;> simp only [RepM] at h2 ⊢
  · exact h2.stay st
  · rw [f.F]; exact Own.keepF st _ _ _ _ (fun a o z q => f.keep a o q (R.dFB i a z)) h2
  · rw [f.O]; exact Own.keepF st _ _ _ _ (fun a o z q => f.keep a o q (R.dOB a z)) h2
  · rw [f.F, f.P]; exact ⟨h2.1, Own.keepF st _ _ _ _ (fun a o z q => f.keep a o q (R.dFB i a z)) h2.2⟩
  · exact h2
  · exact h2.stay f.bare
theorem FrE.swap {g g' g2 : G} {H H' : Hp} (f : FrE g H g' H') (hB : g2.B = g.B) (hN : g2.N = g.N) (hμ : g2.μ = g.μ) (hP : g2.P = g.P) : FrE g2 H { g' with O := g2.O, F := g2.F } H' :=
  ⟨fun a o h hb => f.keep a o h (by rw [← hB]; exact hb), fun a h => by rw [hB]; exact f.B a h, rfl, rfl, f.P.trans hP.symm, by rw [hN]; exact f.N, fun n hn => by rw [hμ]; exact f.μ n (by rw [← hN]; exact hn), f.dom⟩
theorem FrE.upd {g g' : G} {H H' : Hp} {p : Addr} {o : HO} (f : FrE g H g' H') (hp : H p = none) : FrE g H g' (upd H' p o) :=
  ⟨fun a u h hb => by rw [upd_ne (ne_of_none h hp)]; exact f.keep a u h hb, f.B, f.F, f.O, f.P, f.N, f.μ, fun a u h => by rw [upd_ne (ne_of_none h hp)]; exact f.dom a u h⟩
theorem wipe_wipe {σ : L2.St} {vs : List Nat} : wipe (wipe σ vs) vs = wipe σ vs := wipe_get (is := vs) (wipe_length σ vs) (fun j hj => wipe_out hj) fun _ h => h
theorem sz_lt6 {n : Nat} (h : n < 1000000) : n < sizeLine := by rw [sizeLine_eq]; omega
/-- the invariant of a comprehension's turns -/
structure LcW (T : Th) (Γ : List Md) (vs : List Nat) (tf : D → Env → Option Env) (c E : FE) (g1 : G) (H1 : Hp) (ρ : Env) (σ : L2.St) (ds ys : List D) (Sf : Store) (p : Addr) (i m : Nat) (H' : Hp) : Prop where
  all : ∃ (g0 : G) (Si : Store) (vacc : List V) (acc rest : List D), FrE (g1.lend vs) H1 g0 H' ∧ Dj T (g0.plus (· = p)) Si H' ∧ H' p = some (.lst vacc) ∧ ShrL T (g0.plus (· = p)) H' acc vacc ∧ m = ds.length - i ∧ i ≤ ds.length ∧ acc.length ≤ i ∧ lcL tf c E (ds.drop i) (wipeE ρ vs) Si = .ok rest Sf ∧ ys = acc ++ rest
theorem xe_lc {elt tg iter : Expr} {ifs : List Expr} {scope : Scope} {own : List (Str × Nat)} {pos : Pos} {Γb : List Md} {is : List Nat} {t : TG} {tf : D → Env → Option Env} {FI : FL} {C E : FE} (hc : X.calm = true) (hN : X.N.Nodup) (hi : XI X T W Γ tg iter FI)
    (ok : BlkOk X.N X.env.scope scope own) (his : ∀ j, j ∈ is → j ∈ own.map (·.2))
    (hg : ∀ (s : Shared) (H : Hp) (C : Addr) (cl : List (Str × Addr)) (fp : List Addr), PG (X.blk s H scope (compEnvC scope cl C X.env) fp) tg t) (ht : TgOk T Γ Γb is t tf)
    (hts : ∀ (s : Shared) (H : Hp) (D : Addr) (cl : List (Str × Addr)) (fp : List Addr), XTs (X.blk s H scope (compEnvC scope cl D X.env) fp) T (fun _ _ _ _ => False) Γb ifs C)
    (he : ∀ (s : Shared) (H : Hp) (D : Addr) (cl : List (Str × Addr)) (fp : List Addr), XE (X.blk s H scope (compEnvC scope cl D X.env) fp) T (fun _ _ _ _ => False) Γb elt E) (hs : ∀ x, foldedSetIterable iter X.env x = pure x := by intro _; rfl) :
    XE X T W Γ (.ListComp elt [⟨tg, iter, ifs, 0⟩] scope pos) (eLc FI (own.map (·.2)) tf C E) := pe_imp (pe_lc hc hN hi ok hg hts he hs) fun σ H Q ⟨g, ρ, S, R, h⟩ => by
  generalize own.map (·.2) = vs at his h
  refine ⟨g, ρ, S, R, ?_⟩
  unfold eLc at h
  cases e : FI ρ S with
  | exc x S1 => rw [e] at h; exact h
  | no => rw [e] at h; exact h
  | ok ds S1 =>
    rw [e] at h
    intro It1 g1 H1 R1 f1 io p hp
    have h : GoodE T W Γ ρ σ g H (match lcL tf C E ds (wipeE ρ vs) S1 with | .ok ys S2 => if ds.length ≤ 1000000 then RE.ok (.lst ys) S2 else .no | _ => .no) Q := h
    split at h
    · rename_i ys Sf el
      split at h
      · rename_i hlen
        have Rl := R1.lend vs
        have hpO : ∀ a, a = p → (g1.lend vs).U a → False := fun a ha u => by
          obtain ⟨o, q⟩ := Rl.dom a u
          rw [ha, hp] at q; cases q
        have Dp : Dj T ((g1.lend vs).plus (· = p)) S1 (upd H1 p (.lst [])) := by
          have st : Stay (g1.lend vs) (upd H1 p (.lst [])) ((g1.lend vs).plus (· = p)) (upd H1 p (.lst [])) → True := fun _ => trivial
          have e1 := Rl.ex (Exx.new (o := HO.lst []) hp)
          refine ⟨e1.dF, fun i a z w => w.elim (e1.dFO i a z) fun w => hpO a w (.inr (.inl ⟨i, z⟩)), e1.dFB, fun a w z => w.elim (fun w => e1.dOB a w z) fun w => hpO a w (.inr (.inr z)), fun a u => ?_, ?_, fun a u w r => ?_⟩
          · rcases u with (u | u) | u | u
            · exact e1.dom a (.inl u)
            · exact ⟨_, by rw [u]; exact upd_same⟩
            · exact e1.dom a (.inr (.inl u))
            · exact e1.dom a (.inr (.inr u))
          · refine Rl.st.keep (g' := (g1.lend vs).plus (· = p)) ⟨fun a o q _ => Exx.new hp a o q, fun a u => ?_, Nat.le_refl _, fun _ _ => rfl, rfl⟩ (fun a o _ q => Exx.new hp a o q) rfl rfl rfl fun _ _ => rfl
            rcases u with (u | u) | u | u
            · exact .inl (.inl u)
            · exact .inr (by rw [u]; exact hp)
            · exact .inl (.inr (.inl u))
            · exact .inl (.inr (.inr u))
          · by_cases ha : a = p
            · subst ha
              rcases r with r | ⟨b, r⟩
              · rw [upd_same] at r; cases r
              · rw [upd_same] at r; cases r
            · refine e1.nt a ?_ w r
              rcases u with (u | u) | u | u
              · exact .inl u
              · exact absurd u ha
              · exact .inr (.inl u)
              · exact .inr (.inr u)
        refine ⟨LcW T Γ vs tf C E g1 H1 ρ σ ds ys Sf p, ⟨ds.length, ⟨g1.lend vs, S1, [], [], ys, .ex (Exx.new hp), Dp, upd_same, .nil, by simp, Nat.zero_le _, Nat.zero_le _, by rw [List.drop_zero]; exact el, rfl⟩⟩, ?_⟩
        rintro i m H' ⟨g0, Si, vacc, acc, rest, fr, dj, hacc, sacc, em, hi', ha, hl, hy⟩
        have fO : ∀ a, a = p → H1 a = none := fun a z => by rw [z]; exact hp
        have Rw : Rel T (g0.plus (· = p)) Γ (wipeE ρ vs) Si (wipe σ vs) H' := Rl.carry fr fO dj
        have st0 : Stay g1 H1 g0 H' := ⟨fun a o q hu => fr.stay.keep a o q fun z => hu (G.lend_U.mp z), fun a u => (fr.stay.own a u).imp G.lend_U.mp id, fr.N, fr.μ, fr.Z⟩
        obtain ⟨i1, i2⟩ := io g0 H' i st0
        by_cases hlt : i < ds.length
        · refine .inr ?_
          obtain ⟨d, hd⟩ : ∃ d, ds[i]? = some d := ⟨ds[i], List.getElem?_eq_getElem hlt⟩
          have stp : Stay g1 H1 (g0.plus (· = p)) H' := ⟨st0.keep, fun a u => by
            rcases u with (u | u) | u | u
            · exact st0.own a (.inl u)
            · exact .inr (fO a u)
            · exact st0.own a (.inr (.inl u))
            · exact st0.own a (.inr (.inr u)), st0.N, st0.μ, st0.Z⟩
          obtain ⟨_, i2⟩ := io (g0.plus (· = p)) H' i stp
          obtain ⟨go, yl⟩ := i2 d hd
          refine ⟨go, fun H2 => ∃ m', m' < m ∧ LcW T Γ vs tf C E g1 H1 ρ σ ds ys Sf p (i + 1) m' H2, fun H2 ⟨m', l, w⟩ => ⟨m', l, w⟩, fun x H2 y => ?_⟩
          obtain ⟨ex, sx⟩ := yl x H2 y
          have R2 := Rw.ex ex
          have ed : ds.drop i = d :: ds.drop (i + 1) := by
            rw [List.drop_eq_getElem_cons hlt]
            rw [List.getElem?_eq_getElem hlt] at hd
            rw [Option.some.inj hd]
          rw [ed, lcL] at hl
          split at hl
          · cases hl
          · rename_i ρ1 e1
            refine ht _ _ ρ1 Si _ H2 d x _ R2 sx e1 fun σ3 R3 l3 k3 => ⟨(wipe_get (is := is) l3 k3 his).trans wipe_wipe, _, ρ1, Si, R3, ?_⟩
            have fO2 : ∀ (g4 : G) (H4 : Hp), FrE ((g0.plus (· = p)).drops is) H2 g4 H4 → FrE (g1.lend vs) H1 { g4 with O := g0.O, F := g0.F } H4 ∧ ({ g4 with O := g0.O, F := g0.F } : G).plus (· = p) = g4 := fun g4 H4 f4 => by
              refine ⟨(fr.trans (.ex ex)).trans (f4.swap (g2 := g0) rfl rfl rfl rfl), ?_⟩
              have eO := f4.O
              have eF := f4.F
              obtain ⟨N4, μ4, O4, F4, B4, BF4, P4⟩ := g4
              simp only at eO eF
              subst eO eF
              show G.mk N4 μ4 (fun a => g0.O a ∨ a = p) g0.F B4 BF4 P4 = G.mk N4 μ4 (fun a => g0.O a ∨ a = p) (fun j a => j ∉ is ∧ g0.F j a) B4 BF4 P4
              congr 1
              funext j a
              rw [fr.F]
              exact propext ⟨fun z => ⟨fun w => z.1 (his j w), z⟩, fun z => z.2⟩
            have kp : ∀ (g4 : G) (H4 : Hp), FrE ((g0.plus (· = p)).drops is) H2 g4 H4 → g4.O p ∧ H4 p = some (.lst vacc) := fun g4 H4 f4 =>
              ⟨by rw [f4.O]; exact .inr rfl, f4.keep p _ (ex p _ hacc) (dj.dOB p (.inr rfl))⟩
            have sk : ∀ (g4 : G) (H4 : Hp), FrE ((g0.plus (· = p)).drops is) H2 g4 H4 → ShrL T g4 H4 acc vacc := fun g4 H4 f4 =>
              ShrL.stay (((Stay.ex ex).trans FrS.drops.stay).trans f4.stay) _ _ sacc
            split at hl
            · rename_i S2 ec
              rw [ec]
              refine ⟨true, rfl, fun g2 H3 R4 f3 => ?_⟩
              refine iteT ⟨g2, ρ1, S2, R4, ?_⟩
              split at hl
              · rename_i y2 S3 ey
                rw [ey]
                intro v g4 H4 R5 f4 s4
                have f34 := f3.trans f4
                obtain ⟨pO, pH⟩ := kp g4 H4 f34
                obtain ⟨fa, fe⟩ := fO2 g4 H4 f34
                have sa := sk g4 H4 f34
                split at hl
                · rename_i ys' S4 ely
                  cases hl
                  refine ⟨vacc, pH, by rw [← sa.length]; exact sz_lt6 (by omega), ds.length - (i + 1), by omega, ⟨{ g4 with O := g0.O, F := g0.F }, S3, vacc ++ [v], acc ++ [y2], ys', fa.upd hp, ?_, upd_same, ?_, rfl, hlt, by rw [List.length_append]; simp; omega, ely, by rw [hy, List.append_assoc]; rfl⟩⟩
                  · rw [fe]; exact R5.dj.write (fun _ => ⟨nofun, fun _ => nofun⟩) pO
                  · rw [fe]
                    have stw : Stay g4 H4 g4 (upd H4 p (.lst (vacc ++ [v]))) := ⟨fun a u h hu => by rw [upd_ne (fun z => hu (.inl (by rw [z]; exact pO)))]; exact h, fun _ h => .inl h, Nat.le_refl _, fun _ _ => rfl, rfl⟩
                    exact ShrL.append (sa.stay stw) ((ShrL.cons s4 .nil).stay stw)
                · cases hl
              · cases hl
            · rename_i S2 ec
              rw [ec]
              refine ⟨false, rfl, fun g2 H3 R4 f3 => iteF ?_⟩
              obtain ⟨pO, pH⟩ := kp g2 H3 f3
              obtain ⟨fa, fe⟩ := fO2 g2 H3 f3
              exact ⟨ds.length - (i + 1), by omega, ⟨{ g2 with O := g0.O, F := g0.F }, S2, vacc, acc, rest, fa, by rw [fe]; exact R4.dj, pH, by rw [fe]; exact sk g2 H3 f3, rfl, hlt, by omega, hl, hy⟩⟩
            · cases hl
        · have e1 : i = ds.length := by omega
          subst e1
          refine .inl ⟨i1 (Nat.le_refl _), ?_⟩
          rw [List.drop_length, lcL] at hl
          cases hl
          rw [List.append_nil] at hy
          subst hy
          have ff : FrE g1 H1 { g0 with O := g1.O, F := g1.F } H' := fr.swap (g2 := g1) rfl rfl rfl rfl
          have uu : ∀ a, ({ g0 with O := g1.O, F := g1.F } : G).U a → (g0.plus (· = p)).U a := fun a u => by
            rcases u with u | ⟨j, u⟩ | u
            · exact .inl (.inl (by rw [fr.O]; exact .inl u))
            · by_cases hj : j ∈ vs
              · exact .inl (.inl (by rw [fr.O]; exact .inr ⟨j, hj, u⟩))
              · exact .inr (.inl ⟨j, by rw [show (g0.plus (· = p)).F = g0.F from rfl, fr.F]; exact ⟨hj, u⟩⟩)
            · exact .inr (.inr u)
          have dOB' : ∀ a, (g1.O a ∨ ∃ j, g1.F j a) → ¬ g0.B a := fun a u z => by
            have := uu a (u.elim .inl fun w => .inr (.inl w))
            rcases fr.B a z with w | w
            · exact u.elim (fun q => R1.dOB a q w) fun ⟨j, q⟩ => R1.dFB j a q w
            · obtain ⟨o, q⟩ := R1.dom a (u.elim .inl fun q => .inr (.inl q))
              rw [w] at q; cases q
          have stf : Stay (g0.plus (· = p)) H' { g0 with O := g1.O, F := g1.F } H' := ⟨fun _ _ h _ => h, fun a u => .inl (uu a u), Nat.le_refl _, fun _ _ => rfl, rfl⟩
          have djf : Dj T { g0 with O := g1.O, F := g1.F } Sf H' := ⟨R1.dF, R1.dFO, fun j a u z => dOB' a (.inr ⟨j, u⟩) z, fun a u z => dOB' a (.inl u) z, fun a u => dj.dom a (uu a u), dj.st.keep stf (fun _ _ _ q => q) rfl rfl rfl fun _ _ => rfl, fun a u => dj.nt a (uu a u)⟩
          refine h (.ref p) _ H' (R1.carry0 ff djf) (f1.trans ff) (shr_lst.mpr ⟨p, vacc, rfl, ⟨hacc, fun u => ?_⟩, ShrL.stay stf _ _ sacc⟩)
          rcases u with u | u | u
          · obtain ⟨o, q⟩ := R1.dom p (.inl u)
            rw [hp] at q; cases q
          · obtain ⟨o, q⟩ := R1.dom p (.inr (.inl u))
            rw [hp] at q; cases q
          · exact dj.dOB p (.inr rfl) u
      · exact h.elim
    · exact h.elim
end
end Q

/-! Short words for printed derivations. -/
namespace Q
open PySem PySem.Spec PyProof.Rows L2
abbrev ΓS (n : Nat) : List Md := List.replicate n .s
theorem rep_s {n i : Nat} : (ΓS n).getD i .s = .s := by
  simp only [List.getD, List.getElem?_replicate]
  split <;> rfl
theorem set_rep {n i : Nat} : (ΓS n).set i .s = ΓS n := by
  apply List.ext_getElem?
  intro j
  by_cases h : i = j
  · subst h
    by_cases hl : i < n
    · rw [List.getElem?_set_self (by simpa using hl), List.getElem?_replicate, if_pos hl]
    · rw [List.getElem?_eq_none (by simpa using hl), List.getElem?_eq_none (by simpa using hl)]
  · rw [List.getElem?_set_ne h]
theorem set_repE {n i j : Nat} {m : Md} (h : i ≠ j) : ((ΓS n).set i m).set j .s = (ΓS n).set i m := by
  rw [List.set_comm _ _ h, set_rep]
abbrev sgS (n : Nat) : Sig := ⟨ΓS n, 0⟩
theorem gp_s {n : Nat} {Γ : List Md} : ΓP (ΓS n) Γ := fun i k h => by rw [rep_s] at h; cases h
section
variable {P : Program} {w : World} {K : PySem.W.Frag} {mg : Str → Option Value} {base : Heap} {T : Th}
abbrev jdS (n : Nat) (E : XK) : Jd := jdF (ΓS n) 0 E
theorem fn_okS {x qual : Str} {st : Stmt} {f : Addr} {fd : FuncData} {N ps : List Str} {k n : Nat} {B : FS} {Γ' : List Md} (F : Fun K x qual st f fd) (Sc : FnScope N ps (defScope st)) (hn : ps.length = n) (hN : n ≤ N.length)
    (hbody : ∀ (cdv : Value) (A : Around) (outer : List PySem.Env) (s : Shared) (H : Hp) (E : XK), Room k (A.deeper (envOfC qual (defScope st) s.heap.objs.size f cdv)) →
      XB (cxOf (L2.CX P w) P w K mg base N qual (defScope st) f cdv A outer s H E) T (jdS n E) (ΓS N.length) Γ' (defBody st) B) :
    FnOk P w K mg base (L2.CX P w) (k + 1) f fd ps (spD T n (sgS n) (fBody N.length n (ΓS n) B)) := by
  refine fn_ok (sg := sgS n) F Sc hn hN (Γ' := Γ') (fun cdv A outer s H E hr => ?_) gp_s
  have e : (sgS n).ms ++ List.replicate (N.length - (sgS n).ms.length) .s = ΓS N.length := by
    show List.replicate n Md.s ++ List.replicate (N.length - (List.replicate n Md.s).length) .s = List.replicate N.length .s
    rw [List.length_replicate, List.replicate_append_replicate]
    congr 1
    omega
  rw [e]
  exact hbody cdv A outer s H E hr
end
section
variable {X : Cx} {T : Th} {W : WX} {n : Nat}
theorem xv {i : Nat} {e : Expr} (he : PE X e (tVar i)) : XE X T W (ΓS n) e (eVar i) := xe_var he rep_s
theorem xe_callS {k m : Nat} {f : Addr} {fd : FuncData} {ps : List Str} {Φ : FF} {e : Expr} {es : List Expr} {A : FL} {Γ : List Md} (F : FnOk X.prog X.w X.K X.mg X.base (L2.CX X.prog X.w) k f fd ps (spD T m (sgS m) Φ)) (hn : es.length = m) (hA : ∀ ρ S ds S1, A ρ S = .ok ds S1 → ds.length = m)
    (ha : XL X T W Γ es A) (he : PA X es (tXL T W Γ A) → PE X e (tCallS (spD T m (sgS m) Φ) (WE W) (tXL T W Γ A))) : XE X T W Γ e (eCall Φ A) := xe_call F (fun _ => rep_s) hn hA ha he
end
/-- what an argument list is as long as -/
theorem la0 : ∀ ρ S ds S1, lNil ρ S = .ok ds S1 → ds.length = 0 := fun _ _ _ _ h => lNil_len h
theorem la1 {A : FE} {B : FL} {n : Nat} (h : ∀ ρ S ds S1, B ρ S = .ok ds S1 → ds.length = n) : ∀ ρ S ds S1, lCons A B ρ S = .ok ds S1 → ds.length = n + 1 := lCons_len h
end Q

/-! Reckoning with the readings; a law's own end. -/
namespace Q
open PySem PySem.Spec PyProof.Rows L2
/-! ### one step of a reading -/
def RS.seq (r : RS) (h : FS) : RS := match r with
  | .nx ρ1 S1 => h ρ1 S1
  | r => r
def condS (d : D) (x y : RS) : RS := match d with
  | .bl true => x
  | .bl false => y
  | _ => .no
def condE (d : D) (x y : RE) : RE := match d with
  | .bl true => x
  | .bl false => y
  | _ => .no
def notD (d : D) (S : Store) : RE := match d with
  | .bl b => .ok (.bl (!b)) S
  | _ => .no
def RL.bindE (r : RL) (k : List D → Store → RE) : RE := match r with
  | .ok ds S => k ds S
  | .exc x S => .exc x S
  | .no => .no
def RE.bindL (r : RE) (k : D → Store → RL) : RL := match r with
  | .ok d S => k d S
  | .exc x S => .exc x S
  | .no => .no
def RL.bindL (r : RL) (k : List D → Store → RL) : RL := match r with
  | .ok d S => k d S
  | .exc x S => .exc x S
  | .no => .no
def RL.bindS (ρ : Env) (r : RL) (k : List D → Store → RS) : RS := match r with
  | .ok d S => k d S
  | .exc x S => .exc x ρ S
  | .no => .no
def RF.toE (r : RF) : RE := match r with
  | .ok d _ S => .ok d S
  | .exc x _ S => .exc x S
  | .no => .no
def RS.toF (r : RS) (ms : List Md) (n : Nat) : RF := match r with
  | .nx ρ S' => .ok .non (outsOf ms n ρ) S'
  | .rt d ρ S' => .ok d (outsOf ms n ρ) S'
  | .exc x ρ S' => .exc x (outsOf ms n ρ) S'
  | _ => .no
def slotE (o : Option (Option D)) (S : Store) : RE := match o with
  | some (some d) => .ok d S
  | _ => .no
section
variable {d : D} {S : Store} {ρ : Env} {x : Exc}
theorem bind_ok {k : D → Store → RE} : (RE.ok d S).bind k = k d S := rfl
theorem bind_exc {k : D → Store → RE} : (RE.exc x S).bind k = .exc x S := rfl
theorem bindS_ok {k : D → Store → RS} : (RE.ok d S).bindS ρ k = k d S := rfl
theorem bindS_exc {k : D → Store → RS} : (RE.exc x S).bindS ρ k = .exc x ρ S := rfl
theorem of_some : RE.of S (some d) = .ok d S := rfl
theorem seq_nx {h : FS} : (RS.nx ρ S).seq h = h ρ S := rfl
theorem seq_rt {h : FS} : (RS.rt d ρ S).seq h = .rt d ρ S := rfl
theorem seq_exc {h : FS} : (RS.exc x ρ S).seq h = .exc x ρ S := rfl
theorem seq_bk {h : FS} : (RS.bk ρ S).seq h = .bk ρ S := rfl
theorem seq_ct {h : FS} : (RS.ct ρ S).seq h = .ct ρ S := rfl
theorem condS_bl {b : Bool} {y z : RS} : condS (.bl b) y z = if b = true then y else z := by cases b <;> rfl
theorem condE_bl {b : Bool} {y z : RE} : condE (.bl b) y z = if b = true then y else z := by cases b <;> rfl
theorem condS_t {y z : RS} : condS (.bl true) y z = y := rfl
theorem condS_f {y z : RS} : condS (.bl false) y z = z := rfl
theorem condE_t {y z : RE} : condE (.bl true) y z = y := rfl
theorem condE_f {y z : RE} : condE (.bl false) y z = z := rfl
theorem notD_bl {b : Bool} : notD (.bl b) S = .ok (.bl (!b)) S := rfl
theorem bindE_ok {ds : List D} {k : List D → Store → RE} : (RL.ok ds S).bindE k = k ds S := rfl
theorem bindL_ok {k : D → Store → RL} : (RE.ok d S).bindL k = k d S := rfl
theorem bindL_exc {k : D → Store → RL} : (RE.exc x S).bindL k = .exc x S := rfl
theorem bindLL_ok {ds : List D} {k : List D → Store → RL} : (RL.ok ds S).bindL k = k ds S := rfl
theorem bindLL_exc {k : List D → Store → RL} : (RL.exc x S).bindL k = .exc x S := rfl
theorem bindE_exc {k : List D → Store → RE} : (RL.exc x S).bindE k = .exc x S := rfl
theorem bindLS_ok {ds : List D} {k : List D → Store → RS} : (RL.ok ds S).bindS ρ k = k ds S := rfl
theorem bindLS_exc {k : List D → Store → RS} : (RL.exc x S).bindS ρ k = .exc x ρ S := rfl
theorem toE_ok {o : Env} : (RF.ok d o S).toE = .ok d S := rfl
theorem toE_exc {o : Env} : (RF.exc x o S).toE = .exc x S := rfl
theorem toF_nx {ms : List Md} {n : Nat} : (RS.nx ρ S).toF ms n = .ok .non (outsOf ms n ρ) S := rfl
theorem toF_rt {ms : List Md} {n : Nat} : (RS.rt d ρ S).toF ms n = .ok d (outsOf ms n ρ) S := rfl
theorem toF_exc {ms : List Md} {n : Nat} : (RS.exc x ρ S).toF ms n = .exc x (outsOf ms n ρ) S := rfl
theorem slotE_some : slotE (some (some d)) S = .ok d S := rfl
end
section
variable {ρ : Env} {S : Store}
theorem ev_var {i : Nat} : eVar i ρ S = slotE ρ[i]? S := rfl
theorem ev_c {d : D} : eC d ρ S = .ok d S := rfl
theorem ev_op {h : D → D → Option D} {a b : FE} : eOp h a b ρ S = (a ρ S).bind fun x S1 => (b ρ S1).bind fun y S2 => .of S2 (h x y) := rfl
theorem ev_un {h : D → Option D} {a : FE} : eUn h a ρ S = (a ρ S).bind fun x S1 => .of S1 (h x) := rfl
theorem ev_nil : lNil ρ S = .ok [] S := rfl
theorem ev_cons {a : FE} {r : FL} : lCons a r ρ S = (a ρ S).bindL fun x S1 => (r ρ S1).bindL fun xs S2 => .ok (x :: xs) S2 := rfl
theorem ev_L {h : List D → Option D} {a : FL} : eL h a ρ S = (a ρ S).bindE fun xs S1 => .of S1 (h xs) := rfl
theorem ev_tup {a : FL} : eTup a ρ S = (a ρ S).bindE fun xs S1 => .of S1 (if xs.length ≤ 1000000 then some (.tup xs) else none) := rfl
theorem ev_lst {a : FL} : eLst a ρ S = (a ρ S).bindE fun xs S1 => .of S1 (if xs.length ≤ 1000000 then some (.lst xs) else none) := rfl
theorem ev_call {Φ : FF} {a : FL} : eCall Φ a ρ S = (a ρ S).bindE fun xs S1 => (Φ xs S1).toE := rfl
theorem ev_and {a b : FE} : eAnd a b ρ S = (a ρ S).bind fun x S1 => condE x (b ρ S1) (.ok (.bl false) S1) := rfl
theorem ev_or {a b : FE} : eOr a b ρ S = (a ρ S).bind fun x S1 => condE x (.ok (.bl true) S1) (b ρ S1) := rfl
theorem ev_not {a : FE} : eNot a ρ S = (a ρ S).bind fun x S1 => notD x S1 := rfl
theorem ev_if {c a b : FE} : eIf c a b ρ S = (c ρ S).bind fun x S1 => condE x (a ρ S1) (b ρ S1) := rfl
theorem ev_seq {f h : FS} : fSeq f h ρ S = (f ρ S).seq h := rfl
theorem ev_set {i : Nat} {a : FE} : fSet i a ρ S = (a ρ S).bindS ρ fun d S1 => .nx (ρ.set i (some d)) S1 := rfl
theorem ev_ret {a : FE} : fRet a ρ S = (a ρ S).bindS ρ fun d S1 => .rt d ρ S1 := rfl
theorem ev_drop {a : FE} : fDrop a ρ S = (a ρ S).bindS ρ fun _ S1 => .nx ρ S1 := rfl
theorem ev_pass : fPass ρ S = .nx ρ S := rfl
theorem ev_brk : fBrk ρ S = .bk ρ S := rfl
theorem ev_ct : fCt ρ S = .ct ρ S := rfl
theorem ev_raise {k : Nat} : fRaise k ρ S = .exc ⟨k, []⟩ ρ S := rfl
theorem ev_ifS {c : FE} {f h : FS} : fIf c f h ρ S = (c ρ S).bindS ρ fun d S1 => condS d (f ρ S1) (h ρ S1) := rfl
theorem ev_for {it : FL} {tf : D → Env → Option Env} {b : FS} : fFor it tf b ρ S = (it ρ S).bindS ρ fun ds S1 => forL tf b ds ρ S1 := rfl
theorem ev_body {N n : Nat} {ms : List Md} {b : FS} {ds : List D} : fBody N n ms b ds S = (b (ds.map some ++ List.replicate (N - n) none) S).toF ms n := rfl
theorem ev_held {i : Nat} {b : Bool} : eHeld i b ρ S = (match ρ[i]? with | some (some _) => .ok (.bl b) S | _ => .no) := rfl
theorem ev_tru {a : FE} : eTru a ρ S = (a ρ S).bind fun x S1 => .of S1 (hTru x) := rfl
end
section
variable {a b : Int}
theorem hNe_int : hNe (.int a) (.int b) = some (.bl (!(a == b))) := rfl
theorem hEq_int : hEq (.int a) (.int b) = some (.bl (a == b)) := rfl
theorem hEq_bl {a b : Bool} : hEq (.bl a) (.bl b) = some (.bl (a == b)) := rfl
theorem hNe_bl {a b : Bool} : hNe (.bl a) (.bl b) = some (.bl (!(a == b))) := rfl
theorem hSub_int : hSub (.int a) (.int b) = some (.int (a - b)) := rfl
theorem hLt_int : hLt (.int a) (.int b) = some (.bl (decide (a < b))) := rfl
theorem hLe_int : hLe (.int a) (.int b) = some (.bl (decide (a ≤ b))) := rfl
theorem hGt_int : hGt (.int a) (.int b) = some (.bl (decide (b < a))) := rfl
theorem hGe_int : hGe (.int a) (.int b) = some (.bl (decide (b ≤ a))) := rfl
theorem hNeg_int : hNeg (.int a) = some (.int (-a)) := rfl
theorem hMod_pos (h : 0 < b) : hMod (.int a) (.int b) = some (.int (a % b)) := if_pos h
theorem hMul_bd {m n : Nat} (ha : a.natAbs < 2 ^ m) (hb : b.natAbs < 2 ^ n) (h : m + n ≤ 130000000) : hMul (.int a) (.int b) = some (.int (a * b)) := by
  have x := PySem.Flt.log2_lt_of (Nat.succ_pos m) (Nat.lt_of_lt_of_le ha (Nat.pow_le_pow_right (by decide) (Nat.le_succ m)))
  have y := PySem.Flt.log2_lt_of (Nat.succ_pos n) (Nat.lt_of_lt_of_le hb (Nat.pow_le_pow_right (by decide) (Nat.le_succ n)))
  show (if a.natAbs.log2 + b.natAbs.log2 < 134000000 then some (D.int (a * b)) else none) = _
  rw [if_pos (by omega)]
theorem hDiv_bd (h : b ≠ 0) (hb : b.natAbs < 2 ^ 8999) : hDiv (.int a) (.int b) = some (.int (a.fdiv b)) := by
  have y := PySem.Flt.log2_lt_of (show 0 < 8999 by decide) hb
  show (if b = 0 ∨ 9000 ≤ b.natAbs.log2 then none else some (D.int (a.fdiv b))) = _
  rw [if_neg (by omega)]
theorem hDiv_pos (h : 0 < b) (hb : b.natAbs < 2 ^ 8999) : hDiv (.int a) (.int b) = some (.int (a / b)) := by
  rw [hDiv_bd (by omega) hb, Int.fdiv_eq_ediv_of_nonneg a (by omega)]
theorem hAbs_int : hAbs [.int a] = some (.int a.natAbs) := by
  show some (D.int (if a < 0 then -a else a)) = _
  congr 2
  split <;> omega
theorem hIsi_int_int : hIsi "int" (.int a) = some (.bl true) := by
  show (kitB "int" "int").map D.bl = _
  rw [show kitB "int" "int" = some true by decide +kernel]; rfl
theorem hIsi_bool_int : hIsi "bool" (.int a) = some (.bl false) := by
  show (kitB "int" "bool").map D.bl = _
  rw [show kitB "int" "bool" = some false by decide +kernel]; rfl
theorem hIsi_bool_bl {x : Bool} : hIsi "bool" (.bl x) = some (.bl true) := by
  show (kitB "bool" "bool").map D.bl = _
  rw [show kitB "bool" "bool" = some true by decide +kernel]; rfl
theorem hIsi_int_bl {x : Bool} : hIsi "int" (.bl x) = some (.bl true) := by
  show (kitB "bool" "int").map D.bl = _
  rw [show kitB "bool" "int" = some true by decide +kernel]; rfl
theorem hIsi_tuple_tup {l : List D} : hIsi "tuple" (.tup l) = some (.bl true) := by
  show (kitB "tuple" "tuple").map D.bl = _
  rw [show kitB "tuple" "tuple" = some true by decide +kernel]; rfl
theorem hIsi_list_lst {l : List D} : hIsi "list" (.lst l) = some (.bl true) := by
  show (kitB "list" "list").map D.bl = _
  rw [show kitB "list" "list" = some true by decide +kernel]; rfl
end
section
variable {a b c d e : D} {l : List D}
theorem hIxT0 : hIx (.tup (a :: l)) (.int 0) = some a := by
  show atI (a :: l) ((0 : Nat) : Int) = _
  exact atI_nat rfl
theorem hIxT1 : hIx (.tup (a :: b :: l)) (.int 1) = some b := by
  show atI (a :: b :: l) ((1 : Nat) : Int) = _
  exact atI_nat rfl
theorem hIxT2 : hIx (.tup (a :: b :: c :: l)) (.int 2) = some c := by
  show atI (a :: b :: c :: l) ((2 : Nat) : Int) = _
  exact atI_nat rfl
theorem hIxT3 : hIx (.tup (a :: b :: c :: d :: l)) (.int 3) = some d := by
  show atI (a :: b :: c :: d :: l) ((3 : Nat) : Int) = _
  exact atI_nat rfl
theorem hIxT4 : hIx (.tup (a :: b :: c :: d :: e :: l)) (.int 4) = some e := by
  show atI (a :: b :: c :: d :: e :: l) ((4 : Nat) : Int) = _
  exact atI_nat rfl
theorem hIxL0 : hIx (.lst (a :: l)) (.int 0) = some a := by
  show atI (a :: l) ((0 : Nat) : Int) = _
  exact atI_nat rfl
theorem hIxL1 : hIx (.lst (a :: b :: l)) (.int 1) = some b := by
  show atI (a :: b :: l) ((1 : Nat) : Int) = _
  exact atI_nat rfl
theorem hIxL2 : hIx (.lst (a :: b :: c :: l)) (.int 2) = some c := by
  show atI (a :: b :: c :: l) ((2 : Nat) : Int) = _
  exact atI_nat rfl
theorem hIxL3 : hIx (.lst (a :: b :: c :: d :: l)) (.int 3) = some d := by
  show atI (a :: b :: c :: d :: l) ((3 : Nat) : Int) = _
  exact atI_nat rfl
theorem hIx_lst {k : Nat} {x : D} (h : l[k]? = some x) : hIx (.lst l) (.int k) = some x := atI_nat h
theorem hIx_scr {k : Nat} {x : D} (h : l[k]? = some x) : hIx (.scr l) (.int k) = some x := atI_nat h
theorem hIx_tup {k : Nat} {x : D} (h : l[k]? = some x) : hIx (.tup l) (.int k) = some x := atI_nat h
theorem hLen_lst : hLen [.lst l] = some (.int l.length) := rfl
theorem hLen_scr : hLen [.scr l] = some (.int l.length) := rfl
theorem hLen_tup : hLen [.tup l] = some (.int l.length) := rfl
end
/-! ### for, by an invariant -/
theorem forL_inv {tf : D → Env → Option Env} {b : FS} {I : Nat → Env → Store → Prop} {ds : List D} (turn : ∀ i d ρ S, ds[i]? = some d → I i ρ S → ∃ ρ1, tf d ρ = some ρ1 ∧ ((∃ ρ2 S2, b ρ1 S = .nx ρ2 S2 ∧ I (i + 1) ρ2 S2) ∨ ∃ ρ2 S2, b ρ1 S = .ct ρ2 S2 ∧ I (i + 1) ρ2 S2)) :
    ∀ (i : Nat) (ρ : Env) (S : Store), i ≤ ds.length → I i ρ S → ∃ ρ' S', forL tf b (ds.drop i) ρ S = .nx ρ' S' ∧ I ds.length ρ' S' := by
  intro i
  induction hk : ds.length - i generalizing i with
  | zero =>
    intro ρ S hi h
    have e : i = ds.length := by omega
    subst e
    refine ⟨ρ, S, ?_, h⟩
    rw [List.drop_length]
    rfl
  | succ n ih =>
    intro ρ S hi h
    have hlt : i < ds.length := by omega
    obtain ⟨ρ1, e1, e2⟩ := turn i ds[i] ρ S (List.getElem?_eq_getElem hlt) h
    rw [List.drop_eq_getElem_cons hlt, forL, e1]
    rcases e2 with ⟨ρ2, S2, e2, h2⟩ | ⟨ρ2, S2, e2, h2⟩
    · simp only [e2]
      exact ih (i + 1) (by omega) ρ2 S2 hlt h2
    · simp only [e2]
      exact ih (i + 1) (by omega) ρ2 S2 hlt h2
theorem forL_all {tf : D → Env → Option Env} {b : FS} (I : Nat → Env → Store → Prop) {ds : List D} {ρ : Env} {S : Store} (h0 : I 0 ρ S) (turn : ∀ i d ρ S, ds[i]? = some d → I i ρ S → ∃ ρ1, tf d ρ = some ρ1 ∧ ((∃ ρ2 S2, b ρ1 S = .nx ρ2 S2 ∧ I (i + 1) ρ2 S2) ∨ ∃ ρ2 S2, b ρ1 S = .ct ρ2 S2 ∧ I (i + 1) ρ2 S2)) :
    ∃ ρ' S', forL tf b ds ρ S = .nx ρ' S' ∧ I ds.length ρ' S' := by
  have := forL_inv turn 0 ρ S (Nat.zero_le _) h0
  rw [List.drop_zero] at this
  exact this
theorem rangeL_get {lo hi : Int} {i : Nat} {d : D} (h : (rangeL lo hi)[i]? = some d) : d = .int (lo + i) ∧ lo + i < hi := by
  unfold rangeL at h
  rw [List.getElem?_map] at h
  obtain ⟨k, e1, e2⟩ := Option.map_eq_some_iff.mp h
  obtain ⟨hk, e3⟩ := List.getElem?_eq_some_iff.mp e1
  rw [List.getElem_range] at e3
  rw [List.length_range] at hk
  subst e3
  exact ⟨e2.symm, by omega⟩
theorem rangeL_length {lo hi : Int} : (rangeL lo hi).length = (hi - lo).toNat := by simp [rangeL]
theorem cutD_take {l : List D} (k : Nat) : cutD l none (some (k : Int)) = l.take k := by
  unfold cutD
  rw [HT.sIx_nat, HT.sIx_none, List.drop_zero, Nat.sub_zero]
  by_cases h : k ≤ l.length
  · rw [Nat.min_eq_left h]
  · rw [Nat.min_eq_right (by omega), List.take_length, List.take_of_length_le (by omega)]
theorem cutD_drop {l : List D} (k : Nat) : cutD l (some (k : Int)) none = l.drop k := by
  unfold cutD
  rw [HT.sIx_nat, HT.sIx_none]
  by_cases h : k ≤ l.length
  · rw [Nat.min_eq_left h, List.take_of_length_le (by simp)]
  · rw [Nat.min_eq_right (by omega), Nat.sub_self, List.take_zero, List.drop_of_length_le (by omega)]
theorem ev_sl {a : FE} {lo hi : Option FE} {ρ : Env} {S : Store} : eSl a lo hi ρ S = (a ρ S).bind fun d S1 => eBnd lo ρ S1 fun l S2 => eBnd hi ρ S2 fun h S3 => .of S3 (hSl d l h) := rfl
theorem bnd_none {ρ : Env} {S : Store} {k : Option Int → Store → RE} : eBnd none ρ S k = k none S := rfl
def bndK (d : D) (S : Store) (k : Option Int → Store → RE) : RE := match d with
  | .int i => k (some i) S
  | _ => .no
theorem bnd_some {a : FE} {ρ : Env} {S : Store} {k : Option Int → Store → RE} : eBnd (some a) ρ S k = (a ρ S).bind fun d S1 => bndK d S1 k := rfl
theorem bndK_int {i : Int} {S : Store} {k : Option Int → Store → RE} : bndK (.int i) S k = k (some i) S := rfl
theorem hSl_scr {l : List D} {lo hi : Option Int} : hSl (.scr l) lo hi = some (.lst (cutD l lo hi)) := rfl
theorem hSl_lst {l : List D} {lo hi : Option Int} : hSl (.lst l) lo hi = some (.lst (cutD l lo hi)) := rfl
theorem hAdd_lst {a b : List D} (h : a.length + b.length ≤ 1000000) : hAdd (.lst a) (.lst b) = some (.lst (a ++ b)) := if_pos h
theorem ev_range1 {a : FL} {ρ : Env} {S : Store} : iRange1 a ρ S = (a ρ S).bindL rgK1 := rfl
theorem ev_range2 {a : FL} {ρ : Env} {S : Store} : iRange2 a ρ S = (a ρ S).bindL rgK2 := rfl
theorem rgK2_int {m n : Int} {S : Store} (h : (-1000000000000 ≤ m ∧ m ≤ 1000000000000) ∧ -1000000000000 ≤ n ∧ n ≤ 1000000000000) : rgK2 [.int m, .int n] S = .ok (rangeL m n) S := if_pos h
theorem rgK1_int {n : Int} {S : Store} (h : -1000000000000 ≤ n ∧ n ≤ 1000000000000) : rgK1 [.int n] S = .ok (rangeL 0 n) S := if_pos h
def seqK (d : D) (S : Store) : RL := match hSeq d with
  | some l => .ok l S
  | none => .no
theorem ev_iseq {a : FE} {ρ : Env} {S : Store} : iSeq a ρ S = (a ρ S).bindL seqK := rfl
theorem seqK_lst {l : List D} {S : Store} : seqK (.lst l) S = .ok l S := rfl
theorem seqK_tup {l : List D} {S : Store} : seqK (.tup l) S = .ok l S := rfl
theorem seqK_scr {l : List D} {S : Store} : seqK (.scr l) S = .ok l S := rfl
/-- the law's promise, as the end asks it -/
def spLaw (K : PySem.W.Frag) : Sp := fun vs H Q _ => ∃ (a : Addr) (ns : List Int), vs = [.ref a] ∧ SqL K H a (ns.map V.int) ∧ ns.length ≤ 63 ∧ (∀ z ∈ ns, Builtin.Int.intBits z ≤ 1048576) ∧ ∀ H', Q (.bl true) H'
theorem law_sp (K : PySem.W.Frag) (H : Hp) (a : Addr) (ns : List Int) (h1 : ns.length ≤ 63) (h2 : ∀ z ∈ ns, Builtin.Int.intBits z ≤ 1048576) (h : SqL K H a (ns.map V.int)) : spLaw K [.ref a] H (fun v _ => v = .bl true) fun _ _ _ => False := ⟨a, ns, rfl, h, h1, h2, fun _ => rfl⟩
theorem law_cx (P : Program) (w : World) (H : Hp) (s : Shared) (e : Value) (s' : Shared) (h : L2.CX P w [] H s (fun _ _ _ => False) e s') : False := by
  obtain ⟨_, _, _, _, _, _, _, _, _, _, _, _, z⟩ := h
  exact z.elim
def G0 : G := ⟨0, fun _ => 0, fun _ => False, fun _ _ => False, fun _ => False, fun _ _ _ => False, fun _ => .non⟩
theorem G0_U {a : Addr} : ¬ G0.U a := by
  rintro (h | ⟨i, h⟩ | h)
  · exact h
  · exact h
  · exact h
theorem shrL_ints {T : Th} {g : G} {H : Hp} : ∀ ns : List Int, ShrL T g H (ns.map D.int) (ns.map V.int)
  | [] => .nil
  | n :: r => .cons (shr_int.mpr rfl) (shrL_ints r)
/-- from what the law's def comes to, to its promise -/
theorem law_ok {P : Program} {w : World} {mg : Str → Option Value} {base : Heap} {T : Th} {k : Nat} {f : Addr} {fd : FuncData} {ps : List Str} {Φ : FF} (F : FnOk P w T.K mg base (L2.CX P w) k f fd ps (spD T 1 (sgS 1) Φ))
    (h : ∀ ns : List Int, ns.length ≤ 63 → (∀ z ∈ ns, Builtin.Int.intBits z ≤ 1048576) → ∃ outs S', Φ [.scr (ns.map .int)] [] = .ok (.bl true) outs S') : FnOk P w T.K mg base (L2.CX P w) k f fd ps (spLaw T.K) := by
  refine F.imp fun vs H Q E hq => ?_
  obtain ⟨a, ns, rfl, hS, hl, hb, q⟩ := hq
  obtain ⟨outs, S', e⟩ := h ns hl hb
  refine ⟨rfl, G0, [.scr (ns.map .int)], [], ⟨rfl, fun i d e => ?_, fun _ _ _ h => h.elim, fun _ _ h => h.elim, fun _ _ h => h.elim, fun _ h => h.elim, fun a h => (G0_U h).elim, ⟨rfl, fun _ _ h => absurd h (Nat.not_lt_zero _), fun _ h => absurd h (Nat.not_lt_zero _), fun _ _ _ h => h.elim, fun _ _ _ _ _ h => h.elim, fun n o h => by simp at h, fun n o h => by simp at h⟩, fun a h => (G0_U h).elim⟩, ?_⟩
  · rw [rep_s]
    cases i with
    | succ i => simp at e
    | zero =>
      simp at e
      subst e
      exact ⟨_, rfl, shr_scr.mpr ⟨a, _, rfl, hS.imp (fun z => ⟨z, G0_U⟩) id, shrL_ints ns⟩⟩
  · rw [e]
    intro v g' H' Fo R f nf ho hw
    have hw : Own T (g'.plus Fo) H' 0 Fo (.bl true) v := hw
    simp only [Own] at hw
    rw [shr_bl.mp hw]
    exact q H'
end Q

/-! Owned lists: loose readings, fresh values, appends. -/
namespace Q
open PySem PySem.Spec PyProof.Rows L2
/-- .. but for what slots and others may write -/
def G.bb (g : G) : G := { g with O := fun _ => False, F := fun _ _ => False }
theorem G.bb_U {g : G} {a : Addr} : g.bb.U a ↔ g.B a := ⟨fun h => h.elim False.elim fun h => h.elim (fun ⟨_, h⟩ => h.elim) id, fun h => .inr (.inr h)⟩
def G.plusF (g : G) (n : Nat) (Fo : Addr → Prop) : G := { g with F := fun j a => g.F j a ∨ (j = n ∧ Fo a) }
theorem G.plusF_U {g : G} {n : Nat} {Fo : Addr → Prop} {a : Addr} : (g.plusF n Fo).U a ↔ g.U a ∨ Fo a := by
  constructor
  · rintro (h | ⟨j, h | ⟨_, h⟩⟩ | h)
    · exact .inl (.inl h)
    · exact .inl (.inr (.inl ⟨j, h⟩))
    · exact .inr h
    · exact .inl (.inr (.inr h))
  · rintro ((h | ⟨j, h⟩ | h) | h)
    · exact .inl h
    · exact .inr (.inl ⟨j, .inl h⟩)
    · exact .inr (.inr h)
    · exact .inr (.inl ⟨n, .inr ⟨rfl, h⟩⟩)
theorem G.plus_U {g : G} {Fo : Addr → Prop} {a : Addr} : (g.plus Fo).U a ↔ g.U a ∨ Fo a := by
  constructor
  · rintro ((h | h) | h | h)
    · exact .inl (.inl h)
    · exact .inr h
    · exact .inl (.inr (.inl h))
    · exact .inl (.inr (.inr h))
  · rintro ((h | h | h) | h)
    · exact .inl (.inl h)
    · exact .inr (.inl h)
    · exact .inr (.inr h)
    · exact .inl (.inr h)
mutual
def immD : D → Bool
  | .non => true
  | .bl _ => true
  | .int _ => true
  | .str _ => true
  | .tup l => immL l
  | _ => false
def immL : List D → Bool
  | [] => true
  | d :: r => immD d && immL r
end
section
variable {T : Th} {g g' g1 g2 : G} {H H' H1 : Hp} {Γ : List Md} {ρ : Env} {S : Store} {σ : L2.St}
theorem stay_bb (hN : g.N = g2.N) (hμ : g2.μ = g.μ) (hB : ∀ a, g2.B a → g.U a) (hZ : g2.Z = g.Z := by rfl) : Stay g H g2.bb H := ⟨fun _ _ h _ => h, fun a h => .inl (hB a (G.bb_U.mp h)), by show g.N ≤ g2.N; rw [hN]; exact Nat.le_refl _, fun n _ => by show g2.μ n = g.μ n; rw [hμ], hZ⟩
theorem Shr.bb {d : D} {v : V} (s : Shr T g H d v) : Shr T g.bb H d v := s.stay (stay_bb rfl rfl fun _ h => .inr (.inr h))
theorem FrE.bb (f : FrE g H g' H') : Stay g.bb H g'.bb H' where
  keep := fun a o h hu => f.keep a o h fun z => hu (G.bb_U.mpr z)
  own := fun a h => (f.B a (G.bb_U.mp h)).imp G.bb_U.mpr id
  N := f.N
  μ := f.μ
  Z := f.Z
mutual
theorem imm_shr (nt : ∀ a, g.U a → ∀ u, ¬ Rd H a (.tup u)) : ∀ (d : D) (v : V), immD d = true → Shr T g2 H d v → Shr T g H d v
  | .non, _, _, h => by simpa only [Shr] using h
  | .bl _, _, _, h => by simpa only [Shr] using h
  | .int _, _, _, h => by simpa only [Shr] using h
  | .str _, _, _, h => by simpa only [Shr] using h
  | .tup l, v, e, h => by
    simp only [Shr] at h ⊢
    obtain ⟨a, vs, e2, q, r⟩ := h
    exact ⟨a, vs, e2, q.imp (fun z => ⟨z.1, fun u => nt a u _ z.1⟩) id, imm_shrL nt l vs (by simpa only [immD] using e) r⟩
  | .lst _, _, e, _ => by simp only [immD] at e; cases e
  | .scr _, _, e, _ => by simp only [immD] at e; cases e
  | .dct _, _, e, _ => by simp only [immD] at e; cases e
  | .obj _, _, e, _ => by simp only [immD] at e; cases e
  | .fn _ _, _, e, _ => by simp only [immD] at e; cases e
  | .gone _, _, e, _ => by simp only [immD] at e; cases e
theorem imm_shrL (nt : ∀ a, g.U a → ∀ u, ¬ Rd H a (.tup u)) : ∀ (ds : List D) (vs : List V), immL ds = true → ShrL T g2 H ds vs → ShrL T g H ds vs
  | [], _, _, h => by simpa only [ShrL] using h
  | d :: ds, vs, e, h => by
    simp only [ShrL] at h ⊢
    simp only [immL, Bool.and_eq_true] at e
    obtain ⟨v, ws, e2, q, r⟩ := h
    exact ⟨v, ws, e2, imm_shr nt d v e.1 q, imm_shrL nt ds ws e.2 r⟩
end
/-- what is owned, out of the owner's sight -/
theorem shr_of_own2 (st : Stay g2 H g H) : ∀ (k : Nat) (Fo : Addr → Prop) (d : D) (v : V), (∀ a, Fo a → ¬ g.U a) → Own T g2 H k Fo d v → Shr T g H d v := by
  intro k
  suffices hs : ∀ (k : Nat) (Fo F : Addr → Prop) (d : D) (v : V), (∀ a, F a → Fo a) → (∀ a, Fo a → ¬ g.U a) → Own T g2 H k F d v → Shr T g H d v from fun Fo d v h1 h => hs k Fo Fo d v (fun _ z => z) h1 h
  intro k
  induction k with
  | zero => intro Fo F d v hf hu h; simp only [Own] at h; exact h.stay st
  | succ k ih =>
    intro Fo F d v hf hu h
    cases d with
    | lst l =>
      simp only [Own] at h
      obtain ⟨p, vs, e, hF, hH, hl, Gs, h1, h2, h3⟩ := h
      exact shr_lst.mpr ⟨p, vs, e, ⟨hH, hu p (hf p hF)⟩, .of hl fun i d w a b => ih Fo (Gs i) d w (fun a z => hf a (h1 i a z).1) hu (h3 i d w a b)⟩
    | dct l =>
      simp only [Own] at h
      obtain ⟨p, vs, e, hF, hH, hl, Gs, h1, h2, h3⟩ := h
      simp only [Shr]
      exact ⟨p, vs, e, ⟨hH, hu p (hf p hF)⟩, .of hl fun i d w a b => ⟨(h3 i d w a b).1.stay st, ih Fo (Gs i) d.2 w.2 (fun a z => hf a (h1 i a z).1) hu (h3 i d w a b).2⟩⟩
    | _ => simp only [Own] at h; exact h.stay st
theorem own1_lst {F : Addr → Prop} {l : List D} {v : V} : Own T g H 1 F (.lst l) v ↔ ∃ p vs, v = .ref p ∧ F p ∧ H p = some (.lst vs) ∧ ShrL T g H l vs := by
  simp only [Own]
  constructor
  · rintro ⟨p, vs, e, hF, hH, hl, Gs, h1, h2, h3⟩
    exact ⟨p, vs, e, hF, hH, .of hl fun i d w a b => h3 i d w a b⟩
  · rintro ⟨p, vs, e, hF, hH, s⟩
    refine ⟨p, vs, e, hF, hH, s.length, fun _ _ => False, fun _ _ z => z.elim, fun _ _ _ z => z.elim, fun j d w a b => ?_⟩
    obtain ⟨w', h1, h2⟩ := s.get a
    rw [b] at h1; cases h1
    exact h2
/-- a slot's value, loosely -/
theorem Rel.bb (R : Rel T g Γ ρ S σ H) {i : Nat} {d : D} (e : ρ[i]? = some (some d)) (hm : ∀ v, Γ.getD i .s ≠ .e v) : ∃ v, σ[i]? = some (some v) ∧ Shr T g.bb H d v := by
  obtain ⟨v, h1, h2⟩ := R.slot i d e
  refine ⟨v, h1, ?_⟩
  have st : Stay g H g.bb H := stay_bb rfl rfl fun _ h => .inr (.inr h)
  cases hq : Γ.getD i .s <;> rw [hq] at h2 <;> simp only [RepM] at h2
  · exact h2.bb
  · exact shr_of_own2 st _ _ _ _ (fun a z u => R.dFB i a z (G.bb_U.mp u)) h2
  · exact shr_of_own2 st _ _ _ _ (fun a z u => R.dOB a z (G.bb_U.mp u)) h2
  · exact shr_of_own2 st _ _ _ _ (fun a z u => R.dFB i a z (G.bb_U.mp u)) h2.2
  · exact absurd hq (hm _)
  · exact h2.stay (show Stay g.bare H g.bb H from stay_bb rfl rfl fun _ h => .inr (.inr h))
end
/-! ### loose expressions -/
def GoodQ (T : Th) (W : WX) (Γ : List Md) (ρ : Env) (σ : L2.St) (g : G) (H : Hp) : RE → VK → Prop
  | .ok d S', Q => ∀ v g' H', Rel T g' Γ ρ S' σ H' → FrE g H g' H' → Shr T g'.bb H' d v → Q v H'
  | .exc x S', _ => ∀ c dd g' H', Rel T g' Γ ρ S' σ H' → FrE g H g' H' → ExcR T g' H' x c dd → W c dd σ H'
  | .no, _ => False
def tQ (T : Th) (W : WX) (Γ : List Md) (F : FE) : TE := fun σ H Q => ∃ g ρ S, Rel T g Γ ρ S σ H ∧ GoodQ T W Γ ρ σ g H (F ρ S) Q
abbrev XQ (X : Cx) (T : Th) (W : WX) (Γ : List Md) (e : Expr) (F : FE) : Prop := PE X e (tQ T W Γ F)
def eFlat (a : FE) : FE := fun ρ S => (a ρ S).bind fun d S1 => if immD d = true then .ok d S1 else .no
section
variable {X : Cx} {T : Th} {W : WX} {Γ : List Md}
theorem xq_of {e : Expr} {F : FE} (h : XE X T W Γ e F) : XQ X T W Γ e F := pe_imp h fun σ H Q ⟨g, ρ, S, R, hg⟩ => by
  refine ⟨g, ρ, S, R, ?_⟩
  cases r : F ρ S with
  | ok d S1 => rw [r] at hg; exact fun v g' H' R' f' s => hg v g' H' R' f' s.bb
  | exc x S1 => rw [r] at hg; exact hg
  | no => rw [r] at hg; exact hg
theorem xq_var {i : Nat} {e : Expr} (he : PE X e (tVar i)) (hm : ∀ v, Γ.getD i .s ≠ .e v) : XQ X T W Γ e (eVar i) := pe_imp he fun σ H Q ⟨g, ρ, S, R, h⟩ => by
  have h : GoodQ T W Γ ρ σ g H (match ρ[i]? with | some (some d) => RE.ok d S | _ => .no) Q := h
  split at h
  · rename_i d e
    obtain ⟨v, h1, h2⟩ := R.bb e hm
    exact ⟨v, h1, h v g H R (.refl g H) h2⟩
  · exact h.elim
/-- a loose value that is no list is a strict one -/
theorem xe_flat {e : Expr} {F : FE} (h : XQ X T W Γ e F) : XE X T W Γ e (eFlat F) := pe_imp h fun σ H Q ⟨g, ρ, S, R, hg⟩ => by
  refine ⟨g, ρ, S, R, ?_⟩
  unfold eFlat at hg
  cases r : F ρ S with
  | ok d S1 =>
    rw [r] at hg
    have hg : GoodE T W Γ ρ σ g H (if immD d = true then RE.ok d S1 else .no) Q := hg
    split at hg
    · rename_i hd
      exact fun v g' H' R' f' s => hg v g' H' R' f' (imm_shr R'.nt d v hd s)
    · exact hg.elim
  | exc x S1 => rw [r] at hg; exact hg
  | no => rw [r] at hg; exact hg
theorem goodQ_bind {ρ : Env} {σ : L2.St} {g : G} {H : Hp} {r : RE} {k : D → Store → RE} {Q Q' : VK} (h : GoodQ T W Γ ρ σ g H (r.bind k) Q)
    (hk : ∀ d S v g' H', r = .ok d S → Rel T g' Γ ρ S σ H' → FrE g H g' H' → Shr T g'.bb H' d v → GoodQ T W Γ ρ σ g' H' (k d S) Q → Q' v H') : GoodQ T W Γ ρ σ g H r Q' := by
  cases r with
  | ok d S =>
    intro v g' H' R f s
    refine hk d S v g' H' rfl R f s ?_
    have h' : GoodQ T W Γ ρ σ g H (k d S) Q := h
    cases e : k d S with
    | ok d2 S2 =>
      rw [e] at h'
      exact fun v2 g2 H2 R2 f2 s2 => h' v2 g2 H2 R2 (f.trans f2) s2
    | exc x S2 =>
      rw [e] at h'
      exact fun c dd g2 H2 R2 f2 s2 => h' c dd g2 H2 R2 (f.trans f2) s2
    | no => rw [e] at h'; exact h'
  | exc x S => exact h
  | no => exact h
theorem goodQ_of {ρ : Env} {σ : L2.St} {g : G} {H : Hp} {S : Store} {o : Option D} {Q : VK} (h : GoodQ T W Γ ρ σ g H (.of S o) Q) : ∃ d, o = some d ∧ GoodQ T W Γ ρ σ g H (.ok d S) Q := by
  cases o with
  | none => exact h.elim
  | some d => exact ⟨d, rfl, h⟩
theorem xq_op {e : Expr} {r : R2} {h : D → D → Option D} {a b : Expr} {A B : FE} (ok : OpOk T r h) (ha : XQ X T W Γ a A) (hb : XQ X T W Γ b B)
    (he : PE X a (tQ T W Γ A) → PE X b (tQ T W Γ B) → PE X e (tOp r (tQ T W Γ A) (tQ T W Γ B))) : XQ X T W Γ e (eOp h A B) := pe_imp (he ha hb) fun σ H Q ⟨g, ρ, S, R, hg⟩ =>
  ⟨g, ρ, S, R, goodQ_bind hg fun x S1 v g1 H1 _ R1 f1 s1 hg1 => ⟨g1, ρ, S1, R1, goodQ_bind hg1 fun y S2 w g2 H2 _ R2 f2 s2 hg2 => by
    obtain ⟨z, ez, hg3⟩ := goodQ_of hg2
    exact ok g2.bb H2 x y z v w (s1.stay f2.bb) s2 ez (fun a u => R2.dom a (.inr (.inr (G.bb_U.mp u)))) Q fun u H' ex su => hg3 u g2 H' (R2.ex ex) (.ex ex) su⟩⟩
theorem xq_un {e : Expr} {r : V → Hp → VK → Prop} {h : D → Option D} {a : Expr} {A : FE} (ok : UnOk T r h) (ha : XQ X T W Γ a A) (he : PE X a (tQ T W Γ A) → PE X e (tUn r (tQ T W Γ A))) : XQ X T W Γ e (eUn h A) := pe_imp (he ha) fun σ H Q ⟨g, ρ, S, R, hg⟩ =>
  ⟨g, ρ, S, R, goodQ_bind hg fun x S1 v g1 H1 _ R1 f1 s1 hg1 => by
    obtain ⟨z, ez, hg3⟩ := goodQ_of hg1
    exact ok g1.bb H1 x z v s1 ez (fun a u => R1.dom a (.inr (.inr (G.bb_U.mp u)))) Q fun u H' ex su => hg3 u g1 H' (R1.ex ex) (.ex ex) su⟩
/-- lists of arguments, loosely -/
def GoodQL (T : Th) (W : WX) (Γ : List Md) (ρ : Env) (σ : L2.St) (g : G) (H : Hp) : RL → (List V → Hp → Prop) → Prop
  | .ok d S', Q => ∀ v g' H', Rel T g' Γ ρ S' σ H' → FrE g H g' H' → ShrL T g'.bb H' d v → Q v H'
  | .exc x S', _ => ∀ c dd g' H', Rel T g' Γ ρ S' σ H' → FrE g H g' H' → ExcR T g' H' x c dd → W c dd σ H'
  | .no, _ => False
def tQL (T : Th) (W : WX) (Γ : List Md) (F : FL) : TA := fun σ H Q => ∃ g ρ S, Rel T g Γ ρ S σ H ∧ GoodQL T W Γ ρ σ g H (F ρ S) Q
abbrev XQL (X : Cx) (T : Th) (W : WX) (Γ : List Md) (es : List Expr) (F : FL) : Prop := PA X es (tQL T W Γ F)
theorem xql_nil : XQL X T W Γ [] lNil := pa_imp pa_nil fun σ H Q ⟨g, ρ, S, R, hg⟩ => hg [] g H R (.refl g H) .nil
theorem xql_cons {e : Expr} {es : List Expr} {A : FE} {B : FL} (ha : XQ X T W Γ e A) (hb : XQL X T W Γ es B) (hx : PE X e (tQ T W Γ A) → PA X es (tQL T W Γ B) → PA X (e :: es) (tCons (tQ T W Γ A) (tQL T W Γ B))) : XQL X T W Γ (e :: es) (lCons A B) := pa_imp (hx ha hb) fun σ H Q ⟨g, ρ, S, R, hg⟩ => by
  refine ⟨g, ρ, S, R, ?_⟩
  unfold lCons at hg
  cases e : A ρ S with
  | ok x S1 =>
    rw [e] at hg
    intro v g1 H1 R1 f1 s1
    refine ⟨g1, ρ, S1, R1, ?_⟩
    have hg : GoodQL T W Γ ρ σ g H (match B ρ S1 with | .ok xs S2 => .ok (x :: xs) S2 | .exc x S2 => .exc x S2 | .no => .no) Q := hg
    cases e2 : B ρ S1 with
    | ok xs S2 =>
      rw [e2] at hg
      exact fun vs g2 H2 R2 f2 s2 => hg (v :: vs) g2 H2 R2 (f1.trans f2) (.cons (s1.stay f2.bb) s2)
    | exc y S2 =>
      rw [e2] at hg
      exact fun c dd g2 H2 R2 f2 s2 => hg c dd g2 H2 R2 (f1.trans f2) s2
    | no =>
      rw [e2] at hg
      exact hg
  | exc y S1 => rw [e] at hg; exact hg
  | no => rw [e] at hg; exact hg
theorem goodQL_then {ρ : Env} {σ : L2.St} {g : G} {H : Hp} {A : FL} {h : List D → Option D} {S : Store} {Q : VK} {Q' : List V → Hp → Prop} (hg : GoodQ T W Γ ρ σ g H (eL h A ρ S) Q)
    (hk : ∀ ds S' z vs g' H', h ds = some z → Rel T g' Γ ρ S' σ H' → FrE g H g' H' → ShrL T g'.bb H' ds vs → GoodQ T W Γ ρ σ g' H' (.ok z S') Q → Q' vs H') : GoodQL T W Γ ρ σ g H (A ρ S) Q' := by
  unfold eL at hg
  cases e : A ρ S with
  | ok ds S' =>
    rw [e] at hg
    intro vs g' H' R f s
    obtain ⟨z, ez, hg⟩ := goodQ_of hg
    exact hk ds S' z vs g' H' ez R f s fun v2 g2 H2 R2 f2 s2 => hg v2 g2 H2 R2 (f.trans f2) s2
  | exc x S' => rw [e] at hg; exact hg
  | no => rw [e] at hg; exact hg
theorem xq_L {e : Expr} {r : List V → Hp → VK → Prop} {h : List D → Option D} {as : List Expr} {A : FL} (ok : LsOk T r h) (ha : XQL X T W Γ as A) (he : PA X as (tQL T W Γ A) → PE X e (tCB r (tQL T W Γ A))) : XQ X T W Γ e (eL h A) := pe_imp (he ha) fun σ H Q ⟨g, ρ, S, R, hg⟩ =>
  ⟨g, ρ, S, R, goodQL_then hg fun ds S1 z vs g1 H1 ez R1 f1 s1 hg1 => ok g1.bb H1 ds z vs s1 ez (fun a u => R1.dom a (.inr (.inr (G.bb_U.mp u)))) Q fun u H' ex su => hg1 u g1 H' (R1.ex ex) (.ex ex) su⟩
end
/-! ### fresh values -/
def GoodN (T : Th) (W : WX) (Γ : List Md) (k : Nat) (ρ : Env) (σ : L2.St) (g : G) (H : Hp) : RE → VK → Prop
  | .ok d S', Q => ∀ v g' H' Fo, Rel T (g'.plusF ρ.length Fo) Γ ρ S' σ H' → FrE g H g' H' → (∀ a, Fo a → ¬ g'.U a ∧ (g.B a ∨ H a = none)) → Own T (g'.plusF ρ.length Fo) H' k Fo d v → Q v H'
  | .exc x S', _ => ∀ c dd g' H', Rel T g' Γ ρ S' σ H' → FrE g H g' H' → ExcR T g' H' x c dd → W c dd σ H'
  | .no, _ => False
def tN (T : Th) (W : WX) (Γ : List Md) (k : Nat) (F : FE) : TE := fun σ H Q => ∃ g ρ S, Rel T g Γ ρ S σ H ∧ GoodN T W Γ k ρ σ g H (F ρ S) Q
abbrev XF (X : Cx) (T : Th) (W : WX) (Γ : List Md) (k : Nat) (e : Expr) (F : FE) : Prop := PE X e (tN T W Γ k F)
section
variable {X : Cx} {T : Th} {W : WX} {Γ : List Md} {g g' : G} {H H' : Hp} {ρ : Env} {S S' : Store} {σ : L2.St} {Fo : Addr → Prop}
/-- the fresh part goes out of sight -/
theorem Rel.unplus (R : Rel T (g.plusF ρ.length Fo) Γ ρ S σ H) : Rel T g Γ ρ S σ H := by
  refine R.shift rfl rfl rfl rfl (fun a h => G.plusF_U.mpr (.inl h)) (fun i j a h h' => R.dF i j a (.inl h) (.inl h')) (fun i a h => R.dFO i a (.inl h)) (fun a h => .inl h) (fun i a h => .inl ⟨i, .inl h⟩) R.len fun st i d e => ?_
  obtain ⟨v, h1, h2⟩ := R.slot i d e
  have hi : i < ρ.length := (List.getElem?_eq_some_iff.mp e).1
  exact ⟨v, h1, h2.stay st (fun a z => z.elim id fun z => absurd z.1 (by omega)) (fun a z => z) rfl (bare_sub rfl rfl (fun i a z => ⟨i, .inl z⟩) fun _ z => z)⟩
theorem stay_unplus {n : Nat} : Stay (g.plusF n Fo) H g H := ⟨fun _ _ h _ => h, fun a h => .inl (G.plusF_U.mpr (.inl h)), Nat.le_refl _, fun _ _ => rfl, rfl⟩
theorem xe_of {k : Nat} {e : Expr} {F : FE} (h : XF X T W Γ k e F) : XE X T W Γ e F := pe_imp h fun σ H Q ⟨g, ρ, S, R, hg⟩ => by
  refine ⟨g, ρ, S, R, ?_⟩
  cases r : F ρ S with
  | ok d S1 =>
    rw [r] at hg
    exact fun v g' H' Fo R' f' ho hw => hg v g' H' R'.unplus f' (shr_of_own2 stay_unplus k Fo d v (fun a z => (ho a z).1) hw)
  | exc x S1 => rw [r] at hg; exact hg
  | no => rw [r] at hg; exact hg
/-- a new list of shared values -/
theorem Rel.fresh {p : Addr} {o : HO} (R : Rel T g Γ ρ S σ H) (hp : H p = none) (ho : ∀ u, o ≠ .tup u ∧ ∀ b, o ≠ .frz b (.tup u)) : Rel T (g.plusF ρ.length (· = p)) Γ ρ S σ (upd H p o) := by
  have ex : Exx H (upd H p o) := Exx.new hp
  have np : ∀ a, g.U a → a ≠ p := fun a u z => by
    obtain ⟨o, q⟩ := R.dom a u
    rw [z, hp] at q; cases q
  have st : Stay g H (g.plusF ρ.length (· = p)) (upd H p o) := ⟨fun a o h _ => ex a o h, fun a h => (G.plusF_U.mp h).imp id fun z => by rw [z]; exact hp, Nat.le_refl _, fun _ _ => rfl, rfl⟩
  have stb : Stay g.bare H (g.plusF ρ.length (· = p)).bare (upd H p o) := ⟨fun a o h _ => ex a o h, fun a h => by
    rcases h with h | ⟨j, h | h⟩ | h
    · exact h.elim
    · exact .inl (.inr (.inl ⟨j, h⟩))
    · exact .inr (by rw [h.2]; exact hp)
    · exact .inl (.inr (.inr h)), Nat.le_refl _, fun _ _ => rfl, rfl⟩
  refine ⟨R.len, fun i d e => ?_, fun i j a h h' => ?_, fun i a h u => ?_, fun i a h u => ?_, R.dOB, fun a h => ?_, R.st.keep st (fun a o _ q => ex a o q) rfl rfl rfl fun _ _ => rfl, fun a h => ?_⟩
  · obtain ⟨v, h1, h2⟩ := R.slot i d e
    refine ⟨v, h1, ?_⟩
    cases hm : Γ.getD i .s <;> rw [hm] at h2 <;> simp only [RepM] at h2 ⊢
    · exact h2.stay st
    · exact Own.wide _ _ _ _ _ (fun a z => .inl z) (Own.keepF st _ _ _ _ (fun a o _ q => ex a o q) h2)
    · exact Own.keepF st _ _ _ _ (fun a o _ q => ex a o q) h2
    · exact ⟨h2.1, Own.wide _ _ _ _ _ (fun a z => .inl z) (Own.keepF st _ _ _ _ (fun a o _ q => ex a o q) h2.2)⟩
    · exact h2
    · exact h2.stay stb
  · rcases h with h | h <;> rcases h' with h' | h'
    · exact R.dF i j a h h'
    · exact absurd h'.2 (np a (.inr (.inl ⟨i, h⟩)))
    · exact absurd h.2 (np a (.inr (.inl ⟨j, h'⟩)))
    · rw [h.1, h'.1]
  · rcases h with h | h
    · exact R.dFO i a h u
    · exact np a (.inl u) h.2
  · rcases h with h | h
    · exact R.dFB i a h u
    · exact np a (.inr (.inr u)) h.2
  · rcases G.plusF_U.mp h with u | u
    · obtain ⟨o, q⟩ := R.dom a u
      exact ⟨o, ex a o q⟩
    · exact ⟨o, by rw [u]; exact upd_same⟩
  · rcases G.plusF_U.mp h with u | u
    · exact ex.nt R.dom R.nt a u
    · intro w r
      rw [u] at r
      rcases r with r | ⟨b, r⟩
      · rw [upd_same] at r; cases r; exact (ho w).1 rfl
      · rw [upd_same] at r; cases r; exact (ho w).2 b rfl
theorem stay_fresh {p : Addr} {o : HO} (hp : H p = none) : Stay g H (g.plusF ρ.length (· = p)) (upd H p o) := ⟨fun a o h _ => Exx.new hp a o h, fun a h => (G.plusF_U.mp h).imp id fun z => by rw [z]; exact hp, Nat.le_refl _, fun _ _ => rfl, rfl⟩
theorem Rel.fresh_lst {p : Addr} {l : List D} {vs : List V} (R : Rel T g Γ ρ S σ H) (hp : H p = none) (s : ShrL T g H l vs) : Own T (g.plusF ρ.length (· = p)) (upd H p (.lst vs)) 1 (· = p) (.lst l) (.ref p) := own1_lst.mpr ⟨p, vs, rfl, rfl, upd_same, s.stay (stay_fresh hp)⟩
theorem Rel.fresh_out {p : Addr} (R : Rel T g Γ ρ S σ H) (hp : H p = none) : ∀ a, a = p → ¬ g.U a ∧ (g.B a ∨ H a = none) := fun a z => by
  refine ⟨fun u => ?_, .inr (by rw [z]; exact hp)⟩
  obtain ⟨o, q⟩ := R.dom a u
  rw [z, hp] at q; cases q
theorem goodN_then {A : FL} {h : List D → Option D} {k : Nat} {Q : VK} {Q' : List V → Hp → Prop} (hg : GoodN T W Γ k ρ σ g H (eL h A ρ S) Q)
    (hk : ∀ ds S' z vs g' H', h ds = some z → Rel T g' Γ ρ S' σ H' → FrE g H g' H' → ShrL T g' H' ds vs → GoodN T W Γ k ρ σ g H (.ok z S') Q → Q' vs H') : GoodL T W Γ ρ σ g H (A ρ S) Q' := by
  unfold eL at hg
  cases e : A ρ S with
  | ok ds S' =>
    rw [e] at hg
    intro vs g' H' R f s
    have hg : GoodN T W Γ k ρ σ g H (RE.of S' (h ds)) Q := hg
    cases ez : h ds with
    | none => rw [ez] at hg; exact hg.elim
    | some z => rw [ez] at hg; exact hk ds S' z vs g' H' ez R f s hg
  | exc x S' => rw [e] at hg; exact hg
  | no => rw [e] at hg; exact hg
theorem FrE.none {p : Addr} (f : FrE g H g' H') (hp : H' p = none) : g.B p ∨ H p = none := by
  cases e : H p with
  | none => exact .inr rfl
  | some o =>
    obtain ⟨o', h'⟩ := f.dom p o e
    rw [hp] at h'; cases h'
theorem xf_lst {es : List Expr} {A : FL} (ha : XL X T W Γ es A) {pos : Pos} : XF X T W Γ 1 (.List es pos) (eLst A) := pe_imp (pe_lst ha) fun σ H Q ⟨g, ρ, S, R, hg⟩ =>
  ⟨g, ρ, S, R, goodN_then hg fun ds S1 z vs g1 H1 ez R1 f1 s1 hg1 => by
    split at ez
    · rename_i hl
      cases ez
      refine ⟨by rw [← s1.length]; exact sz6 hl, fun p hp => hg1 _ g1 _ (· = p) (R1.fresh hp fun _ => ⟨nofun, fun _ => nofun⟩) (f1.trans (.ex (Exx.new hp))) (fun a z => ⟨(R1.fresh_out hp a z).1, ?_⟩) (R1.fresh_lst hp s1)⟩
      rw [z]; exact f1.none hp
    · cases ez⟩
/-! ### a slot takes a fresh value; appends; returns -/
def G.take (g : G) (i : Nat) (Fo : Addr → Prop) : G := { g with F := fun j a => (j = i ∧ Fo a) ∨ (j ≠ i ∧ g.F j a) }
theorem xs_ownP {J : Jd} {Γ' : List Md} {i k : Nat} {A : FE} {st : Stmt} (hx : J.ΓX Γ) (hi : i < Γ.length) (he : PS X st (tAsg (tN T J.W Γ k A) (gName i))) (hΓ : Γ.set i (.o k) = Γ') : XS X T J Γ Γ' st (fSet i A) := ps_imp he fun D σ H ⟨g, ρ, S, R, h⟩ => by
  refine ⟨g, ρ, S, R, ?_⟩
  unfold fSet at h
  cases r : A ρ S with
  | no => rw [r] at h; exact h
  | exc x S1 => rw [r] at h; exact fun c dd g' H' R' f e => h Γ c dd σ g' H' hx R' (f.frs R.dOB) e
  | ok d S1 =>
    rw [r] at h
    intro v g' H' Fo R' f ho hw
    have h : GoodS T J Γ' g H (.nx (ρ.set i (some d)) S1) D := h
    refine h (σ.set i (some v)) (g'.take i Fo) H' ?_ ?_
    · rw [← hΓ]
      have hsub : ∀ j a, (g'.take i Fo).F j a → ∃ k, (g'.plusF ρ.length Fo).F k a := fun j a z => by
        rcases z with z | z
        · exact ⟨ρ.length, .inr ⟨rfl, z.2⟩⟩
        · exact ⟨j, .inl z.2⟩
      have hUU : ∀ a, (g'.take i Fo).U a → (g'.plusF ρ.length Fo).U a := fun a u => by
        rcases u with u | ⟨j, u⟩ | u
        · exact .inl u
        · exact .inr (.inl (hsub j a u))
        · exact .inr (.inr u)
      refine R'.shift rfl rfl rfl rfl hUU (fun j k a h h' => ?_) (fun j a h u => ?_) (fun a h => .inl h) (fun j a h => .inl (hsub j a h)) (by simp [R'.len]) fun st j d' e => ?_
      · rcases h with h | h <;> rcases h' with h' | h'
        · rw [h.1, h'.1]
        · exact absurd (.inr (.inl ⟨k, h'.2⟩)) (ho a h.2).1
        · exact absurd (.inr (.inl ⟨j, h.2⟩)) (ho a h'.2).1
        · exact R'.dF j k a (.inl h.2) (.inl h'.2)
      · rcases h with h | h
        · exact (ho a h.2).1 (.inl u)
        · exact R'.dFO j a (.inl h.2) u
      · by_cases hj : i = j
        · subst hj
          have hlt : i < ρ.length := by
            have := (List.getElem?_eq_some_iff.mp e).1
            simpa using this
          rw [List.getElem?_set_self hlt] at e
          cases e
          refine ⟨v, by rw [List.getElem?_set_self (by rw [← R'.len]; exact hlt)], ?_⟩
          rw [getD_set_self hi]
          have q : Own T (g'.take i Fo) H' k Fo d v := Own.keepF st _ _ _ _ (fun _ _ _ q => q) hw
          exact Own.wide k _ ((g'.take i Fo).F i) d v (fun a z => .inl ⟨rfl, z⟩) q
        · rw [List.getElem?_set_ne hj] at e
          obtain ⟨w, h1, h2⟩ := R'.slot j d' e
          have hjl : j < ρ.length := (List.getElem?_eq_some_iff.mp e).1
          refine ⟨w, by rw [List.getElem?_set_ne hj]; exact h1, ?_⟩
          rw [getD_set_ne hj]
          exact h2.stay st (fun a z => .inr ⟨fun z => hj z.symm, z.elim id fun z => absurd z.1 (by omega)⟩) (fun a z => z) rfl (bare_sub rfl rfl hsub fun _ z => z)
    · have f' := f.frs R.dOB
      refine ⟨f'.keep, fun a u => ?_, f'.O, f'.P, f'.N, f'.μ, f'.dom⟩
      rcases u with u | ⟨j, u | u⟩ | u
      · exact f'.own a (.inl u)
      · exact (ho a u.2).2.imp (fun z => .inr (.inr z)) id
      · exact f'.own a (.inr (.inl ⟨j, u.2⟩))
      · exact f'.own a (.inr (.inr u))
theorem xs_own {J : Jd} {Γ' : List Md} {i k : Nat} {e : Expr} {A : FE} {st : Stmt} (hx : J.ΓX Γ) (hi : i < Γ.length) (ha : XF X T J.W Γ k e A) (he : PE X e (tN T J.W Γ k A) → PS X st (tAsg (tN T J.W Γ k A) (gName i))) (hΓ : Γ.set i (.o k) = Γ') : XS X T J Γ Γ' st (fSet i A) := xs_ownP hx hi (he ha) hΓ
/-- an owned list is shared from here on -/
theorem Rel.frz {i : Nat} {k : Nat} (R : Rel T g Γ ρ S σ H) (hm : Γ.getD i .s = .o k) : Rel T (g.drop i) (Γ.set i .s) ρ S σ H := by
  refine R.shift rfl rfl rfl rfl (fun a h => G.drop_U h) (fun j k a h h' => R.dF j k a h.2 h'.2) (fun j a h => R.dFO j a h.2) (fun a h => .inl h) (fun j a h => .inl ⟨j, h.2⟩) R.len fun st j d' e => ?_
  obtain ⟨w, h1, h2⟩ := R.slot j d' e
  refine ⟨w, h1, ?_⟩
  by_cases hj : i = j
  · subst hj
    rw [getD_set_s]
    rw [hm] at h2
    refine shr_of_own2 st k (g.F i) d' w (fun a z u => ?_) h2
    rcases u with u | ⟨j, u⟩ | u
    · exact R.dFO i a z u
    · exact u.1 (R.dF j i a u.2 z)
    · exact R.dFB i a z u
  · rw [getD_set_ne hj]
    exact h2.stay st (fun a z => ⟨fun q => hj q.symm, z⟩) (fun a z => z) rfl (bare_sub rfl rfl (fun i a z => ⟨i, z.2⟩) fun _ z => z)
theorem xb_frz {J : Jd} {Γ' Γ1 : List Md} {i k : Nat} {rest : List Stmt} {B : FS} (hm : Γ.getD i .s = .o k) (hΓ : Γ.set i .s = Γ1) (hb : XB X T J Γ1 Γ' rest B) : XB X T J Γ Γ' rest B := pss_imp hb fun D σ H ⟨g, ρ, S, R, h⟩ =>
  ⟨g.drop i, ρ, S, by rw [← hΓ]; exact R.frz hm, GoodS.then h .drop⟩
/-- a write to what a slot owns -/
theorem Rel.write {i : Nat} {p : Addr} {o : HO} {d : D} {v : V} (R : Rel T g Γ ρ S σ H) (hp : g.F i p) (ho : ∀ u, o ≠ .tup u ∧ ∀ b, o ≠ .frz b (.tup u)) (hv : σ[i]? = some (some v))
    (hr : Stay g H g (upd H p o) → RepM T g (upd H p o) i (Γ.getD i .s) d v) : Rel T g Γ (ρ.set i (some d)) S σ (upd H p o) := by
  have st : Stay g H g (upd H p o) := ⟨fun a u h hu => by rw [upd_ne (fun z => hu (.inr (.inl ⟨i, by rw [z]; exact hp⟩)))]; exact h, fun _ h => .inl h, Nat.le_refl _, fun _ _ => rfl, rfl⟩
  have stb : Stay g.bare H g.bare (upd H p o) := ⟨fun a u h hu => by rw [upd_ne (fun z => hu (.inr (.inl ⟨i, by rw [z]; exact hp⟩)))]; exact h, fun _ h => .inl h, Nat.le_refl _, fun _ _ => rfl, rfl⟩
  refine ⟨by simp [R.len], fun j d' e => ?_, R.dF, R.dFO, R.dFB, R.dOB, fun a h => ?_, R.st.keep st (fun a u hb h => by rw [upd_ne (fun z => R.dFB i p hp (by rw [← z]; exact hb))]; exact h) rfl rfl rfl fun _ _ => rfl, nt_upd R.nt ho⟩
  · by_cases hj : i = j
    · subst hj
      have hlt : i < ρ.length := by
        have := (List.getElem?_eq_some_iff.mp e).1
        simpa using this
      rw [List.getElem?_set_self hlt] at e
      cases e
      exact ⟨v, hv, hr st⟩
    · rw [List.getElem?_set_ne hj] at e
      obtain ⟨w, h1, h2⟩ := R.slot j d' e
      refine ⟨w, h1, ?_⟩
      have kF : ∀ a u, g.F j a → H a = some u → upd H p o a = some u := fun a u z q => by rw [upd_ne (fun w => hj (R.dF i j p hp (by rw [← w]; exact z)))]; exact q
      cases hm : Γ.getD j .s <;> rw [hm] at h2 <;> simp only [RepM] at h2 ⊢
      · exact h2.stay st
      · exact Own.keepF st _ _ _ _ kF h2
      · exact Own.keepF st _ _ _ _ (fun a u z q => by rw [upd_ne (fun w => R.dFO i p hp (by rw [← w]; exact z))]; exact q) h2
      · exact ⟨h2.1, Own.keepF st _ _ _ _ kF h2.2⟩
      · exact h2
      · exact h2.stay stb
  · by_cases ha : a = p
    · subst ha; exact ⟨o, upd_same⟩
    · rw [upd_ne ha]; exact R.dom a h
theorem Rel.wrote {i : Nat} {p : Addr} {o : HO} (R : Rel T g Γ ρ S σ H) (hp : g.F i p) : FrS g H g (upd H p o) :=
  ⟨fun a u h hu => by rw [upd_ne (fun z => hu.elim (fun w => w (.inr (.inl ⟨i, by rw [z]; exact hp⟩))) fun w => R.dFO i p hp (by rw [← z]; exact w))]; exact h, fun _ h => .inl h, rfl, rfl, Nat.le_refl _, fun _ _ => rfl, fun a u h => by
    by_cases ha : a = p
    · subst ha; exact ⟨o, upd_same⟩
    · exact ⟨u, by rw [upd_ne ha]; exact h⟩⟩
/-- mode o 1 or p 1 -/
def isOwn1 : Md → Prop
  | .o 1 => True
  | .p 1 => True
  | _ => False
theorem Rel.own1 {i : Nat} {l : List D} (R : Rel T g Γ ρ S σ H) (hm : isOwn1 (Γ.getD i .s)) (e : ρ[i]? = some (some (.lst l))) : ∃ p vs, σ[i]? = some (some (.ref p)) ∧ g.F i p ∧ H p = some (.lst vs) ∧ ShrL T g H l vs ∧
    ∀ (l' : List D) (vs' : List V) (H' : Hp), H' p = some (.lst vs') → ShrL T g H' l' vs' → RepM T g H' i (Γ.getD i .s) (.lst l') (.ref p) := by
  obtain ⟨v, h1, h2⟩ := R.slot i _ e
  cases hq : Γ.getD i .s <;> rw [hq] at h2 hm <;> simp only [isOwn1] at hm
  · rename_i k
    split at hm
    · rename_i hk
      cases hk
      obtain ⟨p, vs, rfl, hF, hH, s⟩ := own1_lst.mp (show Own T g H 1 (g.F i) (.lst l) v from h2)
      exact ⟨p, vs, h1, hF, hH, s, fun l' vs' H' a b => own1_lst.mpr ⟨p, vs', rfl, hF, a, b⟩⟩
    · rename_i hk; cases hk
    · exact hm.elim
  · rename_i k
    split at hm
    · rename_i hk; cases hk
    · rename_i hk
      cases hk
      have h2 : v = g.P i ∧ Own T g H 1 (g.F i) (.lst l) v := h2
      obtain ⟨p, vs, e2, hF, hH, s⟩ := own1_lst.mp h2.2
      subst e2
      exact ⟨p, vs, h1, hF, hH, s, fun l' vs' H' a b => ⟨h2.1, own1_lst.mpr ⟨p, vs', rfl, hF, a, b⟩⟩⟩
    · exact hm.elim
end
end Q

/-! Methods that write an owned list; calls with loose arguments. -/
namespace Q
open PySem PySem.Spec PyProof.Rows L2
/-- a method of an owned list: what it says, what the list holds then -/
abbrev HM := List D → List D → Option (D × List D)
def MutOk (T : Th) (r : V → List V → Hp → VK → Prop) (h : HM) : Prop := ∀ (g : G) (H : Hp) (p : Addr) (l ds l' : List D) (z : D) (vs ws : List V), H p = some (.lst vs) → ShrL T g H l vs → ShrL T g H ds ws → g.U p → h l ds = some (z, l') →
  ∀ Q : VK, (∀ u vs', ShrL T g H l' vs' → Shr T g H z u → Q u (upd H p (.lst vs'))) → r (.ref p) ws H Q
def fMut (i : Nat) (h : HM) (a : FL) : FS := fun ρ S => match ρ[i]? with
  | some (some (.lst l)) => (match a ρ S with
    | .ok ds S1 => (match h l ds with
      | some (_, l') => .nx (ρ.set i (some (.lst l'))) S1
      | none => .no)
    | .exc x S1 => .exc x ρ S1
    | .no => .no)
  | _ => .no
/-- .. and the value to slot j -/
def fMutSet (j i : Nat) (h : HM) (a : FL) : FS := fun ρ S => match ρ[i]? with
  | some (some (.lst l)) => (match a ρ S with
    | .ok ds S1 => (match h l ds with
      | some (z, l') => .nx ((ρ.set i (some (.lst l'))).set j (some z)) S1
      | none => .no)
    | .exc x S1 => .exc x ρ S1
    | .no => .no)
  | _ => .no
section
variable {X : Cx} {T : Th} {J : Jd} {Γ : List Md}
theorem mut_core {g1 : G} {ρ : Env} {S1 : Store} {σ : L2.St} {H1 : Hp} {i : Nat} {l ds l' : List D} {z : D} {ws : List V} {r : V → List V → Hp → VK → Prop} {h : HM} {Q : VK} {p : Addr}
    (R1 : Rel T g1 Γ ρ S1 σ H1) (hm : isOwn1 (Γ.getD i .s)) (el : ρ[i]? = some (some (.lst l))) (ev : σ[i]? = some (some (.ref p))) (ok : MutOk T r h) (sw : ShrL T g1 H1 ds ws) (eh : h l ds = some (z, l'))
    (q : ∀ u H2, Rel T g1 Γ (ρ.set i (some (.lst l'))) S1 σ H2 → FrS g1 H1 g1 H2 → Shr T g1 H2 z u → Q u H2) : r (.ref p) ws H1 Q := by
  obtain ⟨p', vs, h1, hF, hH, sl, mk⟩ := R1.own1 hm el
  rw [ev] at h1; cases h1
  refine ok g1 H1 p l ds l' z vs ws hH sl sw (.inr (.inl ⟨i, hF⟩)) eh Q fun u vs' s' su => ?_
  have st : Stay g1 H1 g1 (upd H1 p (.lst vs')) := ⟨fun a o h hu => by rw [upd_ne (fun z => hu (.inr (.inl ⟨i, by rw [z]; exact hF⟩)))]; exact h, fun _ h => .inl h, Nat.le_refl _, fun _ _ => rfl, rfl⟩
  refine q u _ ?_ (R1.wrote hF) (su.stay st)
  refine R1.write hF (fun _ => ⟨nofun, fun _ => nofun⟩) ev fun st => ?_
  exact mk l' vs' _ upd_same (ShrL.stay st _ _ s')
theorem xs_mut {i : Nat} {st : Stmt} {es : List Expr} {A : FL} {r : V → List V → Hp → VK → Prop} {h : HM} (hK : X.K = T.K) (hx : J.ΓX Γ) (hm : isOwn1 (Γ.getD i .s)) (ok : MutOk T r h) (ha : XL X T J.W Γ es A) (he : PA X es (tXL T J.W Γ A) → PS X st (tDrop (tBM X.K "list" r (tVar i) (tXL T J.W Γ A)))) : XS X T J Γ Γ st (fMut i h A) := ps_imp (he ha) fun D σ H ⟨g, ρ, S, R, hg⟩ => by
  unfold fMut at hg
  cases el : ρ[i]? with
  | none => rw [el] at hg; exact hg.elim
  | some o =>
    rw [el] at hg
    match o, hg, el with
    | some (.lst l), hg, el =>
      obtain ⟨p, vs, h1, hF, hH, sl, mk⟩ := R.own1 hm el
      refine ⟨.ref p, h1, .inl ⟨rfl, _, SqL.of hH⟩, g, ρ, S, R, ?_⟩
      cases ea : A ρ S with
      | no => rw [ea] at hg; exact hg
      | exc x S1 => rw [ea] at hg; exact fun c dd g' H' R' f' e => hg Γ c dd σ g' H' hx R' (f'.frs R.dOB) e
      | ok ds S1 =>
        rw [ea] at hg
        intro ws g1 H1 R1 f1 sw
        have hg : GoodS T J Γ g H (match h l ds with | some (_, l') => RS.nx (ρ.set i (some (.lst l'))) S1 | none => .no) D := hg
        cases eh : h l ds with
        | none => rw [eh] at hg; exact hg.elim
        | some zl =>
          rw [eh] at hg
          exact mut_core R1 hm el h1 ok sw eh fun u H2 R2 f2 _ => hg σ g1 H2 R2 ((f1.frs R.dOB).trans f2)
theorem xs_mut0 {i : Nat} {st : Stmt} {r : V → List V → Hp → VK → Prop} {h : HM} (hK : X.K = T.K) (hm : isOwn1 (Γ.getD i .s)) (ok : MutOk T r h) (he : PS X st (tDrop (tBM0 X.K "list" r (tVar i)))) : XS X T J Γ Γ st (fMut i h lNil) := ps_imp he fun D σ H ⟨g, ρ, S, R, hg⟩ => by
  unfold fMut at hg
  cases el : ρ[i]? with
  | none => rw [el] at hg; exact hg.elim
  | some o =>
    rw [el] at hg
    match o, hg, el with
    | some (.lst l), hg, el =>
      obtain ⟨p, vs, h1, hF, hH, sl, mk⟩ := R.own1 hm el
      refine ⟨.ref p, h1, .inl ⟨rfl, _, SqL.of hH⟩, ?_⟩
      have hg : GoodS T J Γ g H (match h l [] with | some (_, l') => RS.nx (ρ.set i (some (.lst l'))) S | none => .no) D := hg
      cases eh : h l [] with
      | none => rw [eh] at hg; exact hg.elim
      | some zl =>
        rw [eh] at hg
        exact mut_core R hm el h1 ok .nil eh fun u H2 R2 f2 _ => hg σ g H2 R2 f2
theorem xs_mutset {i j : Nat} {st : Stmt} {es : List Expr} {A : FL} {r : V → List V → Hp → VK → Prop} {h : HM} {Γ' : List Md} (hK : X.K = T.K) (hx : J.ΓX Γ) (hm : isOwn1 (Γ.getD i .s)) (ok : MutOk T r h) (ha : XL X T J.W Γ es A) (he : PA X es (tXL T J.W Γ A) → PS X st (tAsg (tBM X.K "list" r (tVar i) (tXL T J.W Γ A)) (gName j))) (hΓ : Γ.set j .s = Γ') : XS X T J Γ Γ' st (fMutSet j i h A) := ps_imp (he ha) fun D σ H ⟨g, ρ, S, R, hg⟩ => by
  unfold fMutSet at hg
  cases el : ρ[i]? with
  | none => rw [el] at hg; exact hg.elim
  | some o =>
    rw [el] at hg
    match o, hg, el with
    | some (.lst l), hg, el =>
      obtain ⟨p, vs, h1, hF, hH, sl, mk⟩ := R.own1 hm el
      refine ⟨.ref p, h1, .inl ⟨rfl, _, SqL.of hH⟩, g, ρ, S, R, ?_⟩
      cases ea : A ρ S with
      | no => rw [ea] at hg; exact hg
      | exc x S1 => rw [ea] at hg; exact fun c dd g' H' R' f' e => hg Γ c dd σ g' H' hx R' (f'.frs R.dOB) e
      | ok ds S1 =>
        rw [ea] at hg
        intro ws g1 H1 R1 f1 sw
        have hg : GoodS T J Γ' g H (match h l ds with | some (z, l') => RS.nx ((ρ.set i (some (.lst l'))).set j (some z)) S1 | none => .no) D := hg
        cases eh : h l ds with
        | none => rw [eh] at hg; exact hg.elim
        | some zl =>
          rw [eh] at hg
          refine mut_core R1 hm el h1 ok sw eh fun u H2 R2 f2 su => ?_
          exact hg _ (g1.drop j) H2 (by rw [← hΓ]; exact R2.set su) (((f1.frs R.dOB).trans f2).trans .drop)
theorem xs_mutset0 {i j : Nat} {st : Stmt} {r : V → List V → Hp → VK → Prop} {h : HM} {Γ' : List Md} (hK : X.K = T.K) (hm : isOwn1 (Γ.getD i .s)) (ok : MutOk T r h) (he : PS X st (tAsg (tBM0 X.K "list" r (tVar i)) (gName j))) (hΓ : Γ.set j .s = Γ') : XS X T J Γ Γ' st (fMutSet j i h lNil) := ps_imp he fun D σ H ⟨g, ρ, S, R, hg⟩ => by
  unfold fMutSet at hg
  cases el : ρ[i]? with
  | none => rw [el] at hg; exact hg.elim
  | some o =>
    rw [el] at hg
    match o, hg, el with
    | some (.lst l), hg, el =>
      obtain ⟨p, vs, h1, hF, hH, sl, mk⟩ := R.own1 hm el
      refine ⟨.ref p, h1, .inl ⟨rfl, _, SqL.of hH⟩, ?_⟩
      have hg : GoodS T J Γ' g H (match h l [] with | some (z, l') => RS.nx ((ρ.set i (some (.lst l'))).set j (some z)) S | none => .no) D := hg
      cases eh : h l [] with
      | none => rw [eh] at hg; exact hg.elim
      | some zl =>
        rw [eh] at hg
        refine mut_core R hm el h1 ok .nil eh fun u H2 R2 f2 su => ?_
        exact hg _ (g.drop j) H2 (by rw [← hΓ]; exact R2.set su) (f2.trans .drop)
end
/-! ### the methods -/
def mAppend : HM
  | l, [d] => if l.length < 1000000 then some (.non, l ++ [d]) else none
  | _, _ => none
def mExtend : HM
  | l, [.lst m] => if l.length + m.length ≤ 1000000 then some (.non, l ++ m) else none
  | _, _ => none
def mPop : HM
  | l, [] => (l[l.length - 1]?).map fun d => (d, l.dropLast)
  | _, _ => none
def mPop0 : HM
  | d :: l, [.int 0] => some (d, l)
  | _, _ => none
def intsOf : List D → Option (List Int)
  | [] => some []
  | .int i :: r => (intsOf r).map (i :: ·)
  | _ => none
def mRemove : HM
  | l, [.int k] => match intsOf l with
    | some ns => if ns.idxOf k < ns.length then some (.non, (ns.eraseIdx (ns.idxOf k)).map .int) else none
    | none => none
  | _, _ => none
section
variable {T : Th}
theorem len6 {l : List D} {vs : List V} {g : G} {H : Hp} (s : ShrL T g H l vs) (h : l.length < 1000000) : vs.length < sizeLine := by rw [← s.length, sizeLine_eq]; omega
theorem ok_append : MutOk T rAppend mAppend := by
  intro g H p l ds l' z vs ws hH sl sw hu eh Q q
  match ds, eh, sw with
  | [d], eh, sw =>
    simp only [mAppend] at eh
    split at eh
    · rename_i hl
      cases eh
      simp only [ShrL] at sw
      obtain ⟨y, _, rfl, sy, rfl⟩ := sw
      exact ⟨p, vs, y, rfl, rfl, hH, len6 sl hl, q _ _ (sl.append (.cons sy .nil)) (shr_non.mpr rfl)⟩
    · cases eh
theorem ok_extend : MutOk T rExtend mExtend := by
  intro g H p l ds l' z vs ws hH sl sw hu eh Q q
  match ds, eh, sw with
  | [.lst m], eh, sw =>
    simp only [mExtend] at eh
    split at eh
    · rename_i hl
      cases eh
      simp only [ShrL] at sw
      obtain ⟨y, _, rfl, sy, rfl⟩ := sw
      obtain ⟨b, zs, rfl, la, ra⟩ := shr_lst.mp sy
      exact ⟨p, b, vs, zs, rfl, rfl, hH, la.1, by rw [← sl.length, ← ra.length]; exact sz6 hl, q _ _ (sl.append ra) (shr_non.mpr rfl)⟩
    · cases eh
theorem ShrL.dropLast {g : G} {H : Hp} {ds : List D} {vs : List V} (h : ShrL T g H ds vs) : ShrL T g H ds.dropLast vs.dropLast := by
  rw [List.dropLast_eq_take, List.dropLast_eq_take, h.length]
  exact h.take _
theorem ok_pop : MutOk T rPop mPop := by
  intro g H p l ds l' z vs ws hH sl sw hu eh Q q
  match ds, eh, sw with
  | [], eh, sw =>
    simp only [mPop] at eh
    simp only [ShrL] at sw
    subst sw
    obtain ⟨d, e1, e2⟩ := Option.map_eq_some_iff.mp eh
    cases e2
    obtain ⟨y, h1, h2⟩ := sl.get e1
    exact ⟨p, vs, y, rfl, rfl, hH, by rw [← sl.length]; exact h1, q _ _ sl.dropLast h2⟩
theorem ok_pop0 : MutOk T rPopAt mPop0 := by
  intro g H p l ds l' z vs ws hH sl sw hu eh Q q
  match l, ds, eh, sw, sl with
  | d :: l, [.int 0], eh, sw, sl =>
    simp only [mPop0] at eh
    cases eh
    simp only [ShrL] at sw
    obtain ⟨y, _, rfl, sy, rfl⟩ := sw
    rw [shr_int.mp sy]
    simp only [ShrL] at sl
    obtain ⟨w, us, rfl, sd, sl⟩ := sl
    refine ⟨p, _, 0, 0, w, rfl, rfl, hH, by decide, by decide, ?_, rfl, q _ _ sl sd⟩
    simp [seqIndex?]
theorem intsOf_map {g : G} {H : Hp} : ∀ {l : List D} {ns : List Int} {vs : List V}, intsOf l = some ns → ShrL T g H l vs → vs = ns.map V.int ∧ l = ns.map D.int
  | [], ns, vs, e, s => by
    cases e
    simp only [ShrL] at s
    subst s
    exact ⟨rfl, rfl⟩
  | d :: r, ns, vs, e, s => by
    cases d <;> simp only [intsOf] at e <;> first | cases e | skip
    rename_i i
    obtain ⟨ms, e1, e2⟩ := Option.map_eq_some_iff.mp e
    subst e2
    simp only [ShrL] at s
    obtain ⟨v, us, rfl, sv, s⟩ := s
    obtain ⟨h1, h2⟩ := intsOf_map e1 s
    rw [shr_int.mp sv, h1, h2]
    exact ⟨rfl, rfl⟩
theorem shrL_int {g : G} {H : Hp} : ∀ ns : List Int, ShrL T g H (ns.map D.int) (ns.map V.int)
  | [] => .nil
  | n :: r => .cons (shr_int.mpr rfl) (shrL_int r)
theorem idx_no {ns : List Int} {k : Int} {m : Nat} (hm : m < ns.idxOf k) (hl : m < ns.length) (e : ns[m] = k) : False := by
  induction ns generalizing m with
  | nil => simp at hl
  | cons a r ih =>
    rw [List.idxOf_cons] at hm
    by_cases ha : a = k
    · rw [ha] at hm; simp at hm
    · have : (a == k) = false := by simp [ha]
      rw [this] at hm
      cases m with
      | zero => exact ha e
      | succ m => exact ih (by simpa using hm) (by simpa using hl) (by simpa using e)
theorem ok_remove : MutOk T rRemI mRemove := by
  intro g H p l ds l' z vs ws hH sl sw hu eh Q q
  match ds, eh, sw with
  | [.int k], eh, sw =>
    simp only [mRemove] at eh
    split at eh
    · rename_i ns en
      split at eh
      · rename_i hlt
        cases eh
        simp only [ShrL] at sw
        obtain ⟨y, _, rfl, sy, rfl⟩ := sw
        rw [shr_int.mp sy]
        obtain ⟨h1, h2⟩ := intsOf_map en sl
        refine ⟨p, ns, k, ns.idxOf k, rfl, rfl, by rw [← h1]; exact hH, ?_, fun m hm e => ?_, q _ _ (shrL_int _) (shr_non.mpr rfl)⟩
        · rw [List.getElem?_eq_getElem hlt, List.getElem_idxOf]
        · obtain ⟨hm2, e⟩ := List.getElem?_eq_some_iff.mp e
          exact idx_no hm hm2 e
      · cases eh
    · cases eh
end
end Q

/-! Calls with loose arguments; owned lists returned. -/
namespace Q
open PySem PySem.Spec PyProof.Rows L2
def ShrM (T : Th) (g : G) (H : Hp) : List Bool → List D → List V → Prop
  | _, [], vs => vs = []
  | bs, d :: ds, vs => ∃ v ws, vs = v :: ws ∧ (Shr T (if bs.headD false = true then g.bb else g) H d v) ∧ ShrM T g H bs.tail ds ws
def mdOf (b : Bool) : Md := if b = true then .l else .s
section
variable {T : Th} {g g' : G} {H H' : Hp}
theorem ShrM.length : ∀ {bs : List Bool} {ds : List D} {vs : List V}, ShrM T g H bs ds vs → ds.length = vs.length
  | _, [], _, h => by simp only [ShrM] at h; subst h; rfl
  | bs, d :: ds, vs, h => by
    simp only [ShrM] at h
    obtain ⟨v, ws, rfl, _, r⟩ := h
    simp only [List.length_cons, ShrM.length r]
theorem ShrM.get : ∀ {bs : List Bool} {ds : List D} {vs : List V} {i : Nat} {d : D}, ShrM T g H bs ds vs → ds[i]? = some d → ∃ v, vs[i]? = some v ∧ Shr T (if bs.getD i false = true then g.bb else g) H d v
  | _, [], _, _, _, _, e => by simp at e
  | bs, d :: ds, vs, i, d', h, e => by
    simp only [ShrM] at h
    obtain ⟨v, ws, rfl, q, r⟩ := h
    cases i with
    | zero =>
      simp at e; subst e
      refine ⟨v, rfl, ?_⟩
      cases bs <;> exact q
    | succ i =>
      obtain ⟨w, h1, h2⟩ := ShrM.get (i := i) r (by simpa using e)
      refine ⟨w, by simpa using h1, ?_⟩
      cases bs
      · simpa using h2
      · simpa using h2
theorem ShrM.stayE (f : FrE g H g' H') : ∀ {bs : List Bool} {ds : List D} {vs : List V}, ShrM T g H bs ds vs → ShrM T g' H' bs ds vs
  | _, [], _, h => by simpa only [ShrM] using h
  | bs, d :: ds, vs, h => by
    simp only [ShrM] at h ⊢
    obtain ⟨v, ws, e, q, r⟩ := h
    refine ⟨v, ws, e, ?_, ShrM.stayE f r⟩
    split
    · rename_i hb; rw [if_pos hb] at q; exact q.stay f.bb
    · rename_i hb; rw [if_neg hb] at q; exact q.stay f.stay
end
def GoodM (T : Th) (W : WX) (Γ : List Md) (bs : List Bool) (ρ : Env) (σ : L2.St) (g : G) (H : Hp) : RL → (List V → Hp → Prop) → Prop
  | .ok d S', Q => ∀ v g' H', Rel T g' Γ ρ S' σ H' → FrE g H g' H' → ShrM T g' H' bs d v → Q v H'
  | .exc x S', _ => ∀ c dd g' H', Rel T g' Γ ρ S' σ H' → FrE g H g' H' → ExcR T g' H' x c dd → W c dd σ H'
  | .no, _ => False
def tM (T : Th) (W : WX) (Γ : List Md) (bs : List Bool) (F : FL) : TA := fun σ H Q => ∃ g ρ S, Rel T g Γ ρ S σ H ∧ GoodM T W Γ bs ρ σ g H (F ρ S) Q
abbrev XM (X : Cx) (T : Th) (W : WX) (Γ : List Md) (bs : List Bool) (es : List Expr) (F : FL) : Prop := PA X es (tM T W Γ bs F)
section
variable {X : Cx} {T : Th} {W : WX} {Γ : List Md} {bs : List Bool}
theorem xm_nil : XM X T W Γ bs [] lNil := pa_imp pa_nil fun σ H Q ⟨g, ρ, S, R, hg⟩ => hg [] g H R (.refl g H) (by simp only [ShrM])
theorem xm_s {e : Expr} {es : List Expr} {A : FE} {B : FL} (ha : XE X T W Γ e A) (hb : XM X T W Γ bs es B) (hx : PE X e (tX T W Γ A) → PA X es (tM T W Γ bs B) → PA X (e :: es) (tCons (tX T W Γ A) (tM T W Γ bs B))) : XM X T W Γ (false :: bs) (e :: es) (lCons A B) := pa_imp (hx ha hb) fun σ H Q ⟨g, ρ, S, R, hg⟩ => by
  refine ⟨g, ρ, S, R, ?_⟩
  unfold lCons at hg
  cases e : A ρ S with
  | ok x S1 =>
    rw [e] at hg
    intro v g1 H1 R1 f1 s1
    refine ⟨g1, ρ, S1, R1, ?_⟩
    have hg : GoodM T W Γ (false :: bs) ρ σ g H (match B ρ S1 with | .ok xs S2 => .ok (x :: xs) S2 | .exc x S2 => .exc x S2 | .no => .no) Q := hg
    cases e2 : B ρ S1 with
    | ok xs S2 =>
      rw [e2] at hg
      exact fun vs g2 H2 R2 f2 s2 => hg (v :: vs) g2 H2 R2 (f1.trans f2) (by simp only [ShrM]; exact ⟨v, vs, rfl, s1.stay f2.stay, s2⟩)
    | exc y S2 => rw [e2] at hg; exact fun c dd g2 H2 R2 f2 s2 => hg c dd g2 H2 R2 (f1.trans f2) s2
    | no => rw [e2] at hg; exact hg
  | exc y S1 => rw [e] at hg; exact hg
  | no => rw [e] at hg; exact hg
theorem xm_l {e : Expr} {es : List Expr} {A : FE} {B : FL} (ha : XQ X T W Γ e A) (hb : XM X T W Γ bs es B) (hx : PE X e (tQ T W Γ A) → PA X es (tM T W Γ bs B) → PA X (e :: es) (tCons (tQ T W Γ A) (tM T W Γ bs B))) : XM X T W Γ (true :: bs) (e :: es) (lCons A B) := pa_imp (hx ha hb) fun σ H Q ⟨g, ρ, S, R, hg⟩ => by
  refine ⟨g, ρ, S, R, ?_⟩
  unfold lCons at hg
  cases e : A ρ S with
  | ok x S1 =>
    rw [e] at hg
    intro v g1 H1 R1 f1 s1
    refine ⟨g1, ρ, S1, R1, ?_⟩
    have hg : GoodM T W Γ (true :: bs) ρ σ g H (match B ρ S1 with | .ok xs S2 => .ok (x :: xs) S2 | .exc x S2 => .exc x S2 | .no => .no) Q := hg
    cases e2 : B ρ S1 with
    | ok xs S2 =>
      rw [e2] at hg
      exact fun vs g2 H2 R2 f2 s2 => hg (v :: vs) g2 H2 R2 (f1.trans f2) (by simp only [ShrM]; exact ⟨v, vs, rfl, s1.stay f2.bb, s2⟩)
    | exc y S2 => rw [e2] at hg; exact fun c dd g2 H2 R2 f2 s2 => hg c dd g2 H2 R2 (f1.trans f2) s2
    | no => rw [e2] at hg; exact hg
  | exc y S1 => rw [e] at hg; exact hg
  | no => rw [e] at hg; exact hg
theorem rel_argsM {g1 : G} {ρ : Env} {S1 : Store} {σ : L2.St} {H1 : Hp} {ds : List D} {vs : List V} {ms : List Md} (R1 : Rel T g1 Γ ρ S1 σ H1) (s : ShrM T g1 H1 bs ds vs) (hm : ∀ i, ms.getD i .s = mdOf (bs.getD i false)) : Rel T g1.callee ms (ds.map some) S1 (vs.map some) H1 := by
  refine R1.shift rfl rfl rfl rfl (fun a h => G.callee_U.mp h) (fun i j a h => h.elim) (fun i a h => h.elim) (fun a h => h) (fun i a h => h.elim) (by simp [s.length]) fun st i d e => ?_
  rw [List.getElem?_map] at e
  cases q : ds[i]? with
  | none => rw [q] at e; cases e
  | some d' =>
    rw [q] at e
    cases e
    obtain ⟨v, h1, h2⟩ := s.get q
    refine ⟨v, by rw [List.getElem?_map, h1]; rfl, ?_⟩
    rw [hm]
    unfold mdOf
    by_cases hb : bs.getD i false = true
    · rw [if_pos hb] at h2 ⊢
      have st2 : Stay g1.bb H1 g1.callee.bare H1 := ⟨fun _ _ h _ => h, fun a h => .inl (G.bb_U.mpr (by
        rcases h with h | ⟨j, h⟩ | h
        · exact h.elim
        · exact h.elim
        · exact h)), Nat.le_refl _, fun _ _ => rfl, rfl⟩
      exact h2.stay st2
    · rw [if_neg hb] at h2 ⊢
      exact h2.stay st
/-- the caller's rows behind a call, with what the call made -/
theorem call_fresh {g1 g' : G} {ρ : Env} {S1 S2 : Store} {σ : L2.St} {H1 H' : Hp} {Fo : Addr → Prop} {outs : Env} {ms : List Md} {vs : List V} (R1 : Rel T g1 Γ ρ S1 σ H1) (R' : Rel T (g'.plus Fo) ms outs S2 (vs.map some) H') (f' : FrS g1.callee H1 g' H') (nf : ∀ i a, ¬ g'.F i a)
    (ho : ∀ a, Fo a → ¬ g1.callee.O a ∧ (g1.callee.U a ∨ H1 a = none)) : Rel T ((g1.back g').plusF ρ.length Fo) Γ ρ S2 σ H' ∧ (∀ a, Fo a → ¬ (g1.back g').U a ∧ (g1.B a ∨ H1 a = none)) := by
  obtain ⟨R2, fe, hU⟩ := call_back R1 R' f' nf
  have eO : ∀ a, g'.O a ↔ (g1.O a ∨ ∃ i, g1.F i a) := fun a => by rw [f'.O]; exact Iff.rfl
  have out : ∀ a, Fo a → ¬ (g1.back g').U a ∧ (g1.B a ∨ H1 a = none) := fun a z => by
    obtain ⟨h1, h2⟩ := ho a z
    refine ⟨fun u => ?_, h2.imp (fun u => ?_) id⟩
    · rcases u with u | u | u
      · exact h1 (.inl u)
      · exact h1 (.inr u)
      · exact R'.dOB a (.inr z) u
    · rcases G.callee_U.mp u with u | u | u
      · exact absurd (.inl u) h1
      · exact absurd (.inr u) h1
      · exact u
  refine ⟨?_, out⟩
  have hU2 : ∀ a, ((g1.back g').plusF ρ.length Fo).U a → (g'.plus Fo).U a := fun a u => by
    rcases G.plusF_U.mp u with u | u
    · exact hU a u
    · exact G.plus_U.mpr (.inr u)
  have st : Stay g1 H1 ((g1.back g').plusF ρ.length Fo) H' := ⟨fun a o h hu => fe.stay.keep a o h hu, fun a u => by
    rcases G.plusF_U.mp u with u | u
    · exact fe.stay.own a u
    · exact (out a u).2.imp (fun z => .inr (.inr z)) id, fe.N, fe.μ, fe.Z⟩
  have stb : Stay g1.bare H1 ((g1.back g').plusF ρ.length Fo).bare H' := ⟨fun a o h hu => fe.bare.keep a o h hu, fun a u => by
    rcases u with u | ⟨j, u | u⟩ | u
    · exact u.elim
    · exact fe.bare.own a (.inr (.inl ⟨j, u⟩))
    · exact (out a u.2).2.imp (fun z => .inr (.inr z)) id
    · exact fe.bare.own a (.inr (.inr u)), fe.N, fe.μ, fe.Z⟩
  refine ⟨R1.len, fun i d e => ?_, fun i j a h h' => ?_, fun i a h u => ?_, fun i a h u => ?_, fun a h => R2.dOB a h, fun a h => R'.dom a (hU2 a h), R'.st.keep (stay_iff hU2 rfl rfl) (fun _ _ _ h => h) rfl rfl rfl fun _ _ => rfl, fun a h => R'.nt a (hU2 a h)⟩
  · obtain ⟨v, h1, h2⟩ := R1.slot i d e
    refine ⟨v, h1, ?_⟩
    cases hm : Γ.getD i .s <;> rw [hm] at h2 <;> simp only [RepM] at h2 ⊢
    · exact h2.stay st
    · exact Own.wide _ _ _ _ _ (fun a z => .inl z) (Own.keepF st _ _ _ _ (fun a o z q => fe.keep a o q (R1.dFB i a z)) h2)
    · exact Own.keepF st _ _ _ _ (fun a o z q => fe.keep a o q (R1.dOB a z)) h2
    · refine ⟨h2.1.trans (by show g1.P i = g'.P i; rw [f'.P]; rfl), ?_⟩
      exact Own.wide _ _ _ _ _ (fun a z => .inl z) (Own.keepF st _ _ _ _ (fun a o z q => fe.keep a o q (R1.dFB i a z)) h2.2)
    · exact h2
    · exact h2.stay stb
  · rcases h with h | h <;> rcases h' with h' | h'
    · exact R1.dF i j a h h'
    · exact absurd (.inr (.inl ⟨i, h⟩)) (out a h'.2).1
    · exact absurd (.inr (.inl ⟨j, h'⟩)) (out a h.2).1
    · rw [h.1, h'.1]
  · rcases h with h | h
    · exact R1.dFO i a h u
    · exact (out a h.2).1 (.inl u)
  · rcases h with h | h
    · exact R2.dFB i a h u
    · exact (out a h.2).1 (.inr (.inr u))
/-- a call; what it makes is the caller's -/
theorem xf_callM {k n : Nat} {f : Addr} {fd : FuncData} {ps : List Str} {sg : Sig} {Φ : FF} {e : Expr} {es : List Expr} {A : FL} (F : FnOk X.prog X.w X.K X.mg X.base (L2.CX X.prog X.w) k f fd ps (spD T n sg Φ)) (hm : ∀ i, sg.ms.getD i .s = mdOf (bs.getD i false)) (hA : ∀ ρ S ds S1, A ρ S = .ok ds S1 → ds.length = n)
    (ha : XM X T W Γ bs es A) (he : PA X es (tM T W Γ bs A) → PE X e (tCallS (spD T n sg Φ) (WE W) (tM T W Γ bs A))) : XF X T W Γ sg.kr e (eCall Φ A) := pe_imp (he ha) fun σ H Q ⟨g, ρ, S, R, hg⟩ => by
  refine ⟨g, ρ, S, R, ?_⟩
  unfold eCall at hg
  cases ea : A ρ S with
  | exc x S1 => rw [ea] at hg; exact hg
  | no => rw [ea] at hg; exact hg
  | ok ds S1 =>
    rw [ea] at hg
    intro vs g1 H1 R1 f1 s1
    have hg : GoodN T W Γ sg.kr ρ σ g H (match Φ ds S1 with | .ok d _ S2 => .ok d S2 | .exc x _ S2 => .exc x S2 | .no => .no) Q := hg
    refine ⟨by rw [← s1.length]; exact hA ρ S ds S1 ea, g1.callee, ds, S1, rel_argsM R1 s1 hm, ?_⟩
    have npin : ∀ (i k : Nat), sg.ms.getD i .s ≠ .p k := fun i k h => by
      rw [hm] at h
      unfold mdOf at h
      split at h <;> cases h
    cases ef : Φ ds S1 with
    | no => rw [ef] at hg; exact hg
    | ok d outs S2 =>
      rw [ef] at hg
      intro v g' H' Fo R' f' nf ho hw
      have nf' : ∀ i a, ¬ g'.F i a := fun i a z => by
        obtain ⟨k, e⟩ := nf i a z
        exact npin i k e
      obtain ⟨R2, f2, hU⟩ := call_back R1 R' f' nf'
      obtain ⟨R3, out⟩ := call_fresh R1 R' f' nf' ho
      refine hg v (g1.back g') H' Fo R3 (f1.trans f2) (fun a z => ⟨(out a z).1, ?_⟩) ?_
      · rcases (out a z).2 with w | w
        · exact f1.B a w
        · exact f1.none w
      · have st : Stay (g'.plus Fo) H' ((g1.back g').plusF ρ.length Fo) H' := ⟨fun _ _ h _ => h, fun a h => .inl (by
          rcases G.plusF_U.mp h with h | h
          · exact hU a h
          · exact G.plus_U.mpr (.inr h)), Nat.le_refl _, fun _ _ => rfl, rfl⟩
        exact Own.keepF st _ _ _ _ (fun _ _ _ q => q) hw
    | exc x outs S2 =>
      rw [ef] at hg
      intro c dd g' H' R' f' nf ex
      have nf' : ∀ i a, ¬ g'.F i a := fun i a z => by
        obtain ⟨k, e⟩ := nf i a z
        exact npin i k e
      obtain ⟨R2, f2, hU⟩ := call_back R1 (plus_none R') f' nf'
      refine hg c dd (g1.back g') H' R2 (f1.trans f2) ?_
      obtain ⟨e0, e1, e2⟩ := ex
      refine ⟨e0, e1, e2.imp id fun ⟨d, fs, h1, h2, h3, h4, h5⟩ => ⟨d, fs, h1, h2, h3, h4, ?_⟩⟩
      have st : Stay g' H' (g1.back g') H' := ⟨fun _ _ h _ => h, fun a h => .inl (by
        rcases hU a h with (h | h) | h | h
        · exact .inl h
        · exact h.elim
        · exact .inr (.inl h)
        · exact .inr (.inr h)), Nat.le_refl _, fun _ _ => rfl, rfl⟩
      exact ShrL.stay st _ _ h5
/-! ### returns of what is owned -/
theorem xs_retF {J : Jd} {Γ' : List Md} {e : Expr} {A : FE} {st : Stmt} (hx : J.ΓX Γ) (hr : J.ΓR Γ) (ha : XF X T J.W Γ J.kr e A) (he : PE X e (tN T J.W Γ J.kr A) → PS X st (tRet (tN T J.W Γ J.kr A))) : XS X T J Γ Γ' st (fRet A) := ps_imp (he ha) fun D σ H ⟨g, ρ, S, R, h⟩ => by
  refine ⟨g, ρ, S, R, ?_⟩
  unfold fRet at h
  cases r : A ρ S with
  | no => rw [r] at h; exact h
  | exc x S1 => rw [r] at h; exact fun c dd g' H' R' f e => h Γ c dd σ g' H' hx R' (f.frs R.dOB) e
  | ok d S1 =>
    rw [r] at h
    intro v g' H' Fo R' f ho hw
    have st2 : Stay (g'.plusF ρ.length Fo) H' (g'.plus Fo) H' := ⟨fun _ _ h _ => h, fun a h => .inl (G.plusF_U.mpr (G.plus_U.mp h)), Nat.le_refl _, fun _ _ => rfl, rfl⟩
    refine h Γ v σ g' H' Fo hr ?_ (f.frs R.dOB) (fun a z => ⟨fun u => (ho a z).1 (.inl (by rw [f.O]; exact u)), (ho a z).2.imp (fun z => .inr (.inr z)) id⟩) (Own.keepF st2 _ _ _ _ (fun _ _ _ q => q) hw)
    refine R'.shift rfl rfl rfl rfl (fun a h => G.plusF_U.mpr (G.plus_U.mp h)) (fun i j a h h' => R'.dF i j a (.inl h) (.inl h')) (fun i a h u => ?_) (fun a h => ?_) (fun i a h => .inl ⟨i, .inl h⟩) R'.len fun st i d' e => ?_
    · rcases u with u | u
      · exact R'.dFO i a (.inl h) u
      · exact (ho a u).1 (.inr (.inl ⟨i, h⟩))
    · rcases h with h | h
      · exact .inl h
      · exact .inr ⟨ρ.length, .inr ⟨rfl, h⟩⟩
    · obtain ⟨w, h1, h2⟩ := R'.slot i d' e
      have hi : i < ρ.length := (List.getElem?_eq_some_iff.mp e).1
      exact ⟨w, h1, h2.stay st (fun a z => z.elim id fun z => absurd z.1 (by omega)) (fun a z => .inl z) rfl (bare_sub rfl rfl (fun i a z => ⟨i, .inl z⟩) fun _ z => z)⟩
theorem xs_retV {J : Jd} {Γ' : List Md} {i k : Nat} {st : Stmt} (hr : ∀ v, J.ΓR (Γ.set i (.e v))) (hi : i < Γ.length) (hm : Γ.getD i .s = .o k) (hk : J.kr = k) (he : PS X st (tRet (tVar i))) : XS X T J Γ Γ' st (fRet (eVar i)) := ps_imp he fun D σ H ⟨g, ρ, S, R, h⟩ => by
  have h : GoodS T J Γ' g H ((match ρ[i]? with | some (some d) => RE.ok d S | _ => .no).bindS ρ fun d S1 => .rt d ρ S1) D := h
  split at h
  · rename_i d e
    obtain ⟨v, h1, h2⟩ := R.slot i d e
    refine ⟨v, h1, ?_⟩
    rw [hm] at h2
    have hU : ∀ a, ((g.drop i).plus (g.F i)).U a → g.U a := fun a u => by
      rcases G.plus_U.mp u with u | u
      · exact G.drop_U u
      · exact .inr (.inl ⟨i, u⟩)
    have st2 : Stay g H ((g.drop i).plus (g.F i)) H := ⟨fun _ _ h _ => h, fun a u => .inl (hU a u), Nat.le_refl _, fun _ _ => rfl, rfl⟩
    refine h (Γ.set i (.e v)) v σ (g.drop i) H (g.F i) (hr v) ?_ .drop (fun a z => ⟨R.dFO i a z, .inl (.inr (.inl ⟨i, z⟩))⟩) (by rw [hk]; exact Own.keepF st2 _ _ _ _ (fun _ _ _ q => q) h2)
    refine R.shift rfl rfl rfl rfl hU (fun j k a h h' => R.dF j k a h.2 h'.2) (fun j a h u => ?_) (fun a h => h.imp id fun z => ⟨i, z⟩) (fun j a h => .inl ⟨j, h.2⟩) R.len fun st j d' e => ?_
    · rcases u with u | u
      · exact R.dFO j a h.2 u
      · exact h.1 (R.dF j i a h.2 u)
    · obtain ⟨w, q1, q2⟩ := R.slot j d' e
      refine ⟨w, q1, ?_⟩
      by_cases hj : i = j
      · subst hj
        rw [getD_set_self hi]
        rw [h1] at q1
        cases q1
        rfl
      · rw [getD_set_ne hj]
        exact q2.stay st (fun a z => ⟨fun q => hj q.symm, z⟩) (fun a z => .inl z) rfl (bare_sub rfl rfl (fun i a z => ⟨i, z.2⟩) fun _ z => z)
  · exact h.elim
/-! ### for the printer -/
theorem xq_varO {i k : Nat} {e : Expr} (he : PE X e (tVar i)) (hm : Γ.getD i .s = .o k) : XQ X T W Γ e (eVar i) := xq_var he fun v h => by rw [hm] at h; cases h
theorem xq_varL {i : Nat} {e : Expr} (he : PE X e (tVar i)) (hm : Γ.getD i .s = .l) : XQ X T W Γ e (eVar i) := xq_var he fun v h => by rw [hm] at h; cases h
def noPin (m : Md) : Bool := match m with
  | .p _ => false
  | _ => true
theorem gp_n {ms : List Md} {Γ : List Md} (h : ms.all noPin = true) : ΓP ms Γ := fun i k e => by
  have : ms.getD i .s ∈ ms ∨ ms.getD i .s = .s := by
    by_cases hi : i < ms.length
    · left; simp [List.getD, hi]
    · right; simp [List.getD, List.getElem?_eq_none (Nat.le_of_not_lt hi)]
  rcases this with h2 | h2
  · have := List.all_eq_true.mp h _ h2
    rw [e] at this
    cases this
  · rw [e] at h2; cases h2
theorem mdOf_rows {ms : List Md} {bs : List Bool} (h : ms = bs.map mdOf) : ∀ i, ms.getD i .s = mdOf (bs.getD i false) := fun i => by
  subst h
  by_cases hi : i < bs.length
  · simp [List.getD, hi]
  · simp [List.getD, List.getElem?_eq_none (Nat.le_of_not_lt hi)]
    rfl
end
section
variable {P : Program} {w : World} {K : PySem.W.Frag} {mg : Str → Option Value} {base : Heap} {T : Th}
/-- the rule of a def, its first rows given -/
theorem fn_okG {x qual : Str} {st : Stmt} {f : Addr} {fd : FuncData} {N ps : List Str} {k n : Nat} {sg : Sig} {B : FS} {Γ0 Γ' : List Md} (F : Fun K x qual st f fd) (Sc : FnScope N ps (defScope st)) (hn : ps.length = n) (hN : n ≤ N.length) (h0 : sg.ms ++ List.replicate (N.length - sg.ms.length) .s = Γ0)
    (hp : sg.ms.all noPin = true)
    (hbody : ∀ (cdv : Value) (A : Around) (outer : List PySem.Env) (s : Shared) (H : Hp) (E : XK), Room k (A.deeper (envOfC qual (defScope st) s.heap.objs.size f cdv)) →
      XB (cxOf (L2.CX P w) P w K mg base N qual (defScope st) f cdv A outer s H E) T (jdF sg.ms sg.kr E) Γ0 Γ' (defBody st) B) :
    FnOk P w K mg base (L2.CX P w) (k + 1) f fd ps (spD T n sg (fBody N.length n sg.ms B)) := fn_ok F Sc hn hN (fun cdv A outer s H E hr => by rw [h0]; exact hbody cdv A outer s H E hr) (gp_n hp)
theorem fn_okGR {qual : Str} {st : Stmt} {f : Addr} {fd : FuncData} {N ps : List Str} {k n : Nat} {sg : Sig} {B : FS} {Γ0 Γ' : List Md} (F : OkRule P w K mg base qual st f fd) (Sc : FnScope N ps (defScope st)) (hn : ps.length = n) (hN : n ≤ N.length) (h0 : sg.ms ++ List.replicate (N.length - sg.ms.length) .s = Γ0)
    (hp : sg.ms.all noPin = true)
    (hbody : ∀ (cdv : Value) (A : Around) (outer : List PySem.Env) (s : Shared) (H : Hp) (E : XK), Room k (A.deeper (envOfC qual (defScope st) s.heap.objs.size f cdv)) →
      XB (cxOf (L2.CX P w) P w K mg base N qual (defScope st) f cdv A outer s H E) T (jdF sg.ms sg.kr E) Γ0 Γ' (defBody st) B) :
    FnOk P w K mg base (L2.CX P w) (k + 1) f fd ps (spD T n sg (fBody N.length n sg.ms B)) := fn_okR F Sc hn hN (fun cdv A outer s H E hr => by rw [h0]; exact hbody cdv A outer s H E hr) (gp_n hp)
end
end Q

/-! Comprehensions whose list is owned; y = [..]. -/
namespace Q
open PySem PySem.Spec PyProof.Rows L2
section
variable {X : Cx} {T : Th} {W : WX} {Γ : List Md}
theorem Rel.carryF {g g' : G} {ρ : Env} {S S' : Store} {σ : L2.St} {H H' : Hp} {Fo : Addr → Prop} (R : Rel T g Γ ρ S σ H) (f : FrE g H g' H') (hf : ∀ a, Fo a → g.B a ∨ H a = none) (j : Dj T (g'.plusF ρ.length Fo) S' H') : Rel T (g'.plusF ρ.length Fo) Γ ρ S' σ H' := by
  refine ⟨R.len, fun i d e => ?_, j.dF, j.dFO, j.dFB, j.dOB, j.dom, j.st, j.nt⟩
  have st : Stay g H (g'.plusF ρ.length Fo) H' := ⟨fun a o h hu => f.stay.keep a o h hu, fun a u => by
    rcases G.plusF_U.mp u with u | u
    · exact f.stay.own a u
    · exact (hf a u).imp (fun z => .inr (.inr z)) id, f.N, f.μ, f.Z⟩
  have stb : Stay g.bare H (g'.plusF ρ.length Fo).bare H' := ⟨fun a o h hu => f.bare.keep a o h hu, fun a u => by
    rcases u with u | ⟨j, u | u⟩ | u
    · exact u.elim
    · exact f.bare.own a (.inr (.inl ⟨j, u⟩))
    · exact (hf a u.2).imp (fun z => .inr (.inr z)) id
    · exact f.bare.own a (.inr (.inr u)), f.N, f.μ, f.Z⟩
  obtain ⟨v, h1, h2⟩ := R.slot i d e
  refine ⟨v, h1, ?_⟩
  have wF : ∀ a, g.F i a → (g'.plusF ρ.length Fo).F i a := fun a z => .inl (by rw [f.F]; exact z)
  cases hm : Γ.getD i .s <;> rw [hm] at h2 <;> simp only [RepM] at h2 ⊢
  · exact h2.stay st
  · exact Own.wide _ _ _ _ _ wF (Own.keepF st _ _ _ _ (fun a o z q => f.keep a o q (R.dFB i a z)) h2)
  · have := Own.keepF st _ _ _ _ (fun a o z q => f.keep a o q (R.dOB a z)) h2
    exact Own.wide _ _ _ _ _ (fun a z => by show g'.O a; rw [f.O]; exact z) this
  · exact ⟨h2.1.trans (by show g.P i = g'.P i; rw [f.P]), Own.wide _ _ _ _ _ wF (Own.keepF st _ _ _ _ (fun a o z q => f.keep a o q (R.dFB i a z)) h2.2)⟩
  · exact h2
  · exact h2.stay stb
theorem lc_rd {vs : List Nat} {Γb : List Md} {is : List Nat} {t : TG} {tf : D → Env → Option Env} {FI : FL} {C E : FE} (his : ∀ j, j ∈ is → j ∈ vs) (ht : TgOk T Γ Γb is t tf) (σ : L2.St) (H : Hp) (Q : VK) (hh : tN T W Γ 1 (eLc FI vs tf C E) σ H Q) :
    tLc (tI T W Γ FI) t (tXT T (fun _ _ _ _ => False) Γb C) (tX T (fun _ _ _ _ => False) Γb E) vs σ H Q := by
  obtain ⟨g, ρ, S, R, h⟩ := hh
  refine ⟨g, ρ, S, R, ?_⟩
  unfold eLc at h
  cases e : FI ρ S with
  | exc x S1 => rw [e] at h; exact h
  | no => rw [e] at h; exact h
  | ok ds S1 =>
    rw [e] at h
    intro It1 g1 H1 R1 f1 io p hp
    have h : GoodN T W Γ 1 ρ σ g H (match lcL tf C E ds (wipeE ρ vs) S1 with | .ok ys S2 => if ds.length ≤ 1000000 then RE.ok (.lst ys) S2 else .no | _ => .no) Q := h
    split at h
    · rename_i ys Sf el
      split at h
      · rename_i hlen
        have Rl := R1.lend vs
        have hpO : ∀ a, a = p → (g1.lend vs).U a → False := fun a ha u => by
          obtain ⟨o, q⟩ := Rl.dom a u
          rw [ha, hp] at q; cases q
        have Dp : Dj T ((g1.lend vs).plus (· = p)) S1 (upd H1 p (.lst [])) := by
          have st : Stay (g1.lend vs) (upd H1 p (.lst [])) ((g1.lend vs).plus (· = p)) (upd H1 p (.lst [])) → True := fun _ => trivial
          have e1 := Rl.ex (Exx.new (o := HO.lst []) hp)
          refine ⟨e1.dF, fun i a z w => w.elim (e1.dFO i a z) fun w => hpO a w (.inr (.inl ⟨i, z⟩)), e1.dFB, fun a w z => w.elim (fun w => e1.dOB a w z) fun w => hpO a w (.inr (.inr z)), fun a u => ?_, ?_, fun a u w r => ?_⟩
          · rcases u with (u | u) | u | u
            · exact e1.dom a (.inl u)
            · exact ⟨_, by rw [u]; exact upd_same⟩
            · exact e1.dom a (.inr (.inl u))
            · exact e1.dom a (.inr (.inr u))
          · refine Rl.st.keep (g' := (g1.lend vs).plus (· = p)) ⟨fun a o q _ => Exx.new hp a o q, fun a u => ?_, Nat.le_refl _, fun _ _ => rfl, rfl⟩ (fun a o _ q => Exx.new hp a o q) rfl rfl rfl fun _ _ => rfl
            rcases u with (u | u) | u | u
            · exact .inl (.inl u)
            · exact .inr (by rw [u]; exact hp)
            · exact .inl (.inr (.inl u))
            · exact .inl (.inr (.inr u))
          · by_cases ha : a = p
            · subst ha
              rcases r with r | ⟨b, r⟩
              · rw [upd_same] at r; cases r
              · rw [upd_same] at r; cases r
            · refine e1.nt a ?_ w r
              rcases u with (u | u) | u | u
              · exact .inl u
              · exact absurd u ha
              · exact .inr (.inl u)
              · exact .inr (.inr u)
        refine ⟨LcW T Γ vs tf C E g1 H1 ρ σ ds ys Sf p, ⟨ds.length, ⟨g1.lend vs, S1, [], [], ys, .ex (Exx.new hp), Dp, upd_same, .nil, by simp, Nat.zero_le _, Nat.zero_le _, by rw [List.drop_zero]; exact el, rfl⟩⟩, ?_⟩
        rintro i m H' ⟨g0, Si, vacc, acc, rest, fr, dj, hacc, sacc, em, hi', ha, hl, hy⟩
        have fO : ∀ a, a = p → H1 a = none := fun a z => by rw [z]; exact hp
        have Rw : Rel T (g0.plus (· = p)) Γ (wipeE ρ vs) Si (wipe σ vs) H' := Rl.carry fr fO dj
        have st0 : Stay g1 H1 g0 H' := ⟨fun a o q hu => fr.stay.keep a o q fun z => hu (G.lend_U.mp z), fun a u => (fr.stay.own a u).imp G.lend_U.mp id, fr.N, fr.μ, fr.Z⟩
        obtain ⟨i1, i2⟩ := io g0 H' i st0
        by_cases hlt : i < ds.length
        · refine .inr ?_
          obtain ⟨d, hd⟩ : ∃ d, ds[i]? = some d := ⟨ds[i], List.getElem?_eq_getElem hlt⟩
          have stp : Stay g1 H1 (g0.plus (· = p)) H' := ⟨st0.keep, fun a u => by
            rcases u with (u | u) | u | u
            · exact st0.own a (.inl u)
            · exact .inr (fO a u)
            · exact st0.own a (.inr (.inl u))
            · exact st0.own a (.inr (.inr u)), st0.N, st0.μ, st0.Z⟩
          obtain ⟨_, i2⟩ := io (g0.plus (· = p)) H' i stp
          obtain ⟨go, yl⟩ := i2 d hd
          refine ⟨go, fun H2 => ∃ m', m' < m ∧ LcW T Γ vs tf C E g1 H1 ρ σ ds ys Sf p (i + 1) m' H2, fun H2 ⟨m', l, w⟩ => ⟨m', l, w⟩, fun x H2 y => ?_⟩
          obtain ⟨ex, sx⟩ := yl x H2 y
          have R2 := Rw.ex ex
          have ed : ds.drop i = d :: ds.drop (i + 1) := by
            rw [List.drop_eq_getElem_cons hlt]
            rw [List.getElem?_eq_getElem hlt] at hd
            rw [Option.some.inj hd]
          rw [ed, lcL] at hl
          split at hl
          · cases hl
          · rename_i ρ1 e1
            refine ht _ _ ρ1 Si _ H2 d x _ R2 sx e1 fun σ3 R3 l3 k3 => ⟨(wipe_get (is := is) l3 k3 his).trans wipe_wipe, _, ρ1, Si, R3, ?_⟩
            have fO2 : ∀ (g4 : G) (H4 : Hp), FrE ((g0.plus (· = p)).drops is) H2 g4 H4 → FrE (g1.lend vs) H1 { g4 with O := g0.O, F := g0.F } H4 ∧ ({ g4 with O := g0.O, F := g0.F } : G).plus (· = p) = g4 := fun g4 H4 f4 => by
              refine ⟨(fr.trans (.ex ex)).trans (f4.swap (g2 := g0) rfl rfl rfl rfl), ?_⟩
              have eO := f4.O
              have eF := f4.F
              obtain ⟨N4, μ4, O4, F4, B4, BF4, P4⟩ := g4
              simp only at eO eF
              subst eO eF
              show G.mk N4 μ4 (fun a => g0.O a ∨ a = p) g0.F B4 BF4 P4 = G.mk N4 μ4 (fun a => g0.O a ∨ a = p) (fun j a => j ∉ is ∧ g0.F j a) B4 BF4 P4
              congr 1
              funext j a
              rw [fr.F]
              exact propext ⟨fun z => ⟨fun w => z.1 (his j w), z⟩, fun z => z.2⟩
            have kp : ∀ (g4 : G) (H4 : Hp), FrE ((g0.plus (· = p)).drops is) H2 g4 H4 → g4.O p ∧ H4 p = some (.lst vacc) := fun g4 H4 f4 =>
              ⟨by rw [f4.O]; exact .inr rfl, f4.keep p _ (ex p _ hacc) (dj.dOB p (.inr rfl))⟩
            have sk : ∀ (g4 : G) (H4 : Hp), FrE ((g0.plus (· = p)).drops is) H2 g4 H4 → ShrL T g4 H4 acc vacc := fun g4 H4 f4 =>
              ShrL.stay (((Stay.ex ex).trans FrS.drops.stay).trans f4.stay) _ _ sacc
            split at hl
            · rename_i S2 ec
              rw [ec]
              refine ⟨true, rfl, fun g2 H3 R4 f3 => ?_⟩
              refine iteT ⟨g2, ρ1, S2, R4, ?_⟩
              split at hl
              · rename_i y2 S3 ey
                rw [ey]
                intro v g4 H4 R5 f4 s4
                have f34 := f3.trans f4
                obtain ⟨pO, pH⟩ := kp g4 H4 f34
                obtain ⟨fa, fe⟩ := fO2 g4 H4 f34
                have sa := sk g4 H4 f34
                split at hl
                · rename_i ys' S4 ely
                  cases hl
                  refine ⟨vacc, pH, by rw [← sa.length]; exact sz_lt6 (by omega), ds.length - (i + 1), by omega, ⟨{ g4 with O := g0.O, F := g0.F }, S3, vacc ++ [v], acc ++ [y2], ys', fa.upd hp, ?_, upd_same, ?_, rfl, hlt, by rw [List.length_append]; simp; omega, ely, by rw [hy, List.append_assoc]; rfl⟩⟩
                  · rw [fe]; exact R5.dj.write (fun _ => ⟨nofun, fun _ => nofun⟩) pO
                  · rw [fe]
                    have stw : Stay g4 H4 g4 (upd H4 p (.lst (vacc ++ [v]))) := ⟨fun a u h hu => by rw [upd_ne (fun z => hu (.inl (by rw [z]; exact pO)))]; exact h, fun _ h => .inl h, Nat.le_refl _, fun _ _ => rfl, rfl⟩
                    exact ShrL.append (sa.stay stw) ((ShrL.cons s4 .nil).stay stw)
                · cases hl
              · cases hl
            · rename_i S2 ec
              rw [ec]
              refine ⟨false, rfl, fun g2 H3 R4 f3 => iteF ?_⟩
              obtain ⟨pO, pH⟩ := kp g2 H3 f3
              obtain ⟨fa, fe⟩ := fO2 g2 H3 f3
              exact ⟨ds.length - (i + 1), by omega, ⟨{ g2 with O := g0.O, F := g0.F }, S2, vacc, acc, rest, fa, by rw [fe]; exact R4.dj, pH, by rw [fe]; exact sk g2 H3 f3, rfl, hlt, by omega, hl, hy⟩⟩
            · cases hl
        · have e1 : i = ds.length := by omega
          subst e1
          refine .inl ⟨i1 (Nat.le_refl _), ?_⟩
          rw [List.drop_length, lcL] at hl
          cases hl
          rw [List.append_nil] at hy
          subst hy
          have ff : FrE g1 H1 { g0 with O := g1.O, F := g1.F } H' := fr.swap (g2 := g1) rfl rfl rfl rfl
          have uu : ∀ a, ({ g0 with O := g1.O, F := g1.F } : G).U a → (g0.plus (· = p)).U a := fun a u => by
            rcases u with u | ⟨j, u⟩ | u
            · exact .inl (.inl (by rw [fr.O]; exact .inl u))
            · by_cases hj : j ∈ vs
              · exact .inl (.inl (by rw [fr.O]; exact .inr ⟨j, hj, u⟩))
              · exact .inr (.inl ⟨j, by rw [show (g0.plus (· = p)).F = g0.F from rfl, fr.F]; exact ⟨hj, u⟩⟩)
            · exact .inr (.inr u)
          have dOB' : ∀ a, (g1.O a ∨ ∃ j, g1.F j a) → ¬ g0.B a := fun a u z => by
            have := uu a (u.elim .inl fun w => .inr (.inl w))
            rcases fr.B a z with w | w
            · exact u.elim (fun q => R1.dOB a q w) fun ⟨j, q⟩ => R1.dFB j a q w
            · obtain ⟨o, q⟩ := R1.dom a (u.elim .inl fun q => .inr (.inl q))
              rw [w] at q; cases q
          have stf : Stay (g0.plus (· = p)) H' { g0 with O := g1.O, F := g1.F } H' := ⟨fun _ _ h _ => h, fun a u => .inl (uu a u), Nat.le_refl _, fun _ _ => rfl, rfl⟩
          have np : ¬ ({ g0 with O := g1.O, F := g1.F } : G).U p := fun u => by
            rcases u with u | u | u
            · obtain ⟨o, q⟩ := R1.dom p (.inl u)
              rw [hp] at q; cases q
            · obtain ⟨o, q⟩ := R1.dom p (.inr (.inl u))
              rw [hp] at q; cases q
            · exact dj.dOB p (.inr rfl) u
          have uu2 : ∀ a, (({ g0 with O := g1.O, F := g1.F } : G).plusF ρ.length (· = p)).U a → (g0.plus (· = p)).U a := fun a u => (G.plusF_U.mp u).elim (uu a) fun w => .inl (.inr w)
          have stf2 : Stay (g0.plus (· = p)) H' (({ g0 with O := g1.O, F := g1.F } : G).plusF ρ.length (· = p)) H' := ⟨fun _ _ h _ => h, fun a u => .inl (uu2 a u), Nat.le_refl _, fun _ _ => rfl, rfl⟩
          have djf : Dj T (({ g0 with O := g1.O, F := g1.F } : G).plusF ρ.length (· = p)) Sf H' := by
            refine ⟨fun i j a h h' => ?_, fun i a h u => ?_, fun i a h u => ?_, fun a u z => dOB' a (.inl u) z, fun a u => dj.dom a (uu2 a u), dj.st.keep stf2 (fun _ _ _ q => q) rfl rfl rfl fun _ _ => rfl, fun a u => dj.nt a (uu2 a u)⟩
            · rcases h with h | h <;> rcases h' with h' | h'
              · exact R1.dF i j a h h'
              · exact absurd (.inr (.inl ⟨i, by rw [← h'.2]; exact h⟩)) np
              · exact absurd (.inr (.inl ⟨j, by rw [← h.2]; exact h'⟩)) np
              · rw [h.1, h'.1]
            · rcases h with h | h
              · exact R1.dFO i a h u
              · exact np (.inl (by rw [← h.2]; exact u))
            · rcases h with h | h
              · exact dOB' a (.inr ⟨i, h⟩) u
              · exact dj.dOB a (.inr h.2) u
          refine h (.ref p) _ H' (· = p) (R1.carryF ff (fun a z => .inr (by rw [z]; exact hp)) djf) (f1.trans ff) (fun a z => ⟨by rw [z]; exact np, ?_⟩) (own1_lst.mpr ⟨p, vacc, rfl, rfl, hacc, ShrL.stay stf2 _ _ sacc⟩)
          rw [z]; exact f1.none hp
      · exact h.elim
    · exact h.elim
theorem tn_of {k : Nat} {F : FE} {σ : L2.St} {H : Hp} {Q : VK} (h : tX T W Γ F σ H Q) : tN T W Γ k F σ H Q := by
  obtain ⟨g, ρ, S, R, hg⟩ := h
  refine ⟨g, ρ, S, R, ?_⟩
  cases r : F ρ S with
  | ok d S1 =>
    rw [r] at hg
    exact fun v g' H' Fo R' f' ho hw => hg v g' H' R'.unplus f' (shr_of_own2 stay_unplus k Fo d v (fun a z => (ho a z).1) hw)
  | exc x S1 => rw [r] at hg; exact hg
  | no => rw [r] at hg; exact hg
theorem xf_lc {elt tg iter : Expr} {ifs : List Expr} {scope : Scope} {own : List (Str × Nat)} {pos : Pos} {Γb : List Md} {is : List Nat} {t : TG} {tf : D → Env → Option Env} {FI : FL} {C E : FE} (hc : X.calm = true) (hN : X.N.Nodup) (hi : XI X T W Γ tg iter FI)
    (ok : BlkOk X.N X.env.scope scope own) (his : ∀ j, j ∈ is → j ∈ own.map (·.2))
    (hg : ∀ (s : Shared) (H : Hp) (C : Addr) (cl : List (Str × Addr)) (fp : List Addr), PG (X.blk s H scope (compEnvC scope cl C X.env) fp) tg t) (ht : TgOk T Γ Γb is t tf)
    (hts : ∀ (s : Shared) (H : Hp) (D : Addr) (cl : List (Str × Addr)) (fp : List Addr), XTs (X.blk s H scope (compEnvC scope cl D X.env) fp) T (fun _ _ _ _ => False) Γb ifs C)
    (he : ∀ (s : Shared) (H : Hp) (D : Addr) (cl : List (Str × Addr)) (fp : List Addr), XE (X.blk s H scope (compEnvC scope cl D X.env) fp) T (fun _ _ _ _ => False) Γb elt E) (hs : ∀ x, foldedSetIterable iter X.env x = pure x := by intro _; rfl) :
    XF X T W Γ 1 (.ListComp elt [⟨tg, iter, ifs, 0⟩] scope pos) (eLc FI (own.map (·.2)) tf C E) := pe_imp (pe_lc hc hN hi ok hg hts he hs) fun σ H Q h => lc_rd his ht σ H Q h
/-- y = [..] -/
theorem ps_lcX {i : Nat} {st : Stmt} {vs : List Nat} {Γb : List Md} {is : List Nat} {t : TG} {tf : D → Env → Option Env} {FI : FL} {C E : FE} (his : ∀ j, j ∈ is → j ∈ vs) (ht : TgOk T Γ Γb is t tf)
    (h : PS X st (tAsg (tLc (tI T W Γ FI) t (tXT T (fun _ _ _ _ => False) Γb C) (tX T (fun _ _ _ _ => False) Γb E) vs) (gName i))) : PS X st (tAsg (tN T W Γ 1 (eLc FI vs tf C E)) (gName i)) := ps_imp h fun D σ H q => lc_rd his ht σ H _ q
theorem ps_lcS {i : Nat} {st : Stmt} {F : FE} (h : PS X st (tAsg (tN T W Γ 1 F) (gName i))) : PS X st (tAsg (tX T W Γ F) (gName i)) := ps_imp h fun D σ H q => tn_of q
theorem xs_setP {J : Jd} {Γ' : List Md} {i : Nat} {A : FE} {st : Stmt} (hx : J.ΓX Γ) (he : PS X st (tAsg (tX T J.W Γ A) (gName i))) (hΓ : Γ.set i .s = Γ') : XS X T J Γ Γ' st (fSet i A) := ps_imp he fun D σ H ⟨g, ρ, S, R, h⟩ =>
  ⟨g, ρ, S, R, good_bindS R hx h fun d S1 v g1 H1 _ R1 f1 s1 h1 => h1 _ (g1.drop i) H1 (by rw [← hΓ]; exact R1.set s1) .drop⟩
end
end Q

/-! sorted(set(..)), sorted(..), and more of the built-in functions. -/
namespace Q
open PySem PySem.Spec PyProof.Rows L2
/-! ### sorted without doubles -/
def insU (x : Int) : List Int → List Int
  | [] => [x]
  | y :: r => if x < y then x :: y :: r else if x = y then y :: r else y :: insU x r
def usort : List Int → List Int
  | [] => []
  | x :: r => insU x (usort r)
theorem insU_mem {x z : Int} : ∀ {l : List Int}, z ∈ insU x l ↔ z = x ∨ z ∈ l
  | [] => by simp [insU]
  | y :: r => by
    unfold insU
    split
    · simp
    · split
      · rename_i h; subst h; simp
      · simp only [List.mem_cons, insU_mem (l := r)]
        constructor
        · rintro (h | h | h)
          · exact .inr (.inl h)
          · exact .inl h
          · exact .inr (.inr h)
        · rintro (h | h | h)
          · exact .inr (.inl h)
          · exact .inl h
          · exact .inr (.inr h)
theorem insU_sorted {x : Int} : ∀ {l : List Int}, l.Pairwise (· < ·) → (insU x l).Pairwise (· < ·)
  | [], _ => by simp [insU]
  | y :: r, h => by
    unfold insU
    rw [List.pairwise_cons] at h
    split
    · rename_i hx
      rw [List.pairwise_cons, List.pairwise_cons]
      refine ⟨fun z hz => ?_, h⟩
      rcases List.mem_cons.mp hz with e | e
      · rw [e]; exact hx
      · exact Int.lt_trans hx (h.1 z e)
    · split
      · rw [List.pairwise_cons]; exact h
      · rename_i h1 h2
        rw [List.pairwise_cons]
        refine ⟨fun z hz => ?_, insU_sorted h.2⟩
        rcases insU_mem.mp hz with e | e
        · rw [e]; omega
        · exact h.1 z e
theorem usort_mem {z : Int} : ∀ {l : List Int}, z ∈ usort l ↔ z ∈ l
  | [] => by simp [usort]
  | x :: r => by rw [usort, insU_mem, usort_mem (l := r), List.mem_cons]
theorem usort_sorted : ∀ l : List Int, (usort l).Pairwise (· < ·)
  | [] => .nil
  | x :: r => insU_sorted (usort_sorted r)
/-- rising lists of the same members are the same -/
theorem rising_ext : ∀ {a b : List Int}, a.Pairwise (· < ·) → b.Pairwise (· < ·) → (∀ z, z ∈ a ↔ z ∈ b) → a = b
  | [], [], _, _, _ => rfl
  | [], y :: b, _, _, h => by have := (h y).mpr (List.mem_cons_self); simp at this
  | x :: a, [], _, _, h => by have := (h x).mp (List.mem_cons_self); simp at this
  | x :: a, y :: b, ha, hb, h => by
    rw [List.pairwise_cons] at ha hb
    have e : x = y := by
      rcases List.mem_cons.mp ((h x).mp List.mem_cons_self) with e | e
      · exact e
      · rcases List.mem_cons.mp ((h y).mpr List.mem_cons_self) with e2 | e2
        · exact e2.symm
        · have := ha.1 y e2
          have := hb.1 x e
          omega
    subst e
    rw [rising_ext ha.2 hb.2 fun z => ?_]
    constructor
    · intro hz
      rcases List.mem_cons.mp ((h z).mp (List.mem_cons_of_mem _ hz)) with e | e
      · have := ha.1 z hz; omega
      · exact e
    · intro hz
      rcases List.mem_cons.mp ((h z).mpr (List.mem_cons_of_mem _ hz)) with e | e
      · have := hb.1 z hz; omega
      · exact e
theorem usort_eq {a b : List Int} (ha : a.Pairwise (· < ·)) (h : ∀ z, z ∈ a ↔ z ∈ b) : a = usort b := rising_ext ha (usort_sorted b) fun z => (h z).trans usort_mem.symm
/-! ### sorted -/
def insS (x : Int) : List Int → List Int
  | [] => [x]
  | y :: r => if x ≤ y then x :: y :: r else y :: insS x r
def isort : List Int → List Int
  | [] => []
  | x :: r => insS x (isort r)
theorem insS_perm {x : Int} : ∀ {l : List Int}, (insS x l).Perm (x :: l)
  | [] => .refl _
  | y :: r => by
    unfold insS
    split
    · exact .refl _
    · exact (List.Perm.cons y insS_perm).trans (List.Perm.swap x y r)
theorem insS_sorted {x : Int} : ∀ {l : List Int}, l.Pairwise (· ≤ ·) → (insS x l).Pairwise (· ≤ ·)
  | [], _ => by simp [insS]
  | y :: r, h => by
    unfold insS
    rw [List.pairwise_cons] at h
    split
    · rename_i hx
      rw [List.pairwise_cons, List.pairwise_cons]
      refine ⟨fun z hz => ?_, h⟩
      rcases List.mem_cons.mp hz with e | e
      · rw [e]; exact hx
      · exact Int.le_trans hx (h.1 z e)
    · rename_i hx
      rw [List.pairwise_cons]
      refine ⟨fun z hz => ?_, insS_sorted h.2⟩
      rcases List.mem_cons.mp ((insS_perm.mem_iff).mp hz) with e | e
      · rw [e]; omega
      · exact h.1 z e
theorem isort_perm : ∀ l : List Int, (isort l).Perm l
  | [] => .refl _
  | x :: r => insS_perm.trans (.cons x (isort_perm r))
theorem isort_sorted : ∀ l : List Int, (isort l).Pairwise (· ≤ ·)
  | [] => .nil
  | x :: r => insS_sorted (isort_sorted r)
theorem sorted_perm : ∀ {a b : List Int}, a.Pairwise (· ≤ ·) → b.Pairwise (· ≤ ·) → a.Perm b → a = b
  | [], b, _, _, p => (List.nil_perm.mp p).symm
  | x :: a, [], _, _, p => by have := p.length_eq; simp at this
  | x :: a, y :: b, ha, hb, p => by
    rw [List.pairwise_cons] at ha hb
    have h1 : y ∈ x :: a := p.mem_iff.mpr List.mem_cons_self
    have h2 : x ∈ y :: b := p.mem_iff.mp List.mem_cons_self
    have e : x = y := by
      rcases List.mem_cons.mp h1 with e | e
      · exact e.symm
      · rcases List.mem_cons.mp h2 with e2 | e2
        · exact e2
        · have := ha.1 y e
          have := hb.1 x e2
          omega
    subst e
    rw [sorted_perm ha.2 hb.2 (List.perm_cons x |>.mp p)]
theorem isort_eq {a b : List Int} (ha : a.Pairwise (· ≤ ·)) (p : a.Perm b) : a = isort b := sorted_perm ha (isort_sorted b) (p.trans (isort_perm b).symm)
def hSortSet : D → Option D
  | .lst l => match intsOf l with
    | some ns => if ns.length < 63 then some (.lst ((usort ns).map .int)) else none
    | none => none
  | _ => none
def hSort : D → Option D
  | .lst l => (intsOf l).map fun ns => .lst ((isort ns).map .int)
  | _ => none
def rSort1 (K : PySem.W.Frag) : V → Hp → VK → Prop := fun v H Q => rSortedI K [v] H Q
section
variable {T : Th}
theorem ok_sort : UnOk T (rSort1 T.K) hSort := by
  intro g H x z v sx e hd Q q
  cases x <;> simp only [hSort] at e <;> first | cases e | skip
  rename_i l
  obtain ⟨ns, en, e⟩ := Option.map_eq_some_iff.mp e
  subst e
  obtain ⟨a, vs, rfl, la, ra⟩ := shr_lst.mp sx
  obtain ⟨h1, h2⟩ := intsOf_map en ra
  subst h1
  refine ⟨a, ns, rfl, .of la.1, fun ms p hp hs hn => ?_⟩
  rw [isort_eq hs hp]
  refine q _ _ (Exx.new hn) ?_
  refine shr_lst.mpr ⟨p, _, rfl, ⟨upd_same, fun u => ?_⟩, shrL_int _⟩
  obtain ⟨o, ho⟩ := hd p u
  rw [hn] at ho; cases ho
end
end Q

/-! list(), tuple(), sum(), any(), all(), int(), str(), join, split, index, is None. -/
namespace Q
open PySem PySem.Spec PyProof.Rows L2
abbrev r1 (r : List V → Hp → VK → Prop) : V → Hp → VK → Prop := fun v H Q => r [v] H Q
abbrev r2 (r : List V → Hp → VK → Prop) : R2 := fun v w H Q => r [v, w] H Q
section
variable {T : Th}
abbrev rListOf (K : PySem.W.Frag) : List V → Hp → VK → Prop := fun xs H Q => ∃ p ys, xs = [V.ref p] ∧ (SqL K H p ys ∨ SqT K H p ys) ∧ ∀ l, H l = none → Q (.ref l) (upd H l (.lst ys))
abbrev rTupOf (K : PySem.W.Frag) : List V → Hp → VK → Prop := fun xs H Q => ∃ p ys, xs = [V.ref p] ∧ ((SqL K H p ys ∧ ∀ l, H l = none → Q (.ref l) (upd H l (.tup ys))) ∨ (SqT K H p ys ∧ Q (.ref p) H))
def hList : D → Option D
  | .lst l => some (.lst l)
  | .scr l => some (.lst l)
  | .tup l => some (.lst l)
  | _ => none
theorem ok_list : UnOk T (r1 (rListOf T.K)) hList := by
  intro g H x z v sx e hd Q q
  cases x <;> simp only [hList] at e <;> cases e
  · obtain ⟨a, vs, rfl, la, ra⟩ := shr_tup.mp sx
    exact ⟨a, vs, rfl, .inr la.sq, fun p hp => q _ _ (Exx.new hp) (shr_newL ra hp hd)⟩
  · obtain ⟨a, vs, rfl, la, ra⟩ := shr_lst.mp sx
    exact ⟨a, vs, rfl, .inl (.of la.1), fun p hp => q _ _ (Exx.new hp) (shr_newL ra hp hd)⟩
  · obtain ⟨a, vs, rfl, la, ra⟩ := shr_scr.mp sx
    exact ⟨a, vs, rfl, .inl la.sq, fun p hp => q _ _ (Exx.new hp) (shr_newL ra hp hd)⟩
def hTuple : D → Option D
  | .lst l => some (.tup l)
  | .scr l => some (.tup l)
  | .tup l => some (.tup l)
  | _ => none
theorem ok_tuple : UnOk T (r1 (rTupOf T.K)) hTuple := by
  intro g H x z v sx e hd Q q
  cases x <;> simp only [hTuple] at e <;> cases e
  · obtain ⟨a, vs, rfl, la, ra⟩ := shr_tup.mp sx
    exact ⟨a, vs, rfl, .inr ⟨la.sq, q _ H (.refl H) sx⟩⟩
  · obtain ⟨a, vs, rfl, la, ra⟩ := shr_lst.mp sx
    exact ⟨a, vs, rfl, .inl ⟨.of la.1, fun p hp => q _ _ (Exx.new hp) (shr_newT ra hp hd)⟩⟩
  · obtain ⟨a, vs, rfl, la, ra⟩ := shr_scr.mp sx
    exact ⟨a, vs, rfl, .inl ⟨la.sq, fun p hp => q _ _ (Exx.new hp) (shr_newT ra hp hd)⟩⟩
/-! is None -/
theorem isN_none {x y : D} {z : D} (e : hIsN x y = some z) : y = .non := by
  cases y <;> first | rfl | (cases x <;> simp only [hIsN] at e <;> cases e)
theorem ok_isN : OpOk T (fun x y H Q => y = .non ∧ Q (.bl (decide (x = .non))) H) hIsN := by
  intro g H x y z v w sx sy e hd Q q
  have ey := isN_none e
  subst ey
  refine ⟨shr_non.mp sy, ?_⟩
  cases x <;> simp only [hIsN] at e <;> cases e
  · rw [shr_non.mp sx]; exact q _ H (.refl H) (shr_bl.mpr rfl)
  all_goals
    rw [decide_eq_false (shr_ne_non sx (by intro h; cases h) (by intro k h; cases h))]
    exact q _ H (.refl H) (shr_bl.mpr rfl)
theorem notN_none {x y : D} {z : D} (e : hNotN x y = some z) : y = .non := by
  cases y <;> first | rfl | (cases x <;> simp only [hNotN] at e <;> cases e)
theorem ok_notN : OpOk T (fun x y H Q => y = .non ∧ Q (.bl (!decide (x = .non))) H) hNotN := by
  intro g H x y z v w sx sy e hd Q q
  have ey := notN_none e
  subst ey
  refine ⟨shr_non.mp sy, ?_⟩
  cases x <;> simp only [hNotN] at e <;> cases e
  · rw [shr_non.mp sx]; exact q _ H (.refl H) (shr_bl.mpr rfl)
  all_goals
    rw [decide_eq_false (shr_ne_non sx (by intro h; cases h) (by intro k h; cases h))]
    exact q _ H (.refl H) (shr_bl.mpr rfl)
/-! of lists -/
def hSum : D → Option D
  | .lst l => (intsOf l).map fun ns => .int ns.sum
  | _ => none
theorem ok_sum : UnOk T (r1 (rSum T.K)) hSum := by
  intro g H x z v sx e hd Q q
  cases x <;> simp only [hSum] at e <;> first | cases e | skip
  obtain ⟨ns, en, e⟩ := Option.map_eq_some_iff.mp e
  subst e
  obtain ⟨a, vs, rfl, la, ra⟩ := shr_lst.mp sx
  obtain ⟨h1, h2⟩ := intsOf_map en ra
  subst h1
  exact ⟨a, ns, rfl, .of la.1, q _ H (.refl H) (shr_int.mpr rfl)⟩
def blsOf : List D → Option (List Bool)
  | [] => some []
  | .bl i :: r => (blsOf r).map (i :: ·)
  | _ => none
theorem blsOf_map {g : G} {H : Hp} : ∀ {l : List D} {ns : List Bool} {vs : List V}, blsOf l = some ns → ShrL T g H l vs → vs = ns.map V.bl ∧ l = ns.map D.bl
  | [], ns, vs, e, s => by
    cases e
    simp only [ShrL] at s
    subst s
    exact ⟨rfl, rfl⟩
  | d :: r, ns, vs, e, s => by
    cases d <;> simp only [blsOf] at e <;> first | cases e | skip
    rename_i i
    obtain ⟨ms, e1, e2⟩ := Option.map_eq_some_iff.mp e
    subst e2
    simp only [ShrL] at s
    obtain ⟨v, us, rfl, sv, s⟩ := s
    obtain ⟨h1, h2⟩ := blsOf_map e1 s
    rw [shr_bl.mp sv, h1, h2]
    exact ⟨rfl, rfl⟩
def hAny : D → Option D
  | .lst l => (blsOf l).map fun ns => .bl (ns.any id)
  | _ => none
theorem ok_any : UnOk T (r1 (rAny T.K)) hAny := by
  intro g H x z v sx e hd Q q
  cases x <;> simp only [hAny] at e <;> first | cases e | skip
  obtain ⟨ns, en, e⟩ := Option.map_eq_some_iff.mp e
  subst e
  obtain ⟨a, vs, rfl, la, ra⟩ := shr_lst.mp sx
  obtain ⟨h1, h2⟩ := blsOf_map en ra
  subst h1
  exact ⟨a, ns, rfl, .of la.1, q _ H (.refl H) (shr_bl.mpr rfl)⟩
def hAll : D → Option D
  | .lst l => (blsOf l).map fun ns => .bl (ns.all id)
  | _ => none
theorem ok_all : UnOk T (r1 (rAll T.K)) hAll := by
  intro g H x z v sx e hd Q q
  cases x <;> simp only [hAll] at e <;> first | cases e | skip
  obtain ⟨ns, en, e⟩ := Option.map_eq_some_iff.mp e
  subst e
  obtain ⟨a, vs, rfl, la, ra⟩ := shr_lst.mp sx
  obtain ⟨h1, h2⟩ := blsOf_map en ra
  subst h1
  exact ⟨a, ns, rfl, .of la.1, q _ H (.refl H) (shr_bl.mpr rfl)⟩
/-! max, min of two -/
abbrev rMax2 : List V → Hp → VK → Prop := fun xs H Q => ∃ i j, xs = [V.int i, V.int j] ∧ Q (.int (if j > i then j else i)) H
abbrev rMin2 : List V → Hp → VK → Prop := fun xs H Q => ∃ i j, xs = [V.int i, V.int j] ∧ Q (.int (if j < i then j else i)) H
def hMax2 : List D → Option D
  | [.int i, .int j] => some (.int (if j > i then j else i))
  | _ => none
def hMin2 : List D → Option D
  | [.int i, .int j] => some (.int (if j < i then j else i))
  | _ => none
theorem ok_max2 : LsOk T rMax2 hMax2 := by
  intro g H xs z vs s e hd Q q
  match xs, e, s with
  | [.int i, .int j], e, s =>
    simp only [hMax2] at e
    cases e
    simp only [ShrL] at s
    obtain ⟨v, _, rfl, sv, w, _, rfl, sw, rfl⟩ := s
    rw [shr_int.mp sv, shr_int.mp sw]
    exact ⟨i, j, rfl, q _ H (.refl H) (shr_int.mpr rfl)⟩
theorem ok_min2 : LsOk T rMin2 hMin2 := by
  intro g H xs z vs s e hd Q q
  match xs, e, s with
  | [.int i, .int j], e, s =>
    simp only [hMin2] at e
    cases e
    simp only [ShrL] at s
    obtain ⟨v, _, rfl, sv, w, _, rfl, sw, rfl⟩ := s
    rw [shr_int.mp sv, shr_int.mp sw]
    exact ⟨i, j, rfl, q _ H (.refl H) (shr_int.mpr rfl)⟩
/-! texts -/
abbrev rStrI : List V → Hp → VK → Prop := fun xs H Q => ∃ i, xs = [V.int i] ∧ i.natAbs.log2 < 1920 ∧ Q (.str (toString i)) H
def hStr : D → Option D
  | .int i => if i.natAbs.log2 < 1920 then some (.str (toString i)) else none
  | _ => none
theorem ok_str : UnOk T (r1 rStrI) hStr := by
  intro g H x z v sx e hd Q q
  cases x <;> simp only [hStr] at e <;> first | cases e | skip
  split at e
  · rename_i hl
    cases e
    exact ⟨_, by rw [shr_int.mp sx], hl, q _ H (.refl H) (shr_str.mpr rfl)⟩
  · cases e
abbrev rIntS : List V → Hp → VK → Prop := fun xs H Q => ∃ a n, xs = [V.str a] ∧ PySem.intText? a = some n ∧ a.length ≤ 640 ∧ Q (.int n) H
def hIntS : D → Option D
  | .str a => if a.length ≤ 640 then (PySem.intText? a).map .int else none
  | _ => none
theorem ok_intS : UnOk T (r1 rIntS) hIntS := by
  intro g H x z v sx e hd Q q
  cases x <;> simp only [hIntS] at e <;> first | cases e | skip
  split at e
  · rename_i hl
    obtain ⟨n, en, e⟩ := Option.map_eq_some_iff.mp e
    subst e
    exact ⟨_, n, by rw [shr_str.mp sx], en, hl, q _ H (.refl H) (shr_int.mpr rfl)⟩
  · cases e
def strsOf : List D → Option (List Str)
  | [] => some []
  | .str i :: r => (strsOf r).map (i :: ·)
  | _ => none
theorem strsOf_map {g : G} {H : Hp} : ∀ {l : List D} {ns : List Str} {vs : List V}, strsOf l = some ns → ShrL T g H l vs → vs = ns.map V.str ∧ l = ns.map D.str
  | [], ns, vs, e, s => by
    cases e
    simp only [ShrL] at s
    subst s
    exact ⟨rfl, rfl⟩
  | d :: r, ns, vs, e, s => by
    cases d <;> simp only [strsOf] at e <;> first | cases e | skip
    rename_i i
    obtain ⟨ms, e1, e2⟩ := Option.map_eq_some_iff.mp e
    subst e2
    simp only [ShrL] at s
    obtain ⟨v, us, rfl, sv, s⟩ := s
    obtain ⟨h1, h2⟩ := strsOf_map e1 s
    rw [shr_str.mp sv, h1, h2]
    exact ⟨rfl, rfl⟩
theorem shrL_str {g : G} {H : Hp} : ∀ ns : List Str, ShrL T g H (ns.map D.str) (ns.map V.str)
  | [] => .nil
  | n :: r => .cons (shr_str.mpr rfl) (shrL_str r)
/-- a method of a text with one argument -/
abbrev rM1 (r : V → List V → Hp → VK → Prop) : R2 := fun x y H Q => (∃ a, x = .str a) ∧ r x [y] H Q
abbrev rJoin (K : PySem.W.Frag) : V → List V → Hp → VK → Prop := fun x xs H Q => ∃ a p, ∃ ys : List Str, x = .str a ∧ xs = [V.ref p] ∧ (SqL K H p (ys.map V.str) ∨ SqT K H p (ys.map V.str)) ∧
      (ys.map (·.length)).sum + ys.length * a.length ≤ 16777216 ∧ Q (.str (Txt.join a ys)) H
def hJoin : D → D → Option D
  | .str a, .lst l => match strsOf l with
    | some ys => if (ys.map (·.length)).sum + ys.length * a.length ≤ 16777216 then some (.str (Txt.join a ys)) else none
    | none => none
  | _, _ => none
abbrev rSplit : V → List V → Hp → VK → Prop := fun x xs H Q => ∃ a b, x = .str a ∧ xs = [V.str b] ∧ (b.length == 0) = false ∧ a.length + 2 ≤ sizeLine ∧ rNewStrs (Txt.split a b) H Q
def hSplit : D → D → Option D
  | .str a, .str b => if (b.length == 0) = false ∧ a.length ≤ 1000000 then some (.lst ((Txt.split a b).map .str)) else none
  | _, _ => none
theorem ok_split : OpOk T (rM1 rSplit) hSplit := by
  intro g H x y z v w sx sy e hd Q q
  cases x <;> cases y <;> simp only [hSplit] at e <;> first | cases e | skip
  split at e
  · rename_i hl
    cases e
    refine ⟨⟨_, shr_str.mp sx⟩, _, _, shr_str.mp sx, by rw [shr_str.mp sy], hl.1, by rw [sizeLine_eq]; omega, fun p hp => ?_⟩
    exact q _ _ (Exx.new hp) (shr_newL (shrL_str _) hp hd)
  · cases e
abbrev rSIndex : V → List V → Hp → VK → Prop := fun x xs H Q => ∃ a b i rest, x = .str a ∧ xs = [V.str b] ∧ Builtin.Str.occurrences a b 0 a.length 1 = i :: rest ∧ Q (.int (i : Nat)) H
def hSIndex : D → D → Option D
  | .str a, .str b => match Builtin.Str.occurrences a b 0 a.length 1 with
    | i :: _ => some (.int (i : Nat))
    | [] => none
  | _, _ => none
theorem ok_sindex : OpOk T (rM1 rSIndex) hSIndex := by
  intro g H x y z v w sx sy e hd Q q
  cases x <;> cases y <;> simp only [hSIndex] at e <;> first | cases e | skip
  split at e
  · rename_i i rest ho
    cases e
    exact ⟨⟨_, shr_str.mp sx⟩, _, _, i, rest, shr_str.mp sx, by rw [shr_str.mp sy], ho, q _ H (.refl H) (shr_int.mpr rfl)⟩
  · cases e
theorem ok_join : OpOk T (rM1 (rJoin T.K)) hJoin := by
  intro g H x y z v w sx sy e hd Q q
  cases x <;> cases y <;> simp only [hJoin] at e <;> first | cases e | skip
  split at e
  · rename_i ys en
    split at e
    · rename_i hl
      cases e
      obtain ⟨a, vs, rfl, la, ra⟩ := shr_lst.mp sy
      obtain ⟨h1, h2⟩ := strsOf_map en ra
      subst h1
      exact ⟨⟨_, shr_str.mp sx⟩, _, a, ys, shr_str.mp sx, rfl, .inl (.of la.1), hl, q _ H (.refl H) (shr_str.mpr rfl)⟩
    · cases e
  · cases e
end
/-- a method of a text -/
def eM1 (h : D → D → Option D) (a b : FE) : FE := fun ρ S => (a ρ S).bind fun x S1 => match x with
  | .str z => (b ρ S1).bind fun y S2 => .of S2 (h (.str z) y)
  | _ => .no
section
variable {X : Cx} {T : Th} {W : WX} {Γ : List Md}
theorem xe_m1 {e : Expr} {r : V → List V → Hp → VK → Prop} {h : D → D → Option D} {a b : Expr} {A B : FE} (ok : OpOk T (rM1 r) h) (ha : XE X T W Γ a A) (hb : XE X T W Γ b B)
    (he : PE X a (tX T W Γ A) → PE X b (tX T W Γ B) → PE X e (tM1 r (tX T W Γ A) (tX T W Γ B))) : XE X T W Γ e (eM1 h A B) := pe_imp (he ha hb) fun σ H Q ⟨g, ρ, S, R, hg⟩ =>
  ⟨g, ρ, S, R, good_bind hg fun x S1 v g1 H1 _ R1 f1 s1 hg1 => by
    obtain ⟨z, rfl⟩ : ∃ z, x = .str z := by
      cases x <;> first | exact ⟨_, rfl⟩ | exact hg1.elim
    refine ⟨⟨z, shr_str.mp s1⟩, g1, ρ, S1, R1, good_bind hg1 fun y S2 w g2 H2 _ R2 f2 s2 hg2 => ?_⟩
    obtain ⟨z2, ez, hg3⟩ := good_of hg2
    exact (ok g2 H2 _ y z2 v w (s1.stay f2.stay) s2 ez R2.dom Q fun u H' ex su => hg3 u g2 H' (R2.ex ex) (.ex ex) su).2⟩
end
/-! ### fresh copies -/
section
variable {X : Cx} {T : Th} {W : WX} {Γ : List Md}
theorem xf_list {e a : Expr} {A : FE} (hK : X.K = T.K) (ha : XE X T W Γ a A) (he : PE X a (tX T W Γ A) → PE X e (tUn (r1 (rListOf X.K)) (tX T W Γ A))) : XF X T W Γ 1 e (eUn hList A) := pe_imp (he ha) fun σ H Q ⟨g, ρ, S, R, hg⟩ => by
  refine ⟨g, ρ, S, R, ?_⟩
  unfold eUn at hg
  cases r : A ρ S with
  | no => rw [r] at hg; exact hg
  | exc x S1 => rw [r] at hg; exact hg
  | ok d S1 =>
    rw [r] at hg
    intro v g1 H1 R1 f1 s1
    have hg : GoodN T W Γ 1 ρ σ g H (RE.of S1 (hList d)) Q := hg
    have fin : ∀ (l : List D) (vs : List V) (p : Addr), hList d = some (.lst l) → ShrL T g1 H1 l vs → H1 p = none → Q (.ref p) (upd H1 p (.lst vs)) := fun l vs p e sl hp => by
      rw [e] at hg
      refine hg _ g1 _ (· = p) (R1.fresh hp fun _ => ⟨nofun, fun _ => nofun⟩) (f1.trans (.ex (Exx.new hp))) (fun a z => ⟨(R1.fresh_out hp a z).1, ?_⟩) (R1.fresh_lst hp sl)
      rw [z]; exact f1.none hp
    cases d <;> simp only [hList] at hg fin <;> first | exact hg.elim | skip
    · obtain ⟨a, vs, rfl, la, ra⟩ := shr_tup.mp s1
      exact ⟨a, vs, rfl, by rw [hK]; exact .inr la.sq, fun p hp => fin _ vs p rfl ra hp⟩
    · obtain ⟨a, vs, rfl, la, ra⟩ := shr_lst.mp s1
      exact ⟨a, vs, rfl, .inl (.of la.1), fun p hp => fin _ vs p rfl ra hp⟩
    · obtain ⟨a, vs, rfl, la, ra⟩ := shr_scr.mp s1
      exact ⟨a, vs, rfl, by rw [hK]; exact .inl la.sq, fun p hp => fin _ vs p rfl ra hp⟩
end
end Q

/-! More rows for reckoning: owned lists, equality of plain data, comprehensions. -/
namespace Q
open PySem PySem.Spec PyProof.Rows L2
/-! ### plain data: no truths, no dicts; n levels at most -/
mutual
def plD : Nat → D → Bool
  | _, .non => true
  | _, .int _ => true
  | _, .str x => PyData.canLay0 (.str x)
  | n + 1, .tup l => plL n l
  | n + 1, .lst l => plL n l
  | _, _ => false
def plL : Nat → List D → Bool
  | _, [] => true
  | n, d :: r => plD n d && plL n r
end
mutual
theorem plD_py : ∀ (n : Nat) (d : D), plD n d = true → ∃ p, toPy d = some p ∧ p.canLay0 = true ∧ p.depth ≤ n
  | _, .non, _ => ⟨.none, by simp only [toPy], rfl, Nat.zero_le _⟩
  | _, .int i, _ => ⟨.int i, by simp only [toPy], rfl, Nat.zero_le _⟩
  | n, .str x, h => ⟨.str x, by simp only [toPy], by cases n <;> simpa only [plD] using h, by cases n <;> exact Nat.zero_le _⟩
  | 0, .tup l, h => by simp only [plD] at h; cases h
  | n + 1, .tup l, h => by
    simp only [plD] at h
    obtain ⟨ps, h1, h2, h3⟩ := plL_py n l h
    exact ⟨.tuple ps, by simp only [toPy, h1, Option.map_some], by simpa only [PyData.canLay0] using h2, by simp only [PyData.depth]; omega⟩
  | 0, .lst l, h => by simp only [plD] at h; cases h
  | n + 1, .lst l, h => by
    simp only [plD] at h
    obtain ⟨ps, h1, h2, h3⟩ := plL_py n l h
    exact ⟨.list ps, by simp only [toPy, h1, Option.map_some], by simpa only [PyData.canLay0] using h2, by simp only [PyData.depth]; omega⟩
  | 0, .bl _, h => by simp only [plD] at h; cases h
  | n + 1, .bl _, h => by simp only [plD] at h; cases h
  | 0, .scr _, h => by simp only [plD] at h; cases h
  | n + 1, .scr _, h => by simp only [plD] at h; cases h
  | 0, .dct _, h => by simp only [plD] at h; cases h
  | n + 1, .dct _, h => by simp only [plD] at h; cases h
  | 0, .obj _, h => by simp only [plD] at h; cases h
  | n + 1, .obj _, h => by simp only [plD] at h; cases h
  | 0, .fn _ _, h => by simp only [plD] at h; cases h
  | n + 1, .fn _ _, h => by simp only [plD] at h; cases h
  | 0, .gone _, h => by simp only [plD] at h; cases h
  | n + 1, .gone _, h => by simp only [plD] at h; cases h
theorem plL_py : ∀ (n : Nat) (l : List D), plL n l = true → ∃ ps, toPyL l = some ps ∧ PyData.canLayAll0 ps = true ∧ PyData.depthAll ps ≤ n
  | _, [], _ => ⟨[], by simp only [toPyL], rfl, Nat.zero_le _⟩
  | n, d :: r, h => by
    simp only [plL, Bool.and_eq_true] at h
    obtain ⟨p, h1, h2, h3⟩ := plD_py n d h.1
    obtain ⟨ps, k1, k2, k3⟩ := plL_py n r h.2
    refine ⟨p :: ps, by simp only [toPyL, h1, k1], by simp only [PyData.canLayAll0, h2, k2, Bool.and_self], ?_⟩
    simp only [PyData.depthAll]
    omega
end
mutual
theorem eqv_pl : ∀ (n m : Nat) (d e : D) (p q : PyData), plD n d = true → plD m e = true → toPy d = some p → toPy e = some q → (PyData.eqv p q = true ↔ d = e) := by
  intro n m d e p q hd he hp hq
  cases d with
  | non => simp only [toPy] at hp; cases hp; cases e <;> simp only [toPy] at hq <;> first | (cases hq; done) | (cases n <;> cases m <;> simp only [plD] at he hd <;> first | (cases he; done) | (obtain ⟨_, _, rfl⟩ := Option.map_eq_some_iff.mp hq; simp [PyData.eqv]) | (cases hq; simp [PyData.eqv]))
  | int i => simp only [toPy] at hp; cases hp; cases e <;> simp only [toPy] at hq <;> first | (cases hq; done) | (cases n <;> cases m <;> simp only [plD] at he hd <;> first | (cases he; done) | (obtain ⟨_, _, rfl⟩ := Option.map_eq_some_iff.mp hq; simp [PyData.eqv]) | (cases hq; simp [PyData.eqv]))
  | str i => simp only [toPy] at hp; cases hp; cases e <;> simp only [toPy] at hq <;> first | (cases hq; done) | (cases n <;> cases m <;> simp only [plD] at he hd <;> first | (cases he; done) | (obtain ⟨_, _, rfl⟩ := Option.map_eq_some_iff.mp hq; simp [PyData.eqv]) | (cases hq; simp [PyData.eqv]))
  | tup l =>
    cases n with
    | zero => simp only [plD] at hd; cases hd
    | succ n =>
      simp only [plD] at hd
      simp only [toPy] at hp
      obtain ⟨ps, h1, rfl⟩ := Option.map_eq_some_iff.mp hp
      cases e with
      | tup k =>
        cases m with
        | zero => simp only [plD] at he; cases he
        | succ m =>
          simp only [plD] at he
          simp only [toPy] at hq
          obtain ⟨qs, k1, rfl⟩ := Option.map_eq_some_iff.mp hq
          simp only [PyData.eqv, D.tup.injEq]
          exact eqvL_pl n m l k ps qs hd he h1 k1
      | _ => cases m <;> simp only [plD] at he <;> first | (cases he; done) | (simp only [toPy] at hq; first | (cases hq; simp [PyData.eqv]) | (obtain ⟨_, _, rfl⟩ := Option.map_eq_some_iff.mp hq; simp [PyData.eqv]))
  | lst l =>
    cases n with
    | zero => simp only [plD] at hd; cases hd
    | succ n =>
      simp only [plD] at hd
      simp only [toPy] at hp
      obtain ⟨ps, h1, rfl⟩ := Option.map_eq_some_iff.mp hp
      cases e with
      | lst k =>
        cases m with
        | zero => simp only [plD] at he; cases he
        | succ m =>
          simp only [plD] at he
          simp only [toPy] at hq
          obtain ⟨qs, k1, rfl⟩ := Option.map_eq_some_iff.mp hq
          simp only [PyData.eqv, D.lst.injEq]
          exact eqvL_pl n m l k ps qs hd he h1 k1
      | _ => cases m <;> simp only [plD] at he <;> first | (cases he; done) | (simp only [toPy] at hq; first | (cases hq; simp [PyData.eqv]) | (obtain ⟨_, _, rfl⟩ := Option.map_eq_some_iff.mp hq; simp [PyData.eqv]))
  | _ => cases n <;> simp only [plD] at hd <;> cases hd
termination_by n m d e p q => sizeOf d
theorem eqvL_pl : ∀ (n m : Nat) (l k : List D) (ps qs : List PyData), plL n l = true → plL m k = true → toPyL l = some ps → toPyL k = some qs → (PyData.eqvAll ps qs = true ↔ l = k) := by
  intro n m l k ps qs hl hk hp hq
  cases l with
  | nil =>
    simp only [toPyL] at hp; cases hp
    cases k with
    | nil => simp only [toPyL] at hq; cases hq; simp [PyData.eqvAll]
    | cons e r =>
      simp only [toPyL] at hq
      split at hq
      · cases hq; simp [PyData.eqvAll]
      · cases hq
  | cons d l =>
    simp only [toPyL] at hp
    split at hp
    · rename_i p ps' e1 e2
      cases hp
      simp only [plL, Bool.and_eq_true] at hl
      cases k with
      | nil => simp only [toPyL] at hq; cases hq; simp [PyData.eqvAll]
      | cons e r =>
        simp only [toPyL] at hq
        split at hq
        · rename_i q qs' f1 f2
          cases hq
          simp only [plL, Bool.and_eq_true] at hk
          simp only [PyData.eqvAll, Bool.and_eq_true, List.cons.injEq]
          exact and_congr (eqv_pl n m d e p q hl.1 hk.1 e1 f1) (eqvL_pl n m l r ps' qs' hl.2 hk.2 e2 f2)
        · cases hq
    · cases hp
termination_by n m l k ps qs => sizeOf l
end
theorem hEq_pl {x y : D} (hx : plD 60 x = true) (hy : plD 60 y = true) : ∃ b, hEq x y = some (.bl b) ∧ hNe x y = some (.bl !b) ∧ (b = true ↔ x = y) := by
  obtain ⟨p, p1, p2, p3⟩ := plD_py 60 x hx
  obtain ⟨q, q1, q2, q3⟩ := plD_py 60 y hy
  have sp : SeqAt.shaped p = true := by unfold SeqAt.shaped; rw [p2, decide_eq_true (by omega)]; rfl
  have sq : SeqAt.shaped q = true := by unfold SeqAt.shaped; rw [q2, decide_eq_true (by omega)]; rfl
  refine ⟨PyData.eqv p q, ?_, ?_, eqv_pl 60 60 x y p q hx hy p1 q1⟩
  · unfold hEq; rw [p1, q1]; exact if_pos ⟨sp, sq⟩
  · unfold hNe; rw [p1, q1]; exact if_pos ⟨sp, sq⟩
theorem hEq_t {x : D} (hx : plD 60 x = true) : hEq x x = some (.bl true) := by
  obtain ⟨b, h1, _, h3⟩ := hEq_pl hx hx
  rw [h3.mpr rfl] at h1
  exact h1
theorem hNe_t {x : D} (hx : plD 60 x = true) : hNe x x = some (.bl false) := by
  obtain ⟨b, _, h1, h3⟩ := hEq_pl hx hx
  rw [h3.mpr rfl] at h1
  exact h1
theorem hEq_f {x y : D} (hx : plD 60 x = true) (hy : plD 60 y = true) (h : x ≠ y) : hEq x y = some (.bl false) := by
  obtain ⟨b, h1, _, h3⟩ := hEq_pl hx hy
  cases b
  · exact h1
  · exact absurd (h3.mp rfl) h
theorem hNe_f {x y : D} (hx : plD 60 x = true) (hy : plD 60 y = true) (h : x ≠ y) : hNe x y = some (.bl true) := by
  obtain ⟨b, _, h1, h3⟩ := hEq_pl hx hy
  cases b
  · exact h1
  · exact absurd (h3.mp rfl) h
theorem plL_of {n : Nat} {l : List D} (h : ∀ d ∈ l, plD n d = true) : plL n l = true := by
  induction l with
  | nil => cases n <;> rfl
  | cons d r ih =>
    have e : plL n (d :: r) = (plD n d && plL n r) := by cases n <;> simp only [plL]
    rw [e, h d List.mem_cons_self, ih fun x hx => h x (List.mem_cons_of_mem _ hx)]
    rfl
theorem plD_int {n : Nat} {i : Int} : plD n (.int i) = true := by cases n <;> rfl
theorem plD_non {n : Nat} : plD n .non = true := by cases n <;> rfl
theorem plD_lst {n : Nat} {l : List D} (h : ∀ d ∈ l, plD n d = true) : plD (n + 1) (.lst l) = true := by simp only [plD]; exact plL_of h
theorem plD_tup {n : Nat} {l : List D} (h : ∀ d ∈ l, plD n d = true) : plD (n + 1) (.tup l) = true := by simp only [plD]; exact plL_of h
theorem plD_ints {ns : List Int} : plD 60 (.lst (ns.map .int)) = true := plD_lst fun d h => by
  obtain ⟨i, _, rfl⟩ := List.mem_map.mp h
  exact plD_int
theorem ints_inj {a b : List Int} : a.map D.int = b.map D.int ↔ a = b := by
  constructor
  · intro h
    have : Function.Injective D.int := fun x y e => by cases e; rfl
    exact (List.map_inj_right (fun x y e => by cases e; rfl)).mp h
  · rintro rfl; rfl
/-- x in a list of ints -/
theorem hIn_ints {k : Int} {ns : List Int} {neg : Bool} : hIn neg (.int k) (.lst (ns.map .int)) = some (.bl (if neg then !decide (k ∈ ns) else decide (k ∈ ns))) := by
  show inL neg (.int k) (ns.map .int) = _
  unfold inL
  have h1 : (ns.map D.int).all flatD = true := by
    rw [List.all_eq_true]
    intro d hd
    obtain ⟨i, _, rfl⟩ := List.mem_map.mp hd
    rfl
  rw [if_pos ⟨rfl, h1⟩]
  have h2 : ((ns.map D.int).any fun y => eqD y (.int k)) = decide (k ∈ ns) := by
    induction ns with
    | nil => simp
    | cons a r ih =>
      rw [List.map_cons, List.any_cons, ih (by
        rw [List.all_eq_true]
        intro d hd
        obtain ⟨i, _, rfl⟩ := List.mem_map.mp hd
        rfl)]
      show ((a == k) || decide (k ∈ r)) = _
      by_cases h : a = k
      · subst h; simp
      · have h' : ¬ k = a := fun z => h z.symm
        simp [h, h']
  rw [h2]
theorem intsOf_ints : ∀ ns : List Int, intsOf (ns.map .int) = some ns
  | [] => rfl
  | n :: r => by rw [List.map_cons, intsOf, intsOf_ints r]; rfl
theorem blsOf_bls : ∀ ns : List Bool, blsOf (ns.map .bl) = some ns
  | [] => rfl
  | n :: r => by rw [List.map_cons, blsOf, blsOf_bls r]; rfl
theorem strsOf_strs : ∀ ns : List Str, strsOf (ns.map .str) = some ns
  | [] => rfl
  | n :: r => by rw [List.map_cons, strsOf, strsOf_strs r]; rfl
theorem hSortSet_ints {ns : List Int} (h : ns.length < 63) : hSort (.lst (ns.map .int)) = some (.lst ((isort ns).map .int)) := by
  show (intsOf (ns.map .int)).map _ = _
  rw [intsOf_ints]; rfl
/-! ### owned lists -/
section
variable {ρ : Env} {S : Store} {d z x y : D} {l l' : List D} {o : Option (Option D)}
def mutK (o : Option (Option D)) (ρ : Env) (k : List D → RS) : RS := match o with
  | some (some (.lst l)) => k l
  | _ => .no
def mutR (o : Option (D × List D)) (k : D → List D → RS) : RS := match o with
  | some (z, l') => k z l'
  | none => .no
theorem ev_mut {i : Nat} {h : HM} {a : FL} : fMut i h a ρ S = mutK ρ[i]? ρ fun l => (a ρ S).bindS ρ fun ds S1 => mutR (h l ds) fun _ l' => .nx (ρ.set i (some (.lst l'))) S1 := by
  unfold fMut mutK mutR RL.bindS
  rfl
theorem ev_mutset {j i : Nat} {h : HM} {a : FL} : fMutSet j i h a ρ S = mutK ρ[i]? ρ fun l => (a ρ S).bindS ρ fun ds S1 => mutR (h l ds) fun z l' => .nx ((ρ.set i (some (.lst l'))).set j (some z)) S1 := by
  unfold fMutSet mutK mutR RL.bindS
  rfl
theorem mutK_lst {k : List D → RS} : mutK (some (some (.lst l))) ρ k = k l := rfl
theorem mutR_some {k : D → List D → RS} : mutR (some (z, l')) k = k z l' := rfl
theorem mAppend_lt (h : l.length < 1000000) : mAppend l [d] = some (.non, l ++ [d]) := if_pos h
theorem mExtend_le {m : List D} (h : l.length + m.length ≤ 1000000) : mExtend l [.lst m] = some (.non, l ++ m) := if_pos h
theorem mPop0_cons : mPop0 (d :: l) [.int 0] = some (d, l) := rfl
def flatK (d : D) (S : Store) : RE := if immD d = true then .ok d S else .no
theorem ev_flat {a : FE} : eFlat a ρ S = (a ρ S).bind flatK := rfl
theorem flatK_int {i : Int} : flatK (.int i) S = .ok (.int i) S := if_pos (by simp only [immD])
theorem flatK_bl {i : Bool} : flatK (.bl i) S = .ok (.bl i) S := if_pos (by simp only [immD])
theorem flatK_str {i : Str} : flatK (.str i) S = .ok (.str i) S := if_pos (by simp only [immD])
theorem flatK_non : flatK .non S = .ok .non S := if_pos (by simp only [immD])
def m1K (d : D) (k : Str → RE) : RE := match d with
  | .str z => k z
  | _ => .no
theorem ev_m1 {h : D → D → Option D} {a b : FE} : eM1 h a b ρ S = (a ρ S).bind fun x S1 => m1K x fun z => (b ρ S1).bind fun y S2 => .of S2 (h (.str z) y) := rfl
theorem m1K_str {z : Str} {k : Str → RE} : m1K (.str z) k = k z := rfl
end
/-! ### comprehensions -/
/-- each item by itself, the store stands -/
theorem lcL_eq {tf : D → Env → Option Env} {C E : FE} {ρ : Env} {S : Store} (p : D → Bool) (f : D → D) : ∀ {ds : List D}, (∀ d ∈ ds, ∃ ρ1, tf d ρ = some ρ1 ∧ C ρ1 S = .ok (.bl (p d)) S ∧ (p d = true → E ρ1 S = .ok (f d) S)) →
    lcL tf C E ds ρ S = .ok ((ds.filter p).map f) S
  | [], _ => rfl
  | d :: r, h => by
    obtain ⟨ρ1, h1, h2, h3⟩ := h d List.mem_cons_self
    have ih := lcL_eq p f (ds := r) fun x hx => h x (List.mem_cons_of_mem _ hx)
    rw [lcL, h1]
    cases hp : p d with
    | true =>
      rw [hp] at h2
      simp only [h2, h3 hp, ih]
      rw [List.filter_cons_of_pos (by rw [hp]), List.map_cons]
    | false =>
      rw [hp] at h2
      simp only [h2, ih]
      rw [List.filter_cons_of_neg (by rw [hp]; decide)]
theorem eLc_eq {it : FL} {vs : List Nat} {tf : D → Env → Option Env} {C E : FE} {ρ : Env} {S S1 : Store} {ds : List D} (p : D → Bool) (f : D → D) (hi : it ρ S = .ok ds S1) (hl : ds.length ≤ 1000000)
    (h : ∀ d ∈ ds, ∃ ρ1, tf d (wipeE ρ vs) = some ρ1 ∧ C ρ1 S1 = .ok (.bl (p d)) S1 ∧ (p d = true → E ρ1 S1 = .ok (f d) S1)) : eLc it vs tf C E ρ S = .ok (.lst ((ds.filter p).map f)) S1 := by
  unfold eLc
  rw [hi]
  simp only [lcL_eq p f h]
  rw [if_pos hl]
end Q

/-! Values of the module. -/
namespace Q
open PySem PySem.Spec PyProof.Rows L2
theorem shr_wrt {T : Th} {g : G} {H : Hp} {a : Addr} {ns : List Int} (h : WrT T.K a (ns.map V.int)) : Shr T g H (.tup (ns.map .int)) (.ref a) := shr_tup.mpr ⟨a, _, rfl, .inr h, shrL_int ns⟩
end Q

/-! Texts of figures. -/
namespace Q
open PySem PySem.Spec PyProof.Rows L2
theorem occ_fig (c : Nat) : Builtin.Str.occurrences ("0123456789" : Str) ⟨#[c]⟩ 0 ("0123456789" : Str).length 1 = if 48 ≤ c ∧ c ≤ 57 then [c - 48] else [] := by
  by_cases h : 48 ≤ c ∧ c ≤ 57
  · rw [if_pos h]
    obtain ⟨h1, h2⟩ := h
    have : c = 48 ∨ c = 49 ∨ c = 50 ∨ c = 51 ∨ c = 52 ∨ c = 53 ∨ c = 54 ∨ c = 55 ∨ c = 56 ∨ c = 57 := by omega
    rcases this with e | e | e | e | e | e | e | e | e | e <;> subst e <;> decide +kernel
  · rw [if_neg h]
    refine PySem.W.occ_nil_of_no _ _ 1 fun i hi => ?_
    have hi : i + 1 ≤ 10 := hi
    have key : ∀ k : Nat, ¬ c = k → ((#[k] : Array Nat) == #[c]) = false := fun k hk => by
      simp
      omega
    have : i = 0 ∨ i = 1 ∨ i = 2 ∨ i = 3 ∨ i = 4 ∨ i = 5 ∨ i = 6 ∨ i = 7 ∨ i = 8 ∨ i = 9 := by omega
    rcases this with e | e | e | e | e | e | e | e | e | e <;> subst e
    · exact key 48 (by omega)
    · exact key 49 (by omega)
    · exact key 50 (by omega)
    · exact key 51 (by omega)
    · exact key 52 (by omega)
    · exact key 53 (by omega)
    · exact key 54 (by omega)
    · exact key 55 (by omega)
    · exact key 56 (by omega)
    · exact key 57 (by omega)
def dig (c : Nat) : Bool := decide (48 ≤ c ∧ c ≤ 57)
theorem hIn_fig {neg : Bool} {c : Nat} : hIn neg (.str ⟨#[c]⟩) (.str "0123456789") = some (.bl (if neg = true then !(dig c) else dig c)) := by
  show (if neg then some (D.bl !!(Builtin.Str.occurrences ("0123456789" : Str) ⟨#[c]⟩ 0 ("0123456789" : Str).length 1).isEmpty) else some (D.bl !(Builtin.Str.occurrences ("0123456789" : Str) ⟨#[c]⟩ 0 ("0123456789" : Str).length 1).isEmpty)) = _
  rw [occ_fig]
  unfold dig
  by_cases h : 48 ≤ c ∧ c ≤ 57
  · rw [if_pos h, decide_eq_true h]; cases neg <;> rfl
  · rw [if_neg h, decide_eq_false h]; cases neg <;> rfl
theorem hSIndex_fig {c : Nat} (h : dig c = true) : hSIndex (.str "0123456789") (.str ⟨#[c]⟩) = some (.int ((c - 48 : Nat) : Int)) := by
  show (match Builtin.Str.occurrences ("0123456789" : Str) ⟨#[c]⟩ 0 ("0123456789" : Str).length 1 with | i :: _ => some (D.int (i : Nat)) | [] => none) = _
  rw [occ_fig, if_pos (of_decide_eq_true h)]
/-- the signs of a text -/
def signs (t : Str) : List D := t.cps.toList.map fun c => .str ⟨#[c]⟩
theorem hLen_str {t : Str} (h : t.length ≤ 1000000) : hLen [.str t] = some (.int t.length) := if_pos h
end Q

/-! Texts that are built: their signs, their size. -/
namespace Q
open PySem PySem.Spec PyProof.Rows L2
/-- n signs at most, each a sign -/
def oks (n : Nat) (t : Str) : Prop := (∀ c ∈ t.cps.toList, c < 1114112) ∧ t.cps.toList.length ≤ n
theorem oks_len {n : Nat} {t : Str} (h : oks n t) : t.length ≤ n := by
  have := h.2
  rw [Array.length_toList] at this
  exact this
theorem oks_lay {n : Nat} {t : Str} (h : oks n t) : PyData.canLay0 (.str t) = true := by
  simp only [PyData.canLay0, PyData.strOk]
  rw [Array.all_eq_true_iff_forall_mem]
  intro c hc
  exact decide_eq_true (h.1 c (Array.mem_toList_iff.mpr hc))
theorem oks_mono {n m : Nat} {t : Str} (h : oks n t) (hm : n ≤ m) : oks m t := ⟨h.1, Nat.le_trans h.2 hm⟩
theorem app_list (a b : Str) : (a ++ b).cps.toList = a.cps.toList ++ b.cps.toList := by
  show (a.cps ++ b.cps).toList = _
  exact Array.toList_append
theorem oks_app {n m : Nat} {a b : Str} (ha : oks n a) (hb : oks m b) : oks (n + m) (a ++ b) := by
  unfold oks
  rw [app_list]
  refine ⟨fun c hc => ?_, by rw [List.length_append]; have := ha.2; have := hb.2; omega⟩
  rcases List.mem_append.mp hc with h | h
  · exact ha.1 c h
  · exact hb.1 c h
theorem oks_one {c : Nat} (h : c < 1114112) : oks 1 ⟨#[c]⟩ := ⟨fun d hd => by
  have : d = c := by simpa using hd
  rw [this]; exact h, Nat.le_refl _⟩
theorem oks_cut {n : Nat} {t : Str} (h : oks n t) (lo hi : Option Int) : oks n (cutS t lo hi) := by
  unfold cutS oks
  refine ⟨fun c hc => ?_, ?_⟩
  · exact h.1 c (List.mem_of_mem_drop (List.mem_of_mem_take hc))
  · show ((t.cps.toList.drop _).take _).length ≤ n
    rw [List.length_take, List.length_drop]
    have := h.2
    omega
theorem oks_at {n : Nat} {t : Str} (h : oks n t) (hn : n ≤ 1000000) {i : Nat} (hi : i < t.cps.toList.length) : ∃ s, oks 1 s ∧ hIx (.str t) (.int i) = some (.str s) := by
  refine ⟨⟨#[t.cps.toList[i]]⟩, oks_one (h.1 _ (List.getElem_mem hi)), ?_⟩
  show (if t.length ≤ 1000000 then (atI t.cps.toList (i : Int)).map fun c => D.str ⟨#[c]⟩ else none) = _
  rw [if_pos (by have := oks_len h; omega), atI_nat (List.getElem?_eq_getElem hi)]
  rfl
theorem oks_nil : oks 0 ("" : Str) := by
  refine ⟨fun c hc => ?_, Nat.le_refl _⟩
  cases hc
theorem oks_join : ∀ {l : List Str}, (∀ t ∈ l, oks 1 t) → oks l.length (Str.join "" l)
  | [], _ => oks_nil
  | [x], h => h x List.mem_cons_self
  | x :: y :: r, h => by
    have ih := oks_join (l := y :: r) fun t ht => h t (List.mem_cons_of_mem _ ht)
    have e : Str.join "" (x :: y :: r) = x ++ "" ++ Str.join "" (y :: r) := rfl
    rw [e]
    have := oks_app (oks_app (h x List.mem_cons_self) oks_nil) ih
    refine oks_mono this ?_
    simp
    omega
theorem hAdd_str {a b : Str} (h : a.length + b.length ≤ 1000000) : hAdd (.str a) (.str b) = some (.str (a ++ b)) := if_pos h
theorem hSl_str {z : Str} {lo hi : Option Int} (h : z.length ≤ 1000000) : hSl (.str z) lo hi = some (.str (cutS z lo hi)) := if_pos h
/-- a comprehension without an if, each item some one of a kind -/
theorem lcL_ex {tf : D → Env → Option Env} {C E : FE} {ρ : Env} {S : Store} (Pr : D → Prop) : ∀ {ds : List D}, (∀ d ∈ ds, ∃ ρ1 y, tf d ρ = some ρ1 ∧ C ρ1 S = .ok (.bl true) S ∧ E ρ1 S = .ok y S ∧ Pr y) →
    ∃ ys, lcL tf C E ds ρ S = .ok ys S ∧ ys.length = ds.length ∧ ∀ y ∈ ys, Pr y
  | [], _ => ⟨[], rfl, rfl, fun _ h => nomatch h⟩
  | d :: r, h => by
    obtain ⟨ρ1, y, h1, h2, h3, h4⟩ := h d List.mem_cons_self
    obtain ⟨ys, e, el, ep⟩ := lcL_ex Pr (ds := r) fun x hx => h x (List.mem_cons_of_mem _ hx)
    refine ⟨y :: ys, ?_, by simp [el], fun z hz => ?_⟩
    · rw [lcL, h1]
      simp only [h2, h3, e]
    · rcases List.mem_cons.mp hz with q | q
      · rw [q]; exact h4
      · exact ep z q
theorem eLc_ex {it : FL} {vs : List Nat} {tf : D → Env → Option Env} {C E : FE} {ρ : Env} {S S1 : Store} {ds : List D} (Pr : D → Prop) (hi : it ρ S = .ok ds S1) (hl : ds.length ≤ 1000000)
    (h : ∀ d ∈ ds, ∃ ρ1 y, tf d (wipeE ρ vs) = some ρ1 ∧ C ρ1 S1 = .ok (.bl true) S1 ∧ E ρ1 S1 = .ok y S1 ∧ Pr y) : ∃ ys, eLc it vs tf C E ρ S = .ok (.lst ys) S1 ∧ ys.length = ds.length ∧ ∀ y ∈ ys, Pr y := by
  obtain ⟨ys, e, el, ep⟩ := lcL_ex Pr h
  refine ⟨ys, ?_, el, ep⟩
  unfold eLc
  rw [hi]
  simp only [e]
  rw [if_pos hl]
theorem strs_of {ys : List D} {n : Nat} (h : ∀ y ∈ ys, ∃ s, oks n s ∧ y = .str s) : ∃ l : List Str, ys = l.map D.str ∧ ∀ s ∈ l, oks n s := by
  induction ys with
  | nil => exact ⟨[], rfl, fun _ h => nomatch h⟩
  | cons y r ih =>
    obtain ⟨s, hs, e⟩ := h y List.mem_cons_self
    obtain ⟨l, e2, hl⟩ := ih fun z hz => h z (List.mem_cons_of_mem _ hz)
    refine ⟨s :: l, by rw [e, e2]; rfl, fun z hz => ?_⟩
    rcases List.mem_cons.mp hz with q | q
    · rw [q]; exact hs
    · exact hl z q
/-- "".join of signs -/
theorem hJoin_signs {l : List Str} (h : ∀ s ∈ l, oks 1 s) (hl : l.length ≤ 1000) : hJoin (.str "") (.lst (l.map .str)) = some (.str (Str.join "" l)) := by
  show (match strsOf (l.map D.str) with | some ys => if (ys.map (fun s : Str => s.length)).sum + ys.length * ("" : Str).length ≤ 16777216 then some (D.str (Txt.join "" ys)) else none | none => none) = _
  rw [strsOf_strs]
  have hs : (l.map (fun s : Str => s.length)).sum ≤ l.length := by
    clear hl
    induction l with
    | nil => exact Nat.le_refl _
    | cons a r ih =>
      rw [List.map_cons, List.sum_cons, List.length_cons]
      have := oks_len (h a List.mem_cons_self)
      have := ih fun s hs => h s (List.mem_cons_of_mem _ hs)
      omega
  have h0 : ("" : Str).length = 0 := rfl
  refine (if_pos (by rw [h0]; omega)).trans ?_
  rw [TL.join_eq]
end Q

/-! Calm readings: nothing is written meanwhile. -/
namespace Q
open PySem PySem.Spec PyProof.Rows L2
/-- nothing is anybody's -/
def G.vv (g : G) : G := { g with O := fun _ => False, F := fun _ _ => False, B := fun _ => False }
theorem G.vv_U {g : G} {a : Addr} : ¬ g.vv.U a := fun h => by
  rcases h with h | ⟨_, h⟩ | h
  · exact h
  · exact h
  · exact h
section
variable {T : Th} {g g' g2 : G} {H H' : Hp}
theorem stay_vv : Stay g H g.vv H := ⟨fun _ _ h _ => h, fun a h => (G.vv_U h).elim, Nat.le_refl _, fun _ _ => rfl, rfl⟩
theorem Shr.vv {d : D} {v : V} (s : Shr T g H d v) : Shr T g.vv H d v := Shr.stay stay_vv _ _ s
theorem shrL_vv {ds : List D} {vs : List V} (s : ShrL T g H ds vs) : ShrL T g.vv H ds vs := ShrL.stay stay_vv _ _ s
end
def GoodC (T : Th) (W : WX) (Γ : List Md) (ρ : Env) (σ : L2.St) (g : G) (S : Store) (H : Hp) : RE → VK → Prop
  | .ok d S', Q => S' = S → ∀ v H', Exx H H' → Shr T g H' d v → Q v H'
  | .exc x S', _ => ∀ c dd g' H', Rel T g' Γ ρ S' σ H' → FrE g H g' H' → ExcR T g' H' x c dd → W c dd σ H'
  | .no, _ => False
def GoodV (T : Th) (W : WX) (Γ : List Md) (ρ : Env) (σ : L2.St) (g : G) (S : Store) (H : Hp) : RE → VK → Prop
  | .ok d S', Q => S' = S → ∀ v H', Exx H H' → Shr T g.vv H' d v → Q v H'
  | .exc x S', _ => ∀ c dd g' H', Rel T g' Γ ρ S' σ H' → FrE g H g' H' → ExcR T g' H' x c dd → W c dd σ H'
  | .no, _ => False
def GoodVL (T : Th) (W : WX) (Γ : List Md) (ρ : Env) (σ : L2.St) (g : G) (S : Store) (H : Hp) : RL → (List V → Hp → Prop) → Prop
  | .ok d S', Q => S' = S → ∀ v H', Exx H H' → ShrL T g.vv H' d v → Q v H'
  | .exc x S', _ => ∀ c dd g' H', Rel T g' Γ ρ S' σ H' → FrE g H g' H' → ExcR T g' H' x c dd → W c dd σ H'
  | .no, _ => False
def GoodCL (T : Th) (W : WX) (Γ : List Md) (ρ : Env) (σ : L2.St) (g : G) (S : Store) (H : Hp) : RL → (List V → Hp → Prop) → Prop
  | .ok d S', Q => S' = S → ∀ v H', Exx H H' → ShrL T g H' d v → Q v H'
  | .exc x S', _ => ∀ c dd g' H', Rel T g' Γ ρ S' σ H' → FrE g H g' H' → ExcR T g' H' x c dd → W c dd σ H'
  | .no, _ => False
def tC1 (T : Th) (W : WX) (Γ : List Md) (F : FE) : TE := fun σ H Q => ∃ g ρ S, Rel T g Γ ρ S σ H ∧ GoodC T W Γ ρ σ g S H (F ρ S) Q
def tV (T : Th) (W : WX) (Γ : List Md) (F : FE) : TE := fun σ H Q => ∃ g ρ S, Rel T g Γ ρ S σ H ∧ GoodV T W Γ ρ σ g S H (F ρ S) Q
def tVL (T : Th) (W : WX) (Γ : List Md) (F : FL) : TA := fun σ H Q => ∃ g ρ S, Rel T g Γ ρ S σ H ∧ GoodVL T W Γ ρ σ g S H (F ρ S) Q
def tCL (T : Th) (W : WX) (Γ : List Md) (F : FL) : TA := fun σ H Q => ∃ g ρ S, Rel T g Γ ρ S σ H ∧ GoodCL T W Γ ρ σ g S H (F ρ S) Q
/-- calm, strict; calm, however it is owned -/
abbrev XC (X : Cx) (T : Th) (W : WX) (Γ : List Md) (e : Expr) (F : FE) : Prop := PE X e (tC1 T W Γ F)
abbrev XV (X : Cx) (T : Th) (W : WX) (Γ : List Md) (e : Expr) (F : FE) : Prop := PE X e (tV T W Γ F)
abbrev XVL (X : Cx) (T : Th) (W : WX) (Γ : List Md) (e : List Expr) (F : FL) : Prop := PA X e (tVL T W Γ F)
abbrev XCL (X : Cx) (T : Th) (W : WX) (Γ : List Md) (e : List Expr) (F : FL) : Prop := PA X e (tCL T W Γ F)
section
variable {X : Cx} {T : Th} {W : WX} {Γ : List Md}
theorem exc_ex {x : Exc} {ρ : Env} {σ : L2.St} {g : G} {H H1 : Hp} {S' : Store} (e : Exx H H1) (h : ∀ c dd g' H', Rel T g' Γ ρ S' σ H' → FrE g H g' H' → ExcR T g' H' x c dd → W c dd σ H') : ∀ c dd g' H', Rel T g' Γ ρ S' σ H' → FrE g H1 g' H' → ExcR T g' H' x c dd → W c dd σ H' :=
  fun c dd g' H' R f q => h c dd g' H' R ((FrE.ex e).trans f) q
/-- .. behind a part -/
theorem goodC_bind {ρ : Env} {σ : L2.St} {g : G} {S : Store} {H : Hp} {r : RE} {k : D → Store → RE} {Q Q' : VK} (h : GoodC T W Γ ρ σ g S H (r.bind k) Q)
    (hk : ∀ d v H', r = .ok d S → Exx H H' → Shr T g H' d v → GoodC T W Γ ρ σ g S H' (k d S) Q → Q' v H') : GoodC T W Γ ρ σ g S H r Q' := by
  cases r with
  | ok d S1 =>
    intro es v H' e s
    subst es
    refine hk d v H' rfl e s ?_
    have h : GoodC T W Γ ρ σ g S1 H (k d S1) Q := h
    cases q : k d S1 with
    | ok d2 S2 => rw [q] at h; exact fun es v2 H2 e2 s2 => h es v2 H2 (e.trans e2) s2
    | exc x S2 => rw [q] at h; exact exc_ex e h
    | no => rw [q] at h; exact h
  | exc x S1 => exact h
  | no => exact h
theorem goodV_bind {ρ : Env} {σ : L2.St} {g : G} {S : Store} {H : Hp} {r : RE} {k : D → Store → RE} {Q Q' : VK} (h : GoodV T W Γ ρ σ g S H (r.bind k) Q)
    (hk : ∀ d v H', r = .ok d S → Exx H H' → Shr T g.vv H' d v → GoodV T W Γ ρ σ g S H' (k d S) Q → Q' v H') : GoodV T W Γ ρ σ g S H r Q' := by
  cases r with
  | ok d S1 =>
    intro es v H' e s
    subst es
    refine hk d v H' rfl e s ?_
    have h : GoodV T W Γ ρ σ g S1 H (k d S1) Q := h
    cases q : k d S1 with
    | ok d2 S2 => rw [q] at h; exact fun es v2 H2 e2 s2 => h es v2 H2 (e.trans e2) s2
    | exc x S2 => rw [q] at h; exact exc_ex e h
    | no => rw [q] at h; exact h
  | exc x S1 => exact h
  | no => exact h
/-- a strict part of a loose whole -/
theorem goodVC_bind {ρ : Env} {σ : L2.St} {g : G} {S : Store} {H : Hp} {r : RE} {k : D → Store → RE} {Q Q' : VK} (h : GoodV T W Γ ρ σ g S H (r.bind k) Q)
    (hk : ∀ d v H', r = .ok d S → Exx H H' → Shr T g H' d v → GoodV T W Γ ρ σ g S H' (k d S) Q → Q' v H') : GoodC T W Γ ρ σ g S H r Q' := by
  cases r with
  | ok d S1 =>
    intro es v H' e s
    subst es
    refine hk d v H' rfl e s ?_
    have h : GoodV T W Γ ρ σ g S1 H (k d S1) Q := h
    cases q : k d S1 with
    | ok d2 S2 => rw [q] at h; exact fun es v2 H2 e2 s2 => h es v2 H2 (e.trans e2) s2
    | exc x S2 => rw [q] at h; exact exc_ex e h
    | no => rw [q] at h; exact h
  | exc x S1 => exact h
  | no => exact h
theorem xe_ofC {e : Expr} {F : FE} (h : XC X T W Γ e F) : XE X T W Γ e F := pe_imp h fun σ H Q ⟨g, ρ, S, R, hg⟩ => by
  refine ⟨g, ρ, S, R, ?_⟩
  cases r : F ρ S with
  | ok d S1 => rw [r] at hg; exact fun es v H' e s => hg v g H' (by subst es; exact R.ex e) (.ex e) s
  | exc x S1 => rw [r] at hg; exact hg
  | no => rw [r] at hg; exact hg
theorem xv_ofC {e : Expr} {F : FE} (h : XC X T W Γ e F) : XV X T W Γ e F := pe_imp h fun σ H Q ⟨g, ρ, S, R, hg⟩ => by
  refine ⟨g, ρ, S, R, ?_⟩
  cases r : F ρ S with
  | ok d S1 => rw [r] at hg; exact fun es v H' e s => hg es v H' e s.vv
  | exc x S1 => rw [r] at hg; exact hg
  | no => rw [r] at hg; exact hg
theorem xc_flat {e : Expr} {F : FE} (h : XV X T W Γ e F) : XC X T W Γ e (eFlat F) := pe_imp h fun σ H Q ⟨g, ρ, S, R, hg⟩ => by
  refine ⟨g, ρ, S, R, ?_⟩
  unfold eFlat at hg
  cases r : F ρ S with
  | ok d S1 =>
    rw [r] at hg
    have hg : GoodC T W Γ ρ σ g S H (if immD d = true then RE.ok d S1 else .no) Q := hg
    split at hg
    · rename_i hd
      exact fun es v H' e s => hg es v H' e (imm_shr (e.nt R.dom R.nt) d v hd s)
    · exact hg.elim
  | exc x S1 => rw [r] at hg; exact hg
  | no => rw [r] at hg; exact hg
theorem xc_of {d : D} {v : V} {e : Expr} (he : PE X e (tC v)) (hs : ∀ g H, Shr T g H d v) : XC X T W Γ e (eC d) := pe_imp he fun σ H Q ⟨g, ρ, S, R, h⟩ => h rfl v H (.refl H) (hs g H)
theorem xc_int {i : Int} {j : Nat} {pos : Pos} : XC X T W Γ (.Constant (.int i) j pos) (eC (.int i)) := xc_of pe_int fun _ _ => by simp only [Shr]
theorem xc_str {x : Str} {j : Nat} {pos : Pos} : XC X T W Γ (.Constant (.str x) j pos) (eC (.str x)) := xc_of pe_str fun _ _ => by simp only [Shr]
theorem xc_bl {b : Bool} {j : Nat} {pos : Pos} : XC X T W Γ (.Constant (.bool b) j pos) (eC (.bl b)) := xc_of pe_bl fun _ _ => by simp only [Shr]
theorem xc_non {j : Nat} {pos : Pos} : XC X T W Γ (.Constant .none j pos) (eC .non) := xc_of pe_non fun _ _ => by simp only [Shr]
theorem xc_var {i : Nat} {e : Expr} (he : PE X e (tVar i)) (hm : Γ.getD i .s = .s) : XC X T W Γ e (eVar i) := pe_imp he fun σ H Q ⟨g, ρ, S, R, h⟩ => by
  have h : GoodC T W Γ ρ σ g S H (match ρ[i]? with | some (some d) => RE.ok d S | _ => .no) Q := h
  split at h
  · rename_i d e
    obtain ⟨v, h1, h2⟩ := R.slot i d e
    rw [hm] at h2
    exact ⟨v, h1, h rfl v H (.refl H) h2⟩
  · exact h.elim
theorem Rel.vvs {g : G} {ρ : Env} {S : Store} {σ : L2.St} {H : Hp} (R : Rel T g Γ ρ S σ H) {i : Nat} {d : D} (e : ρ[i]? = some (some d)) (hm : ∀ v, Γ.getD i .s ≠ .e v) : ∃ v, σ[i]? = some (some v) ∧ Shr T g.vv H d v := by
  obtain ⟨v, h1, h2⟩ := R.slot i d e
  refine ⟨v, h1, ?_⟩
  have no : ∀ F : Addr → Prop, ∀ a, F a → ¬ g.vv.U a := fun _ _ _ => G.vv_U
  cases hq : Γ.getD i .s <;> rw [hq] at h2 <;> simp only [RepM] at h2
  · exact h2.vv
  · exact shr_of_own2 stay_vv _ _ _ _ (no _) h2
  · exact shr_of_own2 stay_vv _ _ _ _ (no _) h2
  · exact shr_of_own2 stay_vv _ _ _ _ (no _) h2.2
  · exact absurd hq (hm _)
  · exact Shr.stay (g := g.bare) (g' := g.vv) ⟨fun _ _ h _ => h, fun a h => (G.vv_U h).elim, Nat.le_refl _, fun _ _ => rfl, rfl⟩ _ _ h2
theorem xv_var {i : Nat} {e : Expr} (he : PE X e (tVar i)) (hm : ∀ v, Γ.getD i .s ≠ .e v) : XV X T W Γ e (eVar i) := pe_imp he fun σ H Q ⟨g, ρ, S, R, h⟩ => by
  have h : GoodV T W Γ ρ σ g S H (match ρ[i]? with | some (some d) => RE.ok d S | _ => .no) Q := h
  split at h
  · rename_i d e
    obtain ⟨v, h1, h2⟩ := R.vvs e hm
    exact ⟨v, h1, h rfl v H (.refl H) h2⟩
  · exact h.elim
theorem goodC_of {ρ : Env} {σ : L2.St} {g : G} {S S0 : Store} {H : Hp} {o : Option D} {Q : VK} (h : GoodC T W Γ ρ σ g S0 H (.of S o) Q) : ∃ d, o = some d ∧ GoodC T W Γ ρ σ g S0 H (.ok d S) Q := by
  cases o with
  | none => exact h.elim
  | some d => exact ⟨d, rfl, h⟩
theorem goodV_of {ρ : Env} {σ : L2.St} {g : G} {S S0 : Store} {H : Hp} {o : Option D} {Q : VK} (h : GoodV T W Γ ρ σ g S0 H (.of S o) Q) : ∃ d, o = some d ∧ GoodV T W Γ ρ σ g S0 H (.ok d S) Q := by
  cases o with
  | none => exact h.elim
  | some d => exact ⟨d, rfl, h⟩
theorem xc_op {e : Expr} {r : R2} {h : D → D → Option D} {a b : Expr} {A B : FE} (ok : OpOk T r h) (ha : XC X T W Γ a A) (hb : XC X T W Γ b B)
    (he : PE X a (tC1 T W Γ A) → PE X b (tC1 T W Γ B) → PE X e (tOp r (tC1 T W Γ A) (tC1 T W Γ B))) : XC X T W Γ e (eOp h A B) := pe_imp (he ha hb) fun σ H Q ⟨g, ρ, S, R, hg⟩ =>
  ⟨g, ρ, S, R, goodC_bind hg fun x v H1 _ e1 s1 hg1 => ⟨g, ρ, S, R.ex e1, goodC_bind hg1 fun y w H2 _ e2 s2 hg2 => by
    obtain ⟨z, ez, hg3⟩ := goodC_of hg2
    exact ok g H2 x y z v w (Shr.stay (.ex e2) _ _ s1) s2 ez ((R.ex e1).ex e2).dom Q fun u H' ex su => hg3 rfl u H' ex su⟩⟩
theorem xv_op {e : Expr} {r : R2} {h : D → D → Option D} {a b : Expr} {A B : FE} (ok : OpOk T r h) (ha : XV X T W Γ a A) (hb : XV X T W Γ b B)
    (he : PE X a (tV T W Γ A) → PE X b (tV T W Γ B) → PE X e (tOp r (tV T W Γ A) (tV T W Γ B))) : XV X T W Γ e (eOp h A B) := pe_imp (he ha hb) fun σ H Q ⟨g, ρ, S, R, hg⟩ =>
  ⟨g, ρ, S, R, goodV_bind hg fun x v H1 _ e1 s1 hg1 => ⟨g, ρ, S, R.ex e1, goodV_bind hg1 fun y w H2 _ e2 s2 hg2 => by
    obtain ⟨z, ez, hg3⟩ := goodV_of hg2
    exact ok g.vv H2 x y z v w (Shr.stay (.ex e2) _ _ s1) s2 ez (fun a u => (G.vv_U u).elim) Q fun u H' ex su => hg3 rfl u H' ex su⟩⟩
theorem xc_un {e : Expr} {r : V → Hp → VK → Prop} {h : D → Option D} {a : Expr} {A : FE} (ok : UnOk T r h) (ha : XC X T W Γ a A) (he : PE X a (tC1 T W Γ A) → PE X e (tUn r (tC1 T W Γ A))) : XC X T W Γ e (eUn h A) := pe_imp (he ha) fun σ H Q ⟨g, ρ, S, R, hg⟩ =>
  ⟨g, ρ, S, R, goodC_bind hg fun x v H1 _ e1 s1 hg1 => by
    obtain ⟨z, ez, hg3⟩ := goodC_of hg1
    exact ok g H1 x z v s1 ez (R.ex e1).dom Q fun u H' ex su => hg3 rfl u H' ex su⟩
theorem xv_un {e : Expr} {r : V → Hp → VK → Prop} {h : D → Option D} {a : Expr} {A : FE} (ok : UnOk T r h) (ha : XV X T W Γ a A) (he : PE X a (tV T W Γ A) → PE X e (tUn r (tV T W Γ A))) : XV X T W Γ e (eUn h A) := pe_imp (he ha) fun σ H Q ⟨g, ρ, S, R, hg⟩ =>
  ⟨g, ρ, S, R, goodV_bind hg fun x v H1 _ e1 s1 hg1 => by
    obtain ⟨z, ez, hg3⟩ := goodV_of hg1
    exact ok g.vv H1 x z v s1 ez (fun a u => (G.vv_U u).elim) Q fun u H' ex su => hg3 rfl u H' ex su⟩
theorem xvl_nil : XVL X T W Γ [] lNil := pa_imp pa_nil fun σ H Q ⟨g, ρ, S, R, hg⟩ => hg rfl [] H (.refl H) .nil
theorem xcl_nil : XCL X T W Γ [] lNil := pa_imp pa_nil fun σ H Q ⟨g, ρ, S, R, hg⟩ => hg rfl [] H (.refl H) .nil
theorem goodVL_ex {ρ : Env} {σ : L2.St} {g : G} {S : Store} {H H1 : Hp} {r : RL} {Q : List V → Hp → Prop} (e : Exx H H1) (h : GoodVL T W Γ ρ σ g S H r Q) : GoodVL T W Γ ρ σ g S H1 r Q := by
  cases r with
  | ok d S' => exact fun es v H' x s => h es v H' (e.trans x) s
  | exc x S' => exact exc_ex e h
  | no => exact h
theorem goodCL_ex {ρ : Env} {σ : L2.St} {g : G} {S : Store} {H H1 : Hp} {r : RL} {Q : List V → Hp → Prop} (e : Exx H H1) (h : GoodCL T W Γ ρ σ g S H r Q) : GoodCL T W Γ ρ σ g S H1 r Q := by
  cases r with
  | ok d S' => exact fun es v H' x s => h es v H' (e.trans x) s
  | exc x S' => exact exc_ex e h
  | no => exact h
theorem xvl_cons {e : Expr} {es : List Expr} {A : FE} {B : FL} (ha : XV X T W Γ e A) (hb : XVL X T W Γ es B) (hx : PE X e (tV T W Γ A) → PA X es (tVL T W Γ B) → PA X (e :: es) (tCons (tV T W Γ A) (tVL T W Γ B))) : XVL X T W Γ (e :: es) (lCons A B) := pa_imp (hx ha hb) fun σ H Q ⟨g, ρ, S, R, hg⟩ => by
  refine ⟨g, ρ, S, R, ?_⟩
  unfold lCons at hg
  cases e : A ρ S with
  | ok x S1 =>
    rw [e] at hg
    intro es v H1 e1 s1
    subst es
    refine ⟨g, ρ, S1, R.ex e1, ?_⟩
    have hg : GoodVL T W Γ ρ σ g S1 H1 (match B ρ S1 with | .ok xs S2 => .ok (x :: xs) S2 | .exc x S2 => .exc x S2 | .no => .no) Q := goodVL_ex e1 hg
    cases e2 : B ρ S1 with
    | ok xs S2 =>
      rw [e2] at hg
      exact fun es vs H2 e3 s2 => hg es (v :: vs) H2 e3 (.cons (Shr.stay (.ex e3) _ _ s1) s2)
    | exc y S2 => rw [e2] at hg; exact hg
    | no => rw [e2] at hg; exact hg
  | exc y S1 => rw [e] at hg; exact hg
  | no => rw [e] at hg; exact hg
theorem xcl_cons {e : Expr} {es : List Expr} {A : FE} {B : FL} (ha : XC X T W Γ e A) (hb : XCL X T W Γ es B) (hx : PE X e (tC1 T W Γ A) → PA X es (tCL T W Γ B) → PA X (e :: es) (tCons (tC1 T W Γ A) (tCL T W Γ B))) : XCL X T W Γ (e :: es) (lCons A B) := pa_imp (hx ha hb) fun σ H Q ⟨g, ρ, S, R, hg⟩ => by
  refine ⟨g, ρ, S, R, ?_⟩
  unfold lCons at hg
  cases e : A ρ S with
  | ok x S1 =>
    rw [e] at hg
    intro es v H1 e1 s1
    subst es
    refine ⟨g, ρ, S1, R.ex e1, ?_⟩
    have hg : GoodCL T W Γ ρ σ g S1 H1 (match B ρ S1 with | .ok xs S2 => .ok (x :: xs) S2 | .exc x S2 => .exc x S2 | .no => .no) Q := goodCL_ex e1 hg
    cases e2 : B ρ S1 with
    | ok xs S2 =>
      rw [e2] at hg
      exact fun es vs H2 e3 s2 => hg es (v :: vs) H2 e3 (.cons (Shr.stay (.ex e3) _ _ s1) s2)
    | exc y S2 => rw [e2] at hg; exact hg
    | no => rw [e2] at hg; exact hg
  | exc y S1 => rw [e] at hg; exact hg
  | no => rw [e] at hg; exact hg
theorem goodVL_then {ρ : Env} {σ : L2.St} {g : G} {H : Hp} {A : FL} {h : List D → Option D} {S : Store} {Q : VK} {Q' : List V → Hp → Prop} (hg : GoodV T W Γ ρ σ g S H (eL h A ρ S) Q)
    (hk : ∀ ds z vs H', h ds = some z → Exx H H' → ShrL T g.vv H' ds vs → GoodV T W Γ ρ σ g S H' (.ok z S) Q → Q' vs H') : GoodVL T W Γ ρ σ g S H (A ρ S) Q' := by
  unfold eL at hg
  cases e : A ρ S with
  | ok ds S' =>
    rw [e] at hg
    intro es vs H' ex s
    subst es
    obtain ⟨z, ez, hg⟩ := goodV_of hg
    exact hk ds z vs H' ez ex s fun es v2 H2 e2 s2 => hg es v2 H2 (ex.trans e2) s2
  | exc x S' => rw [e] at hg; exact hg
  | no => rw [e] at hg; exact hg
theorem goodCL_then {ρ : Env} {σ : L2.St} {g : G} {H : Hp} {A : FL} {h : List D → Option D} {S : Store} {Q : VK} {Q' : List V → Hp → Prop} (hg : GoodC T W Γ ρ σ g S H (eL h A ρ S) Q)
    (hk : ∀ ds z vs H', h ds = some z → Exx H H' → ShrL T g H' ds vs → GoodC T W Γ ρ σ g S H' (.ok z S) Q → Q' vs H') : GoodCL T W Γ ρ σ g S H (A ρ S) Q' := by
  unfold eL at hg
  cases e : A ρ S with
  | ok ds S' =>
    rw [e] at hg
    intro es vs H' ex s
    subst es
    obtain ⟨z, ez, hg⟩ := goodC_of hg
    exact hk ds z vs H' ez ex s fun es v2 H2 e2 s2 => hg es v2 H2 (ex.trans e2) s2
  | exc x S' => rw [e] at hg; exact hg
  | no => rw [e] at hg; exact hg
theorem xv_L {e : Expr} {r : List V → Hp → VK → Prop} {h : List D → Option D} {as : List Expr} {A : FL} (ok : LsOk T r h) (ha : XVL X T W Γ as A) (he : PA X as (tVL T W Γ A) → PE X e (tCB r (tVL T W Γ A))) : XV X T W Γ e (eL h A) := pe_imp (he ha) fun σ H Q ⟨g, ρ, S, R, hg⟩ =>
  ⟨g, ρ, S, R, goodVL_then hg fun ds z vs H1 ez e1 s1 hg1 => ok g.vv H1 ds z vs s1 ez (fun a u => (G.vv_U u).elim) Q fun u H' ex su => hg1 rfl u H' ex su⟩
theorem xc_L {e : Expr} {r : List V → Hp → VK → Prop} {h : List D → Option D} {as : List Expr} {A : FL} (ok : LsOk T r h) (ha : XCL X T W Γ as A) (he : PA X as (tCL T W Γ A) → PE X e (tCB r (tCL T W Γ A))) : XC X T W Γ e (eL h A) := pe_imp (he ha) fun σ H Q ⟨g, ρ, S, R, hg⟩ =>
  ⟨g, ρ, S, R, goodCL_then hg fun ds z vs H1 ez e1 s1 hg1 => ok g H1 ds z vs s1 ez (R.ex e1).dom Q fun u H' ex su => hg1 rfl u H' ex su⟩
theorem xc_tup {es : List Expr} {A : FL} (ha : XCL X T W Γ es A) {x1} {pos : Pos} : XC X T W Γ (.Tuple es x1 pos) (eTup A) := pe_imp (pe_tup ha) fun σ H Q ⟨g, ρ, S, R, hg⟩ =>
  ⟨g, ρ, S, R, goodCL_then hg fun ds z vs H1 ez e1 s1 hg1 => by
    split at ez
    · rename_i hl
      cases ez
      exact ⟨by rw [← s1.length]; exact sz6 hl, fun p hp => hg1 rfl _ _ (Exx.new hp) (shr_newT s1 hp (R.ex e1).dom)⟩
    · cases ez⟩
theorem xc_lst {es : List Expr} {A : FL} (ha : XCL X T W Γ es A) {pos : Pos} : XC X T W Γ (.List es pos) (eLst A) := pe_imp (pe_lst ha) fun σ H Q ⟨g, ρ, S, R, hg⟩ =>
  ⟨g, ρ, S, R, goodCL_then hg fun ds z vs H1 ez e1 s1 hg1 => by
    split at ez
    · rename_i hl
      cases ez
      exact ⟨by rw [← s1.length]; exact sz6 hl, fun p hp => hg1 rfl _ _ (Exx.new hp) (shr_newL s1 hp (R.ex e1).dom)⟩
    · cases ez⟩
end
end Q

/-! Calls that see no object; fields. -/
namespace Q
open PySem PySem.Spec PyProof.Rows L2
mutual
/-- no object in it -/
def noObj : D → Bool
  | .tup l => noObjL l
  | .lst l => noObjL l
  | .scr l => noObjL l
  | .dct l => noObjK l
  | .obj _ => false
  | .fn _ _ => false
  | _ => true
def noObjL : List D → Bool
  | [] => true
  | d :: r => noObj d && noObjL r
def noObjK : List (D × D) → Bool
  | [] => true
  | (k, d) :: r => noObj k && noObj d && noObjK r
end
section
variable {T : Th} {g g2 : G} {H : Hp}
mutual
theorem noObj_shr (hU : ∀ a, g2.U a → g.U a) (hZ : g2.Z = g.Z) : ∀ (d : D) (v : V), noObj d = true → Shr T g H d v → Shr T g2 H d v
  | .non, _, _, h => by simpa only [Shr] using h
  | .bl _, _, _, h => by simpa only [Shr] using h
  | .int _, _, _, h => by simpa only [Shr] using h
  | .str _, _, _, h => by simpa only [Shr] using h
  | .tup l, v, e, h => by
    simp only [noObj] at e
    simp only [Shr] at h ⊢
    obtain ⟨a, vs, e2, q, r⟩ := h
    exact ⟨a, vs, e2, q.imp (fun z => ⟨z.1, fun u => z.2 (hU _ u)⟩) id, noObj_shrL hU hZ l vs e r⟩
  | .lst l, v, e, h => by
    simp only [noObj] at e
    simp only [Shr] at h ⊢
    obtain ⟨a, vs, e2, q, r⟩ := h
    exact ⟨a, vs, e2, ⟨q.1, fun u => q.2 (hU _ u)⟩, noObj_shrL hU hZ l vs e r⟩
  | .scr l, v, e, h => by
    simp only [noObj] at e
    simp only [Shr] at h ⊢
    obtain ⟨a, vs, e2, q, r⟩ := h
    exact ⟨a, vs, e2, q.imp (fun z => ⟨z.1, fun u => z.2 (hU _ u)⟩) id, noObj_shrL hU hZ l vs e r⟩
  | .dct l, v, e, h => by
    simp only [noObj] at e
    simp only [Shr] at h ⊢
    obtain ⟨a, vs, e2, q, r⟩ := h
    exact ⟨a, vs, e2, ⟨q.1, fun u => q.2 (hU _ u)⟩, noObj_shrK hU hZ l vs e r⟩
  | .obj _, _, e, _ => by simp only [noObj] at e; cases e
  | .fn _ _, _, e, _ => by simp only [noObj] at e; cases e
  | .gone _, _, _, h => by simp only [Shr] at h
theorem noObj_shrL (hU : ∀ a, g2.U a → g.U a) (hZ : g2.Z = g.Z) : ∀ (d : List D) (v : List V), noObjL d = true → ShrL T g H d v → ShrL T g2 H d v
  | [], _, _, h => by simpa only [ShrL] using h
  | d :: ds, vs, e, h => by
    simp only [noObjL, Bool.and_eq_true] at e
    simp only [ShrL] at h ⊢
    obtain ⟨v, ws, e2, q, r⟩ := h
    exact ⟨v, ws, e2, noObj_shr hU hZ d v e.1 q, noObj_shrL hU hZ ds ws e.2 r⟩
theorem noObj_shrK (hU : ∀ a, g2.U a → g.U a) (hZ : g2.Z = g.Z) : ∀ (d : List (D × D)) (v : List (V × V)), noObjK d = true → ShrK T g H d v → ShrK T g2 H d v
  | [], _, _, h => by simpa only [ShrK] using h
  | (k, d) :: ds, vs, e, h => by
    simp only [noObjK, Bool.and_eq_true] at e
    simp only [ShrK] at h ⊢
    obtain ⟨u, v, ws, e2, p, q, r⟩ := h
    exact ⟨u, v, ws, e2, noObj_shr hU hZ k u e.1.1 p, noObj_shr hU hZ d v e.1.2 q, noObj_shrK hU hZ ds ws e.2 r⟩
end
end
/-- all is others', there are no objects -/
def G.zero (g : G) : G := { g with N := 0, O := g.U, F := fun _ _ => False, B := fun _ => False, BF := fun _ _ _ => False }
theorem G.zero_U {g : G} {a : Addr} : g.zero.U a ↔ g.U a := ⟨fun h => h.elim id fun h => h.elim (fun ⟨_, h⟩ => h.elim) False.elim, fun h => .inl h⟩
def eCall0 (Φ : FF) (as : FL) : FE := fun ρ S => match as ρ S with
  | .ok ds S1 => if noObjL ds = true then (match Φ ds [] with
    | .ok d _ [] => .ok d S1
    | _ => .no) else .no
  | .exc x S1 => .exc x S1
  | .no => .no
section
variable {X : Cx} {T : Th} {W : WX} {Γ : List Md}
theorem xc_call0 {k n : Nat} {f : Addr} {fd : FuncData} {ps : List Str} {sg : Sig} {Φ : FF} {e : Expr} {es : List Expr} {A : FL} (F : FnOk X.prog X.w X.K X.mg X.base (L2.CX X.prog X.w) k f fd ps (spD T n sg Φ)) (hm : ∀ i, sg.ms.getD i .s = .s ∨ sg.ms.getD i .s = .l) (hA : ∀ ρ S ds S1, A ρ S = .ok ds S1 → ds.length = n)
    (ha : XCL X T W Γ es A) (he : PA X es (tCL T W Γ A) → PE X e (tCallS (spD T n sg Φ) (WE W) (tCL T W Γ A))) : XC X T W Γ e (eCall0 Φ A) := pe_imp (he ha) fun σ H Q ⟨g, ρ, S, R, hg⟩ => by
  refine ⟨g, ρ, S, R, ?_⟩
  unfold eCall0 at hg
  cases ea : A ρ S with
  | exc x S1 => rw [ea] at hg; exact hg
  | no => rw [ea] at hg; exact hg
  | ok ds S1 =>
    rw [ea] at hg
    intro es vs H1 e1 s1
    subst es
    have hg : GoodC T W Γ ρ σ g S1 H (if noObjL ds = true then (match Φ ds [] with | .ok d _ [] => RE.ok d S1 | _ => .no) else .no) Q := hg
    split at hg
    · rename_i hno
      have R1 := R.ex e1
      refine ⟨by rw [← s1.length]; exact hA ρ S1 ds S1 ea, g.zero, ds, [], ?_, ?_⟩
      · refine ⟨by simp [s1.length], fun i d e => ?_, fun _ _ _ h => h.elim, fun _ _ h => h.elim, fun _ _ h => h.elim, fun _ _ h => h, fun a h => R1.dom a (G.zero_U.mp h), ⟨rfl, fun _ _ h => absurd h (Nat.not_lt_zero _), fun _ h => absurd h (Nat.not_lt_zero _), fun _ _ _ h => h.elim, fun _ _ _ _ _ h => h.elim, fun n o h => by simp at h, fun n o h => by simp at h⟩, fun a h => R1.nt a (G.zero_U.mp h)⟩
        rw [List.getElem?_map] at e
        cases q : ds[i]? with
        | none => rw [q] at e; cases e
        | some d' =>
          rw [q] at e
          cases e
          have s2 := noObj_shrL (g2 := g.zero) (fun a h => G.zero_U.mp h) rfl _ _ hno s1
          obtain ⟨v, h1, h2⟩ := s2.get q
          refine ⟨v, by rw [List.getElem?_map, h1]; rfl, ?_⟩
          rcases hm i with z | z
          · rw [z]; exact h2
          · rw [z]
            exact Shr.stay (g := g.zero) (g' := g.zero.bare) ⟨fun _ _ h _ => h, fun a h => .inl (G.bare_U h), Nat.le_refl _, fun _ _ => rfl, rfl⟩ _ _ h2
      · cases ef : Φ ds [] with
        | no => rw [ef] at hg; exact hg.elim
        | exc x outs S2 => rw [ef] at hg; exact hg.elim
        | ok d outs S2 =>
          rw [ef] at hg
          cases S2 with
          | cons _ _ => exact hg.elim
          | nil =>
            intro v g' H' Fo R' f' nf ho hw
            have ex : Exx H1 H' := fun a o h => f'.keep a o h (by
              by_cases hz : g.zero.O a
              · exact .inr hz
              · exact .inl fun u => hz (by rcases u with u | ⟨_, u⟩ | u <;> first | exact u | exact u.elim))
            have hN : g'.N = 0 := R'.st.N
            have st : Stay (g'.plus Fo) H' g H' := ⟨fun _ _ h _ => h, fun a h => .inl (.inl (.inl (by rw [f'.O]; exact h))), by show g'.N ≤ g.N; rw [hN]; exact Nat.zero_le _, fun n h => absurd (show n < g'.N from h) (by rw [hN]; exact Nat.not_lt_zero _), by
              have : g'.Z = g.zero.Z := f'.Z
              exact this.symm⟩
            refine hg rfl v H' (e1.trans ex) (shr_of_own2 st sg.kr Fo d v (fun a z u => (ho a z).1 u) hw)
    · exact hg.elim
end
/-! ### fields -/
def getF (S : Store) (n : Nat) (f : Str) : Option (Nat × D) := (S[n]?).bind fun o => (o.fs.lookup f).map fun d => (o.cls, d)
theorem lookup_pair {β γ : Type} {f : Str} {d : β} : ∀ {l : List (Str × β)} {m : List (Str × γ)}, m.map (·.1) = l.map (·.1) → l.lookup f = some d → ∃ (j : Nat) (w : γ), l[j]? = some (f, d) ∧ m[j]? = some (f, w) ∧ m.lookup f = some w
  | [], _, _, h => by cases h
  | (k, x) :: l, [], e, _ => by simp at e
  | (k, x) :: l, (k', y) :: m, e, h => by
    simp only [List.map_cons, List.cons.injEq] at e
    obtain ⟨e1, e2⟩ := e
    subst e1
    by_cases hk : f = k'
    · subst hk
      rw [List.lookup_cons_self] at h
      cases h
      exact ⟨0, y, rfl, rfl, by rw [List.lookup_cons_self]⟩
    · have hb : (f == k') = false := beq_eq_false_iff_ne.mpr hk
      rw [List.lookup_cons, hb] at h
      obtain ⟨j, w, h1, h2, h3⟩ := lookup_pair e2 h
      exact ⟨j + 1, w, h1, h2, by rw [List.lookup_cons, hb]; exact h3⟩
section
variable {T : Th} {g : G} {S : Store} {H : Hp} {n : Nat} {f : Str} {c : Nat} {d : D}
theorem SR.fld (r : SR T g S H) (e : getF S n f = some (c, d)) : n < g.N ∧ ∃ dx fs v, H (g.μ n) = some (.ins (T.cA c) dx fs) ∧ fs.lookup f = some v ∧ Own T g H (T.fm c f) (g.BF n f) d v := by
  unfold getF at e
  obtain ⟨o, e1, e2⟩ := Option.bind_eq_some_iff.mp e
  obtain ⟨d', e3, e4⟩ := Option.map_eq_some_iff.mp e2
  cases e4
  refine ⟨by rw [r.N]; exact (List.getElem?_eq_some_iff.mp e1).1, ?_⟩
  obtain ⟨dx, fs, h1, h2, h3⟩ := r.ob n o e1
  obtain ⟨j, w, j1, j2, j3⟩ := lookup_pair h2 e3
  exact ⟨dx, fs, w, h1, j3, h3 j (f, d) (f, w) j1 j2⟩
end
def fldK (fm : Nat → Str → Nat) (cs : List Nat) (f : Str) (x : D) (S : Store) : RE := match x with
  | .obj n => (match getF S n f with
    | some (c, d) => if c ∈ cs ∧ fm c f = 0 then .ok d S else .no
    | none => .no)
  | _ => .no
def fldV (cs : List Nat) (f : Str) (x : D) (S : Store) : RE := match x with
  | .obj n => (match getF S n f with
    | some (c, d) => if c ∈ cs then .ok d S else .no
    | none => .no)
  | _ => .no
def eFld (fm : Nat → Str → Nat) (cs : List Nat) (f : Str) (a : FE) : FE := fun ρ S => (a ρ S).bind fun x S1 => fldK fm cs f x S1
def eFldV (cs : List Nat) (f : Str) (a : FE) : FE := fun ρ S => (a ρ S).bind fun x S1 => fldV cs f x S1
/-- what the classes must say of a field -/
def FldOk (K : PySem.W.Frag) (T : Th) (cs : List Nat) (f : Str) : Prop := ∀ c ∈ cs, Cls K (T.cA c) ∧ NoAttr K (T.cA c) f
section
variable {X : Cx} {T : Th} {W : WX} {Γ : List Md} {fm : Nat → Str → Nat} {cs : List Nat} {f : Str}
theorem fldK_get {x z : D} {S S2 : Store} (h : fldK fm cs f x S = .ok z S2) : ∃ n c, x = .obj n ∧ getF S n f = some (c, z) ∧ c ∈ cs ∧ fm c f = 0 ∧ S2 = S := by
  unfold fldK at h
  split at h
  · rename_i n
    split at h
    · rename_i c d e
      split at h
      · rename_i hc
        cases h
        exact ⟨n, c, rfl, e, hc.1, hc.2, rfl⟩
      · cases h
    · cases h
  · cases h
theorem fldV_get {x z : D} {S S2 : Store} (h : fldV cs f x S = .ok z S2) : ∃ n c, x = .obj n ∧ getF S n f = some (c, z) ∧ c ∈ cs ∧ S2 = S := by
  unfold fldV at h
  split at h
  · rename_i n
    split at h
    · rename_i c d e
      split at h
      · rename_i hc
        cases h
        exact ⟨n, c, rfl, e, hc, rfl⟩
      · cases h
    · cases h
  · cases h
theorem fldK_exc {x : D} {S S2 : Store} {y : Exc} (h : fldK fm cs f x S = .exc y S2) : False := by
  unfold fldK at h
  repeat' split at h
  all_goals cases h
theorem fldV_exc {x : D} {S S2 : Store} {y : Exc} (h : fldV cs f x S = .exc y S2) : False := by
  unfold fldV at h
  repeat' split at h
  all_goals cases h
theorem xe_fld {e a : Expr} {A : FE} (hK : X.K = T.K) (hfm : T.fm = fm) (hc : FldOk X.K T cs f) (ha : XE X T W Γ a A) (he : PE X a (tX T W Γ A) → PE X e (tFld X.K (tX T W Γ A) f)) : XE X T W Γ e (eFld fm cs f A) := pe_imp (he ha) fun σ H Q ⟨g, ρ, S, R, hg⟩ =>
  ⟨g, ρ, S, R, good_bind hg fun x S1 v g1 H1 _ R1 f1 s1 hg1 => by
    cases ez : fldK fm cs f x S1 with
    | no => rw [ez] at hg1; exact hg1.elim
    | exc y S2 => exact (fldK_exc ez).elim
    | ok z S2 =>
      obtain ⟨n, c, rfl, eF, hcs, h0, rfl⟩ := fldK_get ez
      rw [ez] at hg1
      obtain ⟨hn, dx, fs, w, h1, h2, h3⟩ := R1.st.fld eF
      simp only [Shr] at s1
      rw [hfm, h0] at h3
      have h3 : Shr T g1 H1 z w := by simpa only [Own] using h3
      exact ⟨g1.μ n, _, dx, fs, w, s1.2, h1, (hc c hcs).1, (hc c hcs).2, h2, hg1 w g1 H1 R1 (.refl _ _) h3⟩⟩
theorem xc_fld {e a : Expr} {A : FE} (hfm : T.fm = fm) (hc : FldOk X.K T cs f) (ha : XC X T W Γ a A) (he : PE X a (tC1 T W Γ A) → PE X e (tFld X.K (tC1 T W Γ A) f)) : XC X T W Γ e (eFld fm cs f A) := pe_imp (he ha) fun σ H Q ⟨g, ρ, S, R, hg⟩ =>
  ⟨g, ρ, S, R, goodC_bind hg fun x v H1 _ e1 s1 hg1 => by
    cases ez : fldK fm cs f x S with
    | no => rw [ez] at hg1; exact hg1.elim
    | exc y S2 => exact (fldK_exc ez).elim
    | ok z S2 =>
      obtain ⟨n, c, rfl, eF, hcs, h0, rfl⟩ := fldK_get ez
      rw [ez] at hg1
      obtain ⟨hn, dx, fs, w, h1, h2, h3⟩ := (R.ex e1).st.fld eF
      simp only [Shr] at s1
      rw [hfm, h0] at h3
      have h3 : Shr T g H1 z w := by simpa only [Own] using h3
      exact ⟨g.μ n, _, dx, fs, w, s1.2, h1, (hc c hcs).1, (hc c hcs).2, h2, hg1 rfl w H1 (.refl _) h3⟩⟩
theorem xv_fld {e a : Expr} {A : FE} (hc : FldOk X.K T cs f) (ha : XC X T W Γ a A) (he : PE X a (tC1 T W Γ A) → PE X e (tFld X.K (tC1 T W Γ A) f)) : XV X T W Γ e (eFldV cs f A) := pe_imp (he ha) fun σ H Q ⟨g, ρ, S, R, hg⟩ =>
  ⟨g, ρ, S, R, goodVC_bind hg fun x v H1 _ e1 s1 hg1 => by
    cases ez : fldV cs f x S with
    | no => rw [ez] at hg1; exact hg1.elim
    | exc y S2 => exact (fldV_exc ez).elim
    | ok z S2 =>
      obtain ⟨n, c, rfl, eF, hcs, rfl⟩ := fldV_get ez
      rw [ez] at hg1
      obtain ⟨hn, dx, fs, w, h1, h2, h3⟩ := (R.ex e1).st.fld eF
      simp only [Shr] at s1
      exact ⟨g.μ n, _, dx, fs, w, s1.2, h1, (hc c hcs).1, (hc c hcs).2, h2, hg1 rfl w H1 (.refl _) (shr_of_own2 stay_vv _ _ _ _ (fun _ _ => G.vv_U) h3)⟩⟩
end
end Q

/-! Calls with defaults, methods, instances made; fields stored. -/
namespace Q
open PySem PySem.Spec PyProof.Rows L2
section
variable {X : Cx} {CX : CXT} {k : Nat} {f C : Addr} {fd : FuncData} {ps : List Str} {sp : Sp} {E : L2.St → XK} {x m : Str} {p pos apos : Pos} {e o : Expr} {es : List Expr} {ta : TE} {t : TA}
/-- a def that may be called so: sp says what it does of the given arguments, its defaults behind them -/
def Def1 (X : Cx) (f : Addr) (sp : Sp) : Prop := ∃ (k : Nat) (fd : FuncData) (ps : List Str) (ds : List Value) (dvs : List V) (sp0 : Sp), FnOk X.prog X.w X.K X.mg X.base (L2.CX X.prog X.w) k f fd ps sp0 ∧ Room (k + 1) X.A ∧ Binds X.K fd ps ds ∧ Vals dvs ds ∧ ∀ vs H Q E, sp vs H Q E → sp0 (vs ++ dvs) H Q E
theorem def1_run {pins : List (Addr × Obj)} {σ : L2.St} {H : Hp} {s : Shared} {Q : VK} {us : List Value} {vs : List V} (D : Def1 X f sp) (hx : PassesAt (L2.CX X.prog X.w) X σ (E σ)) (I : Inv X pins σ H s) (r : Vals vs us) (h : sp vs H Q (E σ)) :
    wpAny (model X.prog X.w) X.A (call (.ref f) us) (EP X pins σ Q) X.xe s := by
  obtain ⟨k, fd, ps, ds, dvs, sp0, F, hr, hb, hd, hs⟩ := D
  have h0 := hs _ _ _ _ h
  have r2 : Vals (vs ++ dvs) (us ++ ds) := r.append hd
  have hl : (us ++ ds).length = ps.length := by rw [← r2.length]; exact F.len _ _ _ _ h0
  refine wpAny_call (codeAny_mono (F.run X.A X.stack s H ⟨us, []⟩ (us ++ ds) (vs ++ dvs) Q (E σ) (hr.mono (Nat.le_succ _)) I.env0 (hb s us I.kIn hl) r2 h0) fun r s' hq => ?_)
  cases r with
  | ok fl => cases fl with
    | next => exact hq.elim
    | brk => exact hq.elim
    | cont => exact hq.elim
    | ret u => exact I.after hq
  | error e => exact hx pins H s e s' I hq
theorem pe_def (D : Def1 X f sp) (hg : Gl X x) (hm : X.mg x = some (.ref f)) (hk : PySem.W.keepIn X.K (.ref f) = true) (hx : ∀ σ, PassesAt (L2.CX X.prog X.w) X σ (E σ)) (ha : PA X (e :: es) t)
    (hdb : (x == ("__debug__" : Str)) = false := by decide) (he : starEach (e :: es) X.env = (false, eval e X.env) :: starEach es X.env := by rfl) (hpl : (backTo pos (starEach es X.env)).any (·.1) = false := by rfl) :
    PE X (.Call (.Name x p) (e :: es) [] pos) (tCallS sp E t) := ⟨fun pins s σ H Q I h =>
  wpAny_Call_Name_kw (ld_glob I hg hm (PySem.W.callWith_K (h₀ := X.base) I.ok.mod.kin hk (thn (ha.run pos pins s σ H _ I h) fun us s1 ⟨vs, H1, I1, r, q⟩ => ⟨I1.kIn, def1_run D (hx σ) I1 r q⟩) he hpl) hdb)⟩
theorem pe_def0 (D : Def1 X f sp) (hg : Gl X x) (hm : X.mg x = some (.ref f)) (hk : PySem.W.keepIn X.K (.ref f) = true) (hx : ∀ σ, PassesAt (L2.CX X.prog X.w) X σ (E σ)) (hdb : (x == ("__debug__" : Str)) = false := by decide) :
    PE X (.Call (.Name x p) [] [] pos) (tCallS sp E tNil) := ⟨fun pins s σ H Q I h =>
  wpAny_Call_Name_kw (ld_glob I hg hm (PySem.W.callWith_K0 I.kIn hk (def1_run (us := []) D (hx σ) I .nil h)) hdb)⟩
/-- o.m(..): by the object's class -/
def tMethD (m : Str) (Ms : Addr → Sp → Prop) (E : L2.St → XK) (ta : TE) (t : TA) : TE := fun σ H Q => ta σ H fun x H1 => ∃ a C dx fs sp, x = .ref a ∧ H1 a = some (.ins C dx fs) ∧ Ms C sp ∧ fs.lookup m = none ∧ t σ H1 fun vs H2 => sp (x :: vs) H2 Q (E σ)
def MethsOk (X : Cx) (m : Str) (Ms : Addr → Sp → Prop) : Prop := ∀ C sp, Ms C sp → Cls X.K C ∧ ∃ f, Meth X.K C m f ∧ Def1 X f sp
theorem pe_methD {pl : Sem Bool} {Ms : Addr → Sp → Prop} (he : PE X o ta) (M : MethsOk X m Ms) (hx : ∀ σ, PassesAt (L2.CX X.prog X.w) X σ (E σ)) (ha : PA X (e :: es) t)
    (hst : starEach (e :: es) X.env = (false, eval e X.env) :: starEach es X.env := by rfl) (hpl : (backTo pos (starEach es X.env)).any (·.1) = false := by rfl)
    (ht : eval (.Call (.Attribute o m apos) (e :: es) [] pos) X.env = (do
      let ov ← eval o X.env; standAt apos.atName
      let (f, first) ← holding [ov] (getMethod ov m pl)
      callWith pos f first (backTo pos (starEach (e :: es) X.env)) (backToKw pos (keywordEach [] X.env))) := by rfl) :
    PE X (.Call (.Attribute o m apos) (e :: es) [] pos) (tMethD m Ms E ta t) := ⟨fun pins s σ H Q I h => by
  refine PySem.W.methodCall_KW (pl := pl) (thn (he.run pins s σ H _ I h) fun u s1 ⟨x, H1, I1, rx, a, C, dx, fs, sp, ex, ea, ms, l, q⟩ => ?_) ht
  subst ex
  cases (show u = Value.ref a from rx)
  obtain ⟨c, f, hm, D⟩ := M C sp ms
  exact getmeth_ok I1 ea c hm l (PySem.W.callWith_K (first := [.ref a]) (h₀ := X.base) I.ok.mod.kin hm.kp (thn (ha.run pos pins s1 σ H1 _ I1 q) fun us s2 ⟨vs, H2, I2, r, q2⟩ => ⟨I2.kIn, def1_run (us := .ref a :: us) (vs := .ref a :: vs) D (hx σ) I2 (.cons rfl r) q2⟩) hst hpl)⟩
theorem pe_methD0 {pl : Sem Bool} {Ms : Addr → Sp → Prop} (he : PE X o ta) (M : MethsOk X m Ms) (hx : ∀ σ, PassesAt (L2.CX X.prog X.w) X σ (E σ))
    (ht : eval (.Call (.Attribute o m apos) [] [] pos) X.env = (do
      let ov ← eval o X.env; standAt apos.atName
      let (f, first) ← holding [ov] (getMethod ov m pl)
      callWith pos f first (backTo pos (starEach [] X.env)) (backToKw pos (keywordEach [] X.env))) := by rfl) :
    PE X (.Call (.Attribute o m apos) [] [] pos) (tMethD m Ms E ta tNil) := ⟨fun pins s σ H Q I h => by
  refine PySem.W.methodCall_KW (pl := pl) (thn (he.run pins s σ H _ I h) fun u s1 ⟨x, H1, I1, rx, a, C, dx, fs, sp, ex, ea, ms, l, q⟩ => ?_) ht
  subst ex
  cases (show u = Value.ref a from rx)
  obtain ⟨c, f, hm, D⟩ := M C sp ms
  exact getmeth_ok I1 ea c hm l (PySem.W.callWith_K0 (first := [.ref a]) I1.kIn hm.kp (def1_run (us := [.ref a]) (vs := [.ref a]) D (hx σ) I1 (.cons rfl .nil) q))⟩
/-- C(..) -/
def tMakeD (C : Addr) (sp : Sp) (E : L2.St → XK) (t : TA) : TE := fun σ H Q => t σ H fun vs H1 => ∀ x dx, H1 x = none → H1 dx = none → dx ≠ x → sp (.ref x :: vs) (upd (upd H1 dx (.own x)) x (.ins C dx [])) (fun v H2 => v = .non ∧ Q (.ref x) H2) (E σ)
theorem make_runD {pins : List (Addr × Obj)} {σ : L2.St} {H : Hp} {s : Shared} {Q : VK} {us : List Value} {vs : List V} (M : Mk X.K C f) (D : Def1 X f sp) (hx : PassesAt (L2.CX X.prog X.w) X σ (E σ)) (I : Inv X pins σ H s) (r : Vals vs us)
    (h : ∀ x dx, H x = none → H dx = none → dx ≠ x → sp (.ref x :: vs) (upd (upd H dx (.own x)) x (.ins C dx [])) (fun v H2 => v = .non ∧ Q (.ref x) H2) (E σ)) :
    wpAny (model X.prog X.w) X.A (call (.ref C) us) (EP X pins σ Q) X.xe s := by
  obtain ⟨k, fd, ps, ds, dvs, sp0, F, hr, hb, hd, hs⟩ := D
  have hq := hs _ _ _ _ (h (s.heap.objs.size + 1) s.heap.objs.size (I.hok.fresh (Nat.le_succ _)) (I.hok.fresh (Nat.le_refl _)) (Nat.ne_of_lt (Nat.lt_succ_self _)))
  have I2 := Inv.made (C := C) I
  have r2 : Vals (V.ref (s.heap.objs.size + 1) :: vs ++ dvs) (Value.ref (s.heap.objs.size + 1) :: us ++ ds) := Vals.append (.cons rfl r) hd
  have hl : (Value.ref (s.heap.objs.size + 1) :: us ++ ds).length = ps.length := by rw [← r2.length]; exact F.len _ _ _ _ hq
  have go := F.run _ X.stack _ _ ⟨Value.ref (s.heap.objs.size + 1) :: us, []⟩ (Value.ref (s.heap.objs.size + 1) :: us ++ ds) _ _ (E σ) (hr.make C us []) (I2.env0.make C us []) (hb _ (Value.ref (s.heap.objs.size + 1) :: us) I2.kIn hl) r2 hq
  refine wpAny_call (make_map (f := f) I.kIn M.makes M.init (beq_iff_eq.mp M.fn) (codeAny_mono go fun r s' hq' => ?_))
  cases r with
  | ok fl => cases fl with
    | next => exact hq'.elim
    | brk => exact hq'.elim
    | cont => exact hq'.elim
    | ret u =>
      obtain ⟨v, H', I3, rv, ev, q3⟩ := I2.after hq'
      cases ev
      exact ⟨rv, ⟨V.ref (s.heap.objs.size + 1), H', I3, rfl, q3⟩⟩
  | error e => exact hx pins _ _ e s' I2 hq'
theorem pe_makeD1 (M : Mk X.K C f) (D : Def1 X f sp) (hg : Gl X x) (hm : X.mg x = some (.ref C)) (hx : ∀ σ, PassesAt (L2.CX X.prog X.w) X σ (E σ)) (ha : PA X (e :: es) t)
    (hdb : (x == ("__debug__" : Str)) = false := by decide) (he : starEach (e :: es) X.env = (false, eval e X.env) :: starEach es X.env := by rfl) (hpl : (backTo pos (starEach es X.env)).any (·.1) = false := by rfl) :
    PE X (.Call (.Name x p) (e :: es) [] pos) (tMakeD C sp E t) := ⟨fun pins s σ H Q I h =>
  wpAny_Call_Name_kw (ld_glob I hg hm (PySem.W.callWith_K (h₀ := X.base) I.ok.mod.kin M.kp (thn (ha.run pos pins s σ H _ I h) fun us s1 ⟨vs, H1, I1, r, q⟩ => ⟨I1.kIn, make_runD M D (hx σ) I1 r q⟩) he hpl) hdb)⟩
theorem pe_makeD0 (M : Mk X.K C f) (D : Def1 X f sp) (hg : Gl X x) (hm : X.mg x = some (.ref C)) (hx : ∀ σ, PassesAt (L2.CX X.prog X.w) X σ (E σ)) (hdb : (x == ("__debug__" : Str)) = false := by decide) :
    PE X (.Call (.Name x p) [] [] pos) (tMakeD C sp E tNil) := ⟨fun pins s σ H Q I h =>
  wpAny_Call_Name_kw (ld_glob I hg hm (PySem.W.callWith_K0 I.kIn M.kp (make_runD (us := []) M D (hx σ) I .nil h)) hdb)⟩
end
end Q

/-! Calls with defaults, methods, instances made: over the data. -/
namespace Q
open PySem PySem.Spec PyProof.Rows L2
section
variable {X : Cx} {T : Th} {W : WX} {Γ : List Md} {bs : List Bool}
theorem ShrM.app {g : G} {H : Hp} {dd : List D} {dvs : List V} (hd : ∀ g H, ShrL T g H dd dvs) : ∀ {bs : List Bool} {ds : List D} {vs : List V}, ShrM T g H bs ds vs → ShrM T g H bs (ds ++ dd) (vs ++ dvs)
  | bs, [], vs, h => by
    simp only [ShrM] at h
    subst h
    show ShrM T g H bs dd dvs
    have key : ∀ (dd : List D) (dvs : List V) (bs : List Bool), (∀ g H, ShrL T g H dd dvs) → ShrM T g H bs dd dvs := by
      intro dd
      induction dd with
      | nil => intro dvs bs h; have := h g H; simp only [ShrL] at this; simp only [ShrM]; exact this
      | cons d r ih =>
        intro dvs bs h
        have h0 := h g H
        simp only [ShrL] at h0
        obtain ⟨v, ws, rfl, _, _⟩ := h0
        simp only [ShrM]
        refine ⟨v, ws, rfl, ?_, ih ws bs.tail fun g' H' => ?_⟩
        · have h1 := h (if bs.headD false = true then g.bb else g) H
          simp only [ShrL] at h1
          obtain ⟨v', ws', e, s, _⟩ := h1
          cases e
          exact s
        · have h1 := h g' H'
          simp only [ShrL] at h1
          obtain ⟨v', ws', e, _, r'⟩ := h1
          cases e
          exact r'
    exact key dd dvs bs hd
  | bs, d :: ds, vs, h => by
    simp only [ShrM] at h
    obtain ⟨v, ws, rfl, q, r⟩ := h
    show ShrM T g H bs (d :: (ds ++ dd)) (v :: (ws ++ dvs))
    simp only [ShrM]
    exact ⟨v, _, rfl, q, ShrM.app hd r⟩
def RFE (r : RF) : RE := match r with
  | .ok d _ S => .ok d S
  | .exc x _ S => .exc x S
  | .no => .no
/-- from the arguments to the call's promise -/
theorem call_core {n : Nat} {sg : Sig} {Φ : FF} {g g1 : G} {H H1 : Hp} {ρ : Env} {σ : L2.St} {S1 : Store} {ds : List D} {vs : List V} {Q : VK} (R1 : Rel T g1 Γ ρ S1 σ H1) (f1 : FrE g H g1 H1) (s1 : ShrM T g1 H1 bs ds vs) (hm : ∀ i, sg.ms.getD i .s = mdOf (bs.getD i false))
    (hn : ds.length = n) (hg : GoodN T W Γ sg.kr ρ σ g H (RFE (Φ ds S1)) Q) : spD T n sg Φ vs H1 Q (WE W σ) := by
  refine ⟨by rw [← s1.length]; exact hn, g1.callee, ds, S1, rel_argsM R1 s1 hm, ?_⟩
  have npin : ∀ (i k : Nat), sg.ms.getD i .s ≠ .p k := fun i k h => by
    rw [hm] at h
    unfold mdOf at h
    split at h <;> cases h
  cases ef : Φ ds S1 with
  | no => rw [ef] at hg; exact hg
  | ok d outs S2 =>
    rw [ef] at hg
    intro v g' H' Fo R' f' nf ho hw
    have nf' : ∀ i a, ¬ g'.F i a := fun i a z => by
      obtain ⟨k, e⟩ := nf i a z
      exact npin i k e
    obtain ⟨R2, f2, hU⟩ := call_back R1 R' f' nf'
    obtain ⟨R3, out⟩ := call_fresh R1 R' f' nf' ho
    refine hg v (g1.back g') H' Fo R3 (f1.trans f2) (fun a z => ⟨(out a z).1, ?_⟩) ?_
    · rcases (out a z).2 with w | w
      · exact f1.B a w
      · exact f1.none w
    · have st : Stay (g'.plus Fo) H' ((g1.back g').plusF ρ.length Fo) H' := ⟨fun _ _ h _ => h, fun a h => .inl (by
        rcases G.plusF_U.mp h with h | h
        · exact hU a h
        · exact G.plus_U.mpr (.inr h)), Nat.le_refl _, fun _ _ => rfl, rfl⟩
      exact Own.keepF st _ _ _ _ (fun _ _ _ q => q) hw
  | exc x outs S2 =>
    rw [ef] at hg
    intro c dd g' H' R' f' nf ex
    have nf' : ∀ i a, ¬ g'.F i a := fun i a z => by
      obtain ⟨k, e⟩ := nf i a z
      exact npin i k e
    obtain ⟨R2, f2, hU⟩ := call_back R1 (plus_none R') f' nf'
    refine hg c dd (g1.back g') H' R2 (f1.trans f2) ?_
    obtain ⟨e0, e1, e2⟩ := ex
    refine ⟨e0, e1, e2.imp id fun ⟨d, fs, h1, h2, h3, h4, h5⟩ => ⟨d, fs, h1, h2, h3, h4, ?_⟩⟩
    have st : Stay g' H' (g1.back g') H' := ⟨fun _ _ h _ => h, fun a h => .inl (by
      rcases hU a h with (h | h) | h | h
      · exact .inl h
      · exact h.elim
      · exact .inr (.inl h)
      · exact .inr (.inr h)), Nat.le_refl _, fun _ _ => rfl, rfl⟩
    exact ShrL.stay st _ _ h5
/-- the promise, its defaults' values behind -/
def spDD (T : Th) (n : Nat) (sg : Sig) (Φ : FF) (dvs : List V) : Sp := fun vs H Q E => spD T n sg Φ (vs ++ dvs) H Q E
def eCallD (Φ : FF) (dd : List D) (as : FL) : FE := fun ρ S => match as ρ S with
  | .ok ds S1 => RFE (Φ (ds ++ dd) S1)
  | .exc x S1 => .exc x S1
  | .no => .no
theorem xf_callD {n m : Nat} {sg : Sig} {Φ : FF} {e : Expr} {es : List Expr} {A : FL} {dd : List D} {dvs : List V} (hd : ∀ g H, ShrL T g H dd dvs) (hm : ∀ i, sg.ms.getD i .s = mdOf (bs.getD i false)) (hA : ∀ ρ S ds S1, A ρ S = .ok ds S1 → ds.length = m) (hn : m + dd.length = n)
    (ha : XM X T W Γ bs es A) (he : PA X es (tM T W Γ bs A) → PE X e (tCallS (spDD T n sg Φ dvs) (WE W) (tM T W Γ bs A))) : XF X T W Γ sg.kr e (eCallD Φ dd A) := pe_imp (he ha) fun σ H Q ⟨g, ρ, S, R, hg⟩ => by
  refine ⟨g, ρ, S, R, ?_⟩
  unfold eCallD at hg
  cases ea : A ρ S with
  | exc x S1 => rw [ea] at hg; exact hg
  | no => rw [ea] at hg; exact hg
  | ok ds S1 =>
    rw [ea] at hg
    intro vs g1 H1 R1 f1 s1
    exact call_core R1 f1 (s1.app hd) hm (by rw [List.length_append, hA ρ S ds S1 ea]; exact hn) hg
/-! ### methods -/
def methK (m : Str) (tbl : List (Nat × FF)) (dd : List D) (x : D) (S1 : Store) (k : Store → RL) : RE := match x with
  | .obj n => (match S1[n]? with
    | some ob => if (ob.fs.lookup m).isNone = true then (match tbl.lookup ob.cls with
      | some Φ => (match k S1 with
        | .ok ds S2 => RFE (Φ (.obj n :: (ds ++ dd)) S2)
        | .exc y S2 => .exc y S2
        | .no => .no)
      | none => .no) else .no
    | none => .no)
  | _ => .no
def eMeth (m : Str) (tbl : List (Nat × FF)) (dd : List D) (a : FE) (as : FL) : FE := fun ρ S => (a ρ S).bind fun x S1 => methK m tbl dd x S1 (as ρ)
def Ms (T : Th) (tbl : List (Nat × FF)) (n : Nat) (sg : Sig) (dvs : List V) : Addr → Sp → Prop := fun C sp => ∃ c Φ, tbl.lookup c = some Φ ∧ C = T.cA c ∧ sp = spDD T n sg Φ dvs
/-- what a class must say of a method -/
def MethOk (X : Cx) (T : Th) (m : Str) (n : Nat) (sg : Sig) (dvs : List V) (c : Nat) (Φ : FF) : Prop := Cls X.K (T.cA c) ∧ ∃ f, Meth X.K (T.cA c) m f ∧ Def1 X f (spDD T n sg Φ dvs)
def TblOk (X : Cx) (T : Th) (m : Str) (n : Nat) (sg : Sig) (dvs : List V) (tbl : List (Nat × FF)) : Prop := ∀ c Φ, tbl.lookup c = some Φ → MethOk X T m n sg dvs c Φ
theorem tbl_nil {m : Str} {n : Nat} {sg : Sig} {dvs : List V} : TblOk X T m n sg dvs [] := fun _ _ h => by cases h
theorem tbl_cons {m : Str} {n : Nat} {sg : Sig} {dvs : List V} {c : Nat} {Φ : FF} {r : List (Nat × FF)} (h : MethOk X T m n sg dvs c Φ) (hr : TblOk X T m n sg dvs r) : TblOk X T m n sg dvs ((c, Φ) :: r) := fun c' Φ' e => by
  by_cases hc : c' = c
  · subst hc
    rw [List.lookup_cons_self] at e
    cases e
    exact h
  · have hb : (c' == c) = false := beq_eq_false_iff_ne.mpr hc
    rw [List.lookup_cons, hb] at e
    exact hr c' Φ' e
theorem tbl_meths {m : Str} {n : Nat} {sg : Sig} {dvs : List V} {tbl : List (Nat × FF)} (h : TblOk X T m n sg dvs tbl) : MethsOk X m (Ms T tbl n sg dvs) := fun C sp ⟨c, Φ, e, hC, hs⟩ => by
  subst hC hs
  exact h c Φ e
theorem def1_of {n : Nat} {sg : Sig} {Φ : FF} {f : Addr} {k : Nat} {fd : FuncData} {ps : List Str} {ds : List Value} {dvs : List V} (F : FnOk X.prog X.w X.K X.mg X.base (L2.CX X.prog X.w) k f fd ps (spD T n sg Φ)) (hr : Room (k + 1) X.A) (hb : Binds X.K fd ps ds) (hd : Vals dvs ds) : Def1 X f (spDD T n sg Φ dvs) :=
  ⟨k, fd, ps, ds, dvs, _, F, hr, hb, hd, fun _ _ _ _ h => h⟩
theorem goodN_bindE {ρ : Env} {σ : L2.St} {g : G} {H : Hp} {k : Nat} {r : RE} {c : D → Store → RE} {Q Q' : VK} (h : GoodN T W Γ k ρ σ g H (r.bind c) Q)
    (hk : ∀ d S v g' H', r = .ok d S → Rel T g' Γ ρ S σ H' → FrE g H g' H' → Shr T g' H' d v → GoodN T W Γ k ρ σ g H (c d S) Q → Q' v H') : GoodE T W Γ ρ σ g H r Q' := by
  cases r with
  | ok d S => exact fun v g' H' R f s => hk d S v g' H' rfl R f s h
  | exc x S => exact h
  | no => exact h
theorem lookup_off {β γ : Type} {f : Str} : ∀ {l : List (Str × β)} {m : List (Str × γ)}, m.map (·.1) = l.map (·.1) → l.lookup f = none → m.lookup f = none
  | [], [], _, _ => rfl
  | [], _ :: _, e, _ => by simp at e
  | _ :: _, [], e, _ => by simp at e
  | (k, x) :: l, (k', y) :: m, e, h => by
    simp only [List.map_cons, List.cons.injEq] at e
    obtain ⟨e1, e2⟩ := e
    subst e1
    rw [List.lookup_cons] at h ⊢
    cases hb : f == k' with
    | true => rw [hb] at h; cases h
    | false => rw [hb] at h; exact lookup_off e2 h
theorem xf_meth {m : Str} {n j : Nat} {sg : Sig} {dd : List D} {dvs : List V} {tbl : List (Nat × FF)} {e o : Expr} {es : List Expr} {A : FE} {B : FL} (hd : ∀ g H, ShrL T g H dd dvs) (hm : ∀ i, sg.ms.getD i .s = mdOf ((false :: bs).getD i false)) (hB : ∀ ρ S ds S1, B ρ S = .ok ds S1 → ds.length = j) (hn : j + dd.length + 1 = n)
    (M : TblOk X T m n sg dvs tbl) (ho : XE X T W Γ o A) (ha : XM X T W Γ bs es B) (he : PE X o (tX T W Γ A) → MethsOk X m (Ms T tbl n sg dvs) → PA X es (tM T W Γ bs B) → PE X e (tMethD m (Ms T tbl n sg dvs) (WE W) (tX T W Γ A) (tM T W Γ bs B))) : XF X T W Γ sg.kr e (eMeth m tbl dd A B) :=
  pe_imp (he ho (tbl_meths M) ha) fun σ H Q ⟨g, ρ, S, R, hg⟩ => ⟨g, ρ, S, R, goodN_bindE hg fun x S1 v g1 H1 eR R1 f1 s1 hg1 => by
    clear eR
    unfold methK at hg1
    split at hg1
    · rename_i no
      split at hg1
      · rename_i ob e1
        split at hg1
        · rename_i hl
          split at hg1
          · rename_i Φ e2
            simp only [Shr] at s1
            obtain ⟨dx, fs, h1, h2, h3⟩ := R1.st.ob no ob e1
            have hlook : fs.lookup m = none := lookup_off h2 (by simpa using hl)
            refine ⟨g1.μ no, _, dx, fs, _, s1.2, h1, ⟨ob.cls, Φ, e2, rfl, rfl⟩, hlook, g1, ρ, S1, R1, ?_⟩
            cases eb : B ρ S1 with
            | no => rw [eb] at hg1; exact hg1
            | exc y S2 => rw [eb] at hg1; exact fun c dd' g' H' R' f' ex => hg1 c dd' g' H' R' (f1.trans f') ex
            | ok ds S2 =>
              rw [eb] at hg1
              intro vs g2 H2 R2 f2 s2
              refine call_core (bs := false :: bs) R2 (f1.trans f2) (ds := .obj no :: (ds ++ dd)) ?_ hm (by rw [List.length_cons, List.length_append, hB ρ S1 ds S2 eb]; exact hn) hg1
              show ShrM T g2 H2 (false :: bs) (.obj no :: (ds ++ dd)) (v :: (vs ++ dvs))
              simp only [ShrM]
              refine ⟨v, _, rfl, ?_, s2.app hd⟩
              simp only [List.headD_cons, Bool.false_eq_true, if_false, Shr]
              exact ⟨Nat.lt_of_lt_of_le s1.1 f2.N, by rw [f2.μ _ s1.1]; exact s1.2⟩
          · exact hg1.elim
        · exact hg1.elim
      · exact hg1.elim
    · exact hg1.elim⟩
/-! ### instances made -/
def G.newObj (g : G) (x : Addr) : G := { g with N := g.N + 1, μ := fun n => if n = g.N then x else g.μ n, B := fun a => g.B a ∨ a = x }
theorem Rel.newObj {g : G} {ρ : Env} {S : Store} {σ : L2.St} {H : Hp} {c : Nat} {x dx : Addr} (R : Rel T g Γ ρ S σ H) (hx : H x = none) (hdx : H dx = none) (ne : dx ≠ x) :
    Rel T (g.newObj x) Γ ρ (S ++ [⟨c, []⟩]) σ (upd (upd H dx (.own x)) x (.ins (T.cA c) dx [])) ∧ FrE g H (g.newObj x) (upd (upd H dx (.own x)) x (.ins (T.cA c) dx [])) := by
  have e1 : Exx H (upd H dx (.own x)) := Exx.new hdx
  have hx1 : upd H dx (.own x) x = none := by rw [upd_ne ne.symm]; exact hx
  have ex : Exx H (upd (upd H dx (.own x)) x (.ins (T.cA c) dx [])) := e1.trans (Exx.new hx1)
  have np : ∀ a, g.U a → a ≠ x := fun a u z => by
    obtain ⟨o, q⟩ := R.dom a u
    rw [z, hx] at q; cases q
  have ndx : ∀ a, g.U a → a ≠ dx := fun a u z => by
    obtain ⟨o, q⟩ := R.dom a u
    rw [z, hdx] at q; cases q
  have hU : ∀ a, (g.newObj x).U a → g.U a ∨ a = x := fun a u => by
    rcases u with u | u | u | u
    · exact .inl (.inl u)
    · exact .inl (.inr (.inl u))
    · exact .inl (.inr (.inr u))
    · exact .inr u
  have fe : FrE g H (g.newObj x) (upd (upd H dx (.own x)) x (.ins (T.cA c) dx [])) := ⟨fun a o h _ => ex a o h, fun a h => h.imp id fun z => by rw [z]; exact hx, rfl, rfl, rfl, Nat.le_succ _, fun n h => if_neg (Nat.ne_of_lt h), fun a o h => ⟨o, ex a o h⟩⟩
  refine ⟨⟨R.len, fun i d e => ?_, R.dF, R.dFO, fun i a h u => ?_, fun a h u => ?_, fun a u => ?_, ?_, fun a u w r => ?_⟩, fe⟩
  · obtain ⟨v, h1, h2⟩ := R.slot i d e
    refine ⟨v, h1, ?_⟩
    have st := fe.stay
    cases hm : Γ.getD i .s <;> rw [hm] at h2 <;> simp only [RepM] at h2 ⊢
    · exact h2.stay st
    · exact Own.keepF st _ _ _ _ (fun a o z q => ex a o q) h2
    · exact Own.keepF st _ _ _ _ (fun a o z q => ex a o q) h2
    · exact ⟨h2.1, Own.keepF st _ _ _ _ (fun a o z q => ex a o q) h2.2⟩
    · exact h2
    · exact h2.stay fe.bare
  · rcases u with u | u
    · exact R.dFB i a h u
    · exact np a (.inr (.inl ⟨i, h⟩)) u
  · rcases u with u | u
    · exact R.dOB a h u
    · exact np a (.inl h) u
  · rcases hU a u with u | u
    · obtain ⟨o, q⟩ := R.dom a u
      exact ⟨o, ex a o q⟩
    · exact ⟨_, by rw [u]; exact upd_same⟩
  · have st := fe.stay
    have r := R.st
    have hN : g.N = S.length := r.N
    have μo : ∀ n, n < g.N → (g.newObj x).μ n = g.μ n := fun n h => if_neg (Nat.ne_of_lt h)
    have μn : (g.newObj x).μ g.N = x := if_pos rfl
    refine ⟨by show g.N + 1 = _; rw [hN]; simp, fun m n hm hn e => ?_, fun n hn => ?_, fun n f a h => ⟨.inl (r.bB n f a h).1, fun m hm => ?_⟩, r.bd, fun n o e => ?_, fun n o e => ?_⟩
    · have hm : m < g.N + 1 := hm
      have hn : n < g.N + 1 := hn
      by_cases h1 : m = g.N <;> by_cases h2 : n = g.N
      · rw [h1, h2]
      · subst h1
        rw [μn, μo n (by omega)] at e
        exact absurd e.symm (np _ (.inr (.inr (r.mB n (by omega)))))
      · subst h2
        rw [μn, μo m (by omega)] at e
        exact absurd e (np _ (.inr (.inr (r.mB m (by omega)))))
      · rw [μo m (by omega), μo n (by omega)] at e
        exact r.inj m n (by omega) (by omega) e
    · have hn : n < g.N + 1 := hn
      by_cases h2 : n = g.N
      · subst h2; rw [μn]; exact .inr rfl
      · rw [μo n (by omega)]; exact .inl (r.mB n (by omega))
    · have hm : m < g.N + 1 := hm
      by_cases h2 : m = g.N
      · subst h2; rw [μn]; exact np a (.inr (.inr (r.bB n f a h).1))
      · rw [μo m (by omega)]; exact (r.bB n f a h).2 m (by omega)
    · rw [List.getElem?_append] at e
      split at e
      · exact r.nd n o e
      · rename_i h
        cases hk : n - S.length with
        | zero => rw [hk] at e; cases e; exact List.nodup_nil
        | succ j => rw [hk] at e; simp at e
    · by_cases h2 : n < S.length
      · rw [List.getElem?_append_left h2] at e
        obtain ⟨dx', fs, h1, h3, h4⟩ := r.ob n o e
        refine ⟨dx', fs, by rw [μo n (by omega)]; exact ex _ _ h1, h3, fun j d w a b => ?_⟩
        exact Own.keepF st _ _ _ _ (fun a o _ q => ex a o q) (h4 j d w a b)
      · rw [List.getElem?_append_right (by omega)] at e
        cases hk : n - S.length with
        | zero =>
          rw [hk] at e
          cases e
          have : n = g.N := by omega
          subst this
          exact ⟨dx, [], by rw [μn]; exact upd_same, rfl, fun j d w a => by simp at a⟩
        | succ j => rw [hk] at e; simp at e
  · rcases hU a u with u | u
    · exact ex.nt R.dom R.nt a u w r
    · rw [u] at r
      rcases r with r | ⟨b, r⟩
      · rw [upd_same] at r; cases r
      · rw [upd_same] at r; cases r
def makeR (n : Nat) (r : RF) : RE := match r with
  | .ok .non _ S => .ok (.obj n) S
  | .exc x _ S => .exc x S
  | _ => .no
def eMake (c : Nat) (Φ : FF) (dd : List D) (as : FL) : FE := fun ρ S => match as ρ S with
  | .ok ds S1 => makeR S1.length (Φ (.obj S1.length :: (ds ++ dd)) (S1 ++ [⟨c, []⟩]))
  | .exc x S1 => .exc x S1
  | .no => .no
theorem xe_make {n j c : Nat} {sg : Sig} {Φ : FF} {dd : List D} {dvs : List V} {e : Expr} {es : List Expr} {A : FL} (hd : ∀ g H, ShrL T g H dd dvs) (hm : ∀ i, sg.ms.getD i .s = mdOf ((false :: bs).getD i false)) (hA : ∀ ρ S ds S1, A ρ S = .ok ds S1 → ds.length = j) (hn : j + dd.length + 1 = n)
    (ha : XM X T W Γ bs es A) (he : PA X es (tM T W Γ bs A) → PE X e (tMakeD (T.cA c) (spDD T n sg Φ dvs) (WE W) (tM T W Γ bs A))) : XE X T W Γ e (eMake c Φ dd A) := pe_imp (he ha) fun σ H Q ⟨g, ρ, S, R, hg⟩ => by
  refine ⟨g, ρ, S, R, ?_⟩
  unfold eMake at hg
  cases ea : A ρ S with
  | exc x S1 => rw [ea] at hg; exact hg
  | no => rw [ea] at hg; exact hg
  | ok ds S1 =>
    rw [ea] at hg
    intro vs g1 H1 R1 f1 s1 x dx hx hdx ne
    obtain ⟨R2, f2⟩ := R1.newObj (c := c) hx hdx ne
    have hN : g1.N = S1.length := R1.st.N
    refine call_core (bs := false :: bs) R2 (.refl _ _) (ds := .obj S1.length :: (ds ++ dd)) (vs := .ref x :: (vs ++ dvs)) ?_ hm (by rw [List.length_cons, List.length_append, hA ρ S ds S1 ea]; exact hn) ?_
    · show ShrM T _ _ (false :: bs) (.obj S1.length :: (ds ++ dd)) (.ref x :: (vs ++ dvs))
      simp only [ShrM]
      refine ⟨_, _, rfl, ?_, (s1.stayE f2).app hd⟩
      simp only [List.headD_cons, Bool.false_eq_true, if_false, Shr]
      exact ⟨by show S1.length < g1.N + 1; omega, by show V.ref x = V.ref (if S1.length = g1.N then x else _); rw [if_pos hN.symm]⟩
    · have hg : GoodE T W Γ ρ σ g H (makeR S1.length (Φ (.obj S1.length :: (ds ++ dd)) (S1 ++ [⟨c, []⟩]))) Q := hg
      cases ef : Φ (.obj S1.length :: (ds ++ dd)) (S1 ++ [⟨c, []⟩]) with
      | no => rw [ef] at hg; exact hg
      | exc y o S2 => rw [ef] at hg; exact fun c' dd' g' H' R' f' ex => hg c' dd' g' H' R' ((f1.trans f2).trans f') ex
      | ok d o S2 =>
        rw [ef] at hg
        cases d <;> first | exact hg.elim | skip
        intro v g' H' Fo R' f' ho hw
        have hw : Own T (g'.plusF ρ.length Fo) H' sg.kr Fo .non v := hw
        have ev : v = .non := by
          cases hk : sg.kr with
          | zero => rw [hk] at hw; simpa only [Own, Shr] using hw
          | succ k => rw [hk] at hw; simpa only [Own, Shr] using hw
        refine ⟨ev, hg _ g' H' R'.unplus ((f1.trans f2).trans f') ?_⟩
        have lt : S1.length < (g1.newObj x).N := by show S1.length < g1.N + 1; omega
        simp only [Shr]
        exact ⟨Nat.lt_of_lt_of_le lt f'.N, by rw [f'.μ _ lt]; show V.ref x = V.ref (if S1.length = g1.N then x else _); rw [if_pos hN.symm]⟩
end
end Q

/-! Fields stored. -/
namespace Q
open PySem PySem.Spec PyProof.Rows L2
def putD (f : Str) (d : D) : List (Str × D) → List (Str × D)
  | [] => [(f, d)]
  | (g, x) :: r => if g = f then (g, d) :: r else (g, x) :: putD f d r
theorem putD_keys {f : Str} {d : D} {y : V} : ∀ {l : List (Str × D)} {m : List (Str × V)}, m.map (·.1) = l.map (·.1) → (putF f y m).map (·.1) = (putD f d l).map (·.1)
  | [], [], _ => rfl
  | [], _ :: _, e => by simp at e
  | _ :: _, [], e => by simp at e
  | (k, x) :: l, (k', z) :: m, e => by
    simp only [List.map_cons, List.cons.injEq] at e
    obtain ⟨e1, e2⟩ := e
    subst e1
    unfold putD putF
    split
    · simp only [List.map_cons]; rw [e2]
    · simp only [List.map_cons]; rw [putD_keys e2]
theorem putD_mem {f : Str} {d : D} : ∀ {l : List (Str × D)} {k : Str}, k ∈ (putD f d l).map (·.1) → k = f ∨ k ∈ l.map (·.1)
  | [], k, h => by simp [putD] at h; exact .inl h
  | (k', x) :: l, k, h => by
    unfold putD at h
    split at h
    · exact .inr h
    · simp only [List.map_cons, List.mem_cons] at h ⊢
      rcases h with h | h
      · exact .inr (.inl h)
      · rcases putD_mem h with h | h
        · exact .inl h
        · exact .inr (.inr h)
theorem putD_nodup {f : Str} {d : D} : ∀ {l : List (Str × D)}, (l.map (·.1)).Nodup → ((putD f d l).map (·.1)).Nodup
  | [], _ => by simp [putD]
  | (k', x) :: l, h => by
    unfold putD
    split
    · exact h
    · rename_i hk
      simp only [List.map_cons, List.nodup_cons] at h ⊢
      refine ⟨fun z => ?_, putD_nodup h.2⟩
      rcases putD_mem z with z | z
      · exact hk z
      · exact h.1 z
/-- the parts of a list with one field anew -/
theorem put_pair {f : Str} {d : D} {y : V} : ∀ {l : List (Str × D)} {m : List (Str × V)} {j : Nat} {p : Str × D} {q : Str × V}, m.map (·.1) = l.map (·.1) → (l.map (·.1)).Nodup → (putD f d l)[j]? = some p → (putF f y m)[j]? = some q →
    (p = (f, d) ∧ q = (f, y)) ∨ (p.1 ≠ f ∧ l[j]? = some p ∧ m[j]? = some q)
  | [], [], j, p, q, _, _, h1, h2 => by
    cases j with
    | zero => cases h1; cases h2; exact .inl ⟨rfl, rfl⟩
    | succ j => simp [putD] at h1
  | [], _ :: _, _, _, _, e, _, _, _ => by simp at e
  | _ :: _, [], _, _, _, e, _, _, _ => by simp at e
  | (k, x) :: l, (k', z) :: m, j, p, q, e, hn, h1, h2 => by
    simp only [List.map_cons, List.cons.injEq] at e
    obtain ⟨e1, e2⟩ := e
    subst e1
    simp only [List.map_cons, List.nodup_cons] at hn
    unfold putD at h1
    unfold putF at h2
    by_cases hk : k' = f
    · rw [if_pos hk] at h1 h2
      cases j with
      | zero => cases h1; cases h2; rw [hk]; exact .inl ⟨rfl, rfl⟩
      | succ j =>
        refine .inr ⟨fun z => ?_, h1, h2⟩
        have : p ∈ l := List.mem_of_getElem? h1
        exact hn.1 (List.mem_map.mpr ⟨p, this, by rw [z, hk]⟩)
    · rw [if_neg hk] at h1 h2
      cases j with
      | zero => cases h1; exact .inr ⟨hk, rfl, h2⟩
      | succ j =>
        rcases put_pair (j := j) e2 hn.2 h1 h2 with h | ⟨h, h3, h4⟩
        · exact .inl h
        · exact .inr ⟨h, h3, h4⟩
theorem plusF_none {g : G} {n : Nat} : g.plusF n (fun _ => False) = g := by
  unfold G.plusF
  congr 1
  funext j a
  simp
/-- the fresh part becomes a field's -/
def G.putf (g : G) (n : Nat) (f : Str) (Fo : Addr → Prop) : G := { g with B := fun a => g.B a ∨ Fo a, BF := fun m e a => (m = n ∧ e = f ∧ Fo a) ∨ (¬ (m = n ∧ e = f) ∧ g.BF m e a) }
section
variable {T : Th} {Γ : List Md} {g : G} {ρ : Env} {S : Store} {σ : L2.St} {H : Hp} {Fo : Addr → Prop}
theorem Rel.putf {n : Nat} {f : Str} {ob : Ob} {dx : Addr} {fs : List (Str × V)} {d : D} {y : V} (R : Rel T (g.plusF ρ.length Fo) Γ ρ S σ H) (hFo : ∀ a, Fo a → ¬ g.U a) (e1 : S[n]? = some ob) (h1 : H (g.μ n) = some (.ins (T.cA ob.cls) dx fs)) (h2 : fs.map (·.1) = ob.fs.map (·.1))
    (hw : Own T (g.plusF ρ.length Fo) H (T.fm ob.cls f) Fo d y) : Rel T (g.putf n f Fo) Γ ρ (S.set n ⟨ob.cls, putD f d ob.fs⟩) σ (upd H (g.μ n) (.ins (T.cA ob.cls) dx (putF f y fs))) ∧ Stay (g.plusF ρ.length Fo) H (g.putf n f Fo) (upd H (g.μ n) (.ins (T.cA ob.cls) dx (putF f y fs))) := by
  have r := R.st
  have hn : n < g.N := by have : g.N = S.length := r.N; rw [this]; exact (List.getElem?_eq_some_iff.mp e1).1
  have hB : g.B (g.μ n) := r.mB n hn
  have hUU : ∀ a, (g.putf n f Fo).U a → (g.plusF ρ.length Fo).U a := fun a u => by
    rcases u with u | u | u | u
    · exact G.plusF_U.mpr (.inl (.inl u))
    · exact G.plusF_U.mpr (.inl (.inr (.inl u)))
    · exact G.plusF_U.mpr (.inl (.inr (.inr u)))
    · exact G.plusF_U.mpr (.inr u)
  have kp : ∀ a o, a ≠ g.μ n → H a = some o → upd H (g.μ n) (.ins (T.cA ob.cls) dx (putF f y fs)) a = some o := fun a o h e => by rw [upd_ne h]; exact e
  have st : Stay (g.plusF ρ.length Fo) H (g.putf n f Fo) (upd H (g.μ n) (.ins (T.cA ob.cls) dx (putF f y fs))) := ⟨fun a o e hu => kp a o (fun z => hu (by rw [z]; exact .inr (.inr hB))) e, fun a h => .inl (hUU a h), Nat.le_refl _, fun _ _ => rfl, rfl⟩
  have stb : Stay (g.plusF ρ.length Fo).bare H (g.putf n f Fo).bare (upd H (g.μ n) (.ins (T.cA ob.cls) dx (putF f y fs))) := ⟨fun a o e hu => kp a o (fun z => hu (by rw [z]; exact .inr (.inr hB))) e, fun a h => .inl (by
    rcases h with h | ⟨i, h⟩ | h | h
    · exact h.elim
    · exact .inr (.inl ⟨i, .inl h⟩)
    · exact .inr (.inr h)
    · exact .inr (.inl ⟨ρ.length, .inr ⟨rfl, h⟩⟩)), Nat.le_refl _, fun _ _ => rfl, rfl⟩
  refine ⟨⟨R.len, fun i d' e => ?_, fun i j a h h' => R.dF i j a (.inl h) (.inl h'), fun i a h => R.dFO i a (.inl h), fun i a h u => ?_, fun a h u => ?_, fun a u => ?_, ?_, nt_upd (fun a u => R.nt a (hUU a u)) (fun _ => ⟨nofun, fun _ => nofun⟩)⟩, st⟩
  · obtain ⟨v, q1, q2⟩ := R.slot i d' e
    have hi : i < ρ.length := (List.getElem?_eq_some_iff.mp e).1
    refine ⟨v, q1, ?_⟩
    have wF : ∀ a, (g.plusF ρ.length Fo).F i a → (g.putf n f Fo).F i a := fun a z => z.elim id fun z => absurd z.1 (by omega)
    have kF : ∀ a o, (g.plusF ρ.length Fo).F i a → H a = some o → upd H (g.μ n) (.ins (T.cA ob.cls) dx (putF f y fs)) a = some o := fun a o z q => kp a o (fun w => R.dFB i a z (by rw [w]; exact hB)) q
    cases hm : Γ.getD i .s <;> rw [hm] at q2 <;> simp only [RepM] at q2 ⊢
    · exact q2.stay st
    · exact Own.wide _ _ _ _ _ wF (Own.keepF st _ _ _ _ kF q2)
    · exact Own.keepF st _ _ _ _ (fun a o z q => kp a o (fun w => R.dOB a z (by rw [w]; exact hB)) q) q2
    · exact ⟨q2.1, Own.wide _ _ _ _ _ wF (Own.keepF st _ _ _ _ kF q2.2)⟩
    · exact q2
    · exact q2.stay stb
  · rcases u with u | u
    · exact R.dFB i a (.inl h) u
    · exact hFo a u (.inr (.inl ⟨i, h⟩))
  · rcases u with u | u
    · exact R.dOB a h u
    · exact hFo a u (.inl h)
  · by_cases ha : a = g.μ n
    · exact ⟨_, by rw [ha]; exact upd_same⟩
    · obtain ⟨o, q⟩ := R.dom a (hUU a u)
      exact ⟨o, kp a o ha q⟩
  · refine ⟨by show g.N = _; rw [List.length_set]; exact r.N, r.inj, fun m hm => .inl (r.mB m hm), fun m e a h => ?_, fun m e m' e' a h h' => ?_, fun m o e => ?_, fun m o e => ?_⟩
    · rcases h with h | h
      · exact ⟨.inr h.2.2, fun m' hm' z => hFo a h.2.2 (by rw [z]; exact .inr (.inr (r.mB m' hm')))⟩
      · exact ⟨.inl (r.bB m e a h.2).1, (r.bB m e a h.2).2⟩
    · rcases h with h | h <;> rcases h' with h' | h'
      · exact ⟨h.1.trans h'.1.symm, h.2.1.trans h'.2.1.symm⟩
      · exact absurd (.inr (.inr (r.bB m' e' a h'.2).1)) (hFo a h.2.2)
      · exact absurd (.inr (.inr (r.bB m e a h.2).1)) (hFo a h'.2.2)
      · exact r.bd m e m' e' a h.2 h'.2
    · by_cases hm : n = m
      · subst hm
        rw [List.getElem?_set_self (by rw [← r.N]; exact hn)] at e
        cases e
        exact putD_nodup (r.nd n ob e1)
      · rw [List.getElem?_set_ne hm] at e
        exact r.nd m o e
    · by_cases hm : n = m
      · subst hm
        rw [List.getElem?_set_self (by rw [← r.N]; exact hn)] at e
        cases e
        refine ⟨dx, putF f y fs, upd_same, putD_keys h2, fun j p q a b => ?_⟩
        rcases put_pair h2 (r.nd n ob e1) a b with ⟨rfl, rfl⟩ | ⟨hp, a', b'⟩
        · refine Own.wide _ Fo _ _ _ (fun a z => .inl ⟨rfl, rfl, z⟩) ?_
          exact Own.keepF st _ _ _ _ (fun a o z q => kp a o (fun w => hFo a z (by rw [w]; exact .inr (.inr hB))) q) hw
        · obtain ⟨dx', fs', k1, k2, k3⟩ := r.ob n ob e1
          have : HO.ins (T.cA ob.cls) dx' fs' = .ins (T.cA ob.cls) dx fs := Option.some.inj ((show H (g.μ n) = _ from k1).symm.trans h1)
          cases this
          have hw' := k3 j p q a' b'
          refine Own.wide _ (g.BF n p.1) _ _ _ (fun a z => .inr ⟨fun w => hp w.2, z⟩) ?_
          exact Own.keepF st _ _ _ _ (fun a o z q => kp a o ((r.bB n p.1 a z).2 n hn) q) hw'
      · rw [List.getElem?_set_ne hm] at e
        obtain ⟨dx', fs', k1, k2, k3⟩ := r.ob m o e
        have hmN : m < g.N := by have : g.N = S.length := r.N; rw [this]; exact (List.getElem?_eq_some_iff.mp e).1
        refine ⟨dx', fs', kp _ _ (fun w => hm (r.inj n m hn hmN w.symm)) k1, k2, fun j p q a b => ?_⟩
        refine Own.wide _ (g.BF m p.1) _ _ _ (fun a z => .inr ⟨fun w => hm w.1.symm, z⟩) ?_
        exact Own.keepF st _ _ _ _ (fun a o z q => kp a o ((r.bB m p.1 a z).2 n hn) q) (k3 j p q a b)
end
def fldPut (fm : Nat → Str → Nat) (cs : List Nat) (k : Nat) (f : Str) (x d : D) (ρ : Env) (S : Store) : RS := match x with
  | .obj n => (match S[n]? with
    | some ob => if ob.cls ∈ cs ∧ fm ob.cls f = k ∧ ob.fs.length < 1000 then .nx ρ (S.set n ⟨ob.cls, putD f d ob.fs⟩) else .no
    | none => .no)
  | _ => .no
def fFld (fm : Nat → Str → Nat) (cs : List Nat) (k : Nat) (f : Str) (o e : FE) : FS := fun ρ S => (e ρ S).bindS ρ fun d S1 => (o ρ S1).bindS ρ fun x S2 => fldPut fm cs k f x d ρ S2
section
variable {X : Cx} {T : Th} {J : Jd} {Γ : List Md} {fm : Nat → Str → Nat} {cs : List Nat} {f : Str}
theorem fld_core {g g1 : G} {ρ : Env} {S2 : Store} {σ : L2.St} {H H1 : Hp} {Fo : Addr → Prop} {k : Nat} {x d : D} {v y : V} {D : Ends} (hfm : T.fm = fm) (hc : FldOk X.K T cs f) (R1 : Rel T (g1.plusF ρ.length Fo) Γ ρ S2 σ H1) (f1 : FrS g H g1 H1) (ho : ∀ a, Fo a → ¬ g1.U a ∧ (g.U a ∨ H a = none))
    (hw : Own T (g1.plusF ρ.length Fo) H1 k Fo d y) (sx : Shr T (g1.plusF ρ.length Fo) H1 x v) (hg : GoodS T J Γ g H (fldPut fm cs k f x d ρ S2) D) :
    ∃ a C dx fs, v = .ref a ∧ H1 a = some (.ins C dx fs) ∧ Cls X.K C ∧ NoAttr X.K C f ∧ fs.length < 1000 ∧ D.nx σ (upd H1 a (.ins C dx (putF f y fs))) := by
  unfold fldPut at hg
  split at hg
  · rename_i n
    split at hg
    · rename_i ob e1
      split at hg
      · rename_i hh
        obtain ⟨hcs, hk, hl⟩ := hh
        simp only [Shr] at sx
        obtain ⟨dx, fs, h1, h2, h3⟩ := R1.st.ob n ob e1
        have hw : Own T (g1.plusF ρ.length Fo) H1 (T.fm ob.cls f) Fo d y := by rw [hfm, hk]; exact hw
        obtain ⟨R2, st⟩ := R1.putf (fun a z => (ho a z).1) e1 h1 h2 hw
        refine ⟨g1.μ n, _, dx, fs, sx.2, h1, (hc _ hcs).1, (hc _ hcs).2, by
          have := congrArg List.length h2
          rw [List.length_map, List.length_map] at this
          omega, hg σ _ _ R2 ?_⟩
        have hB : g1.B (g1.μ n) := R1.st.mB n sx.1
        have f2 : FrS g1 H1 (g1.putf n f Fo) (upd H1 (g1.μ n) (.ins (T.cA ob.cls) dx (putF f y fs))) → True := fun _ => trivial
        refine ⟨fun a o e hu => ?_, fun a u => ?_, f1.O, f1.P, f1.N, f1.μ, fun a o e => ?_⟩
        · have e' := f1.keep a o e hu
          have : a ≠ g1.μ n := fun w => by
            rcases hu with hu | hu
            · exact f1.stay.off e hu (by rw [w]; exact .inr (.inr hB))
            · exact R1.dOB a (show g1.O a by rw [f1.O]; exact hu) (by rw [w]; exact hB)
          rw [upd_ne this]; exact e'
        · rcases u with u | u | u | u
          · exact f1.own a (.inl u)
          · exact f1.own a (.inr (.inl u))
          · exact f1.own a (.inr (.inr u))
          · exact (ho a u).2
        · obtain ⟨o', e'⟩ := f1.dom a o e
          by_cases ha : a = g1.μ n
          · exact ⟨_, by rw [ha]; exact upd_same⟩
          · exact ⟨o', by rw [upd_ne ha]; exact e'⟩
      · exact hg.elim
    · exact hg.elim
  · exact hg.elim
/-- o.f = e, e a fresh value -/
theorem xs_fldF {k : Nat} {o e : Expr} {A B : FE} {st : Stmt} (hfm : T.fm = fm) (hc : FldOk X.K T cs f) (hx : J.ΓX Γ) (ho : XC X T J.W Γ o A) (hv : XF X T J.W Γ k e B) (he : PE X o (tC1 T J.W Γ A) → PE X e (tN T J.W Γ k B) → PS X st (sFld X.K (tC1 T J.W Γ A) (tN T J.W Γ k B) f)) : XS X T J Γ Γ st (fFld fm cs k f A B) := ps_imp (he ho hv) fun D σ H ⟨g, ρ, S, R, hg⟩ => by
  refine ⟨g, ρ, S, R, ?_⟩
  unfold fFld at hg
  cases r : B ρ S with
  | no => rw [r] at hg; exact hg
  | exc x S1 => rw [r] at hg; exact fun c dd g' H' R' f' e => hg Γ c dd σ g' H' hx R' (f'.frs R.dOB) e
  | ok d S1 =>
    rw [r] at hg
    intro y g1 H1 Fo R1 f1 hfo hw
    refine ⟨g1.plusF ρ.length Fo, ρ, S1, R1, ?_⟩
    replace hg : GoodS T J Γ g H ((A ρ S1).bindS ρ fun x S2 => fldPut fm cs k f x d ρ S2) D := hg
    cases r2 : A ρ S1 with
    | no => rw [r2] at hg; exact hg
    | exc x S2 =>
      rw [r2] at hg
      intro c dd g' H' R' f' e
      refine hg Γ c dd σ g' H' hx R' ?_ e
      have f1' := f1.frs R.dOB
      have f2' := f'.frs R1.dOB
      refine ⟨fun a o e hu => ?_, fun a u => ?_, ?_, ?_, ?_, ?_, ?_⟩
      · refine f2'.keep a o (f1'.keep a o e hu) ?_
        rcases hu with hu | hu
        · refine .inl fun w => ?_
          rcases G.plusF_U.mp w with w | w
          · exact f1'.stay.off e hu w
          · rcases (hfo a w).2 with z | z
            · exact hu (.inr (.inr z))
            · rw [e] at z; cases z
        · exact .inr (by show g1.O a; rw [f1.O]; exact hu)
      · rcases f2'.own a u with w | w
        · rcases G.plusF_U.mp w with w | w
          · exact f1'.own a w
          · exact (hfo a w).2.imp (fun z => .inr (.inr z)) id
        · cases e : H a with
          | none => exact .inr rfl
          | some o =>
            obtain ⟨o', e'⟩ := f1.dom a o e
            rw [w] at e'; cases e'
      · exact f2'.O.trans f1.O
      · exact f2'.P.trans f1.P
      · exact Nat.le_trans f1.N f2'.N
      · exact fun n h => (f2'.μ n (Nat.lt_of_lt_of_le h f1.N)).trans (f1.μ n h)
      · intro a o e
        obtain ⟨o', e'⟩ := f1.dom a o e
        exact f2'.dom a o' e'
    | ok x S2 =>
      rw [r2] at hg
      intro es v H2 e2 sx
      subst es
      have R2 := R1.ex e2
      have f2 : FrS g H g1 H2 := (f1.frs R.dOB).trans ((FrE.ex e2).frs (fun a h => R1.dOB a h))
      exact fld_core hfm hc R2 f2 (fun a z => ⟨(hfo a z).1, (hfo a z).2.imp (fun z => .inr (.inr z)) id⟩) (Own.keepF (.ex e2) _ _ _ _ (fun a o _ q => e2 a o q) hw) sx hg
/-- o.f = e, e shared -/
theorem xs_fldS {o e : Expr} {A B : FE} {st : Stmt} (hfm : T.fm = fm) (hc : FldOk X.K T cs f) (hx : J.ΓX Γ) (ho : XC X T J.W Γ o A) (hv : XE X T J.W Γ e B) (he : PE X o (tC1 T J.W Γ A) → PE X e (tX T J.W Γ B) → PS X st (sFld X.K (tC1 T J.W Γ A) (tX T J.W Γ B) f)) : XS X T J Γ Γ st (fFld fm cs 0 f A B) := ps_imp (he ho hv) fun D σ H ⟨g, ρ, S, R, hg⟩ => by
  refine ⟨g, ρ, S, R, ?_⟩
  unfold fFld at hg
  cases r : B ρ S with
  | no => rw [r] at hg; exact hg
  | exc x S1 => rw [r] at hg; exact fun c dd g' H' R' f' e => hg Γ c dd σ g' H' hx R' (f'.frs R.dOB) e
  | ok d S1 =>
    rw [r] at hg
    intro y g1 H1 R1 f1 sy
    refine ⟨g1, ρ, S1, R1, ?_⟩
    replace hg : GoodS T J Γ g H ((A ρ S1).bindS ρ fun x S2 => fldPut fm cs 0 f x d ρ S2) D := hg
    cases r2 : A ρ S1 with
    | no => rw [r2] at hg; exact hg
    | exc x S2 => rw [r2] at hg; exact fun c dd g' H' R' f' e => hg Γ c dd σ g' H' hx R' ((f1.trans f').frs R.dOB) e
    | ok x S2 =>
      rw [r2] at hg
      intro es v H2 e2 sx
      subst es
      have R2 := R1.ex e2
      have f2 : FrS g H g1 H2 := (f1.trans (.ex e2)).frs R.dOB
      refine fld_core (Fo := fun _ => False) (k := 0) hfm hc (by rw [plusF_none]; exact R2) f2 (fun a z => z.elim) ?_ (by rw [plusF_none]; exact sx) hg
      rw [plusF_none]
      simp only [Own]
      exact Shr.stay (.ex e2) _ _ sy
end
end Q

/-! Places: a part of what is owned. -/
namespace Q
open PySem PySem.Spec PyProof.Rows L2
/-- from a value down to a part of it -/
def Focus (T : Th) (H : Hp) : List Nat → D → V → D → V → Prop
  | [], d, v, d', v' => d' = d ∧ v' = v
  | j :: js, .lst l, v, d', v' => ∃ p vs d1 w, v = .ref p ∧ H p = some (.lst vs) ∧ l[j]? = some d1 ∧ vs[j]? = some w ∧ Focus T H js d1 w d' v'
  | j :: js, .dct l, v, d', v' => ∃ p kd w, v = .ref p ∧ (∃ kvs, DRep T H p l kvs) ∧ (∀ kvs, DRep T H p l kvs → ∃ u, kvs[j]? = some (u, w)) ∧ l[j]? = some kd ∧ Focus T H js kd.2 w d' v'
  | _ :: _, _, _, _, _ => False
/-- the part anew -/
def setAt : List Nat → D → D → D
  | [], _, x => x
  | j :: js, .lst l, x => (match l[j]? with
    | some d => .lst (l.set j (setAt js d x))
    | none => .lst l)
  | j :: js, .dct l, x => (match l[j]? with
    | some kd => .dct (l.set j (kd.1, setAt js kd.2 x))
    | none => .dct l)
  | _ :: _, d, _ => d
section
variable {T : Th} {g g' : G} {H H' : Hp}
theorem Focus.ex (e : Exx H H') : ∀ {js : List Nat} {d : D} {v : V} {d' : D} {v' : V}, Focus T H js d v d' v' → Focus T H' js d v d' v'
  | [], _, _, _, _, h => h
  | j :: js, .lst l, v, d', v', h => by
    obtain ⟨p, vs, d1, w, e1, e2, e3, e4, e5⟩ := h
    exact ⟨p, vs, d1, w, e1, e p _ e2, e3, e4, Focus.ex e e5⟩
  | j :: js, .dct l, v, d', v', h => by
    obtain ⟨p, d1, w, e1, ⟨kvs, e2⟩, e3, e4, e5⟩ := h
    refine ⟨p, d1, w, e1, ⟨kvs, e2.at fun o z => e p o z⟩, fun kvs' h' => e3 kvs' ?_, e4, Focus.ex e e5⟩
    obtain ⟨o, ho⟩ := e2.there
    exact h'.at fun o' z => by rw [e p o ho] at z; cases z; exact ho
  | _ :: _, .non, _, _, _, h => h.elim
  | _ :: _, .bl _, _, _, _, h => h.elim
  | _ :: _, .int _, _, _, _, h => h.elim
  | _ :: _, .str _, _, _, _, h => h.elim
  | _ :: _, .tup _, _, _, _, h => h.elim
  | _ :: _, .scr _, _, _, _, h => h.elim
  | _ :: _, .obj _, _, _, _, h => h.elim
  | _ :: _, .fn _ _, _, _, _, h => h.elim
  | _ :: _, .gone _, _, _, _, h => h.elim
theorem drep_set {a : Addr} {l : List (D × D)} {kvs : List (V × V)} {j : Nat} {kd : D × D} {x : D} (h : DRep T H a l kvs) (e : l[j]? = some kd) : DRep T H a (l.set j (kd.1, x)) kvs := by
  rcases h with ⟨ks, h1, h2⟩ | ⟨ps, h1, h2, h3, h4⟩
  · exact .inl ⟨ks, h1, h2⟩
  · refine .inr ⟨ps, h1, h2, ?_, h4⟩
    rw [h3, List.map_set]
    apply List.ext_getElem?
    intro i
    by_cases hi : j = i
    · subst hi
      rw [List.getElem?_map, e]
      by_cases hl : j < (l.map fun p => nk p.1).length
      · rw [List.getElem?_set_self hl]; rfl
      · have := (List.getElem?_eq_some_iff.mp e).1
        rw [List.length_map] at hl
        exact absurd this hl
    · rw [List.getElem?_set_ne hi]
/-- a part of what is owned is owned; the whole again, when the part is anew -/
theorem Own.focus {d' : D} {v' : V} : ∀ (js : List Nat) (k : Nat) (F : Addr → Prop) (d : D) (v : V), Own T g H k F d v → Focus T H js d v d' v' → js.length ≤ k →
    ∃ F' : Addr → Prop, (∀ a, F' a → F a) ∧ Own T g H (k - js.length) F' d' v' ∧ ∀ (g2 : G) (H2 : Hp) (Fo F2 : Addr → Prop) (x : D), Stay g H g2 H2 → (∀ a o, F a → ¬ F' a → H a = some o → H2 a = some o) → (∀ a, Fo a → ¬ F a) → (∀ a, F2 a → F' a ∨ Fo a) → Own T g2 H2 (k - js.length) F2 x v' → Own T g2 H2 k (fun a => F a ∨ Fo a) (setAt js d x) v
  | [], k, F, d, v, hw, hf, _ => by
    obtain ⟨rfl, rfl⟩ := hf
    exact ⟨F, fun _ z => z, hw, fun g2 H2 Fo F2 x st kp hd h2 hx => Own.wide _ F2 _ _ _ h2 hx⟩
  | j :: js, 0, F, d, v, hw, hf, hl => absurd hl (by simp)
  | j :: js, k + 1, F, .lst l, v, hw, hf, hl => by
    obtain ⟨p0, vs0, d1, w, e0, e1, e2, e3, e4⟩ := hf
    simp only [Own] at hw
    obtain ⟨p, vs, e00, hF, hH, hlen, Gs, h1, h2, h3⟩ := hw
    have ep : p = p0 := V.ref.inj (e00.symm.trans e0)
    subst ep
    have evs : vs = vs0 := by rw [hH] at e1; cases e1; rfl
    subst evs
    have hl' : js.length ≤ k := by simpa using hl
    obtain ⟨F', q1, q2, q3⟩ := Own.focus js k (Gs j) d1 w (h3 j d1 w e2 e3) e4 hl'
    have hk : k + 1 - (j :: js).length = k - js.length := by simp
    refine ⟨F', fun a z => (h1 j a (q1 a z)).1, by rw [hk]; exact q2, fun g2 H2 Fo F2 x st kp hd hf2 hx => ?_⟩
    rw [hk] at hx
    simp only [setAt, e2, Own]
    have hj : j < l.length := (List.getElem?_eq_some_iff.mp e2).1
    refine ⟨p, vs, e00, .inl hF, kp p _ hF (fun z => (h1 j p (q1 p z)).2 rfl) hH, by rw [List.length_set]; exact hlen, fun i a => Gs i a ∨ (i = j ∧ Fo a), fun i a z => ?_, fun i i' a z z' => ?_, fun i d2 w2 a b => ?_⟩
    · rcases z with z | ⟨_, z⟩
      · exact ⟨.inl (h1 i a z).1, (h1 i a z).2⟩
      · exact ⟨.inr z, fun w => hd a z (by rw [w]; exact hF)⟩
    · rcases z with z | ⟨z0, z⟩ <;> rcases z' with z' | ⟨z0', z'⟩
      · exact h2 i i' a z z'
      · exact absurd (h1 i a z).1 (hd a z')
      · exact absurd (h1 i' a z').1 (hd a z)
      · rw [z0, z0']
    · by_cases hi : j = i
      · subst hi
        rw [List.getElem?_set_self hj] at a
        cases a
        rw [e3] at b
        cases b
        refine Own.wide _ (fun a => Gs j a ∨ Fo a) _ _ _ (fun a z => z.imp id fun z => ⟨rfl, z⟩) ?_
        exact q3 g2 H2 Fo F2 x st (fun a o z n e => kp a o (h1 j a z).1 n e) (fun a z w => hd a z (h1 j a w).1) hf2 hx
      · rw [List.getElem?_set_ne hi] at a
        refine Own.wide _ (Gs i) _ _ _ (fun a z => .inl z) ?_
        exact Own.keepF st _ _ _ _ (fun a o z e => kp a o (h1 i a z).1 (fun w => hi (h2 j i a (q1 a w) z)) e) (h3 i d2 w2 a b)
  | j :: js, k + 1, F, .dct l, v, hw, hf, hl => by
    obtain ⟨p0, d1, w0, e0, _, e3, e2, e4⟩ := hf
    simp only [Own] at hw
    obtain ⟨p, vs0, e00, hF, hH, hlen, Gs, h1, h2, h3⟩ := hw
    have ep : p = p0 := V.ref.inj (e00.symm.trans e0)
    subst ep
    obtain ⟨u0, e3⟩ := e3 vs0 hH
    have hl' : js.length ≤ k := by simpa using hl
    obtain ⟨F', q1, q2, q3⟩ := Own.focus js k (Gs j) d1.2 w0 (h3 j d1 (u0, w0) e2 e3).2 e4 hl'
    have hk : k + 1 - (j :: js).length = k - js.length := by simp
    refine ⟨F', fun a z => (h1 j a (q1 a z)).1, by rw [hk]; exact q2, fun g2 H2 Fo F2 x st kp hd hf2 hx => ?_⟩
    rw [hk] at hx
    simp only [setAt, e2, Own]
    have hj : j < l.length := (List.getElem?_eq_some_iff.mp e2).1
    refine ⟨p, vs0, e00, .inl hF, (drep_set hH e2).at fun o z => kp p o hF (fun z => (h1 j p (q1 p z)).2 rfl) z, by rw [List.length_set]; exact hlen, fun i a => Gs i a ∨ (i = j ∧ Fo a), fun i a z => ?_, fun i i' a z z' => ?_, fun i d2 w2 a b => ?_⟩
    · rcases z with z | ⟨_, z⟩
      · exact ⟨.inl (h1 i a z).1, (h1 i a z).2⟩
      · exact ⟨.inr z, fun w => hd a z (by rw [w]; exact hF)⟩
    · rcases z with z | ⟨z0, z⟩ <;> rcases z' with z' | ⟨z0', z'⟩
      · exact h2 i i' a z z'
      · exact absurd (h1 i a z).1 (hd a z')
      · exact absurd (h1 i' a z').1 (hd a z)
      · rw [z0, z0']
    · by_cases hi : j = i
      · subst hi
        rw [List.getElem?_set_self hj] at a
        cases a
        rw [e3] at b
        cases b
        refine ⟨(h3 j d1 (u0, w0) e2 e3).1.stay st, ?_⟩
        refine Own.wide _ (fun a => Gs j a ∨ Fo a) _ _ _ (fun a z => z.imp id fun z => ⟨rfl, z⟩) ?_
        exact q3 g2 H2 Fo F2 x st (fun a o z n e => kp a o (h1 j a z).1 n e) (fun a z w => hd a z (h1 j a w).1) hf2 hx
      · rw [List.getElem?_set_ne hi] at a
        refine ⟨(h3 i d2 w2 a b).1.stay st, ?_⟩
        refine Own.wide _ (Gs i) _ _ _ (fun a z => .inl z) ?_
        exact Own.keepF st _ _ _ _ (fun a o z e => kp a o (h1 i a z).1 (fun w => hi (h2 j i a (q1 a w) z)) e) (h3 i d2 w2 a b).2
  | _ :: _, _ + 1, _, .non, _, _, h, _ => h.elim
  | _ :: _, _ + 1, _, .bl _, _, _, h, _ => h.elim
  | _ :: _, _ + 1, _, .int _, _, _, h, _ => h.elim
  | _ :: _, _ + 1, _, .str _, _, _, h, _ => h.elim
  | _ :: _, _ + 1, _, .tup _, _, _, h, _ => h.elim
  | _ :: _, _ + 1, _, .scr _, _, _, h, _ => h.elim
  | _ :: _, _ + 1, _, .obj _, _, _, h, _ => h.elim
  | _ :: _, _ + 1, _, .fn _ _, _, _, h, _ => h.elim
  | _ :: _, _ + 1, _, .gone _, _, _, h, _ => h.elim
end
end Q

/-! Places in fields: read, written. -/
namespace Q
open PySem PySem.Spec PyProof.Rows L2
inductive RP where
  | ok (n : Nat) (f : Str) (js : List Nat) (d : D) (S : Store)
  | exc (x : Exc) (S : Store)
  | no
abbrev FP := Env → Store → RP
def PlAt (T : Th) (g : G) (S : Store) (H : Hp) (n : Nat) (f : Str) (js : List Nat) (d : D) (v : V) : Prop := ∃ c d0 dx fs v0, getF S n f = some (c, d0) ∧ H (g.μ n) = some (.ins (T.cA c) dx fs) ∧ fs.lookup f = some v0 ∧ Focus T H js d0 v0 d v
def GoodP (T : Th) (W : WX) (Γ : List Md) (ρ : Env) (σ : L2.St) (g : G) (S : Store) (H : Hp) : RP → VK → Prop
  | .ok n f js d S', Q => S' = S → ∀ v H', Exx H H' → PlAt T g S H' n f js d v → Q v H'
  | .exc x S', _ => ∀ c dd g' H', Rel T g' Γ ρ S' σ H' → FrE g H g' H' → ExcR T g' H' x c dd → W c dd σ H'
  | .no, _ => False
def tP (T : Th) (W : WX) (Γ : List Md) (F : FP) : TE := fun σ H Q => ∃ g ρ S, Rel T g Γ ρ S σ H ∧ GoodP T W Γ ρ σ g S H (F ρ S) Q
abbrev XP (X : Cx) (T : Th) (W : WX) (Γ : List Md) (e : Expr) (F : FP) : Prop := PE X e (tP T W Γ F)
theorem PlAt.ex {T : Th} {g : G} {S : Store} {H H' : Hp} {n : Nat} {f : Str} {js : List Nat} {d : D} {v : V} (h : PlAt T g S H n f js d v) (e : Exx H H') : PlAt T g S H' n f js d v := by
  obtain ⟨c, d0, dx, fs, v0, h1, h2, h3, h4⟩ := h
  exact ⟨c, d0, dx, fs, v0, h1, e _ _ h2, h3, h4.ex e⟩
def pFldK (cs : List Nat) (f : Str) (x : D) (S : Store) : RP := match x with
  | .obj n => (match getF S n f with
    | some (c, d) => if c ∈ cs then .ok n f [] d S else .no
    | none => .no)
  | _ => .no
def pFld (cs : List Nat) (f : Str) (a : FE) : FP := fun ρ S => match a ρ S with
  | .ok x S1 => pFldK cs f x S1
  | .exc y S1 => .exc y S1
  | .no => .no
/-- where a part stands -/
def posOf : D → D → Option (Nat × D)
  | .lst l, .int i => (ixN l.length i).bind fun j => (l[j]?).map fun d => (j, d)
  | _, _ => none
/-- there is a level more to write -/
def deep (fm : Nat → Str → Nat) (S : Store) (n : Nat) (f : Str) (k : Nat) : Bool := match getF S n f with
  | some (c, _) => decide (k ≤ fm c f)
  | none => false
def pIxK (fm : Nat → Str → Nat) (n : Nat) (f : Str) (js : List Nat) (S : Store) (o : Option (Nat × D)) : RP := match o with
  | some (j, d) => if deep fm S n f (js.length + 1) = true then .ok n f (js ++ [j]) d S else .no
  | none => .no
def pIx (fm : Nat → Str → Nat) (p : FP) (e : FE) : FP := fun ρ S => match p ρ S with
  | .ok n f js d S1 => (match e ρ S1 with
    | .ok k S2 => pIxK fm n f js S2 (posOf d k)
    | .exc y S2 => .exc y S2
    | .no => .no)
  | .exc y S1 => .exc y S1
  | .no => .no
section
variable {X : Cx} {T : Th} {W : WX} {Γ : List Md} {fm : Nat → Str → Nat} {cs : List Nat} {f : Str}
theorem xp_fld {e a : Expr} {A : FE} (hc : FldOk X.K T cs f) (ha : XC X T W Γ a A) (he : PE X a (tC1 T W Γ A) → PE X e (tFld X.K (tC1 T W Γ A) f)) : XP X T W Γ e (pFld cs f A) := pe_imp (he ha) fun σ H Q ⟨g, ρ, S, R, hg⟩ => by
  refine ⟨g, ρ, S, R, ?_⟩
  unfold pFld at hg
  cases ea : A ρ S with
  | no => rw [ea] at hg; exact hg.elim
  | exc y S1 => rw [ea] at hg; exact hg
  | ok x S1 =>
    rw [ea] at hg
    intro es v H1 e1 s1
    subst es
    replace hg : GoodP T W Γ ρ σ g S1 H (pFldK cs f x S1) Q := hg
    unfold pFldK at hg
    split at hg
    · rename_i n
      split at hg
      · rename_i c d eF
        split at hg
        · rename_i hcs
          obtain ⟨hn, dx, fs, w, h1, h2, h3⟩ := (R.ex e1).st.fld eF
          simp only [Shr] at s1
          exact ⟨g.μ n, _, dx, fs, w, s1.2, h1, (hc c hcs).1, (hc c hcs).2, h2, hg rfl w H1 e1 ⟨c, d, dx, fs, w, eF, h1, h2, rfl, rfl⟩⟩
        · exact hg.elim
      · exact hg.elim
    · exact hg.elim
theorem Focus.snocL {H : Hp} : ∀ {js : List Nat} {d0 : D} {v0 : V} {l : List D} {p : Addr} {vs : List V} {j : Nat} {d1 : D} {w : V}, Focus T H js d0 v0 (.lst l) (.ref p) → H p = some (.lst vs) → l[j]? = some d1 → vs[j]? = some w → Focus T H (js ++ [j]) d0 v0 d1 w
  | [], d0, v0, l, p, vs, j, d1, w, h, h1, h2, h3 => by
    obtain ⟨rfl, rfl⟩ := h
    exact ⟨p, vs, d1, w, rfl, h1, h2, h3, rfl, rfl⟩
  | i :: js, .lst l0, v0, l, p, vs, j, d1, w, h, h1, h2, h3 => by
    obtain ⟨p0, vs0, x, y, e1, e2, e3, e4, e5⟩ := h
    exact ⟨p0, vs0, x, y, e1, e2, e3, e4, Focus.snocL e5 h1 h2 h3⟩
  | i :: js, .dct l0, v0, l, p, vs, j, d1, w, h, h1, h2, h3 => by
    obtain ⟨p0, x, y, e1, e2, e3, e4, e5⟩ := h
    exact ⟨p0, x, y, e1, e2, e3, e4, Focus.snocL e5 h1 h2 h3⟩
  | _ :: _, .non, _, _, _, _, _, _, _, h, _, _, _ => h.elim
  | _ :: _, .bl _, _, _, _, _, _, _, _, h, _, _, _ => h.elim
  | _ :: _, .int _, _, _, _, _, _, _, _, h, _, _, _ => h.elim
  | _ :: _, .str _, _, _, _, _, _, _, _, h, _, _, _ => h.elim
  | _ :: _, .tup _, _, _, _, _, _, _, _, h, _, _, _ => h.elim
  | _ :: _, .scr _, _, _, _, _, _, _, _, h, _, _, _ => h.elim
  | _ :: _, .obj _, _, _, _, _, _, _, _, h, _, _, _ => h.elim
  | _ :: _, .fn _ _, _, _, _, _, _, _, _, h, _, _, _ => h.elim
  | _ :: _, .gone _, _, _, _, _, _, _, _, h, _, _, _ => h.elim
/-- the value's own shape at a place -/
theorem own_at {g : G} {S : Store} {ρ : Env} {σ : L2.St} {H : Hp} {n : Nat} {js : List Nat} {d : D} {v : V} (R : Rel T g Γ ρ S σ H) (h : PlAt T g S H n f js d v) (hl : ∀ c d0, getF S n f = some (c, d0) → js.length ≤ T.fm c f) :
    ∃ c d0 dx fs v0 F', getF S n f = some (c, d0) ∧ n < g.N ∧ H (g.μ n) = some (.ins (T.cA c) dx fs) ∧ fs.lookup f = some v0 ∧ (∀ a, F' a → g.BF n f a) ∧ Own T g H (T.fm c f - js.length) F' d v ∧
    ∀ (g2 : G) (H2 : Hp) (Fo F2 : Addr → Prop) (x : D), Stay g H g2 H2 → (∀ a o, g.BF n f a → ¬ F' a → H a = some o → H2 a = some o) → (∀ a, Fo a → ¬ g.BF n f a) → (∀ a, F2 a → F' a ∨ Fo a) → Own T g2 H2 (T.fm c f - js.length) F2 x v → Own T g2 H2 (T.fm c f) (fun a => g.BF n f a ∨ Fo a) (setAt js d0 x) v0 := by
  obtain ⟨c, d0, dx, fs, v0, h1, h2, h3, h4⟩ := h
  obtain ⟨hn, dx', fs', v0', k1, k2, k3⟩ := R.st.fld h1
  have : HO.ins (T.cA c) dx' fs' = .ins (T.cA c) dx fs := Option.some.inj (k1.symm.trans h2)
  cases this
  rw [h3] at k2
  cases k2
  obtain ⟨F', q1, q2, q3⟩ := Own.focus js _ _ _ _ k3 h4 (hl c d0 h1)
  exact ⟨c, d0, dx, fs, v0, F', h1, hn, h2, h3, q1, q2, q3⟩
theorem deep_le {fm : Nat → Str → Nat} {S : Store} {n k : Nat} (h : deep fm S n f k = true) : ∀ c d0, getF S n f = some (c, d0) → k ≤ fm c f := fun c d0 e => by
  unfold deep at h
  rw [e] at h
  exact of_decide_eq_true h
theorem goodP_ex {ρ : Env} {σ : L2.St} {g : G} {S : Store} {H H1 : Hp} {r : RP} {Q : VK} (e : Exx H H1) (h : GoodP T W Γ ρ σ g S H r Q) : GoodP T W Γ ρ σ g S H1 r Q := by
  cases r with
  | ok n f js d S' => exact fun es v H' x s => h es v H' (e.trans x) s
  | exc x S' => exact exc_ex e h
  | no => exact h
theorem xp_ix {o e i : Expr} {P : FP} {A : FE} (hK : X.K = T.K) (hfm : T.fm = fm) (ho : XP X T W Γ o P) (hi : XC X T W Γ i A) (he : PE X o (tP T W Γ P) → PE X i (tC1 T W Γ A) → PE X e (tOp (rIxA X.K) (tP T W Γ P) (tC1 T W Γ A))) : XP X T W Γ e (pIx fm P A) := pe_imp (he ho hi) fun σ H Q ⟨g, ρ, S, R, hg⟩ => by
  refine ⟨g, ρ, S, R, ?_⟩
  unfold pIx at hg
  cases ep : P ρ S with
  | no => rw [ep] at hg; exact hg.elim
  | exc y S1 => rw [ep] at hg; exact hg
  | ok n f js d S1 =>
    rw [ep] at hg
    intro es v H1 e1 pl
    subst es
    refine ⟨g, ρ, S1, R.ex e1, ?_⟩
    replace hg : GoodP T W Γ ρ σ g S1 H1 (match A ρ S1 with | .ok k S2 => pIxK fm n f js S2 (posOf d k) | .exc y S2 => .exc y S2 | .no => .no) Q := goodP_ex e1 hg
    cases ea : A ρ S1 with
    | no => rw [ea] at hg; exact hg.elim
    | exc y S2 => rw [ea] at hg; exact hg
    | ok k S2 =>
      rw [ea] at hg
      intro es w H2 e2 s2
      subst es
      replace hg : GoodP T W Γ ρ σ g S2 H1 (pIxK fm n f js S2 (posOf d k)) Q := hg
      cases epos : posOf d k with
      | none => rw [epos] at hg; exact hg.elim
      | some jd =>
        obtain ⟨j, d1⟩ := jd
        rw [epos] at hg
        unfold pIxK at hg
        dsimp only at hg
        split at hg
        · rename_i hdp
          have pl2 := pl.ex e2
          have R2 := (R.ex e1).ex e2
          have dl := deep_le hdp
          rw [← hfm] at dl
          obtain ⟨c, d0, dx, fs, v0, F', k1, k2, k3, k4, k5, k6, k7⟩ := own_at R2 pl2 fun c d0 h => Nat.le_of_succ_le (dl c d0 h)
          have hk : T.fm c f - js.length = (T.fm c f - js.length - 1) + 1 := by have := dl c d0 k1; omega
          rw [hk] at k6
          unfold posOf at epos
          split at epos
          · rename_i l i0
            obtain ⟨j', e3, e4⟩ := Option.bind_eq_some_iff.mp epos
            obtain ⟨d1', e5, e6⟩ := Option.map_eq_some_iff.mp e4
            cases e6
            simp only [Own] at k6
            obtain ⟨p, vs, rfl, hF, hH, hl, _⟩ := k6
            have hj : j < l.length := (List.getElem?_eq_some_iff.mp e5).1
            obtain ⟨u, hu⟩ : ∃ u, vs[j]? = some u := ⟨vs[j], List.getElem?_eq_getElem (by omega)⟩
            rw [shr_int.mp s2]
            refine .inl ⟨p, vs, i0, u, rfl, rfl, .of hH, ?_, ?_⟩
            · unfold atI
              rw [← hl, e3]
              exact hu
            · refine hg rfl u H2 e2 ?_
              obtain ⟨c', d0', dx', fs', v0', p1, p2, p3, p4⟩ := pl2
              exact ⟨c', d0', dx', fs', v0', p1, p2, p3, p4.snocL hH e5 hu⟩
          · cases epos
        · exact hg.elim
end
/-! ### writing -/
def setF (S : Store) (n : Nat) (f : Str) (d : D) : Store := match S[n]? with
  | some ob => S.set n ⟨ob.cls, putD f d ob.fs⟩
  | none => S
/-- a field owns more -/
def G.growf (g : G) (n : Nat) (f : Str) (Fo : Addr → Prop) : G := { g with B := fun a => g.B a ∨ Fo a, BF := fun m e a => g.BF m e a ∨ (m = n ∧ e = f ∧ Fo a) }
theorem growf_none {g : G} {n : Nat} {f : Str} : g.growf n f (fun _ => False) = g := by
  unfold G.growf
  congr 1
  · funext a; simp
  · funext m e a; simp
theorem put_same {f : Str} {d d1 : D} {y : V} : ∀ {l : List (Str × D)} {m : List (Str × V)} {j : Nat} {p : Str × D} {q : Str × V}, m.map (·.1) = l.map (·.1) → (l.map (·.1)).Nodup → l.lookup f = some d → m.lookup f = some y → (putD f d1 l)[j]? = some p → m[j]? = some q → (p = (f, d1) ∧ q = (f, y)) ∨ (p.1 ≠ f ∧ l[j]? = some p)
  | [], _, _, _, _, _, _, h, _, _, _ => by cases h
  | _ :: _, [], _, _, _, e, _, _, _, _, _ => by simp at e
  | (k, x) :: l, (k', z) :: m, j, p, q, e, hn, h1, h2, h3, h4 => by
    simp only [List.map_cons, List.cons.injEq] at e
    obtain ⟨e1, e2⟩ := e
    subst e1
    simp only [List.map_cons, List.nodup_cons] at hn
    unfold putD at h3
    by_cases hk : k' = f
    · rw [if_pos hk] at h3
      subst hk
      rw [List.lookup_cons_self] at h2
      cases h2
      cases j with
      | zero => cases h3; cases h4; exact .inl ⟨rfl, rfl⟩
      | succ j =>
        refine .inr ⟨fun z => ?_, h3⟩
        exact hn.1 (List.mem_map.mpr ⟨p, List.mem_of_getElem? h3, z⟩)
    · rw [if_neg hk] at h3
      have hb : (f == k') = false := beq_eq_false_iff_ne.mpr fun z => hk z.symm
      rw [List.lookup_cons, hb] at h1 h2
      cases j with
      | zero => cases h3; exact .inr ⟨hk, rfl⟩
      | succ j =>
        rcases put_same (j := j) e2 hn.2 h1 h2 h3 h4 with h | ⟨h, h'⟩
        · exact .inl h
        · exact .inr ⟨h, h'⟩
theorem putD_keys_in {f : Str} {d d1 : D} : ∀ {l : List (Str × D)}, l.lookup f = some d → (putD f d1 l).map (·.1) = l.map (·.1)
  | [], h => by cases h
  | (k, x) :: l, h => by
    unfold putD
    by_cases hk : k = f
    · rw [if_pos hk, List.map_cons, List.map_cons]
    · rw [if_neg hk, List.map_cons, List.map_cons]
      have hb : (f == k) = false := beq_eq_false_iff_ne.mpr fun z => hk z.symm
      rw [List.lookup_cons, hb] at h
      rw [putD_keys_in h]
section
variable {T : Th} {Γ : List Md} {g : G} {ρ : Env} {S : Store} {σ : L2.St} {H : Hp} {Fo : Addr → Prop}
theorem Rel.wrf {n c : Nat} {f : Str} {d0 d1 : D} {dx p : Addr} {fs : List (Str × V)} {v0 : V} {o : HO} (R : Rel T (g.plusF ρ.length Fo) Γ ρ S σ H) (hFo : ∀ a, Fo a → ¬ g.U a) (eF : getF S n f = some (c, d0)) (h1 : H (g.μ n) = some (.ins (T.cA c) dx fs)) (h2 : fs.lookup f = some v0) (hp : g.BF n f p) (hno : ∀ u, o ≠ .tup u ∧ ∀ b, o ≠ .frz b (.tup u))
    (hw : Stay (g.plusF ρ.length Fo) H (g.growf n f Fo) (upd H p o) → Own T (g.growf n f Fo) (upd H p o) (T.fm c f) (fun a => g.BF n f a ∨ Fo a) d1 v0) : Rel T (g.growf n f Fo) Γ ρ (setF S n f d1) σ (upd H p o) ∧ Stay (g.plusF ρ.length Fo) H (g.growf n f Fo) (upd H p o) := by
  have r := R.st
  obtain ⟨ob, e1, e2⟩ := Option.bind_eq_some_iff.mp eF
  obtain ⟨d0', e3, e4⟩ := Option.map_eq_some_iff.mp e2
  cases e4
  have hn : n < g.N := by have : g.N = S.length := r.N; rw [this]; exact (List.getElem?_eq_some_iff.mp e1).1
  have hB : g.B p := (r.bB n f p hp).1
  have hpμ : ∀ m, m < g.N → p ≠ g.μ m := (r.bB n f p hp).2
  have hUU : ∀ a, (g.growf n f Fo).U a → (g.plusF ρ.length Fo).U a := fun a u => by
    rcases u with u | u | u | u
    · exact G.plusF_U.mpr (.inl (.inl u))
    · exact G.plusF_U.mpr (.inl (.inr (.inl u)))
    · exact G.plusF_U.mpr (.inl (.inr (.inr u)))
    · exact G.plusF_U.mpr (.inr u)
  have kp : ∀ a u, a ≠ p → H a = some u → upd H p o a = some u := fun a u h e => by rw [upd_ne h]; exact e
  have st : Stay (g.plusF ρ.length Fo) H (g.growf n f Fo) (upd H p o) := ⟨fun a u e hu => kp a u (fun z => hu (by rw [z]; exact .inr (.inr hB))) e, fun a h => .inl (hUU a h), Nat.le_refl _, fun _ _ => rfl, rfl⟩
  have stb : Stay (g.plusF ρ.length Fo).bare H (g.growf n f Fo).bare (upd H p o) := ⟨fun a u e hu => kp a u (fun z => hu (by rw [z]; exact .inr (.inr hB))) e, fun a h => .inl (by
    rcases h with h | ⟨i, h⟩ | h | h
    · exact h.elim
    · exact .inr (.inl ⟨i, .inl h⟩)
    · exact .inr (.inr h)
    · exact .inr (.inl ⟨ρ.length, .inr ⟨rfl, h⟩⟩)), Nat.le_refl _, fun _ _ => rfl, rfl⟩
  have eset : setF S n f d1 = S.set n ⟨ob.cls, putD f d1 ob.fs⟩ := by unfold setF; rw [e1]
  rw [eset]
  refine ⟨⟨R.len, fun i d' e => ?_, fun i j a h h' => R.dF i j a (.inl h) (.inl h'), fun i a h => R.dFO i a (.inl h), fun i a h u => ?_, fun a h u => ?_, fun a u => ?_, ?_, nt_upd (fun a u => R.nt a (hUU a u)) hno⟩, st⟩
  · obtain ⟨v, q1, q2⟩ := R.slot i d' e
    have hi : i < ρ.length := (List.getElem?_eq_some_iff.mp e).1
    refine ⟨v, q1, ?_⟩
    have wF : ∀ a, (g.plusF ρ.length Fo).F i a → (g.growf n f Fo).F i a := fun a z => z.elim id fun z => absurd z.1 (by omega)
    have kF : ∀ a u, (g.plusF ρ.length Fo).F i a → H a = some u → upd H p o a = some u := fun a u z q => kp a u (fun w => R.dFB i a z (by rw [w]; exact hB)) q
    cases hm : Γ.getD i .s <;> rw [hm] at q2 <;> simp only [RepM] at q2 ⊢
    · exact q2.stay st
    · exact Own.wide _ _ _ _ _ wF (Own.keepF st _ _ _ _ kF q2)
    · exact Own.keepF st _ _ _ _ (fun a u z q => kp a u (fun w => R.dOB a z (by rw [w]; exact hB)) q) q2
    · exact ⟨q2.1, Own.wide _ _ _ _ _ wF (Own.keepF st _ _ _ _ kF q2.2)⟩
    · exact q2
    · exact q2.stay stb
  · rcases u with u | u
    · exact R.dFB i a (.inl h) u
    · exact hFo a u (.inr (.inl ⟨i, h⟩))
  · rcases u with u | u
    · exact R.dOB a h u
    · exact hFo a u (.inl h)
  · by_cases ha : a = p
    · exact ⟨_, by rw [ha]; exact upd_same⟩
    · obtain ⟨o', q⟩ := R.dom a (hUU a u)
      exact ⟨o', kp a o' ha q⟩
  · refine ⟨by show g.N = _; rw [List.length_set]; exact r.N, r.inj, fun m hm => .inl (r.mB m hm), fun m e a h => ?_, fun m e m' e' a h h' => ?_, fun m o' e => ?_, fun m o' e => ?_⟩
    · rcases h with h | h
      · exact ⟨.inl (r.bB m e a h).1, (r.bB m e a h).2⟩
      · exact ⟨.inr h.2.2, fun m' hm' z => hFo a h.2.2 (by rw [z]; exact .inr (.inr (r.mB m' hm')))⟩
    · rcases h with h | h <;> rcases h' with h' | h'
      · exact r.bd m e m' e' a h h'
      · exact absurd (.inr (.inr (r.bB m e a h).1)) (hFo a h'.2.2)
      · exact absurd (.inr (.inr (r.bB m' e' a h').1)) (hFo a h.2.2)
      · exact ⟨h.1.trans h'.1.symm, h.2.1.trans h'.2.1.symm⟩
    · by_cases hm : n = m
      · subst hm
        rw [List.getElem?_set_self (by rw [← r.N]; exact hn)] at e
        cases e
        exact putD_nodup (r.nd n ob e1)
      · rw [List.getElem?_set_ne hm] at e
        exact r.nd m o' e
    · by_cases hm : n = m
      · subst hm
        rw [List.getElem?_set_self (by rw [← r.N]; exact hn)] at e
        cases e
        obtain ⟨dx', fs', k1, k2, k3⟩ := r.ob n ob e1
        have : HO.ins (T.cA ob.cls) dx' fs' = .ins (T.cA ob.cls) dx fs := Option.some.inj ((show H (g.μ n) = _ from k1).symm.trans h1)
        cases this
        refine ⟨dx, fs, kp _ _ (fun z => hpμ n hn z.symm) h1, by rw [k2, putD_keys_in e3], fun j q q' a b => ?_⟩
        rcases put_same k2 (r.nd n ob e1) e3 h2 a b with ⟨rfl, rfl⟩ | ⟨hq, a'⟩
        · exact Own.wide _ (fun a => g.BF n f a ∨ Fo a) _ _ _ (fun a z => z.imp id fun z => ⟨rfl, rfl, z⟩) (hw st)
        · refine Own.wide _ (g.BF n q.1) _ _ _ (fun a z => .inl z) ?_
          exact Own.keepF st _ _ _ _ (fun a u z e => kp a u (fun w => hq ((r.bd n q.1 n f p (by rw [← w]; exact z) hp).2)) e) (k3 j q q' a' b)
      · rw [List.getElem?_set_ne hm] at e
        obtain ⟨dx', fs', k1, k2, k3⟩ := r.ob m o' e
        have hmN : m < g.N := by have : g.N = S.length := r.N; rw [this]; exact (List.getElem?_eq_some_iff.mp e).1
        refine ⟨dx', fs', kp _ _ (fun z => hpμ m hmN z.symm) k1, k2, fun j q q' a b => ?_⟩
        refine Own.wide _ (g.BF m q.1) _ _ _ (fun a z => .inl z) ?_
        exact Own.keepF st _ _ _ _ (fun a u z e => kp a u (fun w => hm ((r.bd m q.1 n f p (by rw [← w]; exact z) hp).1.symm)) e) (k3 j q q' a b)
end
end Q

/-! Statements at places in fields. -/
namespace Q
open PySem PySem.Spec PyProof.Rows L2
def plPut (fm : Nat → Str → Nat) (k : Nat) (n : Nat) (f : Str) (js : List Nat) (x : D) (S : Store) (ρ : Env) : RS := match getF S n f with
  | some (c, d0) => if fm c f = js.length + k then .nx ρ (setF S n f (setAt js d0 x)) else .no
  | none => .no
/-- what is at the place, further -/
def RP.bindS (ρ : Env) (r : RP) (k : Nat → Str → List Nat → D → Store → RS) : RS := match r with
  | .ok n f js d S => k n f js d S
  | .exc x S => .exc x ρ S
  | .no => .no
def RL.bindR (ρ : Env) (r : RL) (k : List D → Store → RS) : RS := match r with
  | .ok ds S => k ds S
  | .exc x S => .exc x ρ S
  | .no => .no
def lstK (d : D) (k : List D → RS) : RS := match d with
  | .lst l => k l
  | _ => .no
def optK {α : Type} (o : Option α) (k : α → RS) : RS := match o with
  | some x => k x
  | none => .no
def fPMut (fm : Nat → Str → Nat) (p : FP) (h : HM) (a : FL) : FS := fun ρ S => (p ρ S).bindS ρ fun n f js d S1 => lstK d fun l => if deep fm S1 n f (js.length + 1) = true then (a ρ S1).bindR ρ fun ds S2 => optK (h l ds) fun zl => plPut fm 1 n f js (.lst zl.2) S2 ρ else .no
def fPSet (fm : Nat → Str → Nat) (p : FP) (e v : FE) : FS := fun ρ S => (v ρ S).bindS ρ fun x S1 => (p ρ S1).bindS ρ fun n f js d S2 => (e ρ S2).bindS ρ fun k S3 => lstK d fun l => optK (posOf (.lst l) k) fun jd => plPut fm 1 n f js (.lst (l.set jd.1 x)) S3 ρ
def fPApp (fm : Nat → Str → Nat) (p : FP) (v : FE) : FS := fun ρ S => (p ρ S).bindS ρ fun n f js d S1 => lstK d fun l => if deep fm S1 n f (js.length + 2) = true ∧ l.length < 1000000 then (v ρ S1).bindS ρ fun x S2 => plPut fm 2 n f js (.lst (l ++ [x])) S2 ρ else .no
/-! ### calm and fresh -/
def GoodNC (T : Th) (W : WX) (Γ : List Md) (k : Nat) (ρ : Env) (σ : L2.St) (g : G) (S : Store) (H : Hp) : RE → VK → Prop
  | .ok d S', Q => S' = S → ∀ v H' Fo, Exx H H' → (∀ a, Fo a → H a = none) → Rel T (g.plusF ρ.length Fo) Γ ρ S σ H' → Own T (g.plusF ρ.length Fo) H' k Fo d v → Q v H'
  | .exc x S', _ => ∀ c dd g' H', Rel T g' Γ ρ S' σ H' → FrE g H g' H' → ExcR T g' H' x c dd → W c dd σ H'
  | .no, _ => False
def tNC (T : Th) (W : WX) (Γ : List Md) (k : Nat) (F : FE) : TE := fun σ H Q => ∃ g ρ S, Rel T g Γ ρ S σ H ∧ GoodNC T W Γ k ρ σ g S H (F ρ S) Q
abbrev XNC (X : Cx) (T : Th) (W : WX) (Γ : List Md) (k : Nat) (e : Expr) (F : FE) : Prop := PE X e (tNC T W Γ k F)
section
variable {X : Cx} {T : Th} {W : WX} {Γ : List Md}
theorem Exx.none {H H1 : Hp} {a : Addr} (e : Exx H H1) (h : H1 a = Option.none) : H a = Option.none := by
  cases q : H a with
  | none => rfl
  | some o => rw [e a o q] at h; cases h
theorem goodNC_ex {k : Nat} {ρ : Env} {σ : L2.St} {g : G} {S : Store} {H H1 : Hp} {r : RE} {Q : VK} (e : Exx H H1) (h : GoodNC T W Γ k ρ σ g S H r Q) : GoodNC T W Γ k ρ σ g S H1 r Q := by
  cases r with
  | ok d S' => exact fun es v H' Fo x hf => h es v H' Fo (e.trans x) fun a z => e.none (hf a z)
  | exc x S' => exact exc_ex e h
  | no => exact h
theorem goodNC_bind {k0 : Nat} {ρ : Env} {σ : L2.St} {g : G} {S : Store} {H : Hp} {r : RE} {k : D → Store → RE} {Q Q' : VK} (h : GoodNC T W Γ k0 ρ σ g S H (r.bind k) Q)
    (hk : ∀ d v H', r = .ok d S → Exx H H' → Shr T g H' d v → GoodNC T W Γ k0 ρ σ g S H' (k d S) Q → Q' v H') : GoodC T W Γ ρ σ g S H r Q' := by
  cases r with
  | ok d S1 =>
    intro es v H' e s
    subst es
    exact hk d v H' rfl e s (goodNC_ex e h)
  | exc x S1 => exact h
  | no => exact h
def hRep : D → D → Option D
  | .lst l, .int k => if 0 ≤ k ∧ k ≤ 1000000 ∧ l.length * k.toNat ≤ 1000000 then some (.lst (rep l k.toNat)) else none
  | _, _ => none
theorem xnc_rep {e a b : Expr} {A B : FE} (ha : XC X T W Γ a A) (hb : XC X T W Γ b B) (he : PE X a (tC1 T W Γ A) → PE X b (tC1 T W Γ B) → PE X e (tOp rRep (tC1 T W Γ A) (tC1 T W Γ B))) : XNC X T W Γ 1 e (eOp hRep A B) := pe_imp (he ha hb) fun σ H Q ⟨g, ρ, S, R, hg⟩ =>
  ⟨g, ρ, S, R, goodNC_bind hg fun x v H1 _ e1 s1 hg1 => ⟨g, ρ, S, R.ex e1, goodNC_bind hg1 fun y w H2 _ e2 s2 hg2 => by
    cases ez : hRep x y with
    | none => rw [ez] at hg2; exact hg2.elim
    | some z =>
      rw [ez] at hg2
      have R2 := (R.ex e1).ex e2
      unfold hRep at ez
      split at ez
      · split at ez
        · rename_i hl
          cases ez
          obtain ⟨a, vs, rfl, la, ra⟩ := shr_lst.mp s1
          have la2 := e2 _ _ la.1
          have ra2 := ShrL.stay (.ex e2) _ _ ra
          refine ⟨a, _, vs, rfl, shr_int.mp s2, la2, by omega, by omega, by rw [← ra.length]; exact sz6 hl.2.2, fun p hp => ?_⟩
          exact hg2 rfl _ _ (· = p) (Exx.new hp) (fun a z => by rw [z]; exact hp) (R2.fresh hp fun _ => ⟨nofun, fun _ => nofun⟩) (R2.fresh_lst hp (shrL_rep ra2 _))
        · cases ez
      · cases ez⟩⟩
theorem own_nilL {g : G} {H : Hp} {k : Nat} {F : Addr → Prop} {p : Addr} (hF : F p) (hH : H p = some (.lst [])) : Own T g H (k + 1) F (.lst []) (.ref p) := by
  simp only [Own]
  exact ⟨p, [], rfl, hF, hH, rfl, fun _ _ => False, fun _ _ z => z.elim, fun _ _ _ z => z.elim, fun j d w a => by simp at a⟩
/-- [] at any depth -/
theorem xnc_nil {k : Nat} {pos : Pos} : XNC X T W Γ (k + 1) (.List [] pos) (eC (.lst [])) := pe_imp (pe_lst pa_nil) fun σ H Q ⟨g, ρ, S, R, hg⟩ =>
  ⟨Nat.zero_le _, fun p hp => hg rfl _ _ (· = p) (Exx.new hp) (fun a z => by rw [z]; exact hp) (R.fresh hp fun _ => ⟨nofun, fun _ => nofun⟩) (own_nilL rfl upd_same)⟩
theorem xf_ofNC {k : Nat} {e : Expr} {F : FE} (h : XNC X T W Γ k e F) : XF X T W Γ k e F := pe_imp h fun σ H Q ⟨g, ρ, S, R, hg⟩ => by
  refine ⟨g, ρ, S, R, ?_⟩
  cases r : F ρ S with
  | ok d S1 =>
    rw [r] at hg
    intro es v H' Fo ex hf R' hw
    subst es
    exact hg v g H' Fo R' (.ex ex) (fun a z => ⟨fun u => (by obtain ⟨o, q⟩ := R.dom a u; rw [hf a z] at q; cases q), .inr (hf a z)⟩) hw
  | exc x S1 => rw [r] at hg; exact hg
  | no => rw [r] at hg; exact hg
/-! ### the statements -/
variable {J : Jd} {fm : Nat → Str → Nat} {f : Str}
theorem put_core {k : Nat} {g g1 : G} {ρ : Env} {S : Store} {σ : L2.St} {H H1 : Hp} {n : Nat} {js : List Nat} {d x : D} {v : V} {D : Ends} {Fo F2 : Addr → Prop} (hfm : T.fm = fm) (R1 : Rel T (g1.plusF ρ.length Fo) Γ ρ S σ H1) (f1 : FrS g H g1 H1) (ho : ∀ a, Fo a → ¬ g1.U a ∧ (g.U a ∨ H a = none))
    (pl : PlAt T g1 S H1 n f js d v) (hk : ∀ c d0, getF S n f = some (c, d0) → fm c f = js.length + (k + 1)) :
    ∃ F' : Addr → Prop, (∀ a, F' a → g1.BF n f a) ∧ Own T (g1.plusF ρ.length Fo) H1 (k + 1) F' d v ∧ ∀ (p : Addr) (o : HO) (F2 : Addr → Prop), F' p → (∀ u, o ≠ .tup u ∧ ∀ b, o ≠ .frz b (.tup u)) → (∀ a, F2 a → F' a ∨ Fo a) →
      (Stay (g1.plusF ρ.length Fo) H1 (g1.growf n f Fo) (upd H1 p o) → Own T (g1.growf n f Fo) (upd H1 p o) (k + 1) F2 x v) → GoodS T J Γ g H (plPut fm (k + 1) n f js x S ρ) D → D.nx σ (upd H1 p o) := by
  have pl2 : PlAt T (g1.plusF ρ.length Fo) S H1 n f js d v := pl
  obtain ⟨c, d0, dx, fs, v0, F', k1, k2, k3, k4, k5, k6, k7⟩ := own_at R1 pl2 fun c d0 h => by rw [hfm, hk c d0 h]; omega
  have ek : T.fm c f - js.length = k + 1 := by rw [hfm, hk c d0 k1]; omega
  rw [ek] at k6 k7
  refine ⟨F', k5, k6, fun p o F2 hp hno hF2 hx hg => ?_⟩
  have hFo : ∀ a, Fo a → ¬ g1.BF n f a := fun a z w => (ho a z).1 (.inr (.inr (R1.st.bB n f a w).1))
  obtain ⟨R2, st⟩ := R1.wrf (fun a z => (ho a z).1) k1 k3 k4 (k5 p hp) hno (d1 := setAt js d0 x) fun st => k7 _ _ Fo F2 x st (fun a u z nz e => by rw [upd_ne (fun w => nz (by rw [w]; exact hp))]; exact e) hFo hF2 (hx st)
  unfold plPut at hg
  rw [k1] at hg
  dsimp only at hg
  rw [if_pos (hk c d0 k1)] at hg
  refine hg σ _ _ R2 ?_
  have hB : g1.B p := (R1.st.bB n f p (k5 p hp)).1
  refine ⟨fun a o' e hu => ?_, fun a u => ?_, f1.O, f1.P, f1.N, f1.μ, fun a o' e => ?_⟩
  · have e' := f1.keep a o' e hu
    have : a ≠ p := fun w => by
      rcases hu with hu | hu
      · exact f1.stay.off e hu (by rw [w]; exact .inr (.inr hB))
      · exact R1.dOB a (show g1.O a by rw [f1.O]; exact hu) (by rw [w]; exact hB)
    rw [upd_ne this]; exact e'
  · rcases u with u | u | u | u
    · exact f1.own a (.inl u)
    · exact f1.own a (.inr (.inl u))
    · exact f1.own a (.inr (.inr u))
    · exact (ho a u).2
  · obtain ⟨o2, e'⟩ := f1.dom a o' e
    by_cases ha : a = p
    · exact ⟨_, by rw [ha]; exact upd_same⟩
    · exact ⟨o2, by rw [upd_ne ha]; exact e'⟩
theorem plPut_k {k n : Nat} {js : List Nat} {x : D} {S : Store} {ρ : Env} {g : G} {H : Hp} {D : Ends} (h : GoodS T J Γ g H (plPut fm k n f js x S ρ) D) : ∀ c d0, getF S n f = some (c, d0) → fm c f = js.length + k := fun c d0 e => by
  unfold plPut at h
  rw [e] at h
  dsimp only at h
  split at h
  · assumption
  · exact h.elim
theorem lstK_get {d : D} {k : List D → RS} {g : G} {H : Hp} {D : Ends} (h : GoodS T J Γ g H (lstK d k) D) : ∃ l, d = .lst l ∧ GoodS T J Γ g H (k l) D := by
  unfold lstK at h
  split at h
  · exact ⟨_, rfl, h⟩
  · exact h.elim
theorem optK_get {α : Type} {o : Option α} {k : α → RS} {g : G} {H : Hp} {D : Ends} (h : GoodS T J Γ g H (optK o k) D) : ∃ x, o = some x ∧ GoodS T J Γ g H (k x) D := by
  unfold optK at h
  split at h
  · exact ⟨_, rfl, h⟩
  · exact h.elim
/-- the list at a place -/
theorem place_list {g : G} {S : Store} {ρ : Env} {σ : L2.St} {H : Hp} {n k : Nat} {js : List Nat} {l : List D} {v : V} (hfm : T.fm = fm) (R : Rel T g Γ ρ S σ H) (h : PlAt T g S H n f js (.lst l) v) (hd : deep fm S n f (js.length + (k + 1)) = true) : ∃ p vs, v = .ref p ∧ H p = some (.lst vs) ∧ l.length = vs.length := by
  have dl := deep_le hd
  rw [← hfm] at dl
  obtain ⟨c, d0, dx, fs, v0, F', k1, k2, k3, k4, k5, k6, k7⟩ := own_at R h fun c d0 h => by have := dl c d0 h; omega
  have hk : T.fm c f - js.length = (T.fm c f - js.length - 1) + 1 := by have := dl c d0 k1; omega
  rw [hk] at k6
  simp only [Own] at k6
  obtain ⟨p, vs, rfl, hF, hH, hl, _⟩ := k6
  exact ⟨p, vs, rfl, hH, hl⟩
/-- PLACE.m(..), the list's items shared -/
theorem xs_pmut {st : Stmt} {o : Expr} {es : List Expr} {P : FP} {A : FL} {r : V → List V → Hp → VK → Prop} {h : HM} (hK : X.K = T.K) (hfm : T.fm = fm) (hx : J.ΓX Γ) (ok : MutOk T r h) (ho : XP X T J.W Γ o P) (ha : XCL X T J.W Γ es A)
    (he : PE X o (tP T J.W Γ P) → PA X es (tCL T J.W Γ A) → PS X st (tDrop (tBM X.K "list" r (tP T J.W Γ P) (tCL T J.W Γ A)))) : XS X T J Γ Γ st (fPMut fm P h A) := ps_imp (he ho ha) fun D σ H ⟨g, ρ, S, R, hg⟩ => by
  refine ⟨g, ρ, S, R, ?_⟩
  unfold fPMut at hg
  cases ep : P ρ S with
  | no => rw [ep] at hg; exact hg
  | exc y S1 => rw [ep] at hg; exact fun c dd g' H' R' f' e => hg Γ c dd σ g' H' hx R' (f'.frs R.dOB) e
  | ok n f js d S1 =>
    rw [ep] at hg
    intro es v H1 e1 pl
    subst es
    obtain ⟨l, rfl, hg2⟩ := lstK_get (show GoodS T J Γ g H (lstK d _) D from hg)
    clear hg
    have hg := hg2
    split at hg
    · rename_i hd
      have R1 := R.ex e1
      obtain ⟨p, vs, rfl, hH, hl⟩ := place_list (k := 0) hfm R1 pl hd
      refine ⟨.inl ⟨rfl, vs, SqL.of hH⟩, g, ρ, S1, R1, ?_⟩
      cases ea : A ρ S1 with
      | no => rw [ea] at hg; exact hg.elim
      | exc y S2 => rw [ea] at hg; exact fun c dd g' H' R' f' e => hg Γ c dd σ g' H' hx R' (((FrE.ex e1).trans f').frs R.dOB) e
      | ok ds S2 =>
        rw [ea] at hg
        intro es ws H2 e2 sw
        subst es
        obtain ⟨zl, ez, hg2⟩ := optK_get (show GoodS T J Γ g H (optK (h l ds) _) D from hg)
        clear hg
        have hg := hg2
        obtain ⟨z, l'⟩ := zl
        have R2 := R1.ex e2
        have f2 : FrS g H g H2 := (FrE.ex (e1.trans e2)).frs R.dOB
        have hk := plPut_k hg
        obtain ⟨F', q1, q2, q3⟩ := put_core (k := 0) (x := .lst l') (Fo := fun _ => False) (D := D) hfm (by rw [plusF_none]; exact R2) f2 (fun a z => z.elim) (pl.ex e2) hk (F2 := fun _ => False)
        rw [plusF_none] at q2 q3
        obtain ⟨p', vs', e3, hF, hH2, s3⟩ := own1_lst.mp q2
        cases e3
        refine ok g H2 p l ds l' z vs' ws hH2 s3 sw (.inr (.inr (R2.st.bB n f p (q1 p hF)).1)) ez _ fun u vs2 s2 su => ?_
        refine q3 p _ F' hF (fun _ => ⟨nofun, fun _ => nofun⟩) (fun a z => .inl z) (fun st => ?_) hg
        exact own1_lst.mpr ⟨p, vs2, rfl, hF, upd_same, ShrL.stay st _ _ s2⟩
    · exact hg.elim
theorem posOf_lst {l : List D} {k d : D} {j : Nat} (h : posOf (.lst l) k = some (j, d)) : ∃ i, k = .int i ∧ ixN l.length i = some j ∧ l[j]? = some d := by
  cases k <;> simp only [posOf] at h <;> first | cases h | skip
  obtain ⟨j', e5, e6⟩ := Option.bind_eq_some_iff.mp h
  obtain ⟨d1', e7, e8⟩ := Option.map_eq_some_iff.mp e6
  cases e8
  exact ⟨_, rfl, e5, e7⟩
/-- PLACE[e] = v, the list's items shared -/
theorem xs_pset {o e v : Expr} {st : Stmt} {P : FP} {A B : FE} (hfm : T.fm = fm) (hx : J.ΓX Γ) (ho : XP X T J.W Γ o P) (hi : XC X T J.W Γ e A) (hv : XE X T J.W Γ v B)
    (he : PE X v (tX T J.W Γ B) → PE X o (tP T J.W Γ P) → PE X e (tC1 T J.W Γ A) → PS X st (tAsg (tX T J.W Γ B) (gSub (tP T J.W Γ P) (tC1 T J.W Γ A) rSetL))) : XS X T J Γ Γ st (fPSet fm P A B) := ps_imp (he hv ho hi) fun D σ H ⟨g, ρ, S, R, hg⟩ => by
  refine ⟨g, ρ, S, R, ?_⟩
  unfold fPSet at hg
  refine good_bindS R hx hg fun x S1 w g1 H1 eR R1 f1 s1 hg1 => ?_
  clear hg eR
  refine ⟨g1, ρ, S1, R1, ?_⟩
  cases ep : P ρ S1 with
  | no => rw [ep] at hg1; exact hg1.elim
  | exc y S2 => rw [ep] at hg1; exact fun c dd g' H' R' f' e => hg1 Γ c dd σ g' H' hx R' (f'.frs R1.dOB) e
  | ok n f js d S2 =>
    rw [ep] at hg1
    intro es v1 H2 e2 pl
    subst es
    refine ⟨g1, ρ, S2, R1.ex e2, ?_⟩
    replace hg1 : GoodS T J Γ g1 H1 ((A ρ S2).bindS ρ fun k S3 => lstK d fun l => optK (posOf (.lst l) k) fun jd => plPut fm 1 n f js (.lst (l.set jd.1 x)) S3 ρ) D := hg1
    cases ea : A ρ S2 with
    | no => rw [ea] at hg1; exact hg1.elim
    | exc y S3 => rw [ea] at hg1; exact fun c dd g' H' R' f' e => hg1 Γ c dd σ g' H' hx R' (((FrE.ex e2).trans f').frs R1.dOB) e
    | ok k S3 =>
      rw [ea] at hg1
      intro es u H3 e3 su
      subst es
      obtain ⟨l, rfl, hg2⟩ := lstK_get (show GoodS T J Γ g1 H1 (lstK d _) D from hg1)
      clear hg1
      obtain ⟨jd, epos, hg1⟩ := optK_get hg2
      clear hg2
      obtain ⟨j, d1⟩ := jd
      have R3 := (R1.ex e2).ex e3
      have f3 : FrS g1 H1 g1 H3 := (FrE.ex (e2.trans e3)).frs R1.dOB
      obtain ⟨F', q1, q2, q3⟩ := put_core (k := 0) (x := .lst (l.set j x)) (Fo := fun _ => False) (D := D) hfm (by rw [plusF_none]; exact R3) f3 (fun a z => z.elim) (pl.ex e3) (plPut_k hg1) (F2 := fun _ => False)
      rw [plusF_none] at q2 q3
      obtain ⟨p', vs', rfl, hF, hH2, s3⟩ := own1_lst.mp q2
      obtain ⟨i0, rfl, e5, e7⟩ := posOf_lst epos
      refine ⟨p', vs', i0, j, rfl, shr_int.mp su, hH2, by rw [← s3.length]; exact e5, ?_⟩
      refine q3 p' _ F' hF (fun _ => ⟨nofun, fun _ => nofun⟩) (fun a z => .inl z) (fun st => ?_) hg1
      refine own1_lst.mpr ⟨p', _, rfl, hF, upd_same, ?_⟩
      have sx := Shr.stay st _ _ (Shr.stay (.ex (e2.trans e3)) _ _ s1)
      have s4 := ShrL.stay st _ _ s3
      refine .of (by rw [List.length_set, List.length_set]; exact s4.length) fun i a b ha hb => ?_
      by_cases hij : j = i
      · subst hij
        have hj : j < l.length := (List.getElem?_eq_some_iff.mp e7).1
        rw [List.getElem?_set_self hj] at ha
        rw [List.getElem?_set_self (by rw [← s3.length]; exact hj)] at hb
        cases ha; cases hb
        exact sx
      · rw [List.getElem?_set_ne hij] at ha hb
        obtain ⟨w', h1, h2⟩ := s4.get ha
        rw [hb] at h1; cases h1
        exact h2
/-- PLACE.append(e), e fresh -/
theorem xs_papp {st : Stmt} {o e : Expr} {P : FP} {B : FE} (hK : X.K = T.K) (hfm : T.fm = fm) (hx : J.ΓX Γ) (ho : XP X T J.W Γ o P) (hv : XNC X T J.W Γ 1 e B)
    (he : PE X o (tP T J.W Γ P) → PE X e (tNC T J.W Γ 1 B) → PS X st (tDrop (tBM X.K "list" rAppend (tP T J.W Γ P) (tCons (tNC T J.W Γ 1 B) tNil)))) : XS X T J Γ Γ st (fPApp fm P B) := ps_imp (he ho hv) fun D σ H ⟨g, ρ, S, R, hg⟩ => by
  refine ⟨g, ρ, S, R, ?_⟩
  unfold fPApp at hg
  cases ep : P ρ S with
  | no => rw [ep] at hg; exact hg
  | exc y S1 => rw [ep] at hg; exact fun c dd g' H' R' f' e => hg Γ c dd σ g' H' hx R' (f'.frs R.dOB) e
  | ok n f js d S1 =>
    rw [ep] at hg
    intro es v H1 e1 pl
    subst es
    obtain ⟨l, rfl, hg2⟩ := lstK_get (show GoodS T J Γ g H (lstK d _) D from hg)
    clear hg
    have hg := hg2
    split at hg
    · rename_i hd
      have R1 := R.ex e1
      obtain ⟨p, vs, rfl, hH, hl⟩ := place_list (k := 1) hfm R1 pl hd.1
      refine ⟨.inl ⟨rfl, vs, SqL.of hH⟩, g, ρ, S1, R1, ?_⟩
      cases ea : B ρ S1 with
      | no => rw [ea] at hg; exact hg.elim
      | exc y S2 => rw [ea] at hg; exact fun c dd g' H' R' f' e => hg Γ c dd σ g' H' hx R' (((FrE.ex e1).trans f').frs R.dOB) e
      | ok x S2 =>
        rw [ea] at hg
        intro es w H2 Fo e2 hfo R2 hw
        subst es
        replace hg : GoodS T J Γ g H (plPut fm 2 n f js (.lst (l ++ [x])) S2 ρ) D := hg
        have f2 : FrS g H g H2 := (FrE.ex (e1.trans e2)).frs R.dOB
        have hFo : ∀ a, Fo a → ¬ g.U a := fun a z u => by
          obtain ⟨o, q⟩ := R1.dom a u
          rw [hfo a z] at q; cases q
        obtain ⟨F', q1, q2, q3⟩ := put_core (k := 1) (x := .lst (l ++ [x])) (Fo := Fo) (D := D) hfm R2 f2 (fun a z => ⟨hFo a z, .inr (e1.none (hfo a z))⟩) (pl.ex e2) (plPut_k hg) (F2 := fun _ => False)
        simp only [Own] at q2
        obtain ⟨p', vs', e3, hF, hH2, hl2, Gs, h1, h2, h3⟩ := q2
        cases e3
        refine ⟨p, vs', w, rfl, rfl, hH2, by rw [← hl2]; exact sz_lt6 hd.2, ?_⟩
        refine q3 p _ (fun a => F' a ∨ Fo a) hF (fun _ => ⟨nofun, fun _ => nofun⟩) (fun a z => z) (fun st => ?_) hg
        simp only [Own]
        have pF : ∀ a, Fo a → a ≠ p := fun a z e => hFo a z (by rw [e]; exact .inr (.inr (R2.st.bB n f p (q1 p hF)).1))
        refine ⟨p, _, rfl, .inl hF, upd_same, by simp [hl2], fun i a => Gs i a ∧ i < l.length ∨ i = l.length ∧ Fo a, fun i a z => ?_, fun i j a z z' => ?_, fun i d' w' a b => ?_⟩
        · rcases z with z | z
          · exact ⟨.inl (h1 i a z.1).1, (h1 i a z.1).2⟩
          · exact ⟨.inr z.2, pF a z.2⟩
        · rcases z with z | z <;> rcases z' with z' | z'
          · exact h2 i j a z.1 z'.1
          · exact absurd (.inr (.inr (R2.st.bB n f a (q1 a (h1 i a z.1).1)).1)) (hFo a z'.2)
          · exact absurd (.inr (.inr (R2.st.bB n f a (q1 a (h1 j a z'.1).1)).1)) (hFo a z.2)
          · rw [z.1, z'.1]
        · by_cases hi : i < l.length
          · rw [List.getElem?_append_left hi] at a
            rw [List.getElem?_append_left (by omega)] at b
            refine Own.wide _ (Gs i) _ _ _ (fun a z => .inl ⟨z, hi⟩) ?_
            exact Own.keepF st _ _ _ _ (fun a u z e => by rw [upd_ne (h1 i a z).2]; exact e) (h3 i d' w' a b)
          · have hil : i = l.length := by
              have := (List.getElem?_eq_some_iff.mp a).1
              simp at this
              omega
            subst hil
            rw [List.getElem?_append_right (Nat.le_refl _), Nat.sub_self] at a
            rw [hl2, List.getElem?_append_right (Nat.le_refl _), Nat.sub_self] at b
            cases a; cases b
            refine Own.wide _ Fo _ _ _ (fun a z => .inr ⟨rfl, z⟩) ?_
            exact Own.keepF st _ _ _ _ (fun a u z e => by rw [upd_ne (pF a z)]; exact e) hw
    · exact hg.elim
end
end Q

/-! Loops over what a field owns. -/
namespace Q
open PySem PySem.Spec PyProof.Rows L2
def GoodSC (T : Th) (J : Jd) (Γ' : List Md) (g : G) (S : Store) (H : Hp) : RS → Ends → Prop
  | .nx ρ' S', D => S' = S → ∀ σ' g' H', Rel T g' Γ' ρ' S σ' H' → FrS g H g' H' → Exx H H' → D.nx σ' H'
  | .exc x ρ' S', _ => ∀ Γ'' c dd σ' g' H', J.ΓX Γ'' → Rel T g' Γ'' ρ' S' σ' H' → FrS g H g' H' → ExcR T g' H' x c dd → J.W c dd σ' H'
  | _, _ => False
def tSC (T : Th) (J : Jd) (Γ Γ' : List Md) (F : FS) : TS := fun D σ H => ∃ g ρ S, Rel T g Γ ρ S σ H ∧ GoodSC T J Γ' g S H (F ρ S) D
/-- calm statements -/
abbrev XSC (X : Cx) (T : Th) (J : Jd) (Γ Γ' : List Md) (st : Stmt) (F : FS) : Prop := PS X st (tSC T J Γ Γ' F)
abbrev XBC (X : Cx) (T : Th) (J : Jd) (Γ Γ' : List Md) (st : List Stmt) (F : FS) : Prop := PSs X st (tSC T J Γ Γ' F)
def forC (tf : D → Env → Option Env) (b : FS) : List D → Env → Store → RS
  | [], ρ, S => .nx ρ S
  | d :: ds, ρ, S => match tf d ρ with
    | none => .no
    | some ρ1 => match b ρ1 S with
      | .nx ρ2 _ => forC tf b ds ρ2 S
      | .exc x ρ2 S2 => .exc x ρ2 S2
      | _ => .no
def fForP (fm : Nat → Str → Nat) (p : FP) (tf : D → Env → Option Env) (b : FS) : FS := fun ρ S => (p ρ S).bindS ρ fun n f js d S1 => lstK d fun l => if deep fm S1 n f (js.length + 1) = true ∧ deep fm S1 n f (js.length + 2) = false then forC tf b l ρ S1 else .no
section
variable {X : Cx} {T : Th} {J : Jd} {Γ Γ' Γ1 : List Md} {fm : Nat → Str → Nat}
theorem GoodSC.after {g g1 : G} {S : Store} {H H1 : Hp} {r : RS} {D : Ends} (h : GoodSC T J Γ' g S H r D) (f : FrS g H g1 H1) (e : Exx H H1) : GoodSC T J Γ' g1 S H1 r D := by
  cases r with
  | nx ρ' S' => exact fun es σ' g' H' R f' e' => h es σ' g' H' R (f.trans f') (e.trans e')
  | exc x ρ' S' => exact fun Γ'' c dd σ' g' H' a R f' ex => h Γ'' c dd σ' g' H' a R (f.trans f') ex
  | bk _ _ => exact h
  | ct _ _ => exact h
  | rt _ _ _ => exact h
  | no => exact h
theorem xbc_one {st : Stmt} {A : FS} (ha : XSC X T J Γ Γ' st A) : XBC X T J Γ Γ' [st] A := pss_one ha
theorem xbc_cons {st : Stmt} {rest : List Stmt} {A B : FS} (ha : XSC X T J Γ Γ1 st A) (hb : XBC X T J Γ1 Γ' rest B) : XBC X T J Γ Γ' (st :: rest) (fSeq A B) := pss_imp (pss_cons ha hb) fun D σ H ⟨g, ρ, S, R, h⟩ => by
  refine ⟨g, ρ, S, R, ?_⟩
  unfold fSeq at h
  cases e : A ρ S with
  | nx ρ' S' =>
    rw [e] at h
    intro es σ' g' H' R' f' ex
    subst es
    exact ⟨g', ρ', S', R', GoodSC.after h f' ex⟩
  | bk ρ' S' => rw [e] at h; exact h
  | ct ρ' S' => rw [e] at h; exact h
  | rt d ρ' S' => rw [e] at h; exact h
  | exc x ρ' S' => rw [e] at h; exact h
  | no => rw [e] at h; exact h
theorem xsc_set {i : Nat} {e : Expr} {A : FE} {st : Stmt} (hx : J.ΓX Γ) (ha : XC X T J.W Γ e A) (he : PE X e (tC1 T J.W Γ A) → PS X st (tAsg (tC1 T J.W Γ A) (gName i))) (hΓ : Γ.set i .s = Γ') : XSC X T J Γ Γ' st (fSet i A) := ps_imp (he ha) fun D σ H ⟨g, ρ, S, R, h⟩ => by
  refine ⟨g, ρ, S, R, ?_⟩
  unfold fSet at h
  cases r : A ρ S with
  | no => rw [r] at h; exact h
  | exc x S1 => rw [r] at h; exact fun c dd g' H' R' f' e => h Γ c dd σ g' H' hx R' (f'.frs R.dOB) e
  | ok d S1 =>
    rw [r] at h
    intro es v H1 e1 s1
    subst es
    exact h rfl _ (g.drop i) H1 (by rw [← hΓ]; exact (R.ex e1).set s1) (((FrE.ex e1).frs R.dOB).trans .drop) e1
/-- for x in PLACE: ..; the body is calm -/
theorem xs_forP {tg it : Expr} {body : List Stmt} {P : FP} {B : FS} {tf : D → Env → Option Env} {t : TG} {is : List Nat} {pos : Pos} (hK : X.K = T.K) (hfm : T.fm = fm) (hx : J.ΓX Γ) (hp : PassesOwn (model X.prog X.w) X.A X.env X.xe) (hc : X.calm = true) (ho : XP X T J.W Γ it P) (hg : PG X tg t) (ht : TgOk T Γ Γ is t tf)
    (hb : XBC X T J Γ Γ body B) (hi : PE X it (tP T J.W Γ P) → PI X tg it (fun σ H R => tP T J.W Γ P σ H fun x H1 => ∃ a, x = .ref a ∧ (∃ xs, SqL X.K H1 a xs) ∧ R (Itl X.K a) H1)) (hs : ∀ x, foldedSetIterable it X.env x = pure x := by intro _; rfl) : XS X T J Γ Γ (.For tg it body [] pos) (fForP fm P tf B) := ps_imp (ps_for hp hc (hi ho) hg hb hs) fun D σ H ⟨g, ρ, S, R, h⟩ => by
  refine ⟨g, ρ, S, R, ?_⟩
  unfold fForP at h
  cases ep : P ρ S with
  | no => rw [ep] at h; exact h
  | exc y S1 => rw [ep] at h; exact fun c dd g' H' R' f' e => h Γ c dd σ g' H' hx R' (f'.frs R.dOB) e
  | ok n f js d S1 =>
    rw [ep] at h
    intro es v H1 e1 pl
    subst es
    obtain ⟨l, rfl, h2⟩ := lstK_get (show GoodS T J Γ g H (lstK d _) D from h)
    clear h
    split at h2
    · rename_i hd
      have R1 := R.ex e1
      have dl := deep_le hd.1
      rw [← hfm] at dl
      obtain ⟨c, d0, dx, fs, v0, F', k1, k2, k3, k4, k5, k6, k7⟩ := own_at R1 pl fun c d0 h => Nat.le_of_succ_le (dl c d0 h)
      have hk : T.fm c f - js.length = 1 := by
        have a := dl c d0 k1
        have b := hd.2
        unfold deep at b
        rw [k1] at b
        have b := of_decide_eq_false b
        rw [← hfm] at b
        omega
      rw [hk] at k6
      obtain ⟨p, vs, rfl, hF, hH, s3⟩ := own1_lst.mp k6
      have h0 : GoodS T J Γ g H1 (forC tf B l ρ S1) D := GoodS.then h2 ((FrE.ex e1).frs R.dOB)
      generalize hr : forC tf B l ρ S1 = r at h0
      clear h2
      refine ⟨p, rfl, ⟨vs, SqL.of hH⟩, ?_⟩
      refine ⟨fun i m σ' H' => ∃ g' ρ', Rel T g' Γ ρ' S1 σ' H' ∧ FrS g H1 g' H' ∧ Exx H1 H' ∧ m = l.length - i ∧ i ≤ l.length ∧ forC tf B (l.drop i) ρ' S1 = r, ⟨l.length, g, ρ, R1, .refl _ _, .refl _, by simp, Nat.zero_le _, by rw [List.drop_zero]; exact hr⟩, fun i m σ' H' ⟨g', ρ', R', f', x', em, hi', er⟩ => ?_⟩
      have hH' : H' p = some (.lst vs) := x' p _ hH
      have h2 := GoodS.then h0 f'
      by_cases hlt : i < l.length
      · obtain ⟨d, hd⟩ : ∃ d, l[i]? = some d := ⟨l[i], List.getElem?_eq_getElem hlt⟩
        obtain ⟨w, hw1, hw2⟩ := s3.get hd
        refine .inr ⟨⟨vs, w, .of hH', hw1⟩, fun σ2 H2 => ∃ m', m' < m ∧ ∃ g' ρ', Rel T g' Γ ρ' S1 σ2 H2 ∧ FrS g H1 g' H2 ∧ Exx H1 H2 ∧ m' = l.length - (i + 1) ∧ i + 1 ≤ l.length ∧ forC tf B (l.drop (i + 1)) ρ' S1 = r, fun σ2 H2 ⟨m', l', w'⟩ => ⟨m', l', w'⟩, fun x H2 y => ?_⟩
        obtain ⟨y1, y2⟩ := y
        subst y1
        have := y2 vs (.of hH')
        rw [hw1] at this
        cases this
        have sx : Shr T g' H2 d w := Shr.stay f'.stay _ _ hw2
        have ed : l.drop i = d :: l.drop (i + 1) := by
          rw [List.drop_eq_getElem_cons hlt]
          rw [List.getElem?_eq_getElem hlt] at hd
          rw [Option.some.inj hd]
        rw [ed] at er
        rw [forC] at er
        split at er
        · rw [← er] at h2
          exact h2.elim
        · rename_i ρ1 e1'
          refine ht g' ρ' ρ1 S1 σ' H2 d w _ R' sx e1' fun σ3 R3 _ _ => ⟨g'.drops is, ρ1, S1, R3, ?_⟩
          have f3 : FrS g' H2 (g'.drops is) H2 := .drops
          have h3 := GoodS.then h2 f3
          split at er
          · rename_i ρ2 S2 eb
            rw [eb]
            intro es σ4 g4 H4 R4 f4 x4
            exact ⟨l.length - (i + 1), by omega, g4, ρ2, R4, (f'.trans f3).trans f4, x'.trans x4, rfl, hlt, er⟩
          · rename_i y ρ2 S2 eb
            rw [eb]
            rw [← er] at h3
            exact h3
          · rw [← er] at h3
            exact h3.elim
      · have ei : i = l.length := by omega
        subst ei
        refine .inl ⟨⟨vs, .of hH', by rw [← s3.length]; exact Nat.le_refl _⟩, ?_⟩
        rw [List.drop_length, forC] at er
        rw [← er] at h2
        exact h2 σ' g' H' R' (.refl _ _)
    · exact h2.elim
/-! ### a statement that is not reached -/
def fNo : FS := fun _ _ => .no
theorem xs_no {st : Stmt} (h : PS X st (fun _ _ _ => False)) : XS X T J Γ Γ' st fNo := ps_imp h fun D σ H ⟨g, ρ, S, R, h⟩ => h
end
end Q

/-! for row in o.f: row.append(c) -/
namespace Q
open PySem PySem.Spec PyProof.Rows L2
def appD (c : D) : D → D
  | .lst r => .lst (r ++ [c])
  | d => d
def shortL : D → Bool
  | .lst r => decide (r.length < 1000000)
  | _ => false
def fForApp (fm : Nat → Str → Nat) (p : FP) (i : Nat) (c : D) : FS := fun ρ S => (p ρ S).bindS ρ fun n f js d S1 => lstK d fun l => if js = [] ∧ deep fm S1 n f 2 = true ∧ deep fm S1 n f 3 = false ∧ l.all shortL = true ∧ i < ρ.length then .nx (if l.isEmpty = true then ρ else ρ.set i none) (setF S1 n f (.lst (l.map (appD c)))) else .no
theorem take_set {l : List D} {a : D → D} {t : Nat} {x : D} (h : l[t]? = some x) : ((l.take t).map a ++ l.drop t).set t (a x) = (l.take (t + 1)).map a ++ l.drop (t + 1) := by
  have ht : t < l.length := (List.getElem?_eq_some_iff.mp h).1
  have hl : ((l.take t).map a).length = t := by rw [List.length_map, List.length_take]; omega
  rw [List.set_append_right _ _ (by omega), hl, Nat.sub_self, List.drop_eq_getElem_cons ht, List.set_cons_zero, List.take_add_one, h, List.map_append, List.append_assoc]
  rfl
theorem getF_setF {S : Store} {n c : Nat} {f : Str} {d0 d : D} (h : getF S n f = some (c, d0)) : getF (setF S n f d) n f = some (c, d) := by
  unfold getF at h ⊢
  obtain ⟨o, e1, e2⟩ := Option.bind_eq_some_iff.mp h
  obtain ⟨d', e3, e4⟩ := Option.map_eq_some_iff.mp e2
  cases e4
  unfold setF
  rw [e1]
  dsimp only
  rw [List.getElem?_set_self (List.getElem?_eq_some_iff.mp e1).1]
  have key : ∀ l : List (Str × D), (l.lookup f = some d0) → (putD f d l).lookup f = some d := by
    intro l
    induction l with
    | nil => intro h; cases h
    | cons p l ih =>
      obtain ⟨k, x⟩ := p
      intro h
      unfold putD
      by_cases hk : k = f
      · rw [if_pos hk, hk, List.lookup_cons_self]
      · rw [if_neg hk]
        have hb : (f == k) = false := beq_eq_false_iff_ne.mpr fun z => hk z.symm
        rw [List.lookup_cons, hb] at h ⊢
        exact ih h
  show ((putD f d o.fs).lookup f).map _ = _
  rw [key _ e3]
  rfl
theorem putD_put {f : Str} {a b : D} : ∀ l : List (Str × D), putD f b (putD f a l) = putD f b l
  | [] => by simp [putD]
  | (k, x) :: l => by
    by_cases hk : k = f
    · simp [putD, hk]
    · simp only [putD, if_neg hk, putD_put l]
theorem setF_setF {S : Store} {n : Nat} {f : Str} {a b : D} : setF (setF S n f a) n f b = setF S n f b := by
  unfold setF
  cases e : S[n]? with
  | none => dsimp only; rw [e]
  | some o =>
    dsimp only
    rw [List.getElem?_set_self (List.getElem?_eq_some_iff.mp e).1]
    dsimp only
    rw [List.set_set, putD_put]
theorem setF_same {S : Store} {n c : Nat} {f : Str} {d : D} (h : getF S n f = some (c, d)) : setF S n f d = S := by
  unfold getF at h
  obtain ⟨o, e1, e2⟩ := Option.bind_eq_some_iff.mp h
  obtain ⟨d', e3, e4⟩ := Option.map_eq_some_iff.mp e2
  cases e4
  unfold setF
  rw [e1]
  dsimp only
  have key : ∀ l : List (Str × D), l.lookup f = some d → putD f d l = l := by
    intro l
    induction l with
    | nil => intro h; cases h
    | cons p l ih =>
      obtain ⟨k, x⟩ := p
      intro h
      unfold putD
      by_cases hk : k = f
      · subst hk
        rw [List.lookup_cons_self] at h
        cases h
        rw [if_pos rfl]
      · rw [if_neg hk]
        have hb : (f == k) = false := beq_eq_false_iff_ne.mpr fun z => hk z.symm
        rw [List.lookup_cons, hb] at h
        rw [ih h]
  rw [key _ e3]
  obtain ⟨hn, hg⟩ := List.getElem?_eq_some_iff.mp e1
  rw [show (⟨o.cls, o.fs⟩ : Ob) = S[n] from hg.symm]
  exact List.set_getElem_self hn
section
variable {X : Cx} {T : Th} {J : Jd} {Γ : List Md} {fm : Nat → Str → Nat}
/-- a slot holds what nobody asks for -/
theorem Rel.hide {g : G} {ρ : Env} {S : Store} {σ : L2.St} {H : Hp} {i : Nat} {w : Option V} (R : Rel T g Γ ρ S σ H) : Rel T (g.drop i) Γ (ρ.set i none) S (σ.set i w) H := by
  refine R.shift rfl rfl rfl rfl (fun a h => G.drop_U h) (fun j k a h h' => R.dF j k a h.2 h'.2) (fun j a h => R.dFO j a h.2) (fun a h => .inl h) (fun j a h => .inl ⟨j, h.2⟩) (by simp [R.len]) fun st j d' e => ?_
  by_cases hj : i = j
  · subst hj
    by_cases hlt : i < ρ.length
    · rw [List.getElem?_set_self hlt] at e; cases e
    · rw [List.getElem?_eq_none (by simpa using hlt)] at e
      cases e
  · rw [List.getElem?_set_ne hj] at e
    obtain ⟨v, h1, h2⟩ := R.slot j d' e
    exact ⟨v, by rw [List.getElem?_set_ne hj]; exact h1, h2.stay st (fun a z => ⟨fun q => hj q.symm, z⟩) (fun a z => z) rfl (bare_sub rfl rfl (fun i a z => ⟨i, z.2⟩) fun _ z => z)⟩
/-- one list of a field's list grows -/
theorem row_core {g : G} {ρ : Env} {S : Store} {σ : L2.St} {H : Hp} {n c t : Nat} {f : Str} {l r : List D} {p q : Addr} {cd : D} {v : V} (hfm : T.fm = fm) (hs : ∀ g H, Shr T g H cd v) (R : Rel T g Γ ρ S σ H) (pl : PlAt T g S H n f [] (.lst l) (.ref p)) (hc : getF S n f = some (c, .lst l)) (hk : fm c f = 2) (er : l[t]? = some (.lst r))
    (hq : ∃ vs, H p = some (.lst vs) ∧ vs[t]? = some (.ref q)) : ∃ us, H q = some (.lst us) ∧ us.length = r.length ∧ ∃ g', Rel T g' Γ ρ (setF S n f (.lst (l.set t (.lst (r ++ [cd]))))) σ (upd H q (.lst (us ++ [v]))) ∧ FrS g H g' (upd H q (.lst (us ++ [v]))) ∧ PlAt T g' (setF S n f (.lst (l.set t (.lst (r ++ [cd]))))) (upd H q (.lst (us ++ [v]))) n f [] (.lst (l.set t (.lst (r ++ [cd])))) (.ref p) := by
  obtain ⟨vs, hp1, hp2⟩ := hq
  have pl2 : PlAt T g S H n f [t] (.lst r) (.ref q) := by
    obtain ⟨c', d0, dx, fs, v0, p1, p2, p3, p4⟩ := pl
    exact ⟨c', d0, dx, fs, v0, p1, p2, p3, Focus.snocL (js := []) p4 hp1 er hp2⟩
  have hk' : ∀ c' d0, getF S n f = some (c', d0) → fm c' f = [t].length + (0 + 1) := fun c' d0 e => by
    rw [hc] at e; cases e; exact hk
  let S' := setF S n f (.lst (l.set t (.lst (r ++ [cd]))))
  obtain ⟨F', q1, q2, q3⟩ := put_core (k := 0) (g := g) (H := H) (ρ := ρ) (x := .lst (r ++ [cd])) (Fo := fun _ => False) (D := ⟨fun σ' H' => ∃ g', Rel T g' Γ ρ S' σ' H' ∧ FrS g H g' H', fun _ _ => False, fun _ _ => False, fun _ _ => False⟩) (J := ⟨fun _ _ _ _ => False, fun _ => False, fun _ => False, 0, []⟩) hfm (by rw [plusF_none]; exact R) (.refl _ _) (fun a z => z.elim) pl2 hk' (F2 := fun _ => False)
  rw [plusF_none] at q2 q3
  obtain ⟨q', us, e1, hF, hH2, s3⟩ := own1_lst.mp q2
  cases e1
  refine ⟨us, hH2, s3.length.symm, ?_⟩
  have := q3 q (.lst (us ++ [v])) F' hF (fun _ => ⟨nofun, fun _ => nofun⟩) (fun a z => .inl z) (fun st => own1_lst.mpr ⟨q, us ++ [v], rfl, hF, upd_same, ShrL.append (ShrL.stay st _ _ s3) (.cons (hs _ _) .nil)⟩) (by
    unfold plPut
    rw [hc]
    dsimp only
    rw [if_pos (by exact hk)]
    have es : setAt [t] (.lst l) (.lst (r ++ [cd])) = .lst (l.set t (.lst (r ++ [cd]))) := by simp only [setAt, er]
    rw [es]
    exact fun σ' g' H' R' f' => ⟨g', R', f'⟩)
  obtain ⟨g', R', f'⟩ := this
  refine ⟨g', R', f', ?_⟩
  obtain ⟨c', d0, dx, fs, v0, p1, p2, p3, p4⟩ := pl
  have hn : n < g.N := (R.st.fld hc).1
  have hne : g.μ n ≠ q := fun e => by rw [e, hH2] at p2; cases p2
  refine ⟨c, _, dx, fs, v0, getF_setF hc, ?_, p3, ?_⟩
  · rw [f'.μ n hn, upd_ne hne, p2]
    rw [hc] at p1
    cases p1
    rfl
  · exact ⟨rfl, p4.2⟩
theorem xs_forApp {tg it : Expr} {body : List Stmt} {P : FP} {i : Nat} {cd : D} {v : V} {pos : Pos} (hK : X.K = T.K) (hfm : T.fm = fm) (hx : J.ΓX Γ) (hs : ∀ g H, Shr T g H cd v) (ho : XP X T J.W Γ it P)
    (he : PE X it (tP T J.W Γ P) → PS X (.For tg it body [] pos) (tFor (iList X.K (tP T J.W Γ P)) (gName i) (tDrop (tBM X.K "list" rAppend (tVar i) (tCons (tC v) tNil))))) : XS X T J Γ Γ (.For tg it body [] pos) (fForApp fm P i cd) := ps_imp (he ho) fun D σ H ⟨g, ρ, S, R, h⟩ => by
  refine ⟨g, ρ, S, R, ?_⟩
  unfold fForApp at h
  cases ep : P ρ S with
  | no => rw [ep] at h; exact h
  | exc y S1 => rw [ep] at h; exact fun c dd g' H' R' f' e => h Γ c dd σ g' H' hx R' (f'.frs R.dOB) e
  | ok n f js d S1 =>
    rw [ep] at h
    intro es w H1 e1 pl
    subst es
    obtain ⟨l, rfl, h2⟩ := lstK_get (show GoodS T J Γ g H (lstK d _) D from h)
    clear h
    split at h2
    · rename_i hd
      obtain ⟨rfl, hd1, hd2, hall, hi⟩ := hd
      have R1 := R.ex e1
      have f1 : FrS g H g H1 := (FrE.ex e1).frs R.dOB
      obtain ⟨c, d0, dx, fs, v0, p1, p2, p3, p4⟩ := id pl
      obtain ⟨rfl, rfl⟩ := p4
      have hk : fm c f = 2 := by
        have a := deep_le hd1 _ _ p1
        have b := hd2
        unfold deep at b
        rw [p1] at b
        have b := of_decide_eq_false b
        omega
      obtain ⟨p, vs, rfl, hH, hl⟩ := place_list (k := 1) hfm R1 pl hd1
      refine ⟨p, rfl, ⟨vs, SqL.of hH⟩, ?_⟩
      refine ⟨fun t m σ' H' => ∃ g', Rel T g' Γ (if t = 0 then ρ else ρ.set i none) (setF S1 n f (.lst ((l.take t).map (appD cd) ++ l.drop t))) σ' H' ∧ FrS g H g' H' ∧ PlAt T g' (setF S1 n f (.lst ((l.take t).map (appD cd) ++ l.drop t))) H' n f [] (.lst ((l.take t).map (appD cd) ++ l.drop t)) (.ref p) ∧ m = l.length - t ∧ t ≤ l.length, ⟨l.length, g, ?_, f1, ?_, by simp, Nat.zero_le _⟩, fun t m σ' H' ⟨g', R', f', pl', em, ht⟩ => ?_⟩
      · rw [if_pos rfl, List.take_zero, List.map_nil, List.nil_append, List.drop_zero, setF_same p1]; exact R1
      · rw [List.take_zero, List.map_nil, List.nil_append, List.drop_zero, setF_same p1]; exact pl
      · have gF : getF (setF S1 n f (.lst ((l.take t).map (appD cd) ++ l.drop t))) n f = some (c, .lst ((l.take t).map (appD cd) ++ l.drop t)) := getF_setF p1
        have hdp : deep fm (setF S1 n f (.lst ((l.take t).map (appD cd) ++ l.drop t))) n f (([] : List Nat).length + (1 + 1)) = true := by
          unfold deep
          rw [gF]
          exact decide_eq_true (by rw [hk]; exact Nat.le_refl _)
        obtain ⟨p', vs', e3, hH', hl'⟩ := place_list (js := []) (k := 1) hfm R' pl' hdp
        cases e3
        have hlen : ((l.take t).map (appD cd) ++ l.drop t).length = l.length := by
          rw [List.length_append, List.length_map, List.length_take, List.length_drop]; omega
        by_cases hlt : t < l.length
        · obtain ⟨d, hd⟩ : ∃ d, l[t]? = some d := ⟨l[t], List.getElem?_eq_getElem hlt⟩
          have hsh : shortL d = true := List.all_eq_true.mp hall d (List.mem_of_getElem? hd)
          obtain ⟨r, rfl, hr⟩ : ∃ r, d = .lst r ∧ r.length < 1000000 := by
            cases d <;> simp only [shortL] at hsh <;> first | cases hsh | exact ⟨_, rfl, of_decide_eq_true hsh⟩
          have hdt : ((l.take t).map (appD cd) ++ l.drop t)[t]? = some (.lst r) := by
            have hl0 : ((l.take t).map (appD cd)).length = t := by rw [List.length_map, List.length_take]; omega
            rw [List.getElem?_append_right (by omega), hl0, Nat.sub_self, List.getElem?_drop, Nat.add_zero]
            exact hd
          obtain ⟨u, hu⟩ : ∃ u, vs'[t]? = some u := ⟨vs'[t], List.getElem?_eq_getElem (by omega)⟩
          refine .inr ⟨⟨vs', u, .of hH', hu⟩, fun σ2 H2 => ∃ m', m' < m ∧ ∃ g', Rel T g' Γ (if t + 1 = 0 then ρ else ρ.set i none) (setF S1 n f (.lst ((l.take (t + 1)).map (appD cd) ++ l.drop (t + 1)))) σ2 H2 ∧ FrS g H g' H2 ∧ PlAt T g' (setF S1 n f (.lst ((l.take (t + 1)).map (appD cd) ++ l.drop (t + 1)))) H2 n f [] (.lst ((l.take (t + 1)).map (appD cd) ++ l.drop (t + 1))) (.ref p) ∧ m' = l.length - (t + 1) ∧ t + 1 ≤ l.length, fun σ2 H2 ⟨m', a, b⟩ => ⟨m', a, b⟩, fun x H2 y => ?_⟩
          obtain ⟨y1, y2⟩ := y
          subst y1
          have := y2 vs' (.of hH')
          rw [hu] at this
          cases this
          have R3 : Rel T (g'.drop i) Γ (ρ.set i none) (setF S1 n f (.lst ((l.take t).map (appD cd) ++ l.drop t))) (σ'.set i (some u)) H2 := by
            have := R'.hide (i := i) (w := some u)
            split at this
            · exact this
            · rw [List.set_set] at this; exact this
          have f3 : FrS g H (g'.drop i) H2 := f'.trans .drop
          have hq : ∃ q, u = .ref q := by
            obtain ⟨c2, d2, dx2, fs2, w2, F2, k1, k2, k3, k4, k5, k6, k7⟩ := own_at R' pl' fun c' d' e => by simp
            rw [gF] at k1
            cases k1
            rw [hfm, hk] at k6
            simp only [List.length_nil, Nat.sub_zero, Own] at k6
            obtain ⟨p2, vs2, e5, hF5, hH5, hl5, Gs, g1', g2', g3'⟩ := k6
            cases e5
            rw [hH'] at hH5
            cases hH5
            have := g3' t _ _ hdt hu
            simp only [Own] at this
            obtain ⟨q, us, e6, _⟩ := this
            exact ⟨q, e6⟩
          obtain ⟨q, rfl⟩ := hq
          obtain ⟨us, hq1, hq2, g4, R4, f4, pl4⟩ := row_core hfm hs R3 pl' gF hk hdt ⟨vs', hH', hu⟩
          rw [setF_setF] at R4 pl4
          have et : ((l.take t).map (appD cd) ++ l.drop t).set t (.lst (r ++ [cd])) = (l.take (t + 1)).map (appD cd) ++ l.drop (t + 1) := take_set (a := appD cd) hd
          rw [et] at R4 pl4
          have hil : i < σ'.length := by
            have := R'.len
            have e0 : (if t = 0 then ρ else ρ.set i none).length = ρ.length := by split <;> simp
            rw [e0] at this
            omega
          refine ⟨.ref q, List.getElem?_set_self hil, .inl ⟨rfl, us, .of hq1⟩, q, us, v, rfl, rfl, hq1, by rw [hq2]; exact sz_lt6 hr, ?_⟩
          refine ⟨l.length - (t + 1), by omega, g4, by rw [if_neg (Nat.succ_ne_zero t)]; exact R4, f3.trans f4, pl4, rfl, hlt⟩
        · have et : t = l.length := by omega
          subst et
          refine .inl ⟨⟨vs', .of hH', by rw [← hl', hlen]; exact Nat.le_refl _⟩, ?_⟩
          rw [List.take_length, List.drop_length, List.append_nil] at R'
          refine h2 σ' g' H' ?_ f'
          have : (if l.isEmpty = true then ρ else ρ.set i none) = (if l.length = 0 then ρ else ρ.set i none) := by cases l <;> rfl
          rw [this]
          exact R'
    · exact h2.elim
end
end Q

/-! Defs with defaults; parts of fields read. -/
namespace Q
open PySem PySem.Spec PyProof.Rows L2
section
variable {P : Program} {w : World} {K : PySem.W.Frag} {mg : Str → Option Value} {base : Heap}
theorem okRule_funD {x qual : Str} {st : Stmt} {dvs : List V} {f : Addr} {fd : FuncData} (F : FunD K x qual (defArgs st) (defBody st) (defScope st) dvs [] f fd) : OkRule P w K mg base qual st f fd := fun Sc len h => F.ok Sc len h
theorem funD_mk {x qual : Str} {st : Stmt} {f T : Addr} {oc : Value} {od an odT : Option Addr} {osl slT : Array (Option Value)} {kV doc pm cdv ct cT : Value} {its : List Value} {m : Nat} {dvs : List V} (l : K.lookup f = some ⟨oc, od, .func (PySem.W.fnOf x qual (defArgs st) (defBody st) (defScope st) (.ref T) kV doc pm an cdv ct), osl⟩)
    (c : PySem.W.codeIn K cdv qual = true) (k : PySem.W.keepIn K (.ref f) = true) (lT : K.lookup T = some ⟨cT, odT, .seq its.toArray m, slT⟩) (r : Vals dvs its) (hne : dvs ≠ []) : FunD K x qual (defArgs st) (defBody st) (defScope st) dvs [] f (PySem.W.fnOf x qual (defArgs st) (defBody st) (defScope st) (.ref T) kV doc pm an cdv ct) :=
  ⟨⟨oc, od, .ref T, kV, doc, pm, an, cdv, ct, osl, rfl, l, c, .inr ⟨hne, T, _, its, m, rfl, lT, rfl, r⟩, .inl rfl⟩, k⟩
end
/-- the defaults of the last parameters -/
def BindsD (K : PySem.W.Frag) (fd : FuncData) (ps : List Str) (dvs : List V) : Prop := ∃ ds, Vals dvs ds ∧ Binds K fd ps ds
section
variable {X : Cx} {T : Th} {W : WX} {Γ : List Md} {fm : Nat → Str → Nat} {f : Str}
theorem def1_ofD {n : Nat} {sg : Sig} {Φ : FF} {f : Addr} {k : Nat} {fd : FuncData} {ps : List Str} {dvs : List V} (F : FnOk X.prog X.w X.K X.mg X.base (L2.CX X.prog X.w) k f fd ps (spD T n sg Φ)) (hr : Room (k + 1) X.A) (hb : BindsD X.K fd ps dvs) : Def1 X f (spDD T n sg Φ dvs) := by
  obtain ⟨ds, hd, hb⟩ := hb
  exact def1_of F hr hb hd
/-- the value at a place, where nothing below is owned -/
def eAt (fm : Nat → Str → Nat) (p : FP) : FE := fun ρ S => match p ρ S with
  | .ok n f js d S1 => if deep fm S1 n f js.length = true ∧ deep fm S1 n f (js.length + 1) = false then .ok d S1 else .no
  | .exc x S1 => .exc x S1
  | .no => .no
theorem xc_at {e : Expr} {P : FP} (hfm : T.fm = fm) (ho : XP X T W Γ e P) : XC X T W Γ e (eAt fm P) := pe_imp ho fun σ H Q ⟨g, ρ, S, R, hg⟩ => by
  refine ⟨g, ρ, S, R, ?_⟩
  unfold eAt at hg
  cases ep : P ρ S with
  | no => rw [ep] at hg; exact hg.elim
  | exc y S1 => rw [ep] at hg; exact hg
  | ok n f js d S1 =>
    rw [ep] at hg
    intro es v H1 e1 pl
    subst es
    replace hg : GoodC T W Γ ρ σ g S1 H (if deep fm S1 n f js.length = true ∧ deep fm S1 n f (js.length + 1) = false then .ok d S1 else .no) Q := hg
    split at hg
    · rename_i hd
      have dl := deep_le hd.1
      rw [← hfm] at dl
      obtain ⟨c, d0, dx, fs, v0, F', k1, k2, k3, k4, k5, k6, k7⟩ := own_at (R.ex e1) pl dl
      have hk : T.fm c f - js.length = 0 := by
        have b := hd.2
        unfold deep at b
        rw [k1] at b
        have b := of_decide_eq_false b
        rw [← hfm] at b
        omega
      rw [hk] at k6
      exact hg rfl v H1 e1 (by simpa only [Own] using k6)
    · exact hg.elim
end
end Q

/-! For the printer. -/
namespace Q
open PySem PySem.Spec PyProof.Rows L2
theorem fldok_nil {K : PySem.W.Frag} {T : Th} {f : Str} : FldOk K T [] f := fun c h => by cases h
theorem fldok_cons {K : PySem.W.Frag} {T : Th} {f : Str} {c : Nat} {cs : List Nat} (h : Cls K (T.cA c) ∧ NoAttr K (T.cA c) f) (r : FldOk K T cs f) : FldOk K T (c :: cs) f := fun d hd => by
  rcases List.mem_cons.mp hd with e | hd
  · subst e; exact h
  · exact r d hd
theorem sgS_rows {n : Nat} {bs : List Bool} (h : bs.all (· = false) = true := by rfl) : ∀ i, (sgS n).ms.getD i .s = mdOf (bs.getD i false) := fun i => by
  have : bs.getD i false = false := by
    by_cases hi : i < bs.length
    · have := List.all_eq_true.mp h bs[i] (List.getElem_mem hi)
      simpa [List.getD, hi] using this
    · simp [List.getD, List.getElem?_eq_none (Nat.le_of_not_lt hi)]
  rw [this]
  exact rep_s
theorem modes_sl {ms : List Md} (h : (ms.all fun m => match m with | .s => true | .l => true | _ => false) = true) : ∀ i, ms.getD i .s = .s ∨ ms.getD i .s = .l := fun i => by
  by_cases hi : i < ms.length
  · have := List.all_eq_true.mp h ms[i] (List.getElem_mem hi)
    have e : ms.getD i .s = ms[i] := by simp [List.getD, hi]
    rw [e]
    generalize ms[i] = m at this
    cases m <;> simp at this <;> simp
  · left
    simp [List.getD, List.getElem?_eq_none (Nat.le_of_not_lt hi)]
section
variable {X : Cx} {T : Th} {W : WX} {Γ : List Md} {bs : List Bool}
theorem tm_nil {σ : L2.St} {H : Hp} {K : List V → Hp → Prop} (h : tM T W Γ bs lNil σ H K) : K [] H := by
  obtain ⟨g, ρ, S, R, hg⟩ := h
  exact hg [] g H R (.refl _ _) (by simp only [ShrM])
theorem pe_call_nil {e : Expr} {sp : Sp} {E : L2.St → XK} (h : PE X e (tCallS sp E tNil)) : PE X e (tCallS sp E (tM T W Γ bs lNil)) := pe_imp h fun σ H Q q => tm_nil q
theorem pe_make_nil {e : Expr} {sp : Sp} {E : L2.St → XK} {C : Addr} (h : PE X e (tMakeD C sp E tNil)) : PE X e (tMakeD C sp E (tM T W Γ bs lNil)) := pe_imp h fun σ H Q q => tm_nil q
theorem pe_meth_nil {e : Expr} {m : Str} {Ms : Addr → Sp → Prop} {A : FE} {E : L2.St → XK} (h : PE X e (tMethD m Ms E (tX T W Γ A) tNil)) : PE X e (tMethD m Ms E (tX T W Γ A) (tM T W Γ bs lNil)) := pe_imp h fun σ H Q ⟨g, ρ, S, R, hg⟩ => by
  refine ⟨g, ρ, S, R, ?_⟩
  cases r : A ρ S with
  | no => rw [r] at hg; exact hg
  | exc x S1 => rw [r] at hg; exact hg
  | ok d S1 =>
    rw [r] at hg
    intro v g' H' R' f' s'
    obtain ⟨a, C, dx, fs, sp, h1, h2, h3, h4, h5⟩ := hg v g' H' R' f' s'
    exact ⟨a, C, dx, fs, sp, h1, h2, h3, h4, tm_nil h5⟩
end
section
variable {P : Program} {w : World} {K : PySem.W.Frag} {mg : Str → Option Value} {base : Heap} {T : Th}
theorem fn_okSR {qual : Str} {st : Stmt} {f : Addr} {fd : FuncData} {N ps : List Str} {k n : Nat} {B : FS} {Γ' : List Md} (F : OkRule P w K mg base qual st f fd) (Sc : FnScope N ps (defScope st)) (hn : ps.length = n) (hN : n ≤ N.length)
    (hbody : ∀ (cdv : Value) (A : Around) (outer : List PySem.Env) (s : Shared) (H : Hp) (E : XK), Room k (A.deeper (envOfC qual (defScope st) s.heap.objs.size f cdv)) →
      XB (cxOf (L2.CX P w) P w K mg base N qual (defScope st) f cdv A outer s H E) T (jdS n E) (ΓS N.length) Γ' (defBody st) B) :
    FnOk P w K mg base (L2.CX P w) (k + 1) f fd ps (spD T n (sgS n) (fBody N.length n (ΓS n) B)) := by
  refine fn_okR (sg := sgS n) F Sc hn hN (Γ' := Γ') (fun cdv A outer s H E hr => ?_) gp_s
  have e : (sgS n).ms ++ List.replicate (N.length - (sgS n).ms.length) .s = ΓS N.length := by
    show List.replicate n Md.s ++ List.replicate (N.length - (List.replicate n Md.s).length) .s = List.replicate N.length .s
    rw [List.length_replicate, List.replicate_append_replicate]
    congr 1; omega
  rw [e]; exact hbody cdv A outer s H E hr
end
end Q

/-! Dicts, their keys whole numbers and texts, or tuples. -/
namespace Q
open PySem PySem.Spec PyProof.Rows L2
mutual
/-- the value is the key -/
def NK (K : PySem.W.Frag) (H : Hp) : NestedKey → V → Prop
  | .none, v => v = .non
  | .num i, v => v = .int i ∨ ∃ b : Bool, v = .bl b ∧ i = (if b = true then 1 else 0)
  | .text x, v => v = .str x
  | .tup ks, v => ∃ a vs, v = .ref a ∧ SqT K H a vs ∧ NKL K H ks vs
def NKL (K : PySem.W.Frag) (H : Hp) : List NestedKey → List V → Prop
  | [], vs => vs = []
  | k :: ks, vs => ∃ v ws, vs = v :: ws ∧ NK K H k v ∧ NKL K H ks ws
end
mutual
theorem nk_shr {T : Th} {g : G} {H : Hp} : ∀ (d : D) (k : NestedKey) (v : V), nk d = some k → Shr T g H d v → NK T.K H k v
  | .non, k, v, e, s => by simp only [nk] at e; cases e; simp only [NK]; exact shr_non.mp s
  | .bl b, k, v, e, s => by simp only [nk] at e; cases e; simp only [NK]; exact .inr ⟨b, shr_bl.mp s, rfl⟩
  | .int i, k, v, e, s => by simp only [nk] at e; cases e; simp only [NK]; exact .inl (shr_int.mp s)
  | .str x, k, v, e, s => by simp only [nk] at e; cases e; simp only [NK]; exact shr_str.mp s
  | .tup l, k, v, e, s => by
    simp only [nk] at e
    obtain ⟨ks, e1, e2⟩ := Option.map_eq_some_iff.mp e
    subst e2
    obtain ⟨a, vs, h1, h2, h3⟩ := shr_tup.mp s
    simp only [NK]
    exact ⟨a, vs, h1, h2.sq, nkL_shr l ks vs e1 h3⟩
  | .lst l, k, v, e, s => by simp only [nk] at e; cases e
  | .scr l, k, v, e, s => by simp only [nk] at e; cases e
  | .dct l, k, v, e, s => by simp only [nk] at e; cases e
  | .obj n, k, v, e, s => by simp only [nk] at e; cases e
  | .fn n l, k, v, e, s => by simp only [nk] at e; cases e
  | .gone n, k, v, e, s => by simp only [nk] at e; cases e
theorem nkL_shr {T : Th} {g : G} {H : Hp} : ∀ (l : List D) (ks : List NestedKey) (vs : List V), nkL l = some ks → ShrL T g H l vs → NKL T.K H ks vs
  | [], ks, vs, e, s => by
    simp only [nkL] at e
    cases e
    simp only [ShrL] at s
    simp only [NKL]
    exact s
  | d :: r, ks, vs, e, s => by
    simp only [nkL] at e
    split at e
    · rename_i k ks' e1 e2
      cases e
      simp only [ShrL] at s
      obtain ⟨v, ws, h1, h2, h3⟩ := s
      simp only [NKL]
      exact ⟨v, ws, h1, nk_shr d k v e1 h2, nkL_shr r ks' ws e2 h3⟩
    · cases e
end
section
variable {X : Cx} {pins : List (Addr × Obj)} {σ : L2.St} {H : Hp} {s : Shared}
mutual
theorem nk_is (I : Inv X pins σ H s) : ∀ (k : NestedKey) (v : V) (u : Value), NK X.K H k v → RelV v u → NestedIs s.heap k u
  | .none, v, u, h, r => by
    simp only [NK] at h
    subst h
    obtain rfl : u = Value.none := r
    exact .none
  | .num i, v, u, h, r => by
    simp only [NK] at h
    rcases h with h | ⟨b, h, e⟩
    · subst h
      obtain ⟨t, rfl⟩ := (show ∃ t, u = Value.int i t from r)
      exact .int i t
    · subst h
      obtain rfl : u = Value.bool b := r
      exact .bool e
  | .text x, v, u, h, r => by
    simp only [NK] at h
    subst h
    obtain ⟨t, rfl⟩ := (show ∃ t, u = Value.str x t from r)
    exact .text x t
  | .tup ks, v, u, h, r => by
    simp only [NK] at h
    obtain ⟨a, vs, h1, h2, h3⟩ := h
    subst h1
    obtain rfl : u = Value.ref a := r
    obtain ⟨its, rv, pl, hz⟩ := I.tuple h2
    obtain ⟨o, ho, hc, n, hd⟩ := pl
    exact .tup ho hc hd (by simpa using nkL_is I ks vs its h3 rv)
theorem nkL_is (I : Inv X pins σ H s) : ∀ (ks : List NestedKey) (vs : List V) (us : List Value), NKL X.K H ks vs → Vals vs us → NestedAll s.heap ks us
  | [], vs, us, h, r => by
    simp only [NKL] at h
    subst h
    cases r
    exact .nil
  | k :: ks, vs, us, h, r => by
    simp only [NKL] at h
    obtain ⟨v, ws, h1, h2, h3⟩ := h
    subst h1
    cases r with
    | cons h4 h5 => exact .cons (nk_is I k v _ h2 h4) (nkL_is I ks ws _ h3 h5)
end
end
/-- what stands at the key -/
def valN (ps : List (NestedKey × Addr × V)) (k : NestedKey) : Option V := (ps.find? fun p => decide (p.1 = k)).map (·.2.2)
def putNAt (k : NestedKey) (v : V) (p : NestedKey × Addr × V) : NestedKey × Addr × V := if p.1 = k then (p.1, p.2.1, v) else p
def putN (ps : List (NestedKey × Addr × V)) (k : NestedKey) (b : Addr) (v : V) : List (NestedKey × Addr × V) := if (valN ps k).isSome then ps.map (putNAt k v) else ps ++ [(k, b, v)]
abbrev PN (ps : List (NestedKey × Addr × V)) (xs : List (NestedKey × Addr × Value)) : Prop := Paired (fun (p : NestedKey × Addr × V) (x : NestedKey × Addr × Value) => p.1 = x.1 ∧ p.2.1 = x.2.1 ∧ RelV p.2.2 x.2.2) ps xs
theorem PN.val {ps : List (NestedKey × Addr × V)} {xs : List (NestedKey × Addr × Value)} (r : PN ps xs) (k : NestedKey) : RelO (valN ps k) ((atKey xs k).map (·.2)) := by
  induction r with
  | nil => exact True.intro
  | @cons p q ps qs h t ih =>
    obtain ⟨h1, _, h2⟩ := h
    by_cases e : p.1 = k
    · have e' : q.1 = k := h1.symm.trans e
      have b : atKey (q :: qs) k = some q.2 := by simp [atKey, List.find?_cons, e']
      have c : valN (p :: ps) k = some p.2.2 := by simp [valN, List.find?_cons, e]
      rw [c, b]; exact h2
    · have e' : ¬ q.1 = k := fun z => e (h1.trans z)
      have b : atKey (q :: qs) k = atKey qs k := by simp [atKey, List.find?_cons, e']
      have c : valN (p :: ps) k = valN ps k := by simp [valN, List.find?_cons, e]
      rw [c, b]; exact ih
theorem PN.put {ps : List (NestedKey × Addr × V)} {xs : List (NestedKey × Addr × Value)} (r : PN ps xs) (k : NestedKey) (b : Addr) {y : V} {u : Value} (ry : RelV y u) : PN (putN ps k b y) (storedH xs k b u) := by
  have e : (valN ps k).isSome = (atKey xs k).isSome := by rw [(r.val k).isSome_eq, Option.isSome_map]
  unfold putN storedH
  rw [e]
  by_cases q : (atKey xs k).isSome = true
  · rw [if_pos q, if_pos q]
    clear q e
    induction r with
    | nil => exact .nil
    | @cons p q ps qs h t ih =>
      rw [List.map_cons, List.map_cons]
      refine .cons ?_ ih
      obtain ⟨h1, h2, h3⟩ := h
      unfold putAt putNAt
      by_cases e : p.1 = k
      · rw [if_pos e, if_pos (h1.symm.trans e)]; exact ⟨h1, h2, ry⟩
      · rw [if_neg e, if_neg (fun z => e (h1.trans z))]; exact ⟨h1, h2, h3⟩
  · rw [if_neg q, if_neg q]; exact Paired.snoc r ⟨rfl, rfl, ry⟩
/-- what the dict at a holds at the key y -/
def NGet (P : Program) (w : World) (K : PySem.W.Frag) (H : Hp) (a : Addr) (y : V) (r : Option V) : Prop :=
  (∃ ks k, H a = some (.dK ks) ∧ y = kV k ∧ r = valV ks k) ∨
  (∃ ps k b, H a = some (dN P w a ps) ∧ y = .ref b ∧ NK K H k y ∧ k.depth ≤ 8 ∧ (∀ p ∈ ps, NK K H p.1 (.ref p.2.1) ∧ p.1.depth ≤ 8) ∧ r = valN ps k) ∨
  (∃ k b, H a = some (.dK []) ∧ y = .ref b ∧ NK K H k y ∧ k.depth ≤ 8 ∧ r = none)
section
variable {X : Cx} {pins : List (Addr × Obj)} {σ : L2.St} {H : Hp} {s : Shared} {a : Addr} {y v : V} {u r : Value} {o : Option V} {A : Around} {E : Value → Shared → Prop}
theorem dn_of {ps : List (NestedKey × Addr × V)} (I : Inv X pins σ H s) (e : H a = some (dN X.prog X.w a ps)) (hk : ∀ p ∈ ps, NK X.K H p.1 (.ref p.2.1) ∧ p.1.depth ≤ 8) :
    ps.length ≤ sizeLine ∧ (a == sysModules) = false ∧ ∃ xs, PN ps xs ∧ s.heap.DictOfH (nestedKind X.prog X.w) a xs := by
  obtain ⟨⟨z, y, o, es, ep, xs, h1, h2, h3, h4, h5, h6⟩, _⟩ := (show ObjOk X.prog X.w H s.heap a (dN X.prog X.w a ps) from I.hok a _ e)
  refine ⟨z, y, xs, h6, o, es, ep, h1, h2, h3, h4, fun x hx => ?_, h5⟩
  have all : ∀ {l : List (NestedKey × Addr × V)} {m : List (NestedKey × Addr × Value)}, PN l m → (∀ p ∈ l, NK X.K H p.1 (.ref p.2.1) ∧ p.1.depth ≤ 8) → ∀ x ∈ m, (nestedKind X.prog X.w).is s.heap x.1 x.2.1 := by
    intro l m q hl
    induction q with
    | nil => intro x hx; exact nomatch hx
    | @cons p q ps qs hq t ih =>
      intro x hx
      rcases List.mem_cons.mp hx with e | hx
      · subst e
        obtain ⟨h1, h2⟩ := hl p (List.mem_cons_self ..)
        rw [← hq.1, ← hq.2.1]
        exact ⟨nk_is I _ _ _ h1 rfl, h2⟩
      · exact ih (fun p hp => hl p (List.mem_cons_of_mem _ hp)) x hx
  exact all h6 hk x hx
theorem pairs_nil {P : Program} {w : World} {l : List DictEntry} (h : Pairs (mixKind P w) l ([] : List (Key × Value))) : l = [] := by cases h; rfl
theorem dn_empty (I : Inv X pins σ H s) (e : H a = some (.dK [])) : (a == sysModules) = false ∧ s.heap.DictOfH (nestedKind X.prog X.w) a [] := by
  obtain ⟨z, hd, vs, rel, o, es, ep, h1, h2, h3, h4, h5, h6⟩ := dk_of I.hok e
  cases rel
  exact ⟨hd, o, es, ep, h1, h2, h3, pairs_nil h5, fun x hx => (nomatch hx), List.nodup_nil⟩
end
end Q

/-! d[y], y in d, d[y] = v. -/
namespace Q
open PySem PySem.Spec PyProof.Rows L2
theorem kind_room {P : Program} {w : World} {A : Around} (hu : A.units + 16 < cLine) : (nestedKind P w).room A.in1 := by
  show A.in1.units + 8 < cLine
  have : A.in1.units ≤ A.units + 1 := by
    unfold Around.in1
    show _ ≤ _
    simp
  omega
section
variable {X : Cx} {pins : List (Addr × Obj)} {σ : L2.St} {H : Hp} {s : Shared} {a : Addr} {y v : V} {u r : Value} {o : Option V} {A : Around} {E : Value → Shared → Prop}
theorem n_getItem {Q : Value → Shared → Prop} (hu : A.units + 16 < cLine) (I : Inv X pins σ H s) (g : NGet X.prog X.w X.K H a y (some v)) (ry : RelV y u) (h : ∀ w' s', Inv X pins σ H s' → RelV v w' → Q w' s') :
    wpAny (model X.prog X.w) A (getItem (.ref a) u) Q E s := by
  rcases g with ⟨ks, k, e, ey, l⟩ | ⟨ps, k, b, e, ey, nk, dk, al, l⟩ | ⟨_, _, _, _, _, _, l⟩
  · exact d_getItem (by omega) I (.inl ⟨ks, k, .inl e, ey, l⟩) ry h
  · subst ey
    cases (show u = Value.ref b from ry)
    obtain ⟨z, hd, xs, rel, dd⟩ := dn_of I e al
    obtain ⟨w', hw, rw'⟩ := RelO.some_of (v := v) (o := (atKey xs k).map (·.2)) (by rw [l]; exact rel.val k)
    obtain ⟨p, hp, hp2⟩ := Option.map_eq_some_iff.mp hw
    refine wpAny_getItem_heap (kind_room hu) ⟨nk_is I _ _ _ nk rfl, dk⟩ dd hp ?_
    rw [hp2]
    exact h w' _ (I.tok _) rw'
  · cases l
theorem n_in {Q : Value → Shared → Prop} (hu : A.units + 16 < cLine) (I : Inv X pins σ H s) (g : NGet X.prog X.w X.K H a y o) (ry : RelV y u) (h : ∀ s', Inv X pins σ H s' → Q (.bool o.isSome) s') :
    wpAny (model X.prog X.w) A (compareOp .In u (.ref a)) Q E s := by
  rcases g with ⟨ks, k, e, ey, l⟩ | ⟨ps, k, b, e, ey, nk, dk, al, l⟩ | ⟨k, b, e, ey, nk, dk, l⟩
  · exact d_in (by omega) I (.inl ⟨ks, k, .inl e, ey, l⟩) ry h
  · subst ey
    cases (show u = Value.ref b from ry)
    obtain ⟨z, hd, xs, rel, dd⟩ := dn_of I e al
    refine wpAny_in_heap (kind_room hu) ⟨nk_is I _ _ _ nk rfl, dk⟩ hd dd ?_
    have q := (rel.val k).isSome_eq
    rw [Option.isSome_map] at q
    rw [← q, ← l]
    exact h _ (I.tok _)
  · subst ey
    cases (show u = Value.ref b from ry)
    obtain ⟨hd, dd⟩ := dn_empty I e
    refine wpAny_in_heap (kind_room hu) ⟨nk_is I _ _ _ nk rfl, dk⟩ hd dd ?_
    rw [l] at h
    exact h _ (I.tok _)
theorem n_notIn {Q : Value → Shared → Prop} (hu : A.units + 16 < cLine) (I : Inv X pins σ H s) (g : NGet X.prog X.w X.K H a y o) (ry : RelV y u) (h : ∀ s', Inv X pins σ H s' → Q (.bool (!o.isSome)) s') :
    wpAny (model X.prog X.w) A (compareOp .NotIn u (.ref a)) Q E s := by
  rcases g with ⟨ks, k, e, ey, l⟩ | ⟨ps, k, b, e, ey, nk, dk, al, l⟩ | ⟨k, b, e, ey, nk, dk, l⟩
  · exact d_notIn (by omega) I (.inl ⟨ks, k, .inl e, ey, l⟩) ry h
  · subst ey
    cases (show u = Value.ref b from ry)
    obtain ⟨z, hd, xs, rel, dd⟩ := dn_of I e al
    refine wpAny_notIn_heap (kind_room hu) ⟨nk_is I _ _ _ nk rfl, dk⟩ hd dd ?_
    have q := (rel.val k).isSome_eq
    rw [Option.isSome_map] at q
    rw [← q, ← l]
    exact h _ (I.tok _)
  · subst ey
    cases (show u = Value.ref b from ry)
    obtain ⟨hd, dd⟩ := dn_empty I e
    refine wpAny_notIn_heap (kind_room hu) ⟨nk_is I _ _ _ nk rfl, dk⟩ hd dd ?_
    rw [l] at h
    exact h _ (I.tok _)
theorem ndict_typeIs (I : Inv X pins σ H s) (g : NGet X.prog X.w X.K H a y o) : s.TypeIs (.ref a) "dict" := by
  rcases g with ⟨ks, k, e, ey, l⟩ | ⟨ps, k, b, e, ey, nk, dk, al, l⟩ | ⟨k, b, e, ey, nk, dk, l⟩
  · exact dict_typeIs I (o := o) (.inl ⟨ks, k, .inl e, ey, l⟩)
  · obtain ⟨z, hd, xs, rel, dd⟩ := dn_of I e al
    exact dd.typeIs
  · obtain ⟨hd, dd⟩ := dn_empty I e
    exact dd.typeIs
/-- the heap behind a[y] = v -/
def NPut (P : Program) (w : World) (K : PySem.W.Frag) (H : Hp) (a : Addr) (y v : V) (H' : Hp) : Prop :=
  (∃ ks k, H a = some (.dK ks) ∧ y = kV k ∧ ks.length < sizeLine ∧ H' = upd H a (.dK (putK ks k v))) ∨
  (∃ ps k b, H a = some (dN P w a ps) ∧ y = .ref b ∧ NK K H k y ∧ k.depth ≤ 8 ∧ (∀ p ∈ ps, NK K H p.1 (.ref p.2.1) ∧ p.1.depth ≤ 8) ∧ ps.length < sizeLine ∧ H' = upd H a (dN P w a (putN ps k b v))) ∨
  (∃ k b, H a = some (.dK []) ∧ y = .ref b ∧ NK K H k y ∧ k.depth ≤ 8 ∧ H' = upd H a (dN P w a [(k, b, v)]))
theorem putN_length (ps : List (NestedKey × Addr × V)) (k : NestedKey) (b : Addr) (v : V) : (putN ps k b v).length ≤ ps.length + 1 := by
  unfold putN
  split
  · rw [List.length_map]; omega
  · rw [List.length_append]; exact Nat.le_refl _
theorem dn_ok {h' : Heap} {H' : Hp} {ps : List (NestedKey × Addr × V)} {xs : List (NestedKey × Addr × Value)} (z : ps.length ≤ sizeLine) (hd : (a == sysModules) = false) (rel : PN ps xs) (dd : h'.DictOfH (nestedKind X.prog X.w) a xs) : ObjOk X.prog X.w H' h' a (dN X.prog X.w a ps) := by
  obtain ⟨o, es, ep, h1, h2, h3, h4, _, h5⟩ := dd
  exact ⟨⟨z, hd, o, es, ep, xs, h1, h2, h3, h4, h5, rel⟩, ⟨o, h1⟩, fun k1 k2 ⟨z, hd, o, es, ep, xs, h1, h2, h3, h4, h5, rel⟩ kp => ⟨z, hd, o, es, ep, xs, kp o h1, h2, h3, h4, h5, rel⟩⟩
theorem n_setItem {H' : Hp} {Q : Unit → Shared → Prop} (hu : A.units + 16 < cLine) (I : Inv X pins σ H s) (g : NPut X.prog X.w X.K H a y v H') (ry : RelV y u) (rv : RelV v r) (h : ∀ s', Inv X pins σ H' s' → Q () s') :
    wpAny (model X.prog X.w) A (setItem (.ref a) u r) Q E s := by
  rcases g with ⟨ks, k, e, ey, l, eH⟩ | ⟨ps, k, b, e, ey, nk, dk, al, l, eH⟩ | ⟨k, b, e, ey, nk, dk, eH⟩
  · exact d_setItem (by omega) I (.inl ⟨ks, k, e, ey, l, eH⟩) ry rv h
  · subst ey eH
    cases (show u = Value.ref b from ry)
    obtain ⟨z, hd, xs, rel, dd⟩ := dn_of I e al
    have hz : xs.length ≤ sizeLine := by rw [← Paired.length rel]; exact z
    have hl : (putN ps k b v).length ≤ sizeLine := by have := putN_length ps k b v; omega
    refine wpAny_setItem_heap (hsz := hz) (kind_room hu) ⟨nk_is I _ _ _ nk rfl, dk⟩ dd fun h' dd' hs => h _ ?_
    have he : ∃ q, h'.get? a = some q := let ⟨q, _, _, hq, _⟩ := dd'; ⟨q, hq⟩
    exact d_write I (by rw [e]; exact True.intro) hs he (dn_ok hl hd (rel.put k b rv) dd')
  · subst ey eH
    cases (show u = Value.ref b from ry)
    obtain ⟨hd, dd⟩ := dn_empty I e
    refine wpAny_setItem_heap (hsz := Nat.zero_le _) (kind_room hu) ⟨nk_is I _ _ _ nk rfl, dk⟩ dd fun h' dd' hs => h _ ?_
    have he : ∃ q, h'.get? a = some q := let ⟨q, _, _, hq, _⟩ := dd'; ⟨q, hq⟩
    exact d_write I (by rw [e]; exact True.intro) hs he (dn_ok (xs := [(k, b, r)]) (Nat.succ_le_of_lt (by rw [sizeLine_eq]; decide)) hd (.cons ⟨rfl, rfl, rv⟩ .nil) dd')
end
end Q

/-! Dicts as data: d[k], k in d. -/
namespace Q
open PySem PySem.Spec PyProof.Rows L2
def kEq (a b : D) : Bool := match nk a, nk b with
  | some x, some y => decide (x = y)
  | _, _ => false
def dlook (l : List (D × D)) (k : D) : Option D := (l.find? fun p => kEq p.1 k).map (·.2)
/-- what is a key: a whole number, a text, a tuple of such (to depth 8) -/
def keyF (k : D) : Bool := match k with
  | .int _ => true
  | .str _ => true
  | .tup _ => (nk k).any fun x => decide (x.depth ≤ 8)
  | _ => false
def keyD : Key → D
  | .inl i => .int i
  | .inr x => .str x
section
variable {T : Th} {g : G} {H : Hp}
theorem shr_kV {d : D} {k : Key} (s : Shr T g H d (kV k)) : d = keyD k := by
  cases k with
  | inl i =>
    cases d <;> simp only [Shr, kV] at s <;> first | (cases s; done) | (cases s; rfl) | skip
    all_goals (first | (obtain ⟨_, _, z, _⟩ := s; cases z; done) | (obtain ⟨_, z⟩ := s; cases z; done) | (exact s.elim))
  | inr i =>
    cases d <;> simp only [Shr, kV] at s <;> first | (cases s; done) | (cases s; rfl) | skip
    all_goals (first | (obtain ⟨_, _, z, _⟩ := s; cases z; done) | (obtain ⟨_, z⟩ := s; cases z; done) | (exact s.elim))
theorem kEq_keyD (a b : Key) : kEq (keyD a) (keyD b) = decide (a = b) := by
  cases a <;> cases b <;> unfold kEq keyD <;> simp only [nk] <;> simp
theorem dlook_cons_t {p : D × D} {l : List (D × D)} {k : D} (h : kEq p.1 k = true) : dlook (p :: l) k = some p.2 := by simp [dlook, List.find?_cons, h]
theorem dlook_cons_f {p : D × D} {l : List (D × D)} {k : D} (h : kEq p.1 k = false) : dlook (p :: l) k = dlook l k := by simp [dlook, List.find?_cons, h]
theorem dk_look {k : Key} : ∀ (ks : List (Key × V)) (l : List (D × D)), ShrK T g H l (ks.map fun p => (kV p.1, p.2)) → (dlook l (keyD k)).isSome = (valV ks k).isSome ∧ ∀ z, dlook l (keyD k) = some z → ∃ v, valV ks k = some v ∧ Shr T g H z v
  | [], [], _ => ⟨rfl, fun z h => by cases h⟩
  | [], (a, d) :: l, s => by
    simp only [List.map_nil, ShrK] at s
    obtain ⟨_, _, _, z, _⟩ := s
    cases z
  | p :: ks, [], s => by
    simp only [List.map_cons, ShrK] at s
    cases s
  | p :: ks, (a, d) :: l, s => by
    simp only [List.map_cons, ShrK] at s
    obtain ⟨u, v, ws, e, s1, s2, s3⟩ := s
    cases e
    have ea := shr_kV s1
    subst ea
    have ih := dk_look (k := k) ks l s3
    by_cases e : p.1 = k
    · have h1 : kEq (keyD p.1) (keyD k) = true := by rw [kEq_keyD, decide_eq_true e]
      rw [dlook_cons_t (p := (keyD p.1, d)) h1, valV_pos e]
      exact ⟨rfl, fun z h => by cases h; exact ⟨_, rfl, s2⟩⟩
    · have h1 : kEq (keyD p.1) (keyD k) = false := by rw [kEq_keyD, decide_eq_false e]
      rw [dlook_cons_f (p := (keyD p.1, d)) h1, valV_neg e]
      exact ih
theorem dn_look {k : D} {kk : NestedKey} (hk : nk k = some kk) : ∀ (ps : List (NestedKey × Addr × V)) (l : List (D × D)), ShrK T g H l (ps.map fun p => (V.ref p.2.1, p.2.2)) → ps.map (fun p => some p.1) = l.map (fun p => nk p.1) →
    (dlook l k).isSome = (valN ps kk).isSome ∧ (∀ z, dlook l k = some z → ∃ v, valN ps kk = some v ∧ Shr T g H z v) ∧ ∀ p ∈ ps, NK T.K H p.1 (.ref p.2.1)
  | [], [], _, _ => ⟨rfl, fun z h => (by cases h), fun p hp => (nomatch hp)⟩
  | [], (a, d) :: l, s, _ => by
    simp only [List.map_nil, ShrK] at s
    obtain ⟨_, _, _, z, _⟩ := s
    cases z
  | p :: ps, [], s, _ => by
    simp only [List.map_cons, ShrK] at s
    cases s
  | p :: ps, (a, d) :: l, s, e0 => by
    simp only [List.map_cons, ShrK] at s
    obtain ⟨u, v, ws, e, s1, s2, s3⟩ := s
    cases e
    simp only [List.map_cons, List.cons.injEq] at e0
    obtain ⟨i1, i2, i3⟩ := dn_look hk ps l s3 e0.2
    have ea : nk a = some p.1 := e0.1.symm
    have hn := nk_shr a p.1 _ ea s1
    have al : ∀ q ∈ p :: ps, NK T.K H q.1 (.ref q.2.1) := fun q hq => by
      rcases List.mem_cons.mp hq with h | h
      · rw [h]; exact hn
      · exact i3 q h
    by_cases e : p.1 = kk
    · have h1 : kEq a k = true := by unfold kEq; rw [ea, hk]; exact decide_eq_true e
      have h2 : valN (p :: ps) kk = some p.2.2 := by simp [valN, List.find?_cons, e]
      rw [dlook_cons_t (p := (a, d)) h1, h2]
      exact ⟨rfl, fun z h => (by cases h; exact ⟨_, rfl, s2⟩), al⟩
    · have h1 : kEq a k = false := by unfold kEq; rw [ea, hk]; exact decide_eq_false e
      have h2 : valN (p :: ps) kk = valN ps kk := by simp [valN, List.find?_cons, e]
      rw [dlook_cons_f (p := (a, d)) h1, h2]
      exact ⟨i1, i2, al⟩
/-- the keys are of the sort of k -/
def sortOk (l : List (D × D)) (k : D) : Bool := match k with
  | .tup _ => l.all fun p => match p.1 with
    | .tup _ => true
    | _ => false
  | _ => flatKs l
theorem shr_key {k : D} {y : V} (hk : keyF k = true) (s : Shr T g H k y) : (∃ q, k = keyD q ∧ y = kV q) ∨ ∃ l kk b, k = .tup l ∧ nk k = some kk ∧ kk.depth ≤ 8 ∧ y = .ref b ∧ NK T.K H kk y := by
  cases k <;> unfold keyF at hk <;> try (cases hk; done)
  · rename_i i
    exact .inl ⟨.inl i, rfl, shr_int.mp s⟩
  · rename_i x
    exact .inl ⟨.inr x, rfl, shr_str.mp s⟩
  · rename_i l
    obtain ⟨kk, e1, e2⟩ : ∃ kk, nk (.tup l) = some kk ∧ decide (kk.depth ≤ 8) = true := by
      cases e : nk (.tup l) with
      | none => rw [e] at hk; cases hk
      | some kk => rw [e] at hk; exact ⟨kk, rfl, hk⟩
    obtain ⟨a, vs, e3, _, _⟩ := shr_tup.mp s
    exact .inr ⟨l, kk, a, rfl, e1, of_decide_eq_true e2, e3, nk_shr _ kk y e1 s⟩
/-- what the dict holds, as data and as it lies there -/
theorem nget_shr {a : Addr} {l : List (D × D)} {kvs : List (V × V)} {k : D} {y : V} (hD : DRep T H a l kvs) (hs : ShrK T g H l kvs) (hk : keyF k = true) (hy : Shr T g H k y) (hl : sortOk l k = true ∨ (dlook l k).isSome = true) :
    ∃ o, NGet T.pr T.w T.K H a y o ∧ (dlook l k).isSome = o.isSome ∧ ∀ z, dlook l k = some z → ∃ v, o = some v ∧ Shr T g H z v := by
  rcases shr_key hk hy with ⟨q, e1, e2⟩ | ⟨kl, kk, b, e1, e2, e3, e4, e5⟩
  · subst e1 e2
    rcases hD with ⟨ks, h1, h2⟩ | ⟨ps, h1, h2, h3, h4, h5⟩
    · subst h2
      obtain ⟨i1, i2⟩ := dk_look (k := q) ks l hs
      exact ⟨valV ks q, .inl ⟨ks, q, h1, rfl, rfl⟩, i1, i2⟩
    · exfalso
      subst h2
      cases ps with
      | nil => exact h4 rfl
      | cons p ps =>
        have allT : ∀ x ∈ l, ∃ t, x.1 = .tup t := by
          have gen : ∀ (ps : List (NestedKey × Addr × V)) (l : List (D × D)), ShrK T g H l (ps.map fun p => (V.ref p.2.1, p.2.2)) → ps.map (fun p => some p.1) = l.map (fun p => nk p.1) → ∀ x ∈ l, ∃ t, x.1 = .tup t := by
            intro ps
            induction ps with
            | nil => intro l s e x hx; cases l with
              | nil => nomatch hx
              | cons d l => simp at e
            | cons p ps ih => intro l s e x hx; cases l with
              | nil => nomatch hx
              | cons d l =>
                obtain ⟨d1, d2⟩ := d
                simp only [List.map_cons, ShrK] at s
                obtain ⟨u, v, ws, e', s1, s2, s3⟩ := s
                cases e'
                simp only [List.map_cons, List.cons.injEq] at e
                rcases List.mem_cons.mp hx with h | h
                · subst h
                  have en := e.1
                  cases d1 <;> simp only [nk] at en <;> first | (cases en; done) | (simp only [Shr] at s1; cases s1; done) | exact ⟨_, rfl⟩
                · exact ih l s3 e.2 x h
          exact gen (p :: ps) l hs h3
        have hl0 : l ≠ [] := by intro z; subst z; simp at h3
        rcases hl with hl | hl
        · cases l with
          | nil => exact hl0 rfl
          | cons x l =>
            obtain ⟨t, et⟩ := allT x (List.mem_cons_self ..)
            have : flatKs (x :: l) = true := by cases q <;> exact hl
            unfold flatKs at this
            rw [List.all_cons, et] at this
            cases this
        · obtain ⟨z, hz⟩ := Option.isSome_iff_exists.mp hl
          unfold dlook at hz
          obtain ⟨x, hx, _⟩ := Option.map_eq_some_iff.mp hz
          obtain ⟨t, et⟩ := allT x (List.mem_of_find?_eq_some hx)
          have hq := List.find?_some hx
          rw [et] at hq
          cases q <;> unfold kEq keyD at hq <;> simp only [nk] at hq <;> (cases ht : nkL t <;> rw [ht] at hq <;> simp at hq)
  · subst e1 e4
    rcases hD with ⟨ks, h1, h2⟩ | ⟨ps, h1, h2, h3, h4, h5⟩
    · subst h2
      have fl : ∀ (ks : List (Key × V)) (l : List (D × D)), ShrK T g H l (ks.map fun p => (kV p.1, p.2)) → ∀ x ∈ l, ∃ q, x.1 = keyD q := by
        intro ks
        induction ks with
        | nil => intro l s x hx; cases l with
          | nil => nomatch hx
          | cons d l =>
            obtain ⟨d1, d2⟩ := d
            simp only [List.map_nil, ShrK] at s
            obtain ⟨_, _, _, z, _⟩ := s
            cases z
        | cons p ks ih => intro l s x hx; cases l with
          | nil => nomatch hx
          | cons d l =>
            obtain ⟨d1, d2⟩ := d
            simp only [List.map_cons, ShrK] at s
            obtain ⟨u, v, ws, e', s1, s2, s3⟩ := s
            cases e'
            rcases List.mem_cons.mp hx with h | h
            · subst h; exact ⟨_, shr_kV s1⟩
            · exact ih l s3 x h
      have fl := fl ks l hs
      have l0 : l = [] := by
        cases l with
        | nil => rfl
        | cons x l =>
          exfalso
          rcases hl with hl | hl
          · obtain ⟨q, eq⟩ := fl x (List.mem_cons_self ..)
            unfold sortOk at hl
            simp only [List.all_cons] at hl
            rw [eq] at hl
            cases q <;> simp [keyD] at hl
          · obtain ⟨z, hz⟩ := Option.isSome_iff_exists.mp hl
            unfold dlook at hz
            obtain ⟨x, hx, _⟩ := Option.map_eq_some_iff.mp hz
            obtain ⟨q, eq⟩ := fl x (List.mem_of_find?_eq_some hx)
            have hq := List.find?_some hx
            rw [eq] at hq
            unfold kEq at hq
            rw [e2] at hq
            simp only [nk] at e2
            obtain ⟨kt, _, e6⟩ := Option.map_eq_some_iff.mp e2
            subst e6
            cases q <;> simp [keyD, nk] at hq
      subst l0
      have k0 : ks = [] := by
        cases ks with
        | nil => rfl
        | cons p ks => simp only [List.map_cons, ShrK] at hs; cases hs
      subst k0
      exact ⟨none, .inr (.inr ⟨kk, b, h1, rfl, e5, e3, rfl⟩), rfl, fun z h => by cases h⟩
    · subst h2
      obtain ⟨i1, i2, i3⟩ := dn_look e2 ps l hs h3
      exact ⟨valN ps kk, .inr (.inl ⟨ps, kk, b, h1, rfl, e5, e3, fun p hp => ⟨i3 p hp, h5 p hp⟩, rfl⟩), i1, i2⟩
end
end Q

/-! d[k], k in d: readings. -/
namespace Q
open PySem PySem.Spec PyProof.Rows L2
theorem room16 {k : Nat} {A : Around} (r : Room k A) : A.units + 16 < cLine := by have := r.un; omega
abbrev rNGet (P : Program) (w : World) (K : PySem.W.Frag) : R2 := fun x y H Q => ∃ a v, x = .ref a ∧ NGet P w K H a y (some v) ∧ Q v H
section
variable {X : Cx}
theorem ix_dct (hu : X.A.units + 16 < cLine) : IxR X (rNGet X.prog X.w X.K) := by
  intro value slice pins s σ H x y v u Q I rx ry h hs
  obtain ⟨a, r, rfl, gt, q⟩ := h
  obtain rfl : v = Value.ref a := rx
  exact tail_any (ndict_typeIs I gt) PySem.F.slot_dict_getitem.lookup (n_getItem hu I gt ry fun w' s' I' rw' => ⟨r, H, I', rw', q⟩) hs
abbrev rIxAD (P : Program) (w : World) (K : PySem.W.Frag) : R2 := fun x y H Q => rIxA K x y H Q ∨ rNGet P w K x y H Q
theorem ix_AD (hu : X.A.units + 16 < cLine) : IxR X (rIxAD X.prog X.w X.K) := ixr_or ix_A (ix_dct hu)
abbrev rNIn (P : Program) (w : World) (K : PySem.W.Frag) (neg : Bool) : R2 := fun x y H Q => ∃ a o, y = .ref a ∧ NGet P w K H a x o ∧ Q (.bl (if neg = true then !o.isSome else o.isSome)) H
theorem op_inN (hu : X.A.units + 16 < cLine) : OpR X (compareOp .In) (rNIn X.prog X.w X.K false) := by
  intro pins s σ H x y v u Q I rx ry h
  obtain ⟨a, o, rfl, gt, q⟩ := h
  obtain rfl : u = Value.ref a := ry
  exact n_in hu I gt rx fun s' I' => ⟨.bl o.isSome, H, I', rfl, q⟩
theorem op_notinN (hu : X.A.units + 16 < cLine) : OpR X (compareOp .NotIn) (rNIn X.prog X.w X.K true) := by
  intro pins s σ H x y v u Q I rx ry h
  obtain ⟨a, o, rfl, gt, q⟩ := h
  obtain rfl : u = Value.ref a := ry
  exact n_notIn hu I gt rx fun s' I' => ⟨.bl (!o.isSome), H, I', rfl, q⟩
abbrev rInAD (P : Program) (w : World) (K : PySem.W.Frag) : R2 := fun x y H Q => rInA0 K x y H Q ∨ rNIn P w K false x y H Q
abbrev rNotInAD (P : Program) (w : World) (K : PySem.W.Frag) : R2 := fun x y H Q => rInA1 K x y H Q ∨ rNIn P w K true x y H Q
theorem op_inAD (hu : X.A.units + 16 < cLine) : OpR X (compareOp .In) (rInAD X.prog X.w X.K) := opr_or op_inA (op_inN hu)
theorem op_notinAD (hu : X.A.units + 16 < cLine) : OpR X (compareOp .NotIn) (rNotInAD X.prog X.w X.K) := opr_or op_notinA (op_notinN hu)
end
/-- x[k], x a dict too -/
def hIxD (x k : D) : Option D := match x with
  | .dct l => if keyF k = true then dlook l k else none
  | _ => hIx x k
/-- k in x, x a dict too -/
def hInD (neg : Bool) (k x : D) : Option D := match x with
  | .dct l => if keyF k = true ∧ sortOk l k = true then some (.bl (if neg = true then !(dlook l k).isSome else (dlook l k).isSome)) else none
  | _ => hIn neg k x
section
variable {T : Th}
theorem shr_dct {g : G} {H : Hp} {l : List (D × D)} {v : V} : Shr T g H (.dct l) v ↔ ∃ a kvs, v = .ref a ∧ (DRep T H a l kvs ∧ ¬ g.U a) ∧ ShrK T g H l kvs := by simp only [Shr]
theorem hIxD_not {x k : D} (h : ∀ l, x ≠ .dct l) : hIxD x k = hIx x k := by
  cases x <;> first | rfl | exact absurd rfl (h _)
theorem ok_ixD : OpOk T (rIxAD T.pr T.w T.K) hIxD := by
  intro g H x y z v w sx sy e hd Q q
  by_cases hx : ∃ l, x = .dct l
  · obtain ⟨l, rfl⟩ := hx
    have e : (if keyF y = true then dlook l y else none) = some z := e
    split at e
    · rename_i hk
      obtain ⟨a, kvs, rfl, ⟨hD, _⟩, hs⟩ := shr_dct.mp sx
      obtain ⟨o, h1, h2, h3⟩ := nget_shr hD hs hk sy (.inr (by rw [e]; rfl))
      obtain ⟨u, rfl, su⟩ := h3 z e
      exact .inr ⟨a, u, rfl, h1, q u H (.refl H) su⟩
    · cases e
  · rw [hIxD_not (fun l h => hx ⟨l, h⟩)] at e
    exact .inl (ok_ix g H x y z v w sx sy e hd Q q)
theorem hInD_not {neg : Bool} {x k : D} (h : ∀ l, x ≠ .dct l) : hInD neg k x = hIn neg k x := by
  cases x <;> first | rfl | exact absurd rfl (h _)
theorem ok_inD : OpOk T (rInAD T.pr T.w T.K) (hInD false) := by
  intro g H x y z v w sx sy e hd Q q
  by_cases hy : ∃ l, y = .dct l
  · obtain ⟨l, rfl⟩ := hy
    have e : (if keyF x = true ∧ sortOk l x = true then some (D.bl (dlook l x).isSome) else none) = some z := e
    split at e
    · rename_i hk
      obtain ⟨a, kvs, rfl, ⟨hD, _⟩, hs⟩ := shr_dct.mp sy
      obtain ⟨o, h1, h2, h3⟩ := nget_shr hD hs hk.1 sx (.inl hk.2)
      cases e
      exact .inr ⟨a, o, rfl, h1, q _ H (.refl H) (by rw [← h2]; exact shr_bl.mpr rfl)⟩
    · cases e
  · rw [hInD_not (fun l h => hy ⟨l, h⟩)] at e
    exact .inl (ok_in0 g H x y z v w sx sy e hd Q q)
theorem ok_notinD : OpOk T (rNotInAD T.pr T.w T.K) (hInD true) := by
  intro g H x y z v w sx sy e hd Q q
  by_cases hy : ∃ l, y = .dct l
  · obtain ⟨l, rfl⟩ := hy
    have e : (if keyF x = true ∧ sortOk l x = true then some (D.bl (!(dlook l x).isSome)) else none) = some z := e
    split at e
    · rename_i hk
      obtain ⟨a, kvs, rfl, ⟨hD, _⟩, hs⟩ := shr_dct.mp sy
      obtain ⟨o, h1, h2, h3⟩ := nget_shr hD hs hk.1 sx (.inl hk.2)
      cases e
      exact .inr ⟨a, o, rfl, h1, q _ H (.refl H) (by rw [← h2]; exact shr_bl.mpr rfl)⟩
    · cases e
  · rw [hInD_not (fun l h => hy ⟨l, h⟩)] at e
    exact .inl (ok_in1 g H x y z v w sx sy e hd Q q)
end
end Q

/-! Places rooted in a slot. -/
namespace Q
open PySem PySem.Spec PyProof.Rows L2
/-- where the key stands -/
def dpos : List (D × D) → D → Option (Nat × D)
  | [], _ => none
  | p :: l, k => if kEq p.1 k = true then some (0, p.2) else (dpos l k).map fun q => (q.1 + 1, q.2)
section
variable {T : Th} {g : G} {H : Hp}
/-- only the keys -/
def ShrKs (T : Th) (g : G) (H : Hp) (l : List (D × D)) (kvs : List (V × V)) : Prop := l.length = kvs.length ∧ ∀ (j : Nat) (d : D × D) (w : V × V), l[j]? = some d → kvs[j]? = some w → Shr T g H d.1 w.1
theorem dk_pos {k : Key} : ∀ (ks : List (Key × V)) (l : List (D × D)), ShrKs T g H l (ks.map fun p => (kV p.1, p.2)) → ∀ j z, dpos l (keyD k) = some (j, z) → ∃ v a, valV ks k = some v ∧ ks[j]? = some (k, v) ∧ l[j]? = some (a, z)
  | [], [], _, j, z, h => by cases h
  | [], d :: l, s, j, z, h => by have := s.1; simp at this
  | p :: ks, [], s, j, z, h => by cases h
  | p :: ks, d :: l, s, j, z, h => by
    have ea := shr_kV (s.2 0 d (kV p.1, p.2) rfl rfl)
    have s' : ShrKs T g H l (ks.map fun p => (kV p.1, p.2)) := ⟨by have := s.1; simpa using this, fun j d' w e1 e2 => s.2 (j + 1) d' w e1 e2⟩
    unfold dpos at h
    rw [ea, kEq_keyD] at h
    by_cases e : p.1 = k
    · rw [if_pos (decide_eq_true e)] at h
      cases h
      obtain ⟨pk, pv⟩ := p
      dsimp only at e
      subst e
      exact ⟨pv, d.1, valV_pos rfl, rfl, rfl⟩
    · rw [if_neg (by rw [decide_eq_false e]; decide)] at h
      obtain ⟨q, h1, h2⟩ := Option.map_eq_some_iff.mp h
      cases h2
      obtain ⟨v, a, h3, h4, h5⟩ := dk_pos ks l s' q.1 q.2 h1
      exact ⟨v, a, by rw [valV_neg e]; exact h3, h4, h5⟩
theorem ks_flat {l : List (D × D)} {a : Addr} {kvs : List (V × V)} (hD : DRep T H a l kvs) (hs : ShrKs T g H l kvs) (f : flatKs l = true) : ∃ ks : List (Key × V), H a = some (.dK ks) ∧ kvs = ks.map fun p => (kV p.1, p.2) := by
  rcases hD with h | ⟨ps, h1, h2, h3, h4, _⟩
  · exact h
  · exfalso
    cases ps with
    | nil => exact h4 rfl
    | cons p ps =>
      subst h2
      cases l with
      | nil => simp at h3
      | cons d l =>
        have q := hs.2 0 d (V.ref p.2.1, p.2.2) rfl rfl
        unfold flatKs at f
        rw [List.all_cons, Bool.and_eq_true] at f
        have f := f.1
        obtain ⟨k, d⟩ := d
        dsimp only at q f
        cases k <;> simp only [Shr] at q <;> first | (cases q; done) | (cases f)
end
inductive RV where
  | ok (js : List Nat) (d : D) (S : Store)
  | exc (x : Exc) (S : Store)
  | no
abbrev FV := Env → Store → RV
def PlV (T : Th) (ρ : Env) (σ : L2.St) (H : Hp) (i : Nat) (js : List Nat) (d : D) (v : V) : Prop := ∃ d0 v0, ρ[i]? = some (some d0) ∧ σ[i]? = some (some v0) ∧ Focus T H js d0 v0 d v
def GoodPV (T : Th) (W : WX) (Γ : List Md) (i : Nat) (ρ : Env) (σ : L2.St) (g : G) (S : Store) (H : Hp) : RV → VK → Prop
  | .ok js d S', Q => S' = S → ∀ v H', Exx H H' → PlV T ρ σ H' i js d v → Q v H'
  | .exc x S', _ => ∀ c dd g' H', Rel T g' Γ ρ S' σ H' → FrE g H g' H' → ExcR T g' H' x c dd → W c dd σ H'
  | .no, _ => False
def tPV (T : Th) (W : WX) (Γ : List Md) (i : Nat) (F : FV) : TE := fun σ H Q => ∃ g ρ S, Rel T g Γ ρ S σ H ∧ GoodPV T W Γ i ρ σ g S H (F ρ S) Q
abbrev XPV (X : Cx) (T : Th) (W : WX) (Γ : List Md) (i : Nat) (e : Expr) (F : FV) : Prop := PE X e (tPV T W Γ i F)
theorem PlV.ex {T : Th} {ρ : Env} {σ : L2.St} {H H' : Hp} {i : Nat} {js : List Nat} {d : D} {v : V} (h : PlV T ρ σ H i js d v) (e : Exx H H') : PlV T ρ σ H' i js d v := by
  obtain ⟨d0, v0, h1, h2, h3⟩ := h
  exact ⟨d0, v0, h1, h2, h3.ex e⟩
def pVar (i : Nat) : FV := fun ρ S => match ρ[i]? with
  | some (some d) => .ok [] d S
  | _ => .no
/-- of a dict by a key that is a text -/
def posT (d : D) (k : Str) : Option (Nat × D) := match d with
  | .dct l => if flatKs l = true then dpos l (.str k) else none
  | _ => none
def pKeyK (K : Nat) (js : List Nat) (S : Store) (o : Option (Nat × D)) : RV := match o with
  | some (j, d) => if js.length + 1 ≤ K then .ok (js ++ [j]) d S else .no
  | none => .no
def pKey (K : Nat) (p : FV) (k : Str) : FV := fun ρ S => match p ρ S with
  | .ok js d S1 => pKeyK K js S1 (posT d k)
  | .exc y S1 => .exc y S1
  | .no => .no
section
variable {X : Cx} {T : Th} {W : WX} {Γ : List Md} {i K : Nat}
theorem xpv_var {e : Expr} (he : PE X e (tVar i)) (hm : Γ.getD i .s = .o K) : XPV X T W Γ i e (pVar i) := pe_imp he fun σ H Q ⟨g, ρ, S, R, h⟩ => by
  have h : GoodPV T W Γ i ρ σ g S H (match ρ[i]? with | some (some d) => RV.ok [] d S | _ => .no) Q := h
  split at h
  · rename_i d e
    obtain ⟨v, h1, h2⟩ := R.slot i d e
    exact ⟨v, h1, h rfl v H (.refl H) ⟨d, v, e, h1, rfl, rfl⟩⟩
  · exact h.elim
theorem Focus.snocD {H : Hp} {kvs : List (V × V)} : ∀ {js : List Nat} {d0 : D} {v0 : V} {l : List (D × D)} {p : Addr} {j : Nat} {kd : D × D} {w : V}, Focus T H js d0 v0 (.dct l) (.ref p) → DRep T H p l kvs → (∀ kvs, DRep T H p l kvs → ∃ u, kvs[j]? = some (u, w)) → l[j]? = some kd → Focus T H (js ++ [j]) d0 v0 kd.2 w
  | [], d0, v0, l, p, j, kd, w, h, h1, h2, h3 => by
    obtain ⟨rfl, rfl⟩ := h
    exact ⟨p, kd, w, rfl, ⟨kvs, h1⟩, h2, h3, rfl, rfl⟩
  | i :: js, .lst l0, v0, l, p, j, d1, w, h, h1, h2, h3 => by
    obtain ⟨p0, vs0, x, y, e1, e2, e3, e4, e5⟩ := h
    exact ⟨p0, vs0, x, y, e1, e2, e3, e4, Focus.snocD e5 h1 h2 h3⟩
  | i :: js, .dct l0, v0, l, p, j, d1, w, h, h1, h2, h3 => by
    obtain ⟨p0, x, y, e1, e2, e3, e4, e5⟩ := h
    exact ⟨p0, x, y, e1, e2, e3, e4, Focus.snocD e5 h1 h2 h3⟩
  | _ :: _, .non, _, _, _, _, _, _, h, _, _, _ => h.elim
  | _ :: _, .bl _, _, _, _, _, _, _, h, _, _, _ => h.elim
  | _ :: _, .int _, _, _, _, _, _, _, h, _, _, _ => h.elim
  | _ :: _, .str _, _, _, _, _, _, _, h, _, _, _ => h.elim
  | _ :: _, .tup _, _, _, _, _, _, _, h, _, _, _ => h.elim
  | _ :: _, .scr _, _, _, _, _, _, _, h, _, _, _ => h.elim
  | _ :: _, .obj _, _, _, _, _, _, _, h, _, _, _ => h.elim
  | _ :: _, .fn _ _, _, _, _, _, _, _, h, _, _, _ => h.elim
  | _ :: _, .gone _, _, _, _, _, _, _, h, _, _, _ => h.elim
/-- the value's own shape at a place of a slot -/
theorem own_atV {g : G} {S : Store} {ρ : Env} {σ : L2.St} {H : Hp} {js : List Nat} {d : D} {v : V} (R : Rel T g Γ ρ S σ H) (hm : Γ.getD i .s = .o K) (h : PlV T ρ σ H i js d v) (hl : js.length ≤ K) :
    ∃ d0 v0 F', ρ[i]? = some (some d0) ∧ σ[i]? = some (some v0) ∧ (∀ a, F' a → g.F i a) ∧ Own T g H (K - js.length) F' d v ∧
    ∀ (g2 : G) (H2 : Hp) (Fo F2 : Addr → Prop) (x : D), Stay g H g2 H2 → (∀ a o, g.F i a → ¬ F' a → H a = some o → H2 a = some o) → (∀ a, Fo a → ¬ g.F i a) → (∀ a, F2 a → F' a ∨ Fo a) → Own T g2 H2 (K - js.length) F2 x v → Own T g2 H2 K (fun a => g.F i a ∨ Fo a) (setAt js d0 x) v0 := by
  obtain ⟨d0, v0, h1, h2, h3⟩ := h
  obtain ⟨v0', k1, k2⟩ := R.slot i d0 h1
  rw [h2] at k1
  cases k1
  rw [hm] at k2
  obtain ⟨F', q1, q2, q3⟩ := Own.focus js K _ _ _ k2 h3 hl
  exact ⟨d0, v0, F', h1, h2, q1, q2, q3⟩
theorem goodPV_ex {ρ : Env} {σ : L2.St} {g : G} {S : Store} {H H1 : Hp} {r : RV} {Q : VK} (e : Exx H H1) (h : GoodPV T W Γ i ρ σ g S H r Q) : GoodPV T W Γ i ρ σ g S H1 r Q := by
  cases r with
  | ok js d S' => exact fun es v H' x s => h es v H' (e.trans x) s
  | exc x S' => exact exc_ex e h
  | no => exact h
theorem own_keys {g : G} {H : Hp} {k : Nat} {F : Addr → Prop} {l : List (D × D)} {v : V} (h : Own T g H (k + 1) F (.dct l) v) : ∃ p kvs, v = .ref p ∧ F p ∧ DRep T H p l kvs ∧ ShrKs T g H l kvs := by
  simp only [Own] at h
  obtain ⟨p, kvs, h1, h2, h3, h4, Gs, _, _, h5⟩ := h
  exact ⟨p, kvs, h1, h2, h3, h4, fun j d w e1 e2 => (h5 j d w e1 e2).1⟩
theorem xpv_key {o e c : Expr} {P : FV} {k : Str} (hP : X.prog = T.pr) (hw : X.w = T.w) (hK : X.K = T.K) (hm : Γ.getD i .s = .o K) (ho : XPV X T W Γ i o P) (hc : XC X T W Γ c (eC (.str k)))
    (he : PE X o (tPV T W Γ i P) → PE X c (tC1 T W Γ (eC (.str k))) → PE X e (tOp (rIxAD X.prog X.w X.K) (tPV T W Γ i P) (tC1 T W Γ (eC (.str k))))) : XPV X T W Γ i e (pKey K P k) := pe_imp (he ho hc) fun σ H Q ⟨g, ρ, S, R, hg⟩ => by
  refine ⟨g, ρ, S, R, ?_⟩
  unfold pKey at hg
  cases ep : P ρ S with
  | no => rw [ep] at hg; exact hg.elim
  | exc y S1 => rw [ep] at hg; exact hg
  | ok js d S1 =>
    rw [ep] at hg
    intro es v H1 e1 pl
    subst es
    refine ⟨g, ρ, S1, R.ex e1, ?_⟩
    replace hg : GoodPV T W Γ i ρ σ g S1 H1 (pKeyK K js S1 (posT d k)) Q := goodPV_ex e1 hg
    intro es w H2 e2 s2
    have R2 := (R.ex e1).ex e2
    have pl2 := pl.ex e2
    cases epos : posT d k with
    | none => rw [epos] at hg; exact hg.elim
    | some jd =>
      obtain ⟨j, z⟩ := jd
      rw [epos] at hg
      unfold pKeyK at hg
      dsimp only at hg
      split at hg
      · rename_i hd
        unfold posT at epos
        split at epos
        · rename_i l
          split at epos
          · rename_i hf
            obtain ⟨d0, v0, F', k1, k2, k3, k4, k5⟩ := own_atV R2 hm pl2 (Nat.le_of_succ_le hd)
            have hk : K - js.length = (K - js.length - 1) + 1 := by omega
            rw [hk] at k4
            obtain ⟨p, kvs, rfl, hF, hD, hs⟩ := own_keys k4
            obtain ⟨ks, hH, rfl⟩ := ks_flat hD hs hf
            obtain ⟨u, a, h3, h4, h5⟩ := dk_pos (k := .inr k) ks l hs j z epos
            have hv : w = .str k := shr_str.mp s2
            subst hv
            refine .inr ⟨p, u, rfl, .inl ⟨ks, .inr k, hH, rfl, h3.symm⟩, hg rfl u H2 e2 ?_⟩
            obtain ⟨d0', v0', p1, p2, p3⟩ := pl2
            refine ⟨d0', v0', p1, p2, Focus.snocD (kd := (a, z)) p3 hD (fun kvs' hD' => ?_) h5⟩
            rcases hD' with ⟨ks', q1, q2⟩ | ⟨ps, q1, _⟩
            · rw [hH] at q1
              cases q1
              subst q2
              exact ⟨kV (.inr k), by rw [List.getElem?_map, h4]; rfl⟩
            · rw [hH] at q1
              cases q1
          · cases epos
        · cases epos
      · exact hg.elim
end
end Q

/-! Writing at a place of a slot. -/
namespace Q
open PySem PySem.Spec PyProof.Rows L2
def slotPut (K k i : Nat) (js : List Nat) (x : D) (S : Store) (ρ : Env) : RS := match ρ[i]? with
  | some (some d0) => if K = js.length + k then .nx (ρ.set i (some (setAt js d0 x))) S else .no
  | _ => .no
def RV.bindS (ρ : Env) (r : RV) (k : List Nat → D → Store → RS) : RS := match r with
  | .ok js d S => k js d S
  | .exc x S => .exc x ρ S
  | .no => .no
def fVMut (K i : Nat) (p : FV) (h : HM) (a : FL) : FS := fun ρ S => (p ρ S).bindS ρ fun js d S1 => lstK d fun l => if K = js.length + 1 then (a ρ S1).bindR ρ fun ds S2 => optK (h l ds) fun zl => slotPut K 1 i js (.lst zl.2) S2 ρ else .no
section
variable {X : Cx} {T : Th} {Γ : List Md} {J : Jd} {i K : Nat}
theorem slotPut_k {k : Nat} {js : List Nat} {x : D} {S : Store} {ρ : Env} {g : G} {H : Hp} {D : Ends} (h : GoodS T J Γ g H (slotPut K k i js x S ρ) D) : K = js.length + k := by
  unfold slotPut at h
  split at h
  · split at h
    · assumption
    · exact h.elim
  · exact h.elim
theorem putv_core {k : Nat} {g g1 : G} {ρ : Env} {S : Store} {σ : L2.St} {H H1 : Hp} {js : List Nat} {d : D} {v : V} {De : Ends} (hm : Γ.getD i .s = .o K) (R1 : Rel T g1 Γ ρ S σ H1) (f1 : FrS g H g1 H1) (pl : PlV T ρ σ H1 i js d v) (hk : K = js.length + (k + 1)) :
    ∃ F' : Addr → Prop, (∀ a, F' a → g1.F i a) ∧ Own T g1 H1 (k + 1) F' d v ∧ ∀ (p : Addr) (o : HO) (F2 : Addr → Prop) (x : D), F' p → (∀ u, o ≠ .tup u ∧ ∀ b, o ≠ .frz b (.tup u)) → (∀ a, F2 a → F' a) →
      (Stay g1 H1 g1 (upd H1 p o) → Own T g1 (upd H1 p o) (k + 1) F2 x v) → GoodS T J Γ g H (slotPut K (k + 1) i js x S ρ) De → De.nx σ (upd H1 p o) := by
  obtain ⟨d0, v0, F', k1, k2, k3, k4, k5⟩ := own_atV R1 hm pl (by omega)
  have ek : K - js.length = k + 1 := by omega
  rw [ek] at k4 k5
  refine ⟨F', k3, k4, fun p o F2 x hp hno hF2 hx hg => ?_⟩
  have R2 := R1.write (d := setAt js d0 x) (k3 p hp) hno k2 fun st => by
    rw [hm]
    exact Own.wide _ _ _ _ _ (fun a z => z.elim id fun z => z.elim) (k5 g1 (upd H1 p o) (fun _ => False) F2 x st (fun a u z nz e => by rw [upd_ne (fun w => nz (by rw [w]; exact hp))]; exact e) (fun a z => z.elim) (fun a z => .inl (hF2 a z)) (hx st))
  unfold slotPut at hg
  rw [k1] at hg
  dsimp only at hg
  rw [if_pos hk] at hg
  exact hg σ g1 _ R2 (f1.trans (R1.wrote (k3 p hp)))
/-- PLACE.m(..), the list's items shared -/
theorem xs_vmut {st : Stmt} {o : Expr} {es : List Expr} {P : FV} {A : FL} {r : V → List V → Hp → VK → Prop} {h : HM} (hK : X.K = T.K) (hx : J.ΓX Γ) (hm : Γ.getD i .s = .o K) (ok : MutOk T r h) (ho : XPV X T J.W Γ i o P) (ha : XCL X T J.W Γ es A)
    (he : PE X o (tPV T J.W Γ i P) → PA X es (tCL T J.W Γ A) → PS X st (tDrop (tBM X.K "list" r (tPV T J.W Γ i P) (tCL T J.W Γ A)))) : XS X T J Γ Γ st (fVMut K i P h A) := ps_imp (he ho ha) fun D σ H ⟨g, ρ, S, R, hg⟩ => by
  refine ⟨g, ρ, S, R, ?_⟩
  unfold fVMut at hg
  cases ep : P ρ S with
  | no => rw [ep] at hg; exact hg
  | exc y S1 => rw [ep] at hg; exact fun c dd g' H' R' f' e => hg Γ c dd σ g' H' hx R' (f'.frs R.dOB) e
  | ok js d S1 =>
    rw [ep] at hg
    intro es v H1 e1 pl
    subst es
    obtain ⟨l, rfl, hg2⟩ := lstK_get (show GoodS T J Γ g H (lstK d _) D from hg)
    clear hg
    have hg := hg2
    split at hg
    · rename_i hd
      have R1 := R.ex e1
      have hlist : ∃ p vs, v = .ref p ∧ H1 p = some (.lst vs) := by
        obtain ⟨d0, v0, F', k1, k2, k3, k4, k5⟩ := own_atV R1 hm pl (by omega)
        have ek : K - js.length = 0 + 1 := by omega
        rw [ek] at k4
        simp only [Own] at k4
        obtain ⟨p, vs, rfl, hF, hH, _⟩ := k4
        exact ⟨p, vs, rfl, hH⟩
      obtain ⟨p, vs, rfl, hH⟩ := hlist
      refine ⟨.inl ⟨rfl, vs, SqL.of hH⟩, g, ρ, S1, R1, ?_⟩
      cases ea : A ρ S1 with
      | no => rw [ea] at hg; exact hg.elim
      | exc y S2 => rw [ea] at hg; exact fun c dd g' H' R' f' e => hg Γ c dd σ g' H' hx R' (((FrE.ex e1).trans f').frs R.dOB) e
      | ok ds S2 =>
        rw [ea] at hg
        intro es ws H2 e2 sw
        subst es
        obtain ⟨zl, ez, hg2⟩ := optK_get (show GoodS T J Γ g H (optK (h l ds) _) D from hg)
        clear hg
        have hg := hg2
        obtain ⟨z, l'⟩ := zl
        have R2 := R1.ex e2
        have f2 : FrS g H g H2 := (FrE.ex (e1.trans e2)).frs R.dOB
        obtain ⟨F', q1, q2, q3⟩ := putv_core (k := 0) (De := D) hm R2 f2 (pl.ex e2) (slotPut_k hg)
        obtain ⟨p', vs', e3, hF, hH2, s3⟩ := own1_lst.mp q2
        cases e3
        refine ok g H2 p l ds l' z vs' ws hH2 s3 sw (.inr (.inl ⟨i, q1 p hF⟩)) ez _ fun u vs2 s2 su => ?_
        refine q3 p _ F' (.lst l') hF (fun _ => ⟨nofun, fun _ => nofun⟩) (fun a z => z) (fun st => ?_) hg
        exact own1_lst.mpr ⟨p, vs2, rfl, hF, upd_same, ShrL.stay st _ _ s2⟩
    · exact hg.elim
end
end Q

/-! d[k] = x, d owned. -/
namespace Q
open PySem PySem.Spec PyProof.Rows L2
def dput (l : List (D × D)) (k x : D) : List (D × D) := if (l.any fun p => kEq p.1 k) = true then l.map (fun p => if kEq p.1 k = true then (p.1, x) else p) else l ++ [(k, x)]
/-- no list, no dict -/
def plainV (x : D) : Bool := match x with
  | .lst _ => false
  | .dct _ => false
  | _ => true
section
variable {T : Th} {g : G} {H : Hp}
theorem own_plain {m : Nat} {F : Addr → Prop} {x : D} {u : V} (h : m = 0 ∨ plainV x = true) (s : Shr T g H x u) : Own T g H m F x u := by
  rcases h with h | h
  · subst h
    cases x <;> exact s
  · cases m with
    | zero => cases x <;> exact s
    | succ m => cases x <;> first | exact s | cases h
/-- pairs of dicts, one by one: keys shared, what is at j owned by Gs j -/
def Prs (T : Th) (g : G) (H : Hp) (m : Nat) (Gs : Nat → Addr → Prop) (l : List (D × D)) (kvs : List (V × V)) : Prop := l.length = kvs.length ∧ ∀ (j : Nat) (d : D × D) (w : V × V), l[j]? = some d → kvs[j]? = some w → Shr T g H d.1 w.1 ∧ Own T g H m (Gs j) d.2 w.2
theorem Prs.put {α : Type} {m : Nat} {Gs : Nat → Addr → Prop} {k x : D} {y u : V} (hx : m = 0 ∨ plainV x = true) (sy : Shr T g H k y) (sx : Shr T g H x u) (f : α → V × V) (hit : α → Bool) (rep : α → α) (new : α) (hr : ∀ a, (f (rep a)) = ((f a).1, u)) (hn : f new = (y, u))
    {l : List (D × D)} {ks : List α} (h : Prs T g H m Gs l (ks.map f)) (hh : ∀ (j : Nat) (d : D × D) (a : α), l[j]? = some d → ks[j]? = some a → kEq d.1 k = hit a) (hnew : l.any (fun p => kEq p.1 k) = ks.any hit) :
    Prs T g H m (fun j a => Gs j a ∧ j < l.length) (dput l k x) ((if ks.any hit = true then ks.map (fun a => if hit a = true then rep a else a) else ks ++ [new]).map f) := by
  obtain ⟨h1, h2⟩ := h
  rw [List.length_map] at h1
  unfold dput
  rw [hnew]
  by_cases q : ks.any hit = true
  · rw [if_pos q, if_pos q]
    refine ⟨by simp [h1], fun j d w e1 e2 => ?_⟩
    rw [List.getElem?_map] at e1 e2
    obtain ⟨d0, e3, e4⟩ := Option.map_eq_some_iff.mp e1
    obtain ⟨a0, e5, e6⟩ := Option.map_eq_some_iff.mp e2
    rw [List.getElem?_map] at e5
    obtain ⟨a1, e7, e8⟩ := Option.map_eq_some_iff.mp e5
    have hj : j < l.length := (List.getElem?_eq_some_iff.mp e3).1
    obtain ⟨i1, i2⟩ := h2 j d0 (f a1) e3 (by rw [List.getElem?_map, e7]; rfl)
    have ek := hh j d0 a1 e3 e7
    subst e4 e6 e8
    by_cases e : hit a1 = true
    · rw [ek, if_pos e, if_pos e, hr]
      exact ⟨i1, own_plain hx sx⟩
    · rw [ek, if_neg e, if_neg e]
      exact ⟨i1, Own.wide _ _ _ _ _ (fun a z => ⟨z, hj⟩) i2⟩
  · rw [if_neg q, if_neg q]
    refine ⟨by simp [h1], fun j d w e1 e2 => ?_⟩
    rw [List.map_append] at e2
    by_cases hj : j < l.length
    · rw [List.getElem?_append_left hj] at e1
      rw [List.getElem?_append_left (by rw [List.length_map]; omega)] at e2
      obtain ⟨i1, i2⟩ := h2 j d w e1 e2
      exact ⟨i1, Own.wide _ _ _ _ _ (fun a z => ⟨z, hj⟩) i2⟩
    · have hj2 : j = l.length := by
        have := (List.getElem?_eq_some_iff.mp e1).1
        simp at this
        omega
      subst hj2
      rw [List.getElem?_append_right (Nat.le_refl _), Nat.sub_self] at e1
      rw [List.getElem?_append_right (by rw [List.length_map]; omega), List.length_map, h1, Nat.sub_self] at e2
      cases e1
      have e2 : f new = w := by simpa using e2
      rw [hn] at e2
      subst e2
      exact ⟨sy, own_plain hx sx⟩
end
end Q

/-! d[k] = x: what the heap shows. -/
namespace Q
open PySem PySem.Spec PyProof.Rows L2
theorem any_pt {α β : Type} (p : α → Bool) (q : β → Bool) : ∀ (l : List α) (m : List β), l.length = m.length → (∀ (j : Nat) a b, l[j]? = some a → m[j]? = some b → p a = q b) → l.any p = m.any q
  | [], [], _, _ => rfl
  | [], _ :: _, h, _ => by simp at h
  | _ :: _, [], h, _ => by simp at h
  | a :: l, b :: m, h, e => by
    rw [List.any_cons, List.any_cons, e 0 a b rfl rfl, any_pt p q l m (by simpa using h) fun j a b h1 h2 => e (j + 1) a b h1 h2]
theorem valN_any (ps : List (NestedKey × Addr × V)) (k : NestedKey) : (valN ps k).isSome = ps.any fun p => decide (p.1 = k) := by
  unfold valN
  rw [Option.isSome_map]
  induction ps with
  | nil => rfl
  | cons p ps ih =>
    rw [List.find?_cons, List.any_cons]
    by_cases e : decide (p.1 = k) = true
    · rw [e]; rfl
    · rw [Bool.not_eq_true] at e
      rw [e, ih]; rfl
section
variable {T : Th} {g : G} {H : Hp}
theorem keep_prs {m : Nat} {F : Addr → Prop} {Gs : Nat → Addr → Prop} {p : Addr} {o : HO} {l : List (D × D)} {kvs : List (V × V)} (st : Stay g H g (upd H p o)) (h1 : ∀ j q, Gs j q → F q ∧ q ≠ p) {n : Nat} (h : Prs T g H m (fun j a => Gs j a ∧ j < n) l kvs) :
    ∀ (j : Nat) (d : D × D) (w : V × V), l[j]? = some d → kvs[j]? = some w → Shr T g (upd H p o) d.1 w.1 ∧ Own T g (upd H p o) m (fun a => Gs j a ∧ j < n) d.2 w.2 := fun j d w e1 e2 => by
  obtain ⟨i1, i2⟩ := h.2 j d w e1 e2
  exact ⟨i1.stay st, Own.keepF st _ _ _ _ (fun a u z e => by rw [upd_ne (h1 j a z.1).2]; exact e) i2⟩
theorem nput_own {m : Nat} {F : Addr → Prop} {l : List (D × D)} {v y u : V} {k x : D} (h : Own T g H (m + 1) F (.dct l) v) (hk : keyF k = true) (sy : Shr T g H k y) (sx : Shr T g H x u) (hx : m = 0 ∨ plainV x = true) (hl : sortOk l k = true) (hlen : l.length < 1000000) :
    ∃ p o, v = .ref p ∧ F p ∧ NPut T.pr T.w T.K H p y u (upd H p o) ∧ (∀ z, o ≠ .tup z ∧ ∀ b, o ≠ .frz b (.tup z)) ∧ (Stay g H g (upd H p o) → Own T g (upd H p o) (m + 1) F (.dct (dput l k x)) v) := by
  simp only [Own] at h
  obtain ⟨p, kvs, rfl, hF, hD, hn, Gs, h1, h2, h3⟩ := h
  have hP : Prs T g H m Gs l kvs := ⟨hn, h3⟩
  have hG : ∀ i j q, (Gs i q ∧ i < l.length) → (Gs j q ∧ j < l.length) → i = j := fun i j q z z' => h2 i j q z.1 z'.1
  rcases shr_key hk sy with ⟨q, e1, e2⟩ | ⟨kl, kk, b, e1, e2, e3, e4, e5⟩
  · subst e1 e2
    have hf : flatKs l = true := by cases q <;> exact hl
    obtain ⟨ks, hH, rfl⟩ := ks_flat hD ⟨hn, fun j d w a b => (h3 j d w a b).1⟩ hf
    have hh : ∀ (j : Nat) (d : D × D) (a : Key × V), l[j]? = some d → ks[j]? = some a → kEq d.1 (keyD q) = decide (a.1 = q) := fun j d a a1 a2 => by
      have := (h3 j d (kV a.1, a.2) a1 (by rw [List.getElem?_map, a2]; rfl)).1
      rw [shr_kV this, kEq_keyD]
    have hP2 := hP.put hx sy sx (fun a : Key × V => (kV a.1, a.2)) (fun a => decide (a.1 = q)) (fun a => (a.1, u)) (q, u) (fun _ => rfl) rfl hh (any_pt _ _ l ks (by rw [List.length_map] at hn; exact hn) hh)
    have ep : (if (ks.any fun a => decide (a.1 = q)) = true then ks.map (fun a => if decide (a.1 = q) = true then (a.1, u) else a) else ks ++ [(q, u)]) = putK ks q u := by
      unfold putK
      simp only [decide_eq_true_eq]
    rw [ep] at hP2
    refine ⟨p, .dK (putK ks q u), rfl, hF, .inl ⟨ks, q, hH, rfl, ?_, rfl⟩, fun _ => ⟨nofun, fun _ => nofun⟩, fun st => ?_⟩
    · rw [List.length_map] at hn
      rw [sizeLine_eq]
      omega
    · simp only [Own]
      exact ⟨p, _, rfl, hF, .inl ⟨_, upd_same, rfl⟩, hP2.1, _, fun j a z => h1 j a z.1, hG, keep_prs st h1 hP2⟩
  · subst e1 e4
    rcases hD with ⟨ks, hH, e6⟩ | ⟨ps, hH, e6, e7, e8, e9⟩
    · subst e6
      have l0 : l = [] := by
        cases l with
        | nil => rfl
        | cons d l =>
          exfalso
          cases ks with
          | nil => simp at hn
          | cons a ks =>
            have := (h3 0 d (kV a.1, a.2) rfl rfl).1
            have ed := shr_kV this
            unfold sortOk at hl
            simp only [List.all_cons] at hl
            rw [ed] at hl
            cases hq : a.1 <;> rw [hq] at hl <;> simp [keyD] at hl
      subst l0
      have k0 : ks = [] := by
        cases ks with
        | nil => rfl
        | cons a ks => simp at hn
      subst k0
      refine ⟨p, dN T.pr T.w p [(kk, b, u)], rfl, hF, .inr (.inr ⟨kk, b, hH, rfl, e5, e3, rfl⟩), fun _ => ⟨nofun, fun _ => nofun⟩, fun st => ?_⟩
      have ed : dput [] (.tup kl) x = [(.tup kl, x)] := rfl
      rw [ed]
      simp only [Own]
      refine ⟨p, [(.ref b, u)], rfl, hF, .inr ⟨[(kk, b, u)], upd_same, rfl, ?_, List.cons_ne_nil _ _, fun q hq => by rw [List.mem_singleton.mp hq]; exact e3⟩, rfl, fun _ _ => False, fun _ _ z => z.elim, fun _ _ _ z => z.elim, fun j d w a1 a2 => ?_⟩
      · simp only [List.map_cons, List.map_nil]
        rw [e2]
      · cases j with
        | zero => cases a1; cases a2; exact ⟨sy.stay st, own_plain hx (sx.stay st)⟩
        | succ j => simp at a1
    · subst e6
      have hh : ∀ (j : Nat) (d : D × D) (a : NestedKey × Addr × V), l[j]? = some d → ps[j]? = some a → kEq d.1 (.tup kl) = decide (a.1 = kk) := fun j d a a1 a2 => by
        have e : (ps.map fun p => some p.1)[j]? = (l.map fun p => nk p.1)[j]? := by rw [e7]
        rw [List.getElem?_map, List.getElem?_map, a1, a2] at e
        have e : some a.1 = nk d.1 := Option.some.inj e
        unfold kEq
        rw [← e, e2]
      have hP2 := hP.put hx sy sx (fun a : NestedKey × Addr × V => (V.ref a.2.1, a.2.2)) (fun a => decide (a.1 = kk)) (fun a => (a.1, a.2.1, u)) (kk, b, u) (fun _ => rfl) rfl hh (any_pt _ _ l ps (by rw [List.length_map] at hn; exact hn) hh)
      have ep : (if (ps.any fun a => decide (a.1 = kk)) = true then ps.map (fun a => if decide (a.1 = kk) = true then (a.1, a.2.1, u) else a) else ps ++ [(kk, b, u)]) = putN ps kk b u := by
        unfold putN
        rw [valN_any]
        unfold putNAt
        simp only [decide_eq_true_eq]
      rw [ep] at hP2
      have hN : ∀ q ∈ ps, NK T.K H q.1 (.ref q.2.1) := fun q hq => by
        obtain ⟨j, hj, ej⟩ := List.getElem_of_mem hq
        have hlj : j < l.length := by rw [List.length_map] at hn; omega
        have a2 : ps[j]? = some q := by rw [List.getElem?_eq_getElem hj, ej]
        have a1 := List.getElem?_eq_getElem hlj
        have e : (ps.map fun p => some p.1)[j]? = (l.map fun p => nk p.1)[j]? := by rw [e7]
        rw [List.getElem?_map, List.getElem?_map, a1, a2] at e
        have e : some q.1 = nk l[j].1 := Option.some.inj e
        exact nk_shr _ _ _ e.symm (h3 j l[j] (V.ref q.2.1, q.2.2) a1 (by rw [List.getElem?_map, a2]; rfl)).1
      refine ⟨p, dN T.pr T.w p (putN ps kk b u), rfl, hF, .inr (.inl ⟨ps, kk, b, hH, rfl, e5, e3, fun q hq => ⟨hN q hq, e9 q hq⟩, ?_, rfl⟩), fun _ => ⟨nofun, fun _ => nofun⟩, fun st => ?_⟩
      · rw [List.length_map] at hn
        rw [sizeLine_eq]
        omega
      · simp only [Own]
        refine ⟨p, _, rfl, hF, .inr ⟨putN ps kk b u, upd_same, rfl, ?_, ?_, ?_⟩, hP2.1, _, fun j a z => h1 j a z.1, hG, keep_prs st h1 hP2⟩
        · have ha := any_pt _ _ l ps (by rw [List.length_map] at hn; exact hn) hh
          unfold putN dput
          rw [valN_any, ha]
          split
          · rw [List.map_map, List.map_map]
            have e10 : (ps.map fun p => some p.1) = ps.map ((fun p => some p.1) ∘ putNAt kk u) := List.map_congr_left fun a _ => by
              show some a.1 = some (putNAt kk u a).1
              unfold putNAt; split <;> rfl
            have e11 : (l.map fun p => nk p.1) = l.map ((fun p => nk p.1) ∘ fun p => if kEq p.1 (.tup kl) = true then (p.1, x) else p) := List.map_congr_left fun a _ => by
              show nk a.1 = nk (if kEq a.1 (.tup kl) = true then (a.1, x) else a).1
              split <;> rfl
            rw [← e10, ← e11]; exact e7
          · rw [List.map_append, List.map_append, e7]
            simp only [List.map_cons, List.map_nil]
            rw [e2]
        · intro z
          unfold putN at z
          split at z
          · exact e8 (List.map_eq_nil_iff.mp z)
          · simp at z
        · intro q hq
          unfold putN at hq
          split at hq
          · obtain ⟨a, ha, rfl⟩ := List.mem_map.mp hq
            unfold putNAt
            split <;> exact e9 a ha
          · rcases List.mem_append.mp hq with h | h
            · exact e9 q h
            · rw [List.mem_singleton.mp h]; exact e3
end
end Q

/-! PLACE[k] = x, PLACE a dict in a slot. -/
namespace Q
open PySem PySem.Spec PyProof.Rows L2
def sNPut (P : Program) (w : World) (K : PySem.W.Frag) (td ty tv : TE) : TS := fun D σ H => tv σ H fun v H1 => td σ H1 fun x H2 => ty σ H2 fun y H3 => ∃ a H4, x = .ref a ∧ NPut P w K H3 a y v H4 ∧ D.nx σ H4
section
variable {X : Cx} {o i value : Expr} {pos pos' : Pos} {td ty tv : TE}
theorem ps_nput (hu : X.A.units + 16 < cLine) (ho : PE X o td) (hi : PE X i ty) (hv : PE X value tv) (hs : swapsWith value (some (.Subscript o i pos')) pos.line X.env = pure false) :
    PS X (.Assign [.Subscript o i pos'] value pos) (sNPut X.prog X.w X.K td ty tv) := by
  refine ⟨fun pins s σ H D I h => ?_⟩
  refine wpAny_Assign_Subscript (thn (hv.run pins s σ H _ I h) fun r s1 ⟨v, H1, I1, rv, q1⟩ => thn (ho.run pins s1 σ H1 _ I1 q1) fun u s2 ⟨x, H2, I2, rx, q2⟩ => thn (hi.run pins s2 σ H2 _ I2 q2) fun iv s3 ⟨y, H3, I3, ry, a, H4, ex, g, q3⟩ => ?_) hs
  subst ex
  obtain rfl : u = Value.ref a := rx
  exact n_setItem hu I3 g ry rv fun s4 I4 => ⟨σ, H4, I4, q3⟩
end
def dctK (d : D) (k : List (D × D) → RS) : RS := match d with
  | .dct l => k l
  | _ => .no
def fVPut (K i : Nat) (p : FV) (e v : FE) : FS := fun ρ S => (v ρ S).bindS ρ fun x S1 => (p ρ S1).bindS ρ fun js d S2 => (e ρ S2).bindS ρ fun k S3 => dctK d fun l =>
  if (keyF k = true ∧ sortOk l k = true ∧ l.length < 1000000) ∧ js.length + 1 ≤ K ∧ (K - js.length - 1 = 0 ∨ plainV x = true) then slotPut K (K - js.length - 1 + 1) i js (.dct (dput l k x)) S3 ρ else .no
section
variable {X : Cx} {T : Th} {Γ : List Md} {J : Jd} {i K : Nat}
theorem dctK_get {d : D} {k : List (D × D) → RS} {g : G} {H : Hp} {D : Ends} (h : GoodS T J Γ g H (dctK d k) D) : ∃ l, d = .dct l ∧ GoodS T J Γ g H (k l) D := by
  unfold dctK at h
  split at h
  · exact ⟨_, rfl, h⟩
  · exact h.elim
theorem xs_vput {st : Stmt} {o e v : Expr} {P : FV} {A B : FE} (hP : X.prog = T.pr) (hw : X.w = T.w) (hK : X.K = T.K) (hx : J.ΓX Γ) (hm : Γ.getD i .s = .o K) (ho : XPV X T J.W Γ i o P) (hi : XC X T J.W Γ e A) (hv : XE X T J.W Γ v B)
    (he : PE X v (tX T J.W Γ B) → PE X o (tPV T J.W Γ i P) → PE X e (tC1 T J.W Γ A) → PS X st (sNPut X.prog X.w X.K (tPV T J.W Γ i P) (tC1 T J.W Γ A) (tX T J.W Γ B))) : XS X T J Γ Γ st (fVPut K i P A B) := ps_imp (he hv ho hi) fun D σ H ⟨g, ρ, S, R, hg⟩ => by
  refine ⟨g, ρ, S, R, ?_⟩
  unfold fVPut at hg
  refine good_bindS R hx hg fun x S1 w g1 H1 eR R1 f1 s1 hg1 => ?_
  clear hg eR
  refine ⟨g1, ρ, S1, R1, ?_⟩
  cases ep : P ρ S1 with
  | no => rw [ep] at hg1; exact hg1.elim
  | exc y S2 => rw [ep] at hg1; exact fun c dd g' H' R' f' e => hg1 Γ c dd σ g' H' hx R' (f'.frs R1.dOB) e
  | ok js d S2 =>
    rw [ep] at hg1
    intro es v1 H2 e2 pl
    subst es
    refine ⟨g1, ρ, S2, R1.ex e2, ?_⟩
    replace hg1 : GoodS T J Γ g1 H1 ((A ρ S2).bindS ρ fun k S3 => dctK d fun l => if (keyF k = true ∧ sortOk l k = true ∧ l.length < 1000000) ∧ js.length + 1 ≤ K ∧ (K - js.length - 1 = 0 ∨ plainV x = true) then slotPut K (K - js.length - 1 + 1) i js (.dct (dput l k x)) S3 ρ else .no) D := hg1
    cases ea : A ρ S2 with
    | no => rw [ea] at hg1; exact hg1.elim
    | exc y S3 => rw [ea] at hg1; exact fun c dd g' H' R' f' e => hg1 Γ c dd σ g' H' hx R' (((FrE.ex e2).trans f').frs R1.dOB) e
    | ok k S3 =>
      rw [ea] at hg1
      intro es u H3 e3 su
      subst es
      obtain ⟨l, rfl, hg2⟩ := dctK_get (show GoodS T J Γ g1 H1 (dctK d _) D from hg1)
      clear hg1
      have hg1 := hg2
      split at hg1
      · rename_i hc
        obtain ⟨⟨c1, c2, c3⟩, c4, c5⟩ := hc
        have R3 := (R1.ex e2).ex e3
        have f3 : FrS g1 H1 g1 H3 := (FrE.ex (e2.trans e3)).frs R1.dOB
        obtain ⟨F', q1, q2, q3⟩ := putv_core (k := K - js.length - 1) (De := D) hm R3 f3 (pl.ex e3) (by omega)
        have sx := Shr.stay (.ex (e2.trans e3)) _ _ s1
        obtain ⟨p, ob, rfl, hF, np, hno, own⟩ := nput_own q2 c1 su sx c5 c2 c3
        exact ⟨p, _, rfl, by rw [hP, hw, hK]; exact np, q3 p ob F' (.dct (dput l k x)) hF hno (fun a z => z) own hg1⟩
      · exact hg1.elim
end
end Q

/-! Displays of dicts: keys constant texts, values [] or {} to be owned, or calm. -/
namespace Q
open PySem PySem.Spec PyProof.Rows L2
inductive Itm where
  | l
  | d
  | s (F : FE)
def eItms : List (Str × Itm) → Env → Store → Option (List (D × D))
  | [], _, _ => some []
  | (k, .l) :: r, ρ, S => (eItms r ρ S).map ((.str k, .lst []) :: ·)
  | (k, .d) :: r, ρ, S => (eItms r ρ S).map ((.str k, .dct []) :: ·)
  | (k, .s F) :: r, ρ, S => match F ρ S with
    | .ok x _ => if plainV x = true then (eItms r ρ S).map ((.str k, x) :: ·) else none
    | _ => none
def eDct (its : List (Str × Itm)) : FE := fun ρ S => match eItms its ρ S with
  | some l => if its.length ≤ 15 ∧ (its.map (·.1)).Nodup then .ok (.dct l) S else .no
  | none => .no
theorem plusF_plusF {g : G} {n : Nat} {F1 F2 : Addr → Prop} : (g.plusF n F1).plusF n F2 = g.plusF n (fun a => F1 a ∨ F2 a) := by
  unfold G.plusF
  congr 1
  funext j a
  apply propext
  constructor
  · rintro ((h | h) | h)
    · exact .inl h
    · exact .inr ⟨h.1, .inl h.2⟩
    · exact .inr ⟨h.1, .inr h.2⟩
  · rintro (h | ⟨h, h2 | h2⟩)
    · exact .inl (.inl h)
    · exact .inl (.inr ⟨h, h2⟩)
    · exact .inr ⟨h, h2⟩
theorem mergeK_nodup : ∀ (more kvs : List (Key × V)), ((kvs ++ more).map (·.1)).Nodup → mergeK kvs more = kvs ++ more
  | [], kvs, _ => by simp [mergeK]
  | p :: r, kvs, h => by
    have hn : valV kvs p.1 = none := by
      cases e : valV kvs p.1 with
      | none => rfl
      | some v =>
        exfalso
        have ha : (kvs.any fun kv => decide (kv.1 = p.1)) = true := by rw [valV_any, e]; rfl
        obtain ⟨q, hq, e2⟩ := List.any_eq_true.mp ha
        rw [List.map_append, List.nodup_append] at h
        exact h.2.2 q.1 (List.mem_map_of_mem hq) p.1 (by simp) (of_decide_eq_true e2)
    show mergeK (putK kvs p.1 p.2) r = _
    rw [putK_new _ hn, mergeK_nodup r (kvs ++ [(p.1, p.2)]) (by rw [List.append_assoc]; exact h), List.append_assoc]
    rfl
section
variable {X : Cx} {T : Th} {W : WX} {Γ : List Md}
def tItm (T : Th) (W : WX) (Γ : List Md) : Str × Itm → TE × TE
  | (k, .l) => (tC1 T W Γ (eC (.str k)), fun _ H Q => ∀ p, H p = none → Q (.ref p) (upd H p (.lst [])))
  | (k, .d) => (tC1 T W Γ (eC (.str k)), tDNewK)
  | (k, .s F) => (tC1 T W Γ (eC (.str k)), tC1 T W Γ F)
theorem pe_nilL {pos : Pos} : PE X (.List [] pos) (fun _ H Q => ∀ p, H p = none → Q (.ref p) (upd H p (.lst []))) := pe_imp (pe_lst pa_nil) fun σ H Q h => ⟨Nat.zero_le _, h⟩
theorem own_nilD {g : G} {H : Hp} {k : Nat} {F : Addr → Prop} {p : Addr} (hF : F p) (hH : H p = some (.dK [])) : Own T g H (k + 1) F (.dct []) (.ref p) := by
  simp only [Own]
  exact ⟨p, [], rfl, hF, .inl ⟨[], hH, rfl⟩, rfl, fun _ _ => False, fun _ _ z => z.elim, fun _ _ _ z => z.elim, fun j d w a => by simp at a⟩
def Gs0 (P : Addr → Prop) (Gs : Nat → Addr → Prop) : Nat → Addr → Prop
  | 0 => P
  | j + 1 => Gs j
theorem plusF_congr {g : G} {n : Nat} {F1 F2 : Addr → Prop} (h : ∀ a, F1 a ↔ F2 a) : g.plusF n F1 = g.plusF n F2 := by
  rw [show F1 = F2 from funext fun a => propext (h a)]
theorem gs0_ex {Fo P : Addr → Prop} {Gs : Nat → Addr → Prop} (a : Addr) : ((Fo a ∨ P a) ∨ ∃ j, Gs j a) ↔ (Fo a ∨ ∃ j, Gs0 P Gs j a) := by
  constructor
  · rintro ((h | h) | ⟨j, h⟩)
    · exact .inl h
    · exact .inr ⟨0, h⟩
    · exact .inr ⟨j + 1, h⟩
  · rintro (h | ⟨j, h⟩)
    · exact .inl (.inl h)
    · cases j with
      | zero => exact .inl (.inr h)
      | succ j => exact .inr ⟨j, h⟩
theorem gs0_inj {P : Addr → Prop} {Gs : Nat → Addr → Prop} (h : ∀ i j a, Gs i a → Gs j a → i = j) (hp : ∀ j a, Gs j a → ¬ P a) : ∀ i j a, Gs0 P Gs i a → Gs0 P Gs j a → i = j := fun i j a z z' => by
  cases i <;> cases j
  · rfl
  · exact absurd z (hp _ a z')
  · exact absurd z' (hp _ a z)
  · rw [h _ _ a z z']
theorem items_run {g : G} {ρ : Env} {S : Store} {σ : L2.St} : ∀ (its : List (Str × Itm)) (Fo : Addr → Prop) (H : Hp) (ls : List (D × D)) (Q : List (V × V) → Hp → Prop), Rel T (g.plusF ρ.length Fo) Γ ρ S σ H → eItms its ρ S = some ls →
    (∀ (vs : List V) (H' : Hp) (Gs : Nat → Addr → Prop), Exx H H' → Rel T (g.plusF ρ.length (fun a => Fo a ∨ ∃ j, Gs j a)) Γ ρ S σ H' → (∀ j a, Gs j a → H a = none) → (∀ i j a, Gs i a → Gs j a → i = j) → vs.length = its.length → ls.map (·.1) = its.map (fun p => D.str p.1) →
      (∀ (j : Nat) (d : D × D) (w : V), ls[j]? = some d → vs[j]? = some w → Own T (g.plusF ρ.length (fun a => Fo a ∨ ∃ j, Gs j a)) H' 1 (Gs j) d.2 w) → Q ((its.map fun p => V.str p.1).zip vs) H') → tPairs (its.map (tItm T W Γ)) σ H Q
  | [], Fo, H, ls, Q, R, he, hc => by
    cases he
    refine hc [] H (fun _ _ => False) (.refl H) ?_ (fun _ _ z => z.elim) (fun _ _ _ z => z.elim) rfl rfl fun j d w a => by simp at a
    rw [plusF_congr (F2 := Fo) (fun a => by simp)]
    exact R
  | (k, .l) :: its, Fo, H, ls, Q, R, he, hc => by
    obtain ⟨l2, e1, e2⟩ := Option.map_eq_some_iff.mp (show (eItms its ρ S).map ((.str k, .lst []) :: ·) = some ls from he)
    subst e2
    refine ⟨_, ρ, S, R, fun es v H1 x1 s1 p hp => ?_⟩
    have hv := shr_str.mp s1
    subst hv
    have R2 := (R.ex x1).fresh hp (o := .lst []) fun _ => ⟨nofun, fun _ => nofun⟩
    rw [plusF_plusF] at R2
    have x2 : Exx H1 (upd H1 p (.lst [])) := Exx.new hp
    refine items_run its _ _ l2 _ R2 e1 fun vs H' Gs x3 R3 h1 h2 h3 h4 h5 => ?_
    rw [plusF_congr gs0_ex] at R3 h5
    refine hc (.ref p :: vs) H' (Gs0 (· = p) Gs) (x1.trans (x2.trans x3)) R3 (fun j a z => ?_) (gs0_inj h2 fun j a z e => ?_) (by simp [h3]) (by simp [h4]) fun j d w a b => ?_
    · cases j with
      | zero => rw [show a = p from z]; exact x1.none hp
      | succ j => exact x1.none (x2.none (h1 j a z))
    · have := h1 j a z
      rw [e, upd_same] at this
      cases this
    · cases j with
      | zero => cases a; cases b; exact own_nilL rfl (x3 _ _ upd_same)
      | succ j => exact h5 j d w a b
  | (k, .d) :: its, Fo, H, ls, Q, R, he, hc => by
    obtain ⟨l2, e1, e2⟩ := Option.map_eq_some_iff.mp (show (eItms its ρ S).map ((.str k, .dct []) :: ·) = some ls from he)
    subst e2
    refine ⟨_, ρ, S, R, fun es v H1 x1 s1 p hp => ?_⟩
    have hv := shr_str.mp s1
    subst hv
    have R2 := (R.ex x1).fresh hp (o := .dK []) fun _ => ⟨nofun, fun _ => nofun⟩
    rw [plusF_plusF] at R2
    have x2 : Exx H1 (upd H1 p (.dK [])) := Exx.new hp
    refine items_run its _ _ l2 _ R2 e1 fun vs H' Gs x3 R3 h1 h2 h3 h4 h5 => ?_
    rw [plusF_congr gs0_ex] at R3 h5
    refine hc (.ref p :: vs) H' (Gs0 (· = p) Gs) (x1.trans (x2.trans x3)) R3 (fun j a z => ?_) (gs0_inj h2 fun j a z e => ?_) (by simp [h3]) (by simp [h4]) fun j d w a b => ?_
    · cases j with
      | zero => rw [show a = p from z]; exact x1.none hp
      | succ j => exact x1.none (x2.none (h1 j a z))
    · have := h1 j a z
      rw [e, upd_same] at this
      cases this
    · cases j with
      | zero => cases a; cases b; exact own_nilD rfl (x3 _ _ upd_same)
      | succ j => exact h5 j d w a b
  | (k, .s F) :: its, Fo, H, ls, Q, R, he, hc => by
    have he : (match F ρ S with
      | .ok x _ => if plainV x = true then (eItms its ρ S).map ((.str k, x) :: ·) else none
      | _ => none) = some ls := he
    refine ⟨_, ρ, S, R, fun es v H1 x1 s1 => ⟨_, ρ, S, R.ex x1, ?_⟩⟩
    have hv := shr_str.mp s1
    subst hv
    cases eF : F ρ S with
    | no => rw [eF] at he; cases he
    | exc y S1 => rw [eF] at he; cases he
    | ok x S1 =>
      rw [eF] at he
      dsimp only at he
      split at he
      · rename_i hpl
        obtain ⟨l2, e1, e2⟩ := Option.map_eq_some_iff.mp he
        subst e2
        intro es v H2 x2 sx
        refine items_run its _ _ l2 _ ((R.ex x1).ex x2) e1 fun vs H' Gs x3 R3 h1 h2 h3 h4 h5 => ?_
        have ec : g.plusF ρ.length (fun a => Fo a ∨ ∃ j, Gs j a) = g.plusF ρ.length (fun a => Fo a ∨ ∃ j, Gs0 (fun _ => False) Gs j a) := plusF_congr fun a => by rw [← gs0_ex]; simp
        rw [ec] at R3 h5
        refine hc (v :: vs) H' (Gs0 (fun _ => False) Gs) (x1.trans (x2.trans x3)) R3 (fun j a z => ?_) (gs0_inj h2 fun _ _ _ e => e) (by simp [h3]) (by simp [h4]) fun j d w a b => ?_
        · cases j with
          | zero => exact z.elim
          | succ j => exact x1.none (x2.none (h1 j a z))
        · cases j with
          | zero =>
            cases a; cases b
            refine own_plain (.inr hpl) (Shr.stay (g := g.plusF ρ.length Fo) (g' := g.plusF ρ.length (fun a => Fo a ∨ ∃ j, Gs0 (fun _ => False) Gs j a)) (H := H2) (H' := H') ⟨fun a o h _ => x3 a o h, fun a h => ?_, Nat.le_refl _, fun _ _ => rfl, rfl⟩ _ _ sx)
            rcases G.plusF_U.mp h with h | h | ⟨j, h⟩
            · exact .inl (G.plusF_U.mpr (.inl h))
            · exact .inl (G.plusF_U.mpr (.inr h))
            · cases j with
              | zero => exact h.elim
              | succ j => exact .inr (h1 j a h)
          | succ j => exact h5 j d w a b
      · cases he
end
end Q

/-! A display of a dict, fresh. -/
namespace Q
open PySem PySem.Spec PyProof.Rows L2
section
variable {X : Cx} {T : Th} {W : WX} {Γ : List Md}
/-- a write to what is owned beyond the slots -/
theorem Rel.writeP {g : G} {ρ : Env} {S : Store} {σ : L2.St} {H : Hp} {p : Addr} {o : HO} (R : Rel T g Γ ρ S σ H) (hp : g.F ρ.length p) (ho : ∀ u, o ≠ .tup u ∧ ∀ b, o ≠ .frz b (.tup u)) : Rel T g Γ ρ S σ (upd H p o) ∧ Stay g H g (upd H p o) := by
  have st : Stay g H g (upd H p o) := ⟨fun a u h hu => by rw [upd_ne (fun z => hu (.inr (.inl ⟨ρ.length, by rw [z]; exact hp⟩)))]; exact h, fun _ h => .inl h, Nat.le_refl _, fun _ _ => rfl, rfl⟩
  have stb : Stay g.bare H g.bare (upd H p o) := ⟨fun a u h hu => by rw [upd_ne (fun z => hu (.inr (.inl ⟨ρ.length, by rw [z]; exact hp⟩)))]; exact h, fun _ h => .inl h, Nat.le_refl _, fun _ _ => rfl, rfl⟩
  refine ⟨⟨R.len, fun j d' e => ?_, R.dF, R.dFO, R.dFB, R.dOB, fun a h => ?_, R.st.keep st (fun a u hb h => by rw [upd_ne (fun z => R.dFB ρ.length p hp (by rw [← z]; exact hb))]; exact h) rfl rfl rfl fun _ _ => rfl, nt_upd R.nt ho⟩, st⟩
  · have hj : ρ.length ≠ j := by
      have := (List.getElem?_eq_some_iff.mp e).1
      omega
    obtain ⟨w, h1, h2⟩ := R.slot j d' e
    refine ⟨w, h1, ?_⟩
    have kF : ∀ a u, g.F j a → H a = some u → upd H p o a = some u := fun a u z q => by rw [upd_ne (fun w => hj (R.dF _ j p hp (by rw [← w]; exact z)))]; exact q
    cases hm : Γ.getD j .s <;> rw [hm] at h2 <;> simp only [RepM] at h2 ⊢
    · exact h2.stay st
    · exact Own.keepF st _ _ _ _ kF h2
    · exact Own.keepF st _ _ _ _ (fun a u z q => by rw [upd_ne (fun w => R.dFO _ p hp (by rw [← w]; exact z))]; exact q) h2
    · exact ⟨h2.1, Own.keepF st _ _ _ _ kF h2.2⟩
    · exact h2
    · exact h2.stay stb
  · by_cases ha : a = p
    · subst ha; exact ⟨o, upd_same⟩
    · rw [upd_ne ha]; exact R.dom a h
theorem zipm {α β γ : Type} (f : α → β) : ∀ (l : List α) (vs : List γ), (l.map f).zip vs = (l.zip vs).map fun q => (f q.1, q.2)
  | [], _ => rfl
  | _ :: _, [] => rfl
  | a :: l, v :: vs => by
    simp only [List.map_cons, List.zip_cons_cons]
    rw [zipm f l vs]
theorem xf_dct {its : List (Str × Itm)} {keys : List (Option Expr)} {values : List Expr} {pos : Pos} (h : PPs X pos keys values (its.map (tItm T W Γ))) (hall : keys.all (·.isSome) = true) (hl : keys.length = values.length) (h0 : keys ≠ []) (h15 : keys.length ≤ 15) :
    XF X T W Γ 2 (.Dict keys values pos) (eDct its) := pe_imp (pe_disp h hall hl h0 h15) fun σ H Q ⟨g, ρ, S, R, hg⟩ => by
  intro p hp
  unfold eDct at hg
  cases he : eItms its ρ S with
  | none => rw [he] at hg; exact hg.elim
  | some ls =>
    rw [he] at hg
    dsimp only at hg
    split at hg
    · rename_i hc
      have R1 := R.fresh hp (o := .dK []) fun _ => ⟨nofun, fun _ => nofun⟩
      refine items_run its (· = p) _ ls _ R1 he fun vs H' Gs x R3 h1 h2 h3 h4 h5 => ?_
      have hH := x _ _ (upd_same (H := H) (a := p) (o := .dK []))
      have ek : (its.map fun p => V.str p.1).zip vs = ((its.map fun p => (Sum.inr p.1 : Key)).zip vs).map fun kv => (kV kv.1, kv.2) := by
        rw [zipm, zipm, List.map_map]
        rfl
      have en : mergeK [] ((its.map fun p => (Sum.inr p.1 : Key)).zip vs) = (its.map fun p => (Sum.inr p.1 : Key)).zip vs := by
        refine mergeK_nodup _ [] ?_
        rw [List.nil_append, List.map_fst_zip (by rw [List.length_map]; omega)]
        have := hc.2
        unfold List.Nodup at this ⊢
        rw [List.pairwise_map] at this ⊢
        exact this.imp fun hne e => hne (Sum.inr.inj e)
      refine ⟨hH, (its.map fun p => (Sum.inr p.1 : Key)).zip vs, ek, ?_, ?_⟩
      · rw [List.length_zip, List.length_map]; omega
      · rw [en]
        generalize hks : (its.map fun p => (Sum.inr p.1 : Key)).zip vs = ks at *
        obtain ⟨R4, st4⟩ := R3.writeP (p := p) (o := .dK ks) (.inr ⟨rfl, .inl rfl⟩) fun _ => ⟨nofun, fun _ => nofun⟩
        have xx : Exx H (upd H' p (.dK ks)) := fun a o e => by
          have ne : a ≠ p := fun z => by rw [z, hp] at e; cases e
          rw [upd_ne ne]
          exact x _ _ (by rw [upd_ne ne]; exact e)
        have nF : ∀ a, (a = p ∨ ∃ j, Gs j a) → H a = none := fun a z => by
          rcases z with z | ⟨j, z⟩
          · rw [z]; exact hp
          · have h6 := h1 j a z
            by_cases e : a = p
            · rw [e]; exact hp
            · rw [upd_ne e] at h6; exact h6
        have np : ∀ j a, Gs j a → a ≠ p := fun j a z e => by
          have h6 := h1 j a z
          rw [e, upd_same] at h6
          cases h6
        refine hg _ g _ (fun a => a = p ∨ ∃ j, Gs j a) R4 (.ex xx) (fun a z => ⟨fun u => ?_, .inr (nF a z)⟩) ?_
        · obtain ⟨o, q⟩ := R.dom a u
          rw [nF a z] at q; cases q
        · have hlen : ls.length = its.length := by
            have := congrArg List.length h4
            simpa using this
          have hkl : ks.length = its.length := by rw [← hks, List.length_zip, List.length_map, h3, Nat.min_self]
          simp only [Own]
          refine ⟨p, _, rfl, .inl rfl, .inl ⟨ks, upd_same, rfl⟩, by rw [List.length_map, hlen, hkl], Gs, fun j a z => ⟨.inr ⟨j, z⟩, np j a z⟩, h2, fun j d w a b => ?_⟩
          rw [← ek, zipm, List.getElem?_map] at b
          obtain ⟨q, b1, b2⟩ := Option.map_eq_some_iff.mp b
          subst b2
          obtain ⟨b3, b4⟩ := List.getElem?_zip_eq_some.mp b1
          have e5 : (ls.map (·.1))[j]? = (its.map fun p => D.str p.1)[j]? := by rw [h4]
          rw [List.getElem?_map, List.getElem?_map, a, b3] at e5
          have e5 : d.1 = .str q.1.1 := Option.some.inj e5
          refine ⟨by rw [e5]; exact shr_str.mpr rfl, ?_⟩
          exact Own.keepF st4 _ _ _ _ (fun c u z e => by rw [upd_ne (np j c z)]; exact e) (h5 j d q.2 a b4)
    · exact hg.elim
end
end Q

/-! max, min of a list of whole numbers. -/
namespace Q
open PySem PySem.Spec PyProof.Rows L2
def mxI : List Int → Int
  | [] => 0
  | [a] => a
  | a :: b :: r => if a < mxI (b :: r) then mxI (b :: r) else a
def mnI : List Int → Int
  | [] => 0
  | [a] => a
  | a :: b :: r => if mnI (b :: r) < a then mnI (b :: r) else a
theorem mxI_spec : ∀ ns : List Int, ns ≠ [] → mxI ns ∈ ns ∧ ∀ a ∈ ns, a ≤ mxI ns
  | [], h => absurd rfl h
  | [a], _ => ⟨by simp [mxI], fun b hb => by rw [List.mem_singleton.mp hb]; exact Int.le_refl _⟩
  | a :: b :: r, _ => by
    obtain ⟨h1, h2⟩ := mxI_spec (b :: r) (List.cons_ne_nil _ _)
    unfold mxI
    by_cases h : a < mxI (b :: r)
    · rw [if_pos h]
      refine ⟨List.mem_cons_of_mem _ h1, fun c hc => ?_⟩
      rcases List.mem_cons.mp hc with e | e
      · omega
      · exact h2 c e
    · rw [if_neg h]
      refine ⟨List.mem_cons_self .., fun c hc => ?_⟩
      rcases List.mem_cons.mp hc with e | e
      · omega
      · have := h2 c e; omega
theorem mnI_spec : ∀ ns : List Int, ns ≠ [] → mnI ns ∈ ns ∧ ∀ a ∈ ns, mnI ns ≤ a
  | [], h => absurd rfl h
  | [a], _ => ⟨by simp [mnI], fun b hb => by rw [List.mem_singleton.mp hb]; exact Int.le_refl _⟩
  | a :: b :: r, _ => by
    obtain ⟨h1, h2⟩ := mnI_spec (b :: r) (List.cons_ne_nil _ _)
    unfold mnI
    by_cases h : mnI (b :: r) < a
    · rw [if_pos h]
      refine ⟨List.mem_cons_of_mem _ h1, fun c hc => ?_⟩
      rcases List.mem_cons.mp hc with e | e
      · omega
      · exact h2 c e
    · rw [if_neg h]
      refine ⟨List.mem_cons_self .., fun c hc => ?_⟩
      rcases List.mem_cons.mp hc with e | e
      · omega
      · have := h2 c e; omega
theorem ints_items : ∀ (ns : List Int) (its : List Value), Vals (ns.map V.int) its → ∃ xs : List (Int × Tok), its = xs.map (fun p => Value.int p.1 p.2) ∧ xs.map (·.1) = ns
  | [], its, h => by cases h; exact ⟨[], rfl, rfl⟩
  | n :: ns, its, h => by
    cases h with
    | cons h1 h2 =>
      obtain ⟨t, rfl⟩ := (show ∃ t, _ = Value.int n t from h1)
      obtain ⟨xs, rfl, e⟩ := ints_items ns _ h2
      exact ⟨(n, t) :: xs, rfl, by rw [List.map_cons, e]⟩
abbrev rMaxI (K : PySem.W.Frag) : List V → Hp → VK → Prop := fun vs H Q => ∃ p ns, vs = [V.ref p] ∧ SqL K H p (ns.map V.int) ∧ ns ≠ [] ∧ Q (.int (mxI ns)) H
theorem call_maxI {X : Cx} (hc : X.calm = true) : CallR X (.builtin "max") (rMaxI X.K) := by
  intro pins s σ H vs us Q I r h
  obtain ⟨p, ns, rfl, hs, hne, q⟩ := h
  obtain ⟨its, rv, hl, _⟩ := I.list hs
  rw [Vals.ref1 r]
  obtain ⟨xs, rfl, e⟩ := ints_items ns its rv
  have hl' : s.heap.IsList p (intItems xs.toArray) := by
    have h1 := hl.isList
    rwa [show (xs.map fun p => Value.int p.1 p.2).toArray = intItems xs.toArray by simp [intItems]] at h1
  have hx : xs ≠ [] := fun z => hne (by rw [← e, z]; rfl)
  have hx0 : 0 < xs.length := List.length_pos_iff.mpr hx
  refine max_intList (I.ok.hd hc) hl' (by simpa using hx0) fun v h' tk hv hk => ?_
  obtain ⟨t, rfl⟩ := intItems_at hv
  obtain ⟨h1, h2⟩ := argBest_gt (numAt xs.toArray) (xs.toArray.size - 1)
  obtain ⟨m1, m2⟩ := mxI_spec ns hne
  have hsz : xs.toArray.size = ns.length := by rw [← e]; simp
  have hn : ∀ j, numAt xs.toArray j = ns.getD j 0 := fun j => by rw [numAt_eq]; simp [e]
  have hle : ns.length ≠ 0 := by rw [← e, List.length_map]; omega
  generalize hM : numAt xs.toArray _ = M at h2 ⊢
  have e1 : M = mxI ns := by
    have hmem : M ∈ ns := by rw [← hM, hn]; exact getD_mem (by rw [← hsz]; omega)
    obtain ⟨j, hj, ej⟩ := mem_getD m1
    have k1 := h2 j (by rw [hsz]; omega)
    rw [hn, ej] at k1
    have k2 := m2 M hmem
    omega
  rw [e1]
  exact ⟨_, H, I.kept hk, (show RelV (V.int _) _ from ⟨t, rfl⟩), q⟩
abbrev rMinI (K : PySem.W.Frag) : List V → Hp → VK → Prop := fun vs H Q => ∃ p ns, vs = [V.ref p] ∧ SqL K H p (ns.map V.int) ∧ ns ≠ [] ∧ Q (.int (mnI ns)) H
theorem call_minI {X : Cx} (hc : X.calm = true) : CallR X (.builtin "min") (rMinI X.K) := by
  intro pins s σ H vs us Q I r h
  obtain ⟨p, ns, rfl, hs, hne, q⟩ := h
  obtain ⟨its, rv, hl, _⟩ := I.list hs
  rw [Vals.ref1 r]
  obtain ⟨xs, rfl, e⟩ := ints_items ns its rv
  have hl' : s.heap.IsList p (intItems xs.toArray) := by
    have h1 := hl.isList
    rwa [show (xs.map fun p => Value.int p.1 p.2).toArray = intItems xs.toArray by simp [intItems]] at h1
  have hx : xs ≠ [] := fun z => hne (by rw [← e, z]; rfl)
  have hx0 : 0 < xs.length := List.length_pos_iff.mpr hx
  refine min_intList (I.ok.hd hc) hl' (by simpa using hx0) fun v h' tk hv hk => ?_
  obtain ⟨t, rfl⟩ := intItems_at hv
  obtain ⟨h1, h2⟩ := argBest_lt (numAt xs.toArray) (xs.toArray.size - 1)
  obtain ⟨m1, m2⟩ := mnI_spec ns hne
  have hsz : xs.toArray.size = ns.length := by rw [← e]; simp
  have hn : ∀ j, numAt xs.toArray j = ns.getD j 0 := fun j => by rw [numAt_eq]; simp [e]
  have hle : ns.length ≠ 0 := by rw [← e, List.length_map]; omega
  generalize hM : numAt xs.toArray _ = M at h2 ⊢
  have e1 : M = mnI ns := by
    have hmem : M ∈ ns := by rw [← hM, hn]; exact getD_mem (by rw [← hsz]; omega)
    obtain ⟨j, hj, ej⟩ := mem_getD m1
    have k1 := h2 j (by rw [hsz]; omega)
    rw [hn, ej] at k1
    have k2 := m2 M hmem
    omega
  rw [e1]
  exact ⟨_, H, I.kept hk, (show RelV (V.int _) _ from ⟨t, rfl⟩), q⟩
def hMaxI : List D → Option D
  | [.lst l] => (intsOf l).bind fun ns => if ns.isEmpty = true then none else some (.int (mxI ns))
  | _ => none
def hMinI : List D → Option D
  | [.lst l] => (intsOf l).bind fun ns => if ns.isEmpty = true then none else some (.int (mnI ns))
  | _ => none
theorem ok_maxI {T : Th} : LsOk T (rMaxI T.K) hMaxI := by
  intro g H xs z vs s e hd Q q
  match xs, e, s with
  | [.lst l], e, s =>
    simp only [hMaxI] at e
    obtain ⟨ns, en, e⟩ := Option.bind_eq_some_iff.mp e
    split at e
    · cases e
    · rename_i hne
      cases e
      simp only [ShrL] at s
      obtain ⟨v, _, rfl, sv, rfl⟩ := s
      obtain ⟨a, ws, rfl, la, ra⟩ := shr_lst.mp sv
      obtain ⟨h1, h2⟩ := intsOf_map en ra
      subst h1
      exact ⟨a, ns, rfl, .of la.1, fun z => hne (by rw [z]; rfl), q _ H (.refl H) (shr_int.mpr rfl)⟩
theorem ok_minI {T : Th} : LsOk T (rMinI T.K) hMinI := by
  intro g H xs z vs s e hd Q q
  match xs, e, s with
  | [.lst l], e, s =>
    simp only [hMinI] at e
    obtain ⟨ns, en, e⟩ := Option.bind_eq_some_iff.mp e
    split at e
    · cases e
    · rename_i hne
      cases e
      simp only [ShrL] at s
      obtain ⟨v, _, rfl, sv, rfl⟩ := s
      obtain ⟨a, ws, rfl, la, ra⟩ := shr_lst.mp sv
      obtain ⟨h1, h2⟩ := intsOf_map en ra
      subst h1
      exact ⟨a, ns, rfl, .of la.1, fun z => hne (by rw [z]; rfl), q _ H (.refl H) (shr_int.mpr rfl)⟩
end Q

namespace K07
open PySem PySem.Spec PyProof.Rows L2 Q
def fmL (c : Nat) (f : Str) : Nat :=
  if c = 0 ∧ f = "my_flows" then 2 else
  if c = 0 ∧ f = "my_marks" then 1 else
  if c = 0 ∧ f = "my_skies" then 1 else
  if c = 0 ∧ f = "my_stoves" then 1 else
  0
noncomputable def m__law_cell_at : FS := (fSeq (fIf (eOp hLt (eVar 1) (eL hLen (lCons (eVar 0) lNil))) (fRet (eOp hIx (eVar 0) (eVar 1)))
    fPass)
    (fRet (eC (.int 0))))
noncomputable def f__law_cell_at : FF := fBody 2 2 (ΓS 2) m__law_cell_at
noncomputable def m__law_pick : FS := (fRet (eOp hMod (eOp hMod (eOp hMul (eOp hAdd (eOp hMod (eVar 0) (eC (.int 1000003))) (eC (.int 1))) (eOp hAdd (eOp hMul (eVar 1) (eVar 1)) (eC (.int 48271)))) (eC (.int 65537))) (eVar 2)))
noncomputable def f__law_pick : FF := fBody 3 3 (ΓS 3) m__law_pick
noncomputable def e__law_scale_1 : FE := (eOp hAdd (eC (.int 1)) (eOp hMod (eOp hDiv (eOp hAdd (eVar 0) (eVar 3)) (eOp hAdd (eVar 3) (eC (.int 1)))) (eVar 1)))
theorem u_e__law_scale_1 (ρ : Q.Env) (S : Store) : e__law_scale_1 ρ S = ((eOp hAdd (eC (.int 1)) (eOp hMod (eOp hDiv (eOp hAdd (eVar 0) (eVar 3)) (eOp hAdd (eVar 3) (eC (.int 1)))) (eVar 1)))) ρ S := rfl
noncomputable def m__law_scale : FS := (fSeq (fSet 1 (eOp hIx (eLst (lCons (eC (.int 1)) (lCons (eC (.int 12)) (lCons (eOp hPow (eC (.int 10)) (eC (.int 4))) (lCons (eOp hPow (eC (.int 10)) (eC (.int 4))) (lCons (eOp hPow (eC (.int 10)) (eC (.int 4))) (lCons (eOp hPow (eC (.int 10)) (eC (.int 9))) lNil))))))) (eCall f__law_pick (lCons (eVar 0) (lCons (eC (.int 40)) (lCons (eC (.int 6)) lNil))))))
    (fSeq (fSet 2 (eLc (iRange1 (lCons (eC (.int 3)) lNil)) [3] (tfName 3) (eC (.bl true)) e__law_scale_1))
    (fRet (eTup (lCons (eOp hIx (eVar 2) (eC (.int 0))) (lCons (eOp hIx (eVar 2) (eC (.int 1))) (lCons (eOp hSub (eOp hMod (eOp hDiv (eVar 0) (eC (.int 7))) (eOp hAdd (eOp hMul (eC (.int 2)) (eVar 1)) (eC (.int 1)))) (eVar 1)) (lCons (eOp hIx (eVar 2) (eC (.int 2))) lNil))))))))
noncomputable def f__law_scale : FF := fBody 4 1 (ΓS 1) m__law_scale
noncomputable def m__law_stove_by : FS := (fSeq (fIf (eOp hEq (eCall f__law_pick (lCons (eVar 1) (lCons (eOp hAdd (eC (.int 60)) (eVar 3)) (lCons (eC (.int 4)) lNil)))) (eC (.int 0))) (fRet (eC .non))
    fPass)
    (fSeq (fSet 4 (eCall f__law_pick (lCons (eVar 0) (lCons (eOp hAdd (eC (.int 70)) (eVar 3)) (lCons (eC (.int 10)) lNil)))))
    (fSeq (fSet 5 (eCall f__law_pick (lCons (eVar 0) (lCons (eOp hAdd (eC (.int 80)) (eVar 3)) (lCons (eC (.int 4)) lNil)))))
    (fRet (eTup (lCons (eCall f__law_pick (lCons (eVar 2) (lCons (eOp hAdd (eC (.int 30)) (eVar 3)) (lCons (eC (.int 26)) lNil)))) (lCons (eVar 4) (lCons (eVar 5) (lCons (eCall f__law_pick (lCons (eVar 1) (lCons (eOp hAdd (eC (.int 90)) (eVar 3)) (lCons (eC (.int 4)) lNil)))) lNil)))))))))
noncomputable def f__law_stove_by : FF := fBody 6 4 (ΓS 4) m__law_stove_by
noncomputable def b__law_drawn_1 : FS := (fMut 7 mAppend (lCons (eOp hAdd (eOp hAdd (eFlat (eOp hIx (eVar 7) (eVar 8))) (eC (.int 1))) (eCall f__law_pick (lCons (eVar 2) (lCons (eOp hAdd (eOp hAdd (eC (.int 20)) (eOp hMul (eC (.int 8)) (eVar 6))) (eVar 8)) (lCons (eC (.int 20)) lNil))))) lNil))
theorem u_b__law_drawn_1 (ρ : Q.Env) (S : Store) : b__law_drawn_1 ρ S = ((fMut 7 mAppend (lCons (eOp hAdd (eOp hAdd (eFlat (eOp hIx (eVar 7) (eVar 8))) (eC (.int 1))) (eCall f__law_pick (lCons (eVar 2) (lCons (eOp hAdd (eOp hAdd (eC (.int 20)) (eOp hMul (eC (.int 8)) (eVar 6))) (eVar 8)) (lCons (eC (.int 20)) lNil))))) lNil))) ρ S := rfl
noncomputable def b__law_drawn_2 : FS := (fIf (eOp hNe (eVar 10) (eVar 6)) (fVPut 2 5 (pKey 2 (pVar 5) "flows") (eTup (lCons (eVar 6) (lCons (eVar 10) lNil))) (eCall f__law_pick (lCons (eVar 2) (lCons (eOp hAdd (eOp hAdd (eC (.int 100)) (eOp hMul (eC (.int 5)) (eVar 6))) (eVar 10)) (lCons (eC (.int 4)) lNil)))))
    fPass)
theorem u_b__law_drawn_2 (ρ : Q.Env) (S : Store) : b__law_drawn_2 ρ S = ((fIf (eOp hNe (eVar 10) (eVar 6)) (fVPut 2 5 (pKey 2 (pVar 5) "flows") (eTup (lCons (eVar 6) (lCons (eVar 10) lNil))) (eCall f__law_pick (lCons (eVar 2) (lCons (eOp hAdd (eOp hAdd (eC (.int 100)) (eOp hMul (eC (.int 5)) (eVar 6))) (eVar 10)) (lCons (eC (.int 4)) lNil)))))
    fPass)) ρ S := rfl
noncomputable def b__law_drawn_3 : FS := (fSeq (fSet 7 (eLst (lCons (eOp hSub (eCall f__law_pick (lCons (eVar 2) (lCons (eVar 6) (lCons (eC (.int 61)) lNil)))) (eC (.int 30))) lNil)))
    (fSeq (fFor (iRange1 (lCons (eOp hAdd (eC (.int 1)) (eCall f__law_pick (lCons (eVar 1) (lCons (eOp hAdd (eC (.int 10)) (eVar 6)) (lCons (eOp hIx (eLst (lCons (eC (.int 6)) (lCons (eC (.int 6)) (lCons (eC (.int 4)) (lCons (eC (.int 4)) lNil))))) (eOp hSub (eVar 4) (eC (.int 1)))) lNil))))) lNil)) (tfName 8) b__law_drawn_1)
    (fSeq (fVMut 2 5 (pKey 2 (pVar 5) "marks") mAppend (lCons (eVar 7) lNil))
    (fSeq (fSet 9 (eOp hSub (eCall f__law_pick (lCons (eVar 3) (lCons (eVar 6) (lCons (eC (.int 61)) lNil)))) (eC (.int 30))))
    (fSeq (fVMut 2 5 (pKey 2 (pVar 5) "sky") mAppend (lCons (eTup (lCons (eCall0 f__law_pick (lCons (eVar 3) (lCons (eOp hAdd (eC (.int 10)) (eVar 6)) (lCons (eC (.int 4)) lNil)))) (lCons (eVar 9) (lCons (eOp hAdd (eVar 9) (eCall0 f__law_pick (lCons (eVar 3) (lCons (eOp hAdd (eC (.int 20)) (eVar 6)) (lCons (eC (.int 31)) lNil))))) lNil)))) lNil))
    (fSeq (fVMut 2 5 (pKey 2 (pVar 5) "stoves") mAppend (lCons (eCall0 f__law_stove_by (lCons (eVar 1) (lCons (eVar 2) (lCons (eVar 3) (lCons (eVar 6) lNil))))) lNil))
    (fFor (iRange1 (lCons (eVar 4) lNil)) (tfName 10) b__law_drawn_2)))))))
theorem u_b__law_drawn_3 (ρ : Q.Env) (S : Store) : b__law_drawn_3 ρ S = ((fSeq (fSet 7 (eLst (lCons (eOp hSub (eCall f__law_pick (lCons (eVar 2) (lCons (eVar 6) (lCons (eC (.int 61)) lNil)))) (eC (.int 30))) lNil)))
    (fSeq (fFor (iRange1 (lCons (eOp hAdd (eC (.int 1)) (eCall f__law_pick (lCons (eVar 1) (lCons (eOp hAdd (eC (.int 10)) (eVar 6)) (lCons (eOp hIx (eLst (lCons (eC (.int 6)) (lCons (eC (.int 6)) (lCons (eC (.int 4)) (lCons (eC (.int 4)) lNil))))) (eOp hSub (eVar 4) (eC (.int 1)))) lNil))))) lNil)) (tfName 8) b__law_drawn_1)
    (fSeq (fVMut 2 5 (pKey 2 (pVar 5) "marks") mAppend (lCons (eVar 7) lNil))
    (fSeq (fSet 9 (eOp hSub (eCall f__law_pick (lCons (eVar 3) (lCons (eVar 6) (lCons (eC (.int 61)) lNil)))) (eC (.int 30))))
    (fSeq (fVMut 2 5 (pKey 2 (pVar 5) "sky") mAppend (lCons (eTup (lCons (eCall0 f__law_pick (lCons (eVar 3) (lCons (eOp hAdd (eC (.int 10)) (eVar 6)) (lCons (eC (.int 4)) lNil)))) (lCons (eVar 9) (lCons (eOp hAdd (eVar 9) (eCall0 f__law_pick (lCons (eVar 3) (lCons (eOp hAdd (eC (.int 20)) (eVar 6)) (lCons (eC (.int 31)) lNil))))) lNil)))) lNil))
    (fSeq (fVMut 2 5 (pKey 2 (pVar 5) "stoves") mAppend (lCons (eCall0 f__law_stove_by (lCons (eVar 1) (lCons (eVar 2) (lCons (eVar 3) (lCons (eVar 6) lNil))))) lNil))
    (fFor (iRange1 (lCons (eVar 4) lNil)) (tfName 10) b__law_drawn_2)))))))) ρ S := rfl
noncomputable def m__law_drawn : FS := (fSeq (fSet 1 (eCall f__law_cell_at (lCons (eVar 0) (lCons (eC (.int 0)) lNil))))
    (fSeq (fSet 2 (eCall f__law_cell_at (lCons (eVar 0) (lCons (eC (.int 1)) lNil))))
    (fSeq (fSet 3 (eCall f__law_cell_at (lCons (eVar 0) (lCons (eC (.int 2)) lNil))))
    (fSeq (fSet 4 (eOp hIx (eLst (lCons (eC (.int 1)) (lCons (eC (.int 1)) (lCons (eC (.int 2)) (lCons (eC (.int 2)) (lCons (eC (.int 3)) (lCons (eC (.int 4)) lNil))))))) (eCall f__law_pick (lCons (eVar 1) (lCons (eC (.int 1)) (lCons (eC (.int 6)) lNil))))))
    (fSeq (fSet 5 (eDct [("marks", .l), ("sky", .l), ("stoves", .l), ("flows", .d), ("scale", .s (eCall0 f__law_scale (lCons (eCall0 f__law_cell_at (lCons (eVar 0) (lCons (eC (.int 3)) lNil))) lNil)))]))
    (fSeq (fVPut 2 5 (pVar 5) (eC (.str "bounds")) (eTup (lCons (eCall f__law_pick (lCons (eVar 1) (lCons (eC (.int 2)) (lCons (eC (.int 5)) lNil)))) (lCons (eCall f__law_pick (lCons (eVar 1) (lCons (eC (.int 3)) (lCons (eC (.int 31)) lNil)))) (lCons (eCall f__law_pick (lCons (eVar 1) (lCons (eC (.int 4)) (lCons (eC (.int 10)) lNil)))) lNil)))))
    (fSeq (fFor (iRange1 (lCons (eVar 4) lNil)) (tfName 6) b__law_drawn_3)
    (fRet (eVar 5)))))))))
noncomputable def f__law_drawn : FF := fBody 11 1 (ΓS 1) m__law_drawn
noncomputable def m_is_bound : FS := (fRet (eAnd (eUn (hIsi "int") (eVar 0)) (eAnd (eNot (eUn (hIsi "bool") (eVar 0))) (eChain hLe hLe (eC (.int 0)) (eVar 0) (eVar 1)))))
noncomputable def f_is_bound : FF := fBody 2 2 (ΓS 2) m_is_bound
noncomputable def m_Hold____init__ : FS := (fSeq (fIf (eOr (eNot (eCall f_is_bound (lCons (eVar 1) (lCons (eC (.int 4)) lNil)))) (eOr (eNot (eCall f_is_bound (lCons (eVar 2) (lCons (eC (.int 30)) lNil)))) (eNot (eCall f_is_bound (lCons (eVar 3) (lCons (eC (.int 30)) lNil)))))) fNo
    fPass)
    (fSeq (fFld fmL [0] 0 "most" (eVar 0) (eVar 1))
    (fSeq (fFld fmL [0] 0 "cap" (eVar 0) (eVar 2))
    (fSeq (fFld fmL [0] 0 "load" (eVar 0) (eVar 3))
    (fSeq (fFld fmL [0] 1 "my_marks" (eVar 0) (eC (.lst [])))
    (fSeq (fFld fmL [0] 2 "my_flows" (eVar 0) (eC (.lst [])))
    (fSeq (fFld fmL [0] 1 "my_skies" (eVar 0) (eC (.lst [])))
    (fFld fmL [0] 1 "my_stoves" (eVar 0) (eC (.lst []))))))))))
noncomputable def f_Hold____init__ : FF := fBody 4 4 (ΓS 4) m_Hold____init__
noncomputable def m_under : FS := (fRet (eOp hLt (eOp hMul (eOp hIx (eVar 0) (eC (.int 0))) (eOp hIx (eVar 1) (eC (.int 1)))) (eOp hMul (eOp hIx (eVar 1) (eC (.int 0))) (eOp hIx (eVar 0) (eC (.int 1))))))
noncomputable def f_under : FF := fBody 2 2 (ΓS 2) m_under
noncomputable def b_do_rise_1 : FS := (fIf (eNot (eCall f_under (lCons (eOp hIx (eVar 0) (eVar 1)) (lCons (eOp hIx (eVar 0) (eOp hAdd (eVar 1) (eC (.int 1)))) lNil)))) (fRet (eC (.bl false)))
    fPass)
theorem u_b_do_rise_1 (ρ : Q.Env) (S : Store) : b_do_rise_1 ρ S = ((fIf (eNot (eCall f_under (lCons (eOp hIx (eVar 0) (eVar 1)) (lCons (eOp hIx (eVar 0) (eOp hAdd (eVar 1) (eC (.int 1)))) lNil)))) (fRet (eC (.bl false)))
    fPass)) ρ S := rfl
noncomputable def m_do_rise : FS := (fSeq (fIf (eOr (eOp hLt (eL hLen (lCons (eVar 0) lNil)) (eC (.int 2))) (eOp hGt (eL hLen (lCons (eVar 0) lNil)) (eC (.int 7)))) (fRet (eC (.bl false)))
    fPass)
    (fSeq (fFor (iRange1 (lCons (eOp hSub (eL hLen (lCons (eVar 0) lNil)) (eC (.int 1))) lNil)) (tfName 1) b_do_rise_1)
    (fRet (eC (.bl true)))))
noncomputable def f_do_rise : FF := fBody 2 1 (ΓS 1) m_do_rise
noncomputable def b_Hold__put_room_1 : FS := (fSet 2 (eOp hMul (eVar 2) (eOp hSub (eFlat (eL hLen (lCons (eVar 3) lNil))) (eC (.int 1)))))
theorem u_b_Hold__put_room_1 (ρ : Q.Env) (S : Store) : b_Hold__put_room_1 ρ S = ((fSet 2 (eOp hMul (eVar 2) (eOp hSub (eFlat (eL hLen (lCons (eVar 3) lNil))) (eC (.int 1)))))) ρ S := rfl
noncomputable def m_Hold__put_room : FS := (fSeq (fIf (eOp hEq (eFlat (eL hLen (lCons (eFldV [0] "my_marks" (eVar 0)) lNil))) (eC (.int 4))) fNo
    fPass)
    (fSeq (fIf (eNot (eCall f_do_rise (lCons (eVar 1) lNil))) fNo
    fPass)
    (fSeq (fSet 2 (eOp hSub (eL hLen (lCons (eVar 1) lNil)) (eC (.int 1))))
    (fSeq (fForP fmL (pFld [0] "my_marks" (eVar 0)) (tfName 3) b_Hold__put_room_1)
    (fSeq (fIf (eOp hGt (eVar 2) (eC (.int 400))) fNo
    fPass)
    (fSeq (fForApp fmL (pFld [0] "my_flows" (eVar 0)) 4 (.tup [.int 0, .int 1]))
    (fSeq (fPMut fmL (pFld [0] "my_marks" (eVar 0)) mAppend (lCons (eUn hList (eVar 1)) lNil))
    (fSeq (fPApp fmL (pFld [0] "my_flows" (eVar 0)) (eOp hRep (eLst (lCons (eC (.tup [.int 0, .int 1])) lNil)) (eFlat (eL hLen (lCons (eFldV [0] "my_marks" (eVar 0)) lNil)))))
    (fSeq (fPMut fmL (pFld [0] "my_skies" (eVar 0)) mAppend (lCons (eTup (lCons (eC (.tup [.int 0, .int 1])) (lCons (eC (.tup [.int 0, .int 1])) (lCons (eC (.tup [.int 0, .int 1])) lNil)))) lNil))
    (fSeq (fPMut fmL (pFld [0] "my_stoves" (eVar 0)) mAppend (lCons (eC .non) lNil))
    (fRet (eOp hSub (eFlat (eL hLen (lCons (eFldV [0] "my_marks" (eVar 0)) lNil))) (eC (.int 1))))))))))))))
noncomputable def f_Hold__put_room : FF := fBody 5 2 (ΓS 2) m_Hold__put_room
noncomputable def m_Hold__ask_room : FS := (fIf (eOr (eOp hLt (eVar 1) (eC (.int 0))) (eOp hGe (eVar 1) (eFlat (eL hLen (lCons (eFldV [0] "my_marks" (eVar 0)) lNil))))) fNo
    fPass)
noncomputable def f_Hold__ask_room : FF := fBody 2 2 (ΓS 2) m_Hold__ask_room
noncomputable def c_divisor_1 : FE := (eOp hNe (eVar 3) (eC (.int 0)))
theorem u_c_divisor_1 (ρ : Q.Env) (S : Store) : c_divisor_1 ρ S = ((eOp hNe (eVar 3) (eC (.int 0)))) ρ S := rfl
noncomputable def b_divisor_2 : FS := (fSeq (fSet 4 (eOp hMod (eVar 2) (eVar 3)))
    (fSeq (fSet 2 (eVar 3))
    (fSet 3 (eVar 4))))
theorem u_b_divisor_2 (ρ : Q.Env) (S : Store) : b_divisor_2 ρ S = ((fSeq (fSet 4 (eOp hMod (eVar 2) (eVar 3)))
    (fSeq (fSet 2 (eVar 3))
    (fSet 3 (eVar 4))))) ρ S := rfl
noncomputable def m_divisor : FS := (fSeq (fSet 2 (eL hAbs (lCons (eVar 0) lNil)))
    (fSeq (fSet 3 (eL hAbs (lCons (eVar 1) lNil)))
    (fSeq (fWhile c_divisor_1 b_divisor_2)
    (fRet (eVar 2)))))
noncomputable def f_divisor : FF := fBody 5 2 (ΓS 2) m_divisor
noncomputable def m_fraction : FS := (fSeq (fIf (eOp hEq (eVar 1) (eC (.int 0))) fNo
    fPass)
    (fSeq (fSet 2 (eCall f_divisor (lCons (eVar 0) (lCons (eVar 1) lNil))))
    (fSeq (fIf (eOp hLt (eVar 1) (eC (.int 0))) (fSet 2 (eUn hNeg (eVar 2)))
    fPass)
    (fRet (eTup (lCons (eOp hDiv (eVar 0) (eVar 2)) (lCons (eOp hDiv (eVar 1) (eVar 2)) lNil)))))))
noncomputable def f_fraction : FF := fBody 3 2 (ΓS 2) m_fraction
noncomputable def m_plus : FS := (fRet (eCall f_fraction (lCons (eOp hAdd (eOp hMul (eOp hIx (eVar 0) (eC (.int 0))) (eOp hIx (eVar 1) (eC (.int 1)))) (eOp hMul (eOp hIx (eVar 1) (eC (.int 0))) (eOp hIx (eVar 0) (eC (.int 1))))) (lCons (eOp hMul (eOp hIx (eVar 0) (eC (.int 1))) (eOp hIx (eVar 1) (eC (.int 1)))) lNil))))
noncomputable def f_plus : FF := fBody 2 2 (ΓS 2) m_plus
noncomputable def m_minus : FS := (fRet (eCall f_fraction (lCons (eOp hSub (eOp hMul (eOp hIx (eVar 0) (eC (.int 0))) (eOp hIx (eVar 1) (eC (.int 1)))) (eOp hMul (eOp hIx (eVar 1) (eC (.int 0))) (eOp hIx (eVar 0) (eC (.int 1))))) (lCons (eOp hMul (eOp hIx (eVar 0) (eC (.int 1))) (eOp hIx (eVar 1) (eC (.int 1)))) lNil))))
noncomputable def f_minus : FF := fBody 2 2 (ΓS 2) m_minus
noncomputable def b_Hold__taken_share_1 : FS := (fSet 2 (eCall0 f_plus (lCons (eVar 2) (lCons (eVar 3) lNil))))
theorem u_b_Hold__taken_share_1 (ρ : Q.Env) (S : Store) : b_Hold__taken_share_1 ρ S = ((fSet 2 (eCall0 f_plus (lCons (eVar 2) (lCons (eVar 3) lNil))))) ρ S := rfl
noncomputable def m_Hold__taken_share : FS := (fSeq (fSet 2 (eOp hIx (eAt fmL (pIx fmL (pFld [0] "my_skies" (eVar 0)) (eVar 1))) (eC (.int 0))))
    (fSeq (fForP fmL (pIx fmL (pFld [0] "my_flows" (eVar 0)) (eVar 1)) (tfName 3) b_Hold__taken_share_1)
    (fRet (eVar 2))))
noncomputable def f_Hold__taken_share : FF := fBody 4 2 (ΓS 2) m_Hold__taken_share
noncomputable def m_Hold__put_sky : FS := (fSeq (fDrop (eMeth "ask_room" [(0, f_Hold__ask_room)] [] (eVar 0) (lCons (eVar 1) lNil)))
    (fSeq (fIf (eCall f_under (lCons (eVar 4) (lCons (eVar 3) lNil))) fNo
    fPass)
    (fSeq (fSet 5 (eCall f_plus (lCons (eCall f_minus (lCons (eMeth "taken_share" [(0, f_Hold__taken_share)] [] (eVar 0) (lCons (eVar 1) lNil)) (lCons (eOp hIx (eAt fmL (pIx fmL (pFld [0] "my_skies" (eVar 0)) (eVar 1))) (eC (.int 0))) lNil))) (lCons (eVar 2) lNil))))
    (fSeq (fIf (eOr (eCall f_under (lCons (eVar 2) (lCons (eC (.tup [.int 0, .int 1])) lNil))) (eCall f_under (lCons (eC (.tup [.int 1, .int 1])) (lCons (eVar 5) lNil)))) fNo
    fPass)
    (fPSet fmL (pFld [0] "my_skies" (eVar 0)) (eVar 1) (eTup (lCons (eVar 2) (lCons (eVar 3) (lCons (eVar 4) lNil)))))))))
noncomputable def f_Hold__put_sky : FF := fBody 6 5 (ΓS 5) m_Hold__put_sky
noncomputable def c__law_ratio_1 : FE := (eOp hGt (eVar 3) (eC (.int 0)))
theorem u_c__law_ratio_1 (ρ : Q.Env) (S : Store) : c__law_ratio_1 ρ S = ((eOp hGt (eVar 3) (eC (.int 0)))) ρ S := rfl
noncomputable def b__law_ratio_2 : FS := (fSeq (fSet 4 (eOp hMod (eVar 2) (eVar 3)))
    (fSeq (fSet 2 (eVar 3))
    (fSet 3 (eVar 4))))
theorem u_b__law_ratio_2 (ρ : Q.Env) (S : Store) : b__law_ratio_2 ρ S = ((fSeq (fSet 4 (eOp hMod (eVar 2) (eVar 3)))
    (fSeq (fSet 2 (eVar 3))
    (fSet 3 (eVar 4))))) ρ S := rfl
noncomputable def m__law_ratio : FS := (fSeq (fSet 2 (eL hAbs (lCons (eVar 0) lNil)))
    (fSeq (fSet 3 (eVar 1))
    (fSeq (fWhile c__law_ratio_1 b__law_ratio_2)
    (fRet (eTup (lCons (eOp hDiv (eVar 0) (eVar 2)) (lCons (eOp hDiv (eVar 1) (eVar 2)) lNil)))))))
noncomputable def f__law_ratio : FF := fBody 5 2 (ΓS 2) m__law_ratio
noncomputable def m__law_warm : FS := (fSeq (fSet 3 (eOp hMul (eOp hMul (eVar 0) (eOp hIx (eVar 2) (eC (.int 0)))) (eOp hIx (eVar 2) (eC (.int 3)))))
    (fSeq (fSet 3 (eOp hAdd (eVar 3) (eOp hMul (eOp hMul (eVar 1) (eOp hIx (eVar 2) (eC (.int 2)))) (eOp hIx (eVar 2) (eC (.int 1))))))
    (fRet (eCall f__law_ratio (lCons (eVar 3) (lCons (eOp hMul (eOp hMul (eVar 1) (eOp hIx (eVar 2) (eC (.int 1)))) (eOp hIx (eVar 2) (eC (.int 3)))) lNil))))))
noncomputable def f__law_warm : FF := fBody 4 3 (ΓS 3) m__law_warm
noncomputable def m_Hold__put_stove : FS := (fSeq (fDrop (eMeth "ask_room" [(0, f_Hold__ask_room)] [] (eVar 0) (lCons (eVar 1) lNil)))
    (fSeq (fIf (eOr (eCall f_under (lCons (eVar 2) (lCons (eC (.tup [.int 0, .int 1])) lNil))) (eOr (eNot (eCall f_is_bound (lCons (eVar 3) (lCons (eC (.int 9)) lNil)))) (eOr (eNot (eCall f_is_bound (lCons (eVar 4) (lCons (eC (.int 3)) lNil)))) (eNot (eCall f_is_bound (lCons (eVar 5) (lCons (eC (.int 3)) lNil))))))) fNo
    fPass)
    (fPSet fmL (pFld [0] "my_stoves" (eVar 0)) (eVar 1) (eTup (lCons (eVar 2) (lCons (eVar 3) (lCons (eVar 4) (lCons (eVar 5) lNil))))))))
noncomputable def f_Hold__put_stove : FF := fBody 6 6 (ΓS 6) m_Hold__put_stove
noncomputable def m_Hold__put_flow : FS := (fSeq (fDrop (eMeth "ask_room" [(0, f_Hold__ask_room)] [] (eVar 0) (lCons (eVar 1) lNil)))
    (fSeq (fDrop (eMeth "ask_room" [(0, f_Hold__ask_room)] [] (eVar 0) (lCons (eVar 2) lNil)))
    (fSeq (fIf (eOp hEq (eVar 1) (eVar 2)) fNo
    fPass)
    (fSeq (fSet 4 (eCall f_plus (lCons (eCall f_minus (lCons (eMeth "taken_share" [(0, f_Hold__taken_share)] [] (eVar 0) (lCons (eVar 1) lNil)) (lCons (eAt fmL (pIx fmL (pIx fmL (pFld [0] "my_flows" (eVar 0)) (eVar 1)) (eVar 2))) lNil))) (lCons (eVar 3) lNil))))
    (fSeq (fIf (eOr (eCall f_under (lCons (eVar 3) (lCons (eC (.tup [.int 0, .int 1])) lNil))) (eCall f_under (lCons (eC (.tup [.int 1, .int 1])) (lCons (eVar 4) lNil)))) fNo
    fPass)
    (fPSet fmL (pIx fmL (pFld [0] "my_flows" (eVar 0)) (eVar 1)) (eVar 2) (eVar 3)))))))
noncomputable def f_Hold__put_flow : FF := fBody 5 4 (ΓS 4) m_Hold__put_flow
noncomputable def e__law_built_1 : FE := (eCall f__law_warm (lCons (eVar 9) (lCons (eC (.int 1)) (lCons (eVar 2) lNil))))
theorem u_e__law_built_1 (ρ : Q.Env) (S : Store) : e__law_built_1 ρ S = ((eCall f__law_warm (lCons (eVar 9) (lCons (eC (.int 1)) (lCons (eVar 2) lNil))))) ρ S := rfl
noncomputable def b__law_built_2 : FS := (fDrop (eMeth "put_room" [(0, f_Hold__put_room)] [] (eVar 3) (lCons (eLc (iSeq (eVar 4)) [9] (tfName 9) (eC (.bl true)) e__law_built_1) lNil)))
theorem u_b__law_built_2 (ρ : Q.Env) (S : Store) : b__law_built_2 ρ S = ((fDrop (eMeth "put_room" [(0, f_Hold__put_room)] [] (eVar 3) (lCons (eLc (iSeq (eVar 4)) [9] (tfName 9) (eC (.bl true)) e__law_built_1) lNil)))) ρ S := rfl
noncomputable def b__law_built_3 : FS := (fIf (eOp hNe (eVar 8) (eVar 5)) (fDrop (eMeth "put_flow" [(0, f_Hold__put_flow)] [] (eVar 3) (lCons (eVar 5) (lCons (eVar 8) (lCons (eCall f__law_ratio (lCons (eOp hIxD (eOp hIxD (eVar 0) (eC (.str "flows"))) (eTup (lCons (eVar 5) (lCons (eVar 8) lNil)))) (lCons (eC (.int 12)) lNil))) lNil)))))
    fPass)
theorem u_b__law_built_3 (ρ : Q.Env) (S : Store) : b__law_built_3 ρ S = ((fIf (eOp hNe (eVar 8) (eVar 5)) (fDrop (eMeth "put_flow" [(0, f_Hold__put_flow)] [] (eVar 3) (lCons (eVar 5) (lCons (eVar 8) (lCons (eCall f__law_ratio (lCons (eOp hIxD (eOp hIxD (eVar 0) (eC (.str "flows"))) (eTup (lCons (eVar 5) (lCons (eVar 8) lNil)))) (lCons (eC (.int 12)) lNil))) lNil)))))
    fPass)) ρ S := rfl
noncomputable def b__law_built_4 : FS := (fSeq (fSet 6 (eOp hIx (eOp hIxD (eVar 0) (eC (.str "sky"))) (eVar 5)))
    (fSeq (fDrop (eMeth "put_sky" [(0, f_Hold__put_sky)] [] (eVar 3) (lCons (eVar 5) (lCons (eCall f__law_ratio (lCons (eOp hIx (eVar 6) (eC (.int 0))) (lCons (eC (.int 12)) lNil))) (lCons (eCall f__law_warm (lCons (eOp hIx (eVar 6) (eC (.int 1))) (lCons (eC (.int 1)) (lCons (eVar 2) lNil)))) (lCons (eCall f__law_warm (lCons (eOp hIx (eVar 6) (eC (.int 2))) (lCons (eC (.int 1)) (lCons (eVar 2) lNil)))) lNil))))))
    (fSeq (fSet 7 (eOp hIx (eOp hIxD (eVar 0) (eC (.str "stoves"))) (eVar 5)))
    (fSeq (fIf (eOp hNotN (eVar 7) (eC .non)) (fDrop (eMeth "put_stove" [(0, f_Hold__put_stove)] [] (eVar 3) (lCons (eVar 5) (lCons (eCall f__law_ratio (lCons (eOp hMul (eOp hIx (eVar 7) (eC (.int 0))) (eOp hIx (eVar 2) (eC (.int 0)))) (lCons (eOp hIx (eVar 2) (eC (.int 1))) lNil))) (lCons (eOp hIx (eVar 7) (eC (.int 1))) (lCons (eOp hIx (eVar 7) (eC (.int 2))) (lCons (eOp hIx (eVar 7) (eC (.int 3))) lNil)))))))
    fPass)
    (fFor (iRange1 (lCons (eL hLen (lCons (eOp hIxD (eVar 0) (eC (.str "marks"))) lNil)) lNil)) (tfName 8) b__law_built_3)))))
theorem u_b__law_built_4 (ρ : Q.Env) (S : Store) : b__law_built_4 ρ S = ((fSeq (fSet 6 (eOp hIx (eOp hIxD (eVar 0) (eC (.str "sky"))) (eVar 5)))
    (fSeq (fDrop (eMeth "put_sky" [(0, f_Hold__put_sky)] [] (eVar 3) (lCons (eVar 5) (lCons (eCall f__law_ratio (lCons (eOp hIx (eVar 6) (eC (.int 0))) (lCons (eC (.int 12)) lNil))) (lCons (eCall f__law_warm (lCons (eOp hIx (eVar 6) (eC (.int 1))) (lCons (eC (.int 1)) (lCons (eVar 2) lNil)))) (lCons (eCall f__law_warm (lCons (eOp hIx (eVar 6) (eC (.int 2))) (lCons (eC (.int 1)) (lCons (eVar 2) lNil)))) lNil))))))
    (fSeq (fSet 7 (eOp hIx (eOp hIxD (eVar 0) (eC (.str "stoves"))) (eVar 5)))
    (fSeq (fIf (eOp hNotN (eVar 7) (eC .non)) (fDrop (eMeth "put_stove" [(0, f_Hold__put_stove)] [] (eVar 3) (lCons (eVar 5) (lCons (eCall f__law_ratio (lCons (eOp hMul (eOp hIx (eVar 7) (eC (.int 0))) (eOp hIx (eVar 2) (eC (.int 0)))) (lCons (eOp hIx (eVar 2) (eC (.int 1))) lNil))) (lCons (eOp hIx (eVar 7) (eC (.int 1))) (lCons (eOp hIx (eVar 7) (eC (.int 2))) (lCons (eOp hIx (eVar 7) (eC (.int 3))) lNil)))))))
    fPass)
    (fFor (iRange1 (lCons (eL hLen (lCons (eOp hIxD (eVar 0) (eC (.str "marks"))) lNil)) lNil)) (tfName 8) b__law_built_3)))))) ρ S := rfl
noncomputable def m__law_built : FS := (fSeq (fSet 1 (eOp hIxD (eVar 0) (eC (.str "bounds"))))
    (fSeq (fSet 2 (eOp hIxD (eVar 0) (eC (.str "scale"))))
    (fSeq (fSet 3 (eMake 0 f_Hold____init__ [] (lCons (eOp hIx (eVar 1) (eC (.int 0))) (lCons (eOp hIx (eVar 1) (eC (.int 1))) (lCons (eOp hIx (eVar 1) (eC (.int 2))) lNil)))))
    (fSeq (fFor (iSeq (eOp hIxD (eVar 0) (eC (.str "marks")))) (tfName 4) b__law_built_2)
    (fSeq (fFor (iRange1 (lCons (eL hLen (lCons (eOp hIxD (eVar 0) (eC (.str "marks"))) lNil)) lNil)) (tfName 5) b__law_built_4)
    (fRet (eVar 3)))))))
noncomputable def f__law_built : FF := fBody 10 1 (ΓS 1) m__law_built
noncomputable def m_Hold__many : FS := (fRet (eFlat (eL hLen (lCons (eFldV [0] "my_marks" (eVar 0)) lNil))))
noncomputable def f_Hold__many : FF := fBody 1 1 (ΓS 1) m_Hold__many
noncomputable def m_Hold__marks : FS := (fSeq (fDrop (eMeth "ask_room" [(0, f_Hold__ask_room)] [] (eVar 0) (lCons (eVar 1) lNil)))
    (fRet (eUn hList (eAt fmL (pIx fmL (pFld [0] "my_marks" (eVar 0)) (eVar 1))))))
noncomputable def f_Hold__marks : FF := fBody 2 2 (ΓS 2) m_Hold__marks
noncomputable def m_Hold__sky : FS := (fSeq (fDrop (eMeth "ask_room" [(0, f_Hold__ask_room)] [] (eVar 0) (lCons (eVar 1) lNil)))
    (fRet (eAt fmL (pIx fmL (pFld [0] "my_skies" (eVar 0)) (eVar 1)))))
noncomputable def f_Hold__sky : FF := fBody 2 2 (ΓS 2) m_Hold__sky
noncomputable def m_Hold__stove : FS := (fSeq (fDrop (eMeth "ask_room" [(0, f_Hold__ask_room)] [] (eVar 0) (lCons (eVar 1) lNil)))
    (fRet (eAt fmL (pIx fmL (pFld [0] "my_stoves" (eVar 0)) (eVar 1)))))
noncomputable def f_Hold__stove : FF := fBody 2 2 (ΓS 2) m_Hold__stove
noncomputable def m_Hold__share : FS := (fSeq (fDrop (eMeth "ask_room" [(0, f_Hold__ask_room)] [] (eVar 0) (lCons (eVar 1) lNil)))
    (fSeq (fDrop (eMeth "ask_room" [(0, f_Hold__ask_room)] [] (eVar 0) (lCons (eVar 2) lNil)))
    (fSeq (fIf (eOp hEq (eVar 1) (eVar 2)) (fRet (eCall f_minus (lCons (eC (.tup [.int 1, .int 1])) (lCons (eMeth "taken_share" [(0, f_Hold__taken_share)] [] (eVar 0) (lCons (eVar 1) lNil)) lNil))))
    fPass)
    (fRet (eAt fmL (pIx fmL (pIx fmL (pFld [0] "my_flows" (eVar 0)) (eVar 1)) (eVar 2)))))))
noncomputable def f_Hold__share : FF := fBody 3 3 (ΓS 3) m_Hold__share
noncomputable def e__law_seen_1 : FE := (eMeth "share" [(0, f_Hold__share)] [] (eVar 0) (lCons (eVar 2) (lCons (eVar 3) lNil)))
theorem u_e__law_seen_1 (ρ : Q.Env) (S : Store) : e__law_seen_1 ρ S = ((eMeth "share" [(0, f_Hold__share)] [] (eVar 0) (lCons (eVar 2) (lCons (eVar 3) lNil)))) ρ S := rfl
noncomputable def b__law_seen_2 : FS := (fSeq (fMut 1 mAppend (lCons (eTup (lCons (eMeth "marks" [(0, f_Hold__marks)] [] (eVar 0) (lCons (eVar 2) lNil)) (lCons (eMeth "sky" [(0, f_Hold__sky)] [] (eVar 0) (lCons (eVar 2) lNil)) (lCons (eMeth "stove" [(0, f_Hold__stove)] [] (eVar 0) (lCons (eVar 2) lNil)) lNil)))) lNil))
    (fMut 1 mAppend (lCons (eLc (iRange1 (lCons (eMeth "many" [(0, f_Hold__many)] [] (eVar 0) lNil) lNil)) [3] (tfName 3) (eC (.bl true)) e__law_seen_1) lNil)))
theorem u_b__law_seen_2 (ρ : Q.Env) (S : Store) : b__law_seen_2 ρ S = ((fSeq (fMut 1 mAppend (lCons (eTup (lCons (eMeth "marks" [(0, f_Hold__marks)] [] (eVar 0) (lCons (eVar 2) lNil)) (lCons (eMeth "sky" [(0, f_Hold__sky)] [] (eVar 0) (lCons (eVar 2) lNil)) (lCons (eMeth "stove" [(0, f_Hold__stove)] [] (eVar 0) (lCons (eVar 2) lNil)) lNil)))) lNil))
    (fMut 1 mAppend (lCons (eLc (iRange1 (lCons (eMeth "many" [(0, f_Hold__many)] [] (eVar 0) lNil) lNil)) [3] (tfName 3) (eC (.bl true)) e__law_seen_1) lNil)))) ρ S := rfl
noncomputable def m__law_seen : FS := (fSeq (fSet 1 (eLst (lCons (eMeth "many" [(0, f_Hold__many)] [] (eVar 0) lNil) lNil)))
    (fSeq (fFor (iRange1 (lCons (eMeth "many" [(0, f_Hold__many)] [] (eVar 0) lNil) lNil)) (tfName 2) b__law_seen_2)
    (fRet (eVar 1))))
noncomputable def f__law_seen : FF := fBody 4 1 (ΓS 1) m__law_seen
noncomputable def b_hold_like_1 : FS := (fDrop (eMeth "put_room" [(0, f_Hold__put_room)] [] (eVar 4) (lCons (eMeth "marks" [(0, f_Hold__marks)] [] (eVar 0) (lCons (eVar 5) lNil)) lNil)))
theorem u_b_hold_like_1 (ρ : Q.Env) (S : Store) : b_hold_like_1 ρ S = ((fDrop (eMeth "put_room" [(0, f_Hold__put_room)] [] (eVar 4) (lCons (eMeth "marks" [(0, f_Hold__marks)] [] (eVar 0) (lCons (eVar 5) lNil)) lNil)))) ρ S := rfl
noncomputable def b_hold_like_2 : FS := (fIf (eOp hNe (eVar 7) (eVar 5)) (fDrop (eMeth "put_flow" [(0, f_Hold__put_flow)] [] (eVar 4) (lCons (eVar 5) (lCons (eVar 7) (lCons (eMeth "share" [(0, f_Hold__share)] [] (eVar 0) (lCons (eVar 5) (lCons (eVar 7) lNil))) lNil)))))
    fPass)
theorem u_b_hold_like_2 (ρ : Q.Env) (S : Store) : b_hold_like_2 ρ S = ((fIf (eOp hNe (eVar 7) (eVar 5)) (fDrop (eMeth "put_flow" [(0, f_Hold__put_flow)] [] (eVar 4) (lCons (eVar 5) (lCons (eVar 7) (lCons (eMeth "share" [(0, f_Hold__share)] [] (eVar 0) (lCons (eVar 5) (lCons (eVar 7) lNil))) lNil)))))
    fPass)) ρ S := rfl
noncomputable def b_hold_like_3 : FS := (fSeq (fSet 6 (eMeth "sky" [(0, f_Hold__sky)] [] (eVar 0) (lCons (eVar 5) lNil)))
    (fSeq (fDrop (eMeth "put_sky" [(0, f_Hold__put_sky)] [] (eVar 4) (lCons (eVar 5) (lCons (eOp hIx (eVar 6) (eC (.int 0))) (lCons (eOp hIx (eVar 6) (eC (.int 1))) (lCons (eOp hIx (eVar 6) (eC (.int 2))) lNil))))))
    (fSeq (fFor (iRange1 (lCons (eMeth "many" [(0, f_Hold__many)] [] (eVar 0) lNil) lNil)) (tfName 7) b_hold_like_2)
    (fSeq (fSet 8 (eMeth "stove" [(0, f_Hold__stove)] [] (eVar 0) (lCons (eVar 5) lNil)))
    (fIf (eOp hNotN (eVar 8) (eC .non)) (fDrop (eMeth "put_stove" [(0, f_Hold__put_stove)] [] (eVar 4) (lCons (eVar 5) (lCons (eOp hIx (eVar 8) (eC (.int 0))) (lCons (eOp hIx (eVar 8) (eC (.int 1))) (lCons (eOp hIx (eVar 8) (eC (.int 2))) (lCons (eOp hIx (eVar 8) (eC (.int 3))) lNil)))))))
    fPass)))))
theorem u_b_hold_like_3 (ρ : Q.Env) (S : Store) : b_hold_like_3 ρ S = ((fSeq (fSet 6 (eMeth "sky" [(0, f_Hold__sky)] [] (eVar 0) (lCons (eVar 5) lNil)))
    (fSeq (fDrop (eMeth "put_sky" [(0, f_Hold__put_sky)] [] (eVar 4) (lCons (eVar 5) (lCons (eOp hIx (eVar 6) (eC (.int 0))) (lCons (eOp hIx (eVar 6) (eC (.int 1))) (lCons (eOp hIx (eVar 6) (eC (.int 2))) lNil))))))
    (fSeq (fFor (iRange1 (lCons (eMeth "many" [(0, f_Hold__many)] [] (eVar 0) lNil) lNil)) (tfName 7) b_hold_like_2)
    (fSeq (fSet 8 (eMeth "stove" [(0, f_Hold__stove)] [] (eVar 0) (lCons (eVar 5) lNil)))
    (fIf (eOp hNotN (eVar 8) (eC .non)) (fDrop (eMeth "put_stove" [(0, f_Hold__put_stove)] [] (eVar 4) (lCons (eVar 5) (lCons (eOp hIx (eVar 8) (eC (.int 0))) (lCons (eOp hIx (eVar 8) (eC (.int 1))) (lCons (eOp hIx (eVar 8) (eC (.int 2))) (lCons (eOp hIx (eVar 8) (eC (.int 3))) lNil)))))))
    fPass)))))) ρ S := rfl
noncomputable def m_hold_like : FS := (fSeq (fIf (eOp hIsN (eVar 1) (eC .non)) (fSet 1 (eFld fmL [0] "most" (eVar 0)))
    fPass)
    (fSeq (fIf (eOp hIsN (eVar 2) (eC .non)) (fSet 2 (eFld fmL [0] "cap" (eVar 0)))
    fPass)
    (fSeq (fIf (eOp hIsN (eVar 3) (eC .non)) (fSet 3 (eFld fmL [0] "load" (eVar 0)))
    fPass)
    (fSeq (fSet 4 (eMake 0 f_Hold____init__ [] (lCons (eVar 1) (lCons (eVar 2) (lCons (eVar 3) lNil)))))
    (fSeq (fFor (iRange1 (lCons (eMeth "many" [(0, f_Hold__many)] [] (eVar 0) lNil) lNil)) (tfName 5) b_hold_like_1)
    (fSeq (fFor (iRange1 (lCons (eMeth "many" [(0, f_Hold__many)] [] (eVar 0) lNil) lNil)) (tfName 5) b_hold_like_3)
    (fRet (eVar 4))))))))
noncomputable def f_hold_like : FF := fBody 9 4 (ΓS 4) m_hold_like
noncomputable def m__law_changed : FS := (fSeq (fSet 2 (eCall f__law_pick (lCons (eVar 1) (lCons (eC (.int 3)) (lCons (eC (.int 4)) lNil)))))
    (fSeq (fSet 3 (eCall f__law_pick (lCons (eVar 1) (lCons (eC (.int 4)) (lCons (eMeth "many" [(0, f_Hold__many)] [] (eVar 0) lNil) lNil)))))
    (fIf (eAnd (eOp hEq (eVar 2) (eC (.int 0))) (eOp hLt (eMeth "many" [(0, f_Hold__many)] [] (eVar 0) lNil) (eC (.int 4)))) (fDrop (eMeth "put_room" [(0, f_Hold__put_room)] [] (eVar 0) (lCons (eLst (lCons (eTup (lCons (eC (.int 0)) (lCons (eC (.int 1)) lNil))) (lCons (eTup (lCons (eC (.int 1)) (lCons (eC (.int 1)) lNil))) lNil))) lNil)))
    (fIf (eAnd (eOp hEq (eVar 2) (eC (.int 1))) (eOp hGt (eMeth "many" [(0, f_Hold__many)] [] (eVar 0) lNil) (eC (.int 1)))) (fSeq (fDrop (eMeth "put_flow" [(0, f_Hold__put_flow)] [] (eVar 0) (lCons (eVar 3) (lCons (eOp hMod (eOp hAdd (eVar 3) (eC (.int 1))) (eMeth "many" [(0, f_Hold__many)] [] (eVar 0) lNil)) (lCons (eTup (lCons (eC (.int 0)) (lCons (eC (.int 1)) lNil))) lNil)))))
    (fDrop (eMeth "put_sky" [(0, f_Hold__put_sky)] [] (eVar 0) (lCons (eVar 3) (lCons (eTup (lCons (eC (.int 1)) (lCons (eC (.int 4)) lNil))) (lCons (eTup (lCons (eC (.int 7)) (lCons (eC (.int 3)) lNil))) (lCons (eTup (lCons (eC (.int 8)) (lCons (eC (.int 3)) lNil))) lNil)))))))
    (fIf (eOp hEq (eVar 2) (eC (.int 2))) (fDrop (eMeth "put_sky" [(0, f_Hold__put_sky)] [] (eVar 0) (lCons (eVar 3) (lCons (eTup (lCons (eC (.int 0)) (lCons (eC (.int 1)) lNil))) (lCons (eTup (lCons (eOp hMod (eVar 1) (eC (.int 100))) (lCons (eC (.int 1)) lNil))) (lCons (eTup (lCons (eOp hAdd (eOp hMod (eVar 1) (eC (.int 100))) (eC (.int 1))) (lCons (eC (.int 1)) lNil))) lNil))))))
    (fDrop (eMeth "put_stove" [(0, f_Hold__put_stove)] [.int (0), .int (0)] (eVar 0) (lCons (eVar 3) (lCons (eTup (lCons (eOp hAdd (eC (.int 1)) (eOp hMod (eVar 1) (eOp hPow (eC (.int 10)) (eC (.int 9))))) (lCons (eC (.int 1)) lNil))) (lCons (eC (.int 3)) lNil))))))))))
noncomputable def f__law_changed : FF := fBody 4 2 (ΓS 2) m__law_changed
noncomputable def m__law_bounds : FS := (fRet (eTup (lCons (eFld fmL [0] "most" (eVar 0)) (lCons (eFld fmL [0] "cap" (eVar 0)) (lCons (eFld fmL [0] "load" (eVar 0)) lNil)))))
noncomputable def f__law_bounds : FF := fBody 1 1 (ΓS 1) m__law_bounds
noncomputable def e_law_1 : FE := (eOp hEq (eCall f__law_pick (lCons (eVar 2) (lCons (eOp hAdd (eC (.int 8)) (eVar 14)) (lCons (eC (.int 2)) lNil)))) (eC (.int 0)))
theorem u_e_law_1 (ρ : Q.Env) (S : Store) : e_law_1 ρ S = ((eOp hEq (eCall f__law_pick (lCons (eVar 2) (lCons (eOp hAdd (eC (.int 8)) (eVar 14)) (lCons (eC (.int 2)) lNil)))) (eC (.int 0)))) ρ S := rfl
noncomputable def e_law_2 : FE := (eIf (eTru (eOp hIx (eVar 5) (eVar 14))) (eC .non) (eOp hIx (eVar 4) (eVar 14)))
theorem u_e_law_2 (ρ : Q.Env) (S : Store) : e_law_2 ρ S = ((eIf (eTru (eOp hIx (eVar 5) (eVar 14))) (eC .non) (eOp hIx (eVar 4) (eVar 14)))) ρ S := rfl
noncomputable def e_law_3 : FE := (eIf (eTru (eOp hIx (eVar 5) (eVar 14))) (eOp hIx (eOp hIxD (eVar 1) (eC (.str "bounds"))) (eVar 14)) (eOp hIx (eVar 4) (eVar 14)))
theorem u_e_law_3 (ρ : Q.Env) (S : Store) : e_law_3 ρ S = ((eIf (eTru (eOp hIx (eVar 5) (eVar 14))) (eOp hIx (eOp hIxD (eVar 1) (eC (.str "bounds"))) (eVar 14)) (eOp hIx (eVar 4) (eVar 14)))) ρ S := rfl
noncomputable def b_law_4 : FS := (fIf (eAnd (eOp hNe (eVar 14) (eVar 13)) (eOp hNe (eCall f__law_seen (lCons (eOp hIx (eVar 12) (eVar 14)) lNil)) (eVar 8))) (fRet (eC (.bl false)))
    fPass)
theorem u_b_law_4 (ρ : Q.Env) (S : Store) : b_law_4 ρ S = ((fIf (eAnd (eOp hNe (eVar 14) (eVar 13)) (eOp hNe (eCall f__law_seen (lCons (eOp hIx (eVar 12) (eVar 14)) lNil)) (eVar 8))) (fRet (eC (.bl false)))
    fPass)) ρ S := rfl
noncomputable def m_law : FS := (fSeq (fSet 1 (eCall f__law_drawn (lCons (eVar 0) lNil)))
    (fSeq (fSet 2 (eCall f__law_cell_at (lCons (eVar 0) (lCons (eC (.int 4)) lNil))))
    (fSeq (fSet 3 (eCall f__law_built (lCons (eVar 1) lNil)))
    (fSeq (fSet 4 (eLst (lCons (eCall f__law_pick (lCons (eVar 2) (lCons (eC (.int 5)) (lCons (eC (.int 5)) lNil)))) (lCons (eCall f__law_pick (lCons (eVar 2) (lCons (eC (.int 6)) (lCons (eC (.int 31)) lNil)))) (lCons (eCall f__law_pick (lCons (eVar 2) (lCons (eC (.int 7)) (lCons (eC (.int 31)) lNil)))) lNil)))))
    (fSeq (fSet 5 (eLc (iRange1 (lCons (eC (.int 3)) lNil)) [14] (tfName 14) (eC (.bl true)) e_law_1))
    (fSeq (fSet 6 (eLc (iRange1 (lCons (eC (.int 3)) lNil)) [14] (tfName 14) (eC (.bl true)) e_law_2))
    (fSeq (fSet 7 (eUn hTuple (eLc (iRange1 (lCons (eC (.int 3)) lNil)) [14] (tfName 14) (eC (.bl true)) e_law_3)))
    (fSeq (fSet 8 (eCall f__law_seen (lCons (eVar 3) lNil)))
    (fSeq (fSet 9 (eCallD f_hold_like [] (lCons (eVar 3) (lCons (eOp hIx (eVar 6) (eC (.int 0))) (lCons (eOp hIx (eVar 6) (eC (.int 1))) (lCons (eOp hIx (eVar 6) (eC (.int 2))) lNil))))))
    (fSeq (fSet 10 (eCallD f_hold_like [.non, .non, .non] (lCons (eVar 9) lNil)))
    (fSeq (fSet 11 (eCallD f_hold_like [.non, .non] (lCons (eVar 3) (lCons (eOp hIx (eVar 4) (eC (.int 0))) lNil))))
    (fSeq (fIf (eOr (eOp hNe (eCall f__law_bounds (lCons (eVar 9) lNil)) (eVar 7)) (eOr (eOp hNe (eCall f__law_bounds (lCons (eVar 10) lNil)) (eVar 7)) (eOp hNe (eCall f__law_bounds (lCons (eVar 3) lNil)) (eOp hIxD (eVar 1) (eC (.str "bounds")))))) (fRet (eC (.bl false)))
    fPass)
    (fSeq (fIf (eOp hNe (eCall f__law_bounds (lCons (eVar 11) lNil)) (eTup (lCons (eOp hIx (eVar 4) (eC (.int 0))) (lCons (eOp hIx (eOp hIxD (eVar 1) (eC (.str "bounds"))) (eC (.int 1))) (lCons (eOp hIx (eOp hIxD (eVar 1) (eC (.str "bounds"))) (eC (.int 2))) lNil))))) (fRet (eC (.bl false)))
    fPass)
    (fSeq (fIf (eOr (eOp hNe (eCall f__law_seen (lCons (eVar 9) lNil)) (eVar 8)) (eOr (eOp hNe (eCall f__law_seen (lCons (eVar 10) lNil)) (eVar 8)) (eOp hNe (eCall f__law_seen (lCons (eVar 11) lNil)) (eVar 8)))) (fRet (eC (.bl false)))
    fPass)
    (fSeq (fSet 12 (eLst (lCons (eVar 3) (lCons (eVar 9) (lCons (eVar 10) lNil)))))
    (fSeq (fSet 13 (eCall f__law_pick (lCons (eVar 2) (lCons (eC (.int 12)) (lCons (eC (.int 3)) lNil)))))
    (fSeq (fDrop (eCall f__law_changed (lCons (eOp hIx (eVar 12) (eVar 13)) (lCons (eCall f__law_cell_at (lCons (eVar 0) (lCons (eC (.int 5)) lNil))) lNil))))
    (fSeq (fFor (iRange1 (lCons (eC (.int 3)) lNil)) (tfName 14) b_law_4)
    (fRet (eOp hEq (eCall f__law_bounds (lCons (eOp hIx (eVar 12) (eVar 13)) lNil)) (eOp hIx (eLst (lCons (eOp hIxD (eVar 1) (eC (.str "bounds"))) (lCons (eVar 7) (lCons (eVar 7) lNil)))) (eVar 13))))))))))))))))))))))
noncomputable def f_law : FF := fBody 15 1 (ΓS 1) m_law
end K07

namespace K07
open PySem PySem.Spec PyProof.Rows L2 Q
def topS (i : Nat) : Stmt := PySem.Challenge.pw_stoke_k07_a_hold_like_another.main.body.getD i (.Pass ⟨0, 0, 0, 0⟩)
abbrev s__law_cell_at : Stmt := topS 25
abbrev N__law_cell_at : List Str := ["_law_script", "_law_k"]
theorem sc__law_cell_at : FnScope N__law_cell_at ["_law_script", "_law_k"] (defScope s__law_cell_at) := ⟨rfl, rfl, rfl, by decide +kernel, rfl, by decide +kernel, by decide +kernel⟩
abbrev s__law_pick : Stmt := topS 26
abbrev N__law_pick : List Str := ["_law_cell", "_law_k", "_law_many"]
theorem sc__law_pick : FnScope N__law_pick ["_law_cell", "_law_k", "_law_many"] (defScope s__law_pick) := ⟨rfl, rfl, rfl, by decide +kernel, rfl, by decide +kernel, by decide +kernel⟩
abbrev s__law_scale : Stmt := topS 28
abbrev N__law_scale : List Str := ["_law_cell", "_law_far", "_law_some", "_law_k"]
theorem sc__law_scale : FnScope N__law_scale ["_law_cell"] (defScope s__law_scale) := ⟨rfl, rfl, rfl, by decide +kernel, rfl, by decide +kernel, by decide +kernel⟩
abbrev s__law_stove_by : Stmt := topS 30
abbrev N__law_stove_by : List Str := ["_law_a", "_law_b", "_law_c", "_law_room", "_law_wood", "_law_stay"]
theorem sc__law_stove_by : FnScope N__law_stove_by ["_law_a", "_law_b", "_law_c", "_law_room"] (defScope s__law_stove_by) := ⟨rfl, rfl, rfl, by decide +kernel, rfl, by decide +kernel, by decide +kernel⟩
abbrev s__law_drawn : Stmt := topS 31
abbrev N__law_drawn : List Str := ["_law_script", "_law_a", "_law_b", "_law_c", "_law_many", "_law_told", "_law_room", "_law_marks", "_law_j", "_law_low", "_law_of"]
theorem sc__law_drawn : FnScope N__law_drawn ["_law_script"] (defScope s__law_drawn) := ⟨rfl, rfl, rfl, by decide +kernel, rfl, by decide +kernel, by decide +kernel⟩
abbrev s_is_bound : Stmt := topS 20
abbrev N_is_bound : List Str := ["thing", "most"]
theorem sc_is_bound : FnScope N_is_bound ["thing", "most"] (defScope s_is_bound) := ⟨rfl, rfl, rfl, by decide +kernel, rfl, by decide +kernel, by decide +kernel⟩
abbrev s_Hold____init__ : Stmt := (inClass (topS 22) 0)
abbrev N_Hold____init__ : List Str := ["self", "most", "cap", "load"]
theorem sc_Hold____init__ : FnScope N_Hold____init__ ["self", "most", "cap", "load"] (defScope s_Hold____init__) := ⟨rfl, rfl, rfl, by decide +kernel, rfl, by decide +kernel, by decide +kernel⟩
abbrev s_under : Stmt := topS 16
abbrev N_under : List Str := ["one", "other"]
theorem sc_under : FnScope N_under ["one", "other"] (defScope s_under) := ⟨rfl, rfl, rfl, by decide +kernel, rfl, by decide +kernel, by decide +kernel⟩
abbrev s_do_rise : Stmt := topS 21
abbrev N_do_rise : List Str := ["marks", "k"]
theorem sc_do_rise : FnScope N_do_rise ["marks"] (defScope s_do_rise) := ⟨rfl, rfl, rfl, by decide +kernel, rfl, by decide +kernel, by decide +kernel⟩
abbrev s_Hold__put_room : Stmt := (inClass (topS 22) 3)
abbrev N_Hold__put_room : List Str := ["self", "marks", "many", "one", "row"]
theorem sc_Hold__put_room : FnScope N_Hold__put_room ["self", "marks"] (defScope s_Hold__put_room) := ⟨rfl, rfl, rfl, by decide +kernel, rfl, by decide +kernel, by decide +kernel⟩
abbrev s_Hold__ask_room : Stmt := (inClass (topS 22) 1)
abbrev N_Hold__ask_room : List Str := ["self", "room"]
theorem sc_Hold__ask_room : FnScope N_Hold__ask_room ["self", "room"] (defScope s_Hold__ask_room) := ⟨rfl, rfl, rfl, by decide +kernel, rfl, by decide +kernel, by decide +kernel⟩
abbrev s_divisor : Stmt := topS 12
abbrev N_divisor : List Str := ["one", "other", "high", "low", "rest"]
theorem sc_divisor : FnScope N_divisor ["one", "other"] (defScope s_divisor) := ⟨rfl, rfl, rfl, by decide +kernel, rfl, by decide +kernel, by decide +kernel⟩
abbrev s_fraction : Stmt := topS 13
abbrev N_fraction : List Str := ["top", "bottom", "shared"]
theorem sc_fraction : FnScope N_fraction ["top", "bottom"] (defScope s_fraction) := ⟨rfl, rfl, rfl, by decide +kernel, rfl, by decide +kernel, by decide +kernel⟩
abbrev s_plus : Stmt := topS 14
abbrev N_plus : List Str := ["one", "other"]
theorem sc_plus : FnScope N_plus ["one", "other"] (defScope s_plus) := ⟨rfl, rfl, rfl, by decide +kernel, rfl, by decide +kernel, by decide +kernel⟩
abbrev s_minus : Stmt := topS 15
abbrev N_minus : List Str := ["one", "other"]
theorem sc_minus : FnScope N_minus ["one", "other"] (defScope s_minus) := ⟨rfl, rfl, rfl, by decide +kernel, rfl, by decide +kernel, by decide +kernel⟩
abbrev s_Hold__taken_share : Stmt := (inClass (topS 22) 2)
abbrev N_Hold__taken_share : List Str := ["self", "room", "whole", "one"]
theorem sc_Hold__taken_share : FnScope N_Hold__taken_share ["self", "room"] (defScope s_Hold__taken_share) := ⟨rfl, rfl, rfl, by decide +kernel, rfl, by decide +kernel, by decide +kernel⟩
abbrev s_Hold__put_sky : Stmt := (inClass (topS 22) 5)
abbrev N_Hold__put_sky : List Str := ["self", "room", "share", "low", "high", "whole"]
theorem sc_Hold__put_sky : FnScope N_Hold__put_sky ["self", "room", "share", "low", "high"] (defScope s_Hold__put_sky) := ⟨rfl, rfl, rfl, by decide +kernel, rfl, by decide +kernel, by decide +kernel⟩
abbrev s__law_ratio : Stmt := topS 27
abbrev N__law_ratio : List Str := ["_law_top", "_law_bottom", "_law_one", "_law_other", "_law_rest"]
theorem sc__law_ratio : FnScope N__law_ratio ["_law_top", "_law_bottom"] (defScope s__law_ratio) := ⟨rfl, rfl, rfl, by decide +kernel, rfl, by decide +kernel, by decide +kernel⟩
abbrev s__law_warm : Stmt := topS 29
abbrev N__law_warm : List Str := ["_law_num", "_law_parts", "_law_scale_here", "_law_whole"]
theorem sc__law_warm : FnScope N__law_warm ["_law_num", "_law_parts", "_law_scale_here"] (defScope s__law_warm) := ⟨rfl, rfl, rfl, by decide +kernel, rfl, by decide +kernel, by decide +kernel⟩
abbrev s_Hold__put_stove : Stmt := (inClass (topS 22) 6)
abbrev N_Hold__put_stove : List Str := ["self", "room", "heat", "wood", "stay", "fails"]
theorem sc_Hold__put_stove : FnScope N_Hold__put_stove ["self", "room", "heat", "wood", "stay", "fails"] (defScope s_Hold__put_stove) := ⟨rfl, rfl, rfl, by decide +kernel, rfl, by decide +kernel, by decide +kernel⟩
abbrev s_Hold__put_flow : Stmt := (inClass (topS 22) 4)
abbrev N_Hold__put_flow : List Str := ["self", "into", "of", "share", "whole"]
theorem sc_Hold__put_flow : FnScope N_Hold__put_flow ["self", "into", "of", "share"] (defScope s_Hold__put_flow) := ⟨rfl, rfl, rfl, by decide +kernel, rfl, by decide +kernel, by decide +kernel⟩
abbrev s__law_built : Stmt := topS 32
abbrev N__law_built : List Str := ["_law_told", "_law_bounds_here", "_law_scale_here", "_law_hold", "_law_marks", "_law_room", "_law_sky", "_law_stove", "_law_of", "_law_num"]
theorem sc__law_built : FnScope N__law_built ["_law_told"] (defScope s__law_built) := ⟨rfl, rfl, rfl, by decide +kernel, rfl, by decide +kernel, by decide +kernel⟩
abbrev s_Hold__many : Stmt := (inClass (topS 22) 7)
abbrev N_Hold__many : List Str := ["self"]
theorem sc_Hold__many : FnScope N_Hold__many ["self"] (defScope s_Hold__many) := ⟨rfl, rfl, rfl, by decide +kernel, rfl, by decide +kernel, by decide +kernel⟩
abbrev s_Hold__marks : Stmt := (inClass (topS 22) 8)
abbrev N_Hold__marks : List Str := ["self", "room"]
theorem sc_Hold__marks : FnScope N_Hold__marks ["self", "room"] (defScope s_Hold__marks) := ⟨rfl, rfl, rfl, by decide +kernel, rfl, by decide +kernel, by decide +kernel⟩
abbrev s_Hold__sky : Stmt := (inClass (topS 22) 10)
abbrev N_Hold__sky : List Str := ["self", "room"]
theorem sc_Hold__sky : FnScope N_Hold__sky ["self", "room"] (defScope s_Hold__sky) := ⟨rfl, rfl, rfl, by decide +kernel, rfl, by decide +kernel, by decide +kernel⟩
abbrev s_Hold__stove : Stmt := (inClass (topS 22) 11)
abbrev N_Hold__stove : List Str := ["self", "room"]
theorem sc_Hold__stove : FnScope N_Hold__stove ["self", "room"] (defScope s_Hold__stove) := ⟨rfl, rfl, rfl, by decide +kernel, rfl, by decide +kernel, by decide +kernel⟩
abbrev s_Hold__share : Stmt := (inClass (topS 22) 9)
abbrev N_Hold__share : List Str := ["self", "into", "of"]
theorem sc_Hold__share : FnScope N_Hold__share ["self", "into", "of"] (defScope s_Hold__share) := ⟨rfl, rfl, rfl, by decide +kernel, rfl, by decide +kernel, by decide +kernel⟩
abbrev s__law_seen : Stmt := topS 33
abbrev N__law_seen : List Str := ["_law_hold", "_law_some", "_law_room", "_law_of"]
theorem sc__law_seen : FnScope N__law_seen ["_law_hold"] (defScope s__law_seen) := ⟨rfl, rfl, rfl, by decide +kernel, rfl, by decide +kernel, by decide +kernel⟩
abbrev s_hold_like : Stmt := topS 23
abbrev N_hold_like : List Str := ["hold", "most", "cap", "load", "other", "room", "sky", "of", "stove"]
theorem sc_hold_like : FnScope N_hold_like ["hold", "most", "cap", "load"] (defScope s_hold_like) := ⟨rfl, rfl, rfl, by decide +kernel, rfl, by decide +kernel, by decide +kernel⟩
abbrev s__law_changed : Stmt := topS 35
abbrev N__law_changed : List Str := ["_law_hold", "_law_cell", "_law_way", "_law_room"]
theorem sc__law_changed : FnScope N__law_changed ["_law_hold", "_law_cell"] (defScope s__law_changed) := ⟨rfl, rfl, rfl, by decide +kernel, rfl, by decide +kernel, by decide +kernel⟩
abbrev s__law_bounds : Stmt := topS 34
abbrev N__law_bounds : List Str := ["_law_hold"]
theorem sc__law_bounds : FnScope N__law_bounds ["_law_hold"] (defScope s__law_bounds) := ⟨rfl, rfl, rfl, by decide +kernel, rfl, by decide +kernel, by decide +kernel⟩
abbrev s_law : Stmt := topS 36
abbrev N_law : List Str := ["_law_script", "_law_told", "_law_cell", "_law_hold", "_law_bounds_here", "_law_left", "_law_handed", "_law_due", "_law_seen_here", "_law_other", "_law_plain", "_law_first", "_law_some", "_law_at", "_law_k"]
theorem sc_law : FnScope N_law ["_law_script"] (defScope s_law) := ⟨rfl, rfl, rfl, by decide +kernel, rfl, by decide +kernel, by decide +kernel⟩
set_option maxHeartbeats 0 in
structure Facts (K : PySem.W.Frag) (mg : Str → Option Value) where
  a__law_cell_at : Addr
  d__law_cell_at : FuncData
  a__law_pick : Addr
  d__law_pick : FuncData
  a__law_scale : Addr
  d__law_scale : FuncData
  a__law_stove_by : Addr
  d__law_stove_by : FuncData
  a__law_drawn : Addr
  d__law_drawn : FuncData
  a_is_bound : Addr
  d_is_bound : FuncData
  a_Hold____init__ : Addr
  d_Hold____init__ : FuncData
  a_under : Addr
  d_under : FuncData
  a_do_rise : Addr
  d_do_rise : FuncData
  a_Hold__put_room : Addr
  d_Hold__put_room : FuncData
  a_Hold__ask_room : Addr
  d_Hold__ask_room : FuncData
  a_divisor : Addr
  d_divisor : FuncData
  a_fraction : Addr
  d_fraction : FuncData
  a_plus : Addr
  d_plus : FuncData
  a_minus : Addr
  d_minus : FuncData
  a_Hold__taken_share : Addr
  d_Hold__taken_share : FuncData
  a_Hold__put_sky : Addr
  d_Hold__put_sky : FuncData
  a__law_ratio : Addr
  d__law_ratio : FuncData
  a__law_warm : Addr
  d__law_warm : FuncData
  a_Hold__put_stove : Addr
  d_Hold__put_stove : FuncData
  a_Hold__put_flow : Addr
  d_Hold__put_flow : FuncData
  a__law_built : Addr
  d__law_built : FuncData
  a_Hold__many : Addr
  d_Hold__many : FuncData
  a_Hold__marks : Addr
  d_Hold__marks : FuncData
  a_Hold__sky : Addr
  d_Hold__sky : FuncData
  a_Hold__stove : Addr
  d_Hold__stove : FuncData
  a_Hold__share : Addr
  d_Hold__share : FuncData
  a__law_seen : Addr
  d__law_seen : FuncData
  a_hold_like : Addr
  d_hold_like : FuncData
  a__law_changed : Addr
  d__law_changed : FuncData
  a__law_bounds : Addr
  d__law_bounds : FuncData
  a_law : Addr
  d_law : FuncData
  c_Hold : Addr
  av_NOUGHT : Addr
  av_ONE : Addr
  F__law_cell_at : Fun K "_law_cell_at" "_law_cell_at" s__law_cell_at a__law_cell_at d__law_cell_at
  b__law_cell_at : Binds K d__law_cell_at ["_law_script", "_law_k"] []
  g__law_cell_at : mg "_law_cell_at" = some (.ref a__law_cell_at)
  F__law_pick : Fun K "_law_pick" "_law_pick" s__law_pick a__law_pick d__law_pick
  b__law_pick : Binds K d__law_pick ["_law_cell", "_law_k", "_law_many"] []
  g__law_pick : mg "_law_pick" = some (.ref a__law_pick)
  F__law_scale : Fun K "_law_scale" "_law_scale" s__law_scale a__law_scale d__law_scale
  b__law_scale : Binds K d__law_scale ["_law_cell"] []
  g__law_scale : mg "_law_scale" = some (.ref a__law_scale)
  F__law_stove_by : Fun K "_law_stove_by" "_law_stove_by" s__law_stove_by a__law_stove_by d__law_stove_by
  b__law_stove_by : Binds K d__law_stove_by ["_law_a", "_law_b", "_law_c", "_law_room"] []
  g__law_stove_by : mg "_law_stove_by" = some (.ref a__law_stove_by)
  F__law_drawn : Fun K "_law_drawn" "_law_drawn" s__law_drawn a__law_drawn d__law_drawn
  b__law_drawn : Binds K d__law_drawn ["_law_script"] []
  g__law_drawn : mg "_law_drawn" = some (.ref a__law_drawn)
  F_is_bound : Fun K "is_bound" "is_bound" s_is_bound a_is_bound d_is_bound
  b_is_bound : Binds K d_is_bound ["thing", "most"] []
  g_is_bound : mg "is_bound" = some (.ref a_is_bound)
  F_Hold____init__ : FunD K "__init__" "Hold.__init__" (defArgs s_Hold____init__) (defBody s_Hold____init__) (defScope s_Hold____init__) [.int (4), .int (0), .int (0)] [] a_Hold____init__ d_Hold____init__
  bd_Hold____init___4 : BindsD K d_Hold____init__ ["self", "most", "cap", "load"] []
  F_under : Fun K "under" "under" s_under a_under d_under
  b_under : Binds K d_under ["one", "other"] []
  g_under : mg "under" = some (.ref a_under)
  F_do_rise : Fun K "do_rise" "do_rise" s_do_rise a_do_rise d_do_rise
  b_do_rise : Binds K d_do_rise ["marks"] []
  g_do_rise : mg "do_rise" = some (.ref a_do_rise)
  F_Hold__put_room : Fun K "put_room" "Hold.put_room" s_Hold__put_room a_Hold__put_room d_Hold__put_room
  b_Hold__put_room : Binds K d_Hold__put_room ["self", "marks"] []
  bd_Hold__put_room_2 : BindsD K d_Hold__put_room ["self", "marks"] []
  F_Hold__ask_room : Fun K "ask_room" "Hold.ask_room" s_Hold__ask_room a_Hold__ask_room d_Hold__ask_room
  b_Hold__ask_room : Binds K d_Hold__ask_room ["self", "room"] []
  bd_Hold__ask_room_2 : BindsD K d_Hold__ask_room ["self", "room"] []
  F_divisor : Fun K "divisor" "divisor" s_divisor a_divisor d_divisor
  b_divisor : Binds K d_divisor ["one", "other"] []
  g_divisor : mg "divisor" = some (.ref a_divisor)
  F_fraction : Fun K "fraction" "fraction" s_fraction a_fraction d_fraction
  b_fraction : Binds K d_fraction ["top", "bottom"] []
  g_fraction : mg "fraction" = some (.ref a_fraction)
  F_plus : Fun K "plus" "plus" s_plus a_plus d_plus
  b_plus : Binds K d_plus ["one", "other"] []
  g_plus : mg "plus" = some (.ref a_plus)
  F_minus : Fun K "minus" "minus" s_minus a_minus d_minus
  b_minus : Binds K d_minus ["one", "other"] []
  g_minus : mg "minus" = some (.ref a_minus)
  F_Hold__taken_share : Fun K "taken_share" "Hold.taken_share" s_Hold__taken_share a_Hold__taken_share d_Hold__taken_share
  b_Hold__taken_share : Binds K d_Hold__taken_share ["self", "room"] []
  bd_Hold__taken_share_2 : BindsD K d_Hold__taken_share ["self", "room"] []
  F_Hold__put_sky : Fun K "put_sky" "Hold.put_sky" s_Hold__put_sky a_Hold__put_sky d_Hold__put_sky
  b_Hold__put_sky : Binds K d_Hold__put_sky ["self", "room", "share", "low", "high"] []
  bd_Hold__put_sky_5 : BindsD K d_Hold__put_sky ["self", "room", "share", "low", "high"] []
  F__law_ratio : Fun K "_law_ratio" "_law_ratio" s__law_ratio a__law_ratio d__law_ratio
  b__law_ratio : Binds K d__law_ratio ["_law_top", "_law_bottom"] []
  g__law_ratio : mg "_law_ratio" = some (.ref a__law_ratio)
  F__law_warm : Fun K "_law_warm" "_law_warm" s__law_warm a__law_warm d__law_warm
  b__law_warm : Binds K d__law_warm ["_law_num", "_law_parts", "_law_scale_here"] []
  g__law_warm : mg "_law_warm" = some (.ref a__law_warm)
  F_Hold__put_stove : FunD K "put_stove" "Hold.put_stove" (defArgs s_Hold__put_stove) (defBody s_Hold__put_stove) (defScope s_Hold__put_stove) [.int (0), .int (0), .int (0)] [] a_Hold__put_stove d_Hold__put_stove
  bd_Hold__put_stove_4 : BindsD K d_Hold__put_stove ["self", "room", "heat", "wood", "stay", "fails"] [.int (0), .int (0)]
  bd_Hold__put_stove_6 : BindsD K d_Hold__put_stove ["self", "room", "heat", "wood", "stay", "fails"] []
  F_Hold__put_flow : Fun K "put_flow" "Hold.put_flow" s_Hold__put_flow a_Hold__put_flow d_Hold__put_flow
  b_Hold__put_flow : Binds K d_Hold__put_flow ["self", "into", "of", "share"] []
  bd_Hold__put_flow_4 : BindsD K d_Hold__put_flow ["self", "into", "of", "share"] []
  F__law_built : Fun K "_law_built" "_law_built" s__law_built a__law_built d__law_built
  b__law_built : Binds K d__law_built ["_law_told"] []
  g__law_built : mg "_law_built" = some (.ref a__law_built)
  F_Hold__many : Fun K "many" "Hold.many" s_Hold__many a_Hold__many d_Hold__many
  b_Hold__many : Binds K d_Hold__many ["self"] []
  bd_Hold__many_1 : BindsD K d_Hold__many ["self"] []
  F_Hold__marks : Fun K "marks" "Hold.marks" s_Hold__marks a_Hold__marks d_Hold__marks
  b_Hold__marks : Binds K d_Hold__marks ["self", "room"] []
  bd_Hold__marks_2 : BindsD K d_Hold__marks ["self", "room"] []
  F_Hold__sky : Fun K "sky" "Hold.sky" s_Hold__sky a_Hold__sky d_Hold__sky
  b_Hold__sky : Binds K d_Hold__sky ["self", "room"] []
  bd_Hold__sky_2 : BindsD K d_Hold__sky ["self", "room"] []
  F_Hold__stove : Fun K "stove" "Hold.stove" s_Hold__stove a_Hold__stove d_Hold__stove
  b_Hold__stove : Binds K d_Hold__stove ["self", "room"] []
  bd_Hold__stove_2 : BindsD K d_Hold__stove ["self", "room"] []
  F_Hold__share : Fun K "share" "Hold.share" s_Hold__share a_Hold__share d_Hold__share
  b_Hold__share : Binds K d_Hold__share ["self", "into", "of"] []
  bd_Hold__share_3 : BindsD K d_Hold__share ["self", "into", "of"] []
  F__law_seen : Fun K "_law_seen" "_law_seen" s__law_seen a__law_seen d__law_seen
  b__law_seen : Binds K d__law_seen ["_law_hold"] []
  g__law_seen : mg "_law_seen" = some (.ref a__law_seen)
  F_hold_like : FunD K "hold_like" "hold_like" (defArgs s_hold_like) (defBody s_hold_like) (defScope s_hold_like) [.non, .non, .non] [] a_hold_like d_hold_like
  bd_hold_like_1 : BindsD K d_hold_like ["hold", "most", "cap", "load"] [.non, .non, .non]
  bd_hold_like_2 : BindsD K d_hold_like ["hold", "most", "cap", "load"] [.non, .non]
  bd_hold_like_4 : BindsD K d_hold_like ["hold", "most", "cap", "load"] []
  g_hold_like : mg "hold_like" = some (.ref a_hold_like)
  F__law_changed : Fun K "_law_changed" "_law_changed" s__law_changed a__law_changed d__law_changed
  b__law_changed : Binds K d__law_changed ["_law_hold", "_law_cell"] []
  g__law_changed : mg "_law_changed" = some (.ref a__law_changed)
  F__law_bounds : Fun K "_law_bounds" "_law_bounds" s__law_bounds a__law_bounds d__law_bounds
  b__law_bounds : Binds K d__law_bounds ["_law_hold"] []
  g__law_bounds : mg "_law_bounds" = some (.ref a__law_bounds)
  F_law : Fun K "law" "law" s_law a_law d_law
  b_law : Binds K d_law ["_law_script"] []
  g_law : mg "law" = some (.ref a_law)
  gv_NOUGHT : mg "NOUGHT" = some (.ref av_NOUGHT)
  wv_NOUGHT : WrT K av_NOUGHT [.int 0, .int 1]
  gv_ONE : mg "ONE" = some (.ref av_ONE)
  wv_ONE : WrT K av_ONE [.int 1, .int 1]
  z_abs : mg "abs" = none
  z_bool : mg "bool" = none
  z_int : mg "int" = none
  z_isinstance : mg "isinstance" = none
  z_len : mg "len" = none
  z_list : mg "list" = none
  z_range : mg "range" = none
  z_tuple : mg "tuple" = none
  gc_Hold : mg "Hold" = some (.ref c_Hold)
  cl_Hold : Cls K c_Hold
  n_Hold_cap : NoAttr K c_Hold "cap"
  n_Hold_load : NoAttr K c_Hold "load"
  n_Hold_most : NoAttr K c_Hold "most"
  n_Hold_my_flows : NoAttr K c_Hold "my_flows"
  n_Hold_my_marks : NoAttr K c_Hold "my_marks"
  n_Hold_my_skies : NoAttr K c_Hold "my_skies"
  n_Hold_my_stoves : NoAttr K c_Hold "my_stoves"
  M_Hold___init__ : Meth K c_Hold "__init__" a_Hold____init__
  M_Hold_ask_room : Meth K c_Hold "ask_room" a_Hold__ask_room
  M_Hold_many : Meth K c_Hold "many" a_Hold__many
  M_Hold_marks : Meth K c_Hold "marks" a_Hold__marks
  M_Hold_put_flow : Meth K c_Hold "put_flow" a_Hold__put_flow
  M_Hold_put_room : Meth K c_Hold "put_room" a_Hold__put_room
  M_Hold_put_sky : Meth K c_Hold "put_sky" a_Hold__put_sky
  M_Hold_put_stove : Meth K c_Hold "put_stove" a_Hold__put_stove
  M_Hold_share : Meth K c_Hold "share" a_Hold__share
  M_Hold_sky : Meth K c_Hold "sky" a_Hold__sky
  M_Hold_stove : Meth K c_Hold "stove" a_Hold__stove
  M_Hold_taken_share : Meth K c_Hold "taken_share" a_Hold__taken_share
  mk_Hold : Mk K c_Hold a_Hold____init__
section
variable {P : Program} {w : World} {K : PySem.W.Frag} {mg : Str → Option Value} {base : Heap}
def th (P : Program) (w : World) (Fx : Facts K mg) : Th := ⟨K, P, w, fun k => match k with
  | 0 => Fx.c_Hold
  | _ => 0, 0, fmL⟩
variable (Fx : Facts K mg)
theorem Facts.fld_cap : FldOk K (th P w Fx) [0] "cap" := (fldok_cons ⟨Fx.cl_Hold, Fx.n_Hold_cap⟩ fldok_nil)
theorem Facts.fld_load : FldOk K (th P w Fx) [0] "load" := (fldok_cons ⟨Fx.cl_Hold, Fx.n_Hold_load⟩ fldok_nil)
theorem Facts.fld_most : FldOk K (th P w Fx) [0] "most" := (fldok_cons ⟨Fx.cl_Hold, Fx.n_Hold_most⟩ fldok_nil)
theorem Facts.fld_my_flows : FldOk K (th P w Fx) [0] "my_flows" := (fldok_cons ⟨Fx.cl_Hold, Fx.n_Hold_my_flows⟩ fldok_nil)
theorem Facts.fld_my_marks : FldOk K (th P w Fx) [0] "my_marks" := (fldok_cons ⟨Fx.cl_Hold, Fx.n_Hold_my_marks⟩ fldok_nil)
theorem Facts.fld_my_skies : FldOk K (th P w Fx) [0] "my_skies" := (fldok_cons ⟨Fx.cl_Hold, Fx.n_Hold_my_skies⟩ fldok_nil)
theorem Facts.fld_my_stoves : FldOk K (th P w Fx) [0] "my_stoves" := (fldok_cons ⟨Fx.cl_Hold, Fx.n_Hold_my_stoves⟩ fldok_nil)
theorem ok__law_cell_at : FnOk P w K mg base (L2.CX P w) 1 Fx.a__law_cell_at Fx.d__law_cell_at ["_law_script", "_law_k"] (spD (th P w Fx) 2 (sgS 2) f__law_cell_at) :=
  fn_okSR (N := N__law_cell_at) (B := m__law_cell_at) (Γ' := (ΓS 2)) (okRule_fun Fx.F__law_cell_at) sc__law_cell_at rfl (by decide) fun cdv A outer s H E hr =>
    (xb_cons (xs_if gp_s (xt_op ok_lt (xv (pv 1)) (xe_L ok_len (xl_cons (xv (pv 0)) xl_nil (fun h h2 => pa_cons h h2)) (fun h => pe_callB call_lenA (by rfl) Fx.z_len PySem.boot_len h)) (fun h h2 => pt_cmpR op_lt h h2 (nomark _))) (xb_one (xs_ret gp_s gp_s rfl (xe_op ok_ix (xv (pv 0)) (xv (pv 1)) (fun h h2 => pe_ix ix_A h h2 (fun _ _ => rfl))) (fun h => ps_ret h)))
    xb_nil)
    (xb_one (xs_ret gp_s gp_s rfl xe_int (fun h => ps_ret h))))
theorem ok__law_pick : FnOk P w K mg base (L2.CX P w) 1 Fx.a__law_pick Fx.d__law_pick ["_law_cell", "_law_k", "_law_many"] (spD (th P w Fx) 3 (sgS 3) f__law_pick) :=
  fn_okSR (N := N__law_pick) (B := m__law_pick) (Γ' := (ΓS 3)) (okRule_fun Fx.F__law_pick) sc__law_pick rfl (by decide) fun cdv A outer s H E hr =>
    (xb_one (xs_ret gp_s gp_s rfl (xe_op ok_mod (xe_op ok_mod (xe_op ok_mul (xe_op ok_add (xe_op ok_mod (xv (pv 0)) xe_int (fun h h2 => pe_op op_mod h h2)) xe_int (fun h h2 => pe_op op_addA h h2)) (xe_op ok_add (xe_op ok_mul (xv (pv 1)) (xv (pv 1)) (fun h h2 => pe_op op_mulA h h2)) xe_int (fun h h2 => pe_op op_addA h h2)) (fun h h2 => pe_op op_mulA h h2)) xe_int (fun h h2 => pe_op op_mod h h2)) (xv (pv 2)) (fun h h2 => pe_op op_mod h h2)) (fun h => ps_ret h)))
theorem ok__law_scale : FnOk P w K mg base (L2.CX P w) 2 Fx.a__law_scale Fx.d__law_scale ["_law_cell"] (spD (th P w Fx) 1 (sgS 1) f__law_scale) :=
  fn_okSR (N := N__law_scale) (B := m__law_scale) (Γ' := (ΓS 4)) (okRule_fun Fx.F__law_scale) sc__law_scale rfl (by decide) fun cdv A outer s H E hr =>
    (xb_cons (xs_set (i := 1) gp_s (xe_op ok_ix (xe_lst (xl_cons xe_int (xl_cons xe_int (xl_cons (xe_op ok_pow xe_int xe_int (fun h h2 => pe_op op_pow h h2)) (xl_cons (xe_op ok_pow xe_int xe_int (fun h h2 => pe_op op_pow h h2)) (xl_cons (xe_op ok_pow xe_int xe_int (fun h h2 => pe_op op_pow h h2)) (xl_cons (xe_op ok_pow xe_int xe_int (fun h h2 => pe_op op_pow h h2)) xl_nil (fun h h2 => pa_cons h h2)) (fun h h2 => pa_cons h h2)) (fun h h2 => pa_cons h h2)) (fun h h2 => pa_cons h h2)) (fun h h2 => pa_cons h h2)) (fun h h2 => pa_cons h h2))) (xe_callS (ok__law_pick Fx) rfl (la1 (la1 (la1 la0))) (xl_cons (xv (pv 0)) (xl_cons xe_int (xl_cons xe_int xl_nil (fun h h2 => pa_cons h h2)) (fun h h2 => pa_cons h h2)) (fun h h2 => pa_cons h h2)) (fun h => pe_callS (ok__law_pick Fx) (hr.mono (by decide)) (by rfl) Fx.g__law_pick Fx.F__law_pick.kp Fx.b__law_pick (fun σ => passAt (takes_of rfl rfl rfl rfl) σ) h)) (fun h h2 => pe_ix ix_A h h2 (fun _ _ => rfl))) (fun h => ps_set (i := 1) (sc__law_scale).nd rfl (Or.inr rfl) h) set_rep)
    (xb_cons (xs_setP (i := 2) gp_s (ps_lcS (ps_lcX (is := [3]) (by decide) (tg_name set_rep) (ps_setLc (own := [("_law_k", 3)]) (i := 2) rfl (sc__law_scale).nd rfl rfl (by rfl) (xi_range1 (xl_cons xe_int xl_nil (fun h h2 => pa_cons h h2)) (fun h => pi_range1 (by rfl) Fx.z_range h)) (blkOk_by (own := [("_law_k", 3)]) (N := N__law_scale) (sc := defScope s__law_scale) (by decide +kernel)) (fun _ _ _ _ _ => (pg_name (i := 3) (sc__law_scale).nd rfl (Or.inl rfl))) (fun _ _ _ _ _ => xts_nil) (fun _ _ _ _ _ => (xe_op ok_add xe_int (xe_op ok_mod (xe_op ok_div (xe_op ok_add (xv (pv 0)) (xv (pv 3)) (fun h h2 => pe_op op_addA h h2)) (xe_op ok_add (xv (pv 3)) xe_int (fun h h2 => pe_op op_addA h h2)) (fun h h2 => pe_op op_fdivA h h2)) (xv (pv 1)) (fun h h2 => pe_op op_mod h h2)) (fun h h2 => pe_op op_addA h h2)))))) set_rep)
    (xb_one (xs_ret gp_s gp_s rfl (xe_tup (xl_cons (xe_op ok_ix (xv (pv 2)) xe_int (fun h h2 => pe_ix ix_A h h2 (fun _ _ => rfl))) (xl_cons (xe_op ok_ix (xv (pv 2)) xe_int (fun h h2 => pe_ix ix_A h h2 (fun _ _ => rfl))) (xl_cons (xe_op ok_sub (xe_op ok_mod (xe_op ok_div (xv (pv 0)) xe_int (fun h h2 => pe_op op_fdivA h h2)) (xe_op ok_add (xe_op ok_mul xe_int (xv (pv 1)) (fun h h2 => pe_op op_mulA h h2)) xe_int (fun h h2 => pe_op op_addA h h2)) (fun h h2 => pe_op op_mod h h2)) (xv (pv 1)) (fun h h2 => pe_op op_sub h h2)) (xl_cons (xe_op ok_ix (xv (pv 2)) xe_int (fun h h2 => pe_ix ix_A h h2 (fun _ _ => rfl))) xl_nil (fun h h2 => pa_cons h h2)) (fun h h2 => pa_cons h h2)) (fun h h2 => pa_cons h h2)) (fun h h2 => pa_cons h h2))) (fun h => ps_ret h)))))
theorem ok__law_stove_by : FnOk P w K mg base (L2.CX P w) 2 Fx.a__law_stove_by Fx.d__law_stove_by ["_law_a", "_law_b", "_law_c", "_law_room"] (spD (th P w Fx) 4 (sgS 4) f__law_stove_by) :=
  fn_okSR (N := N__law_stove_by) (B := m__law_stove_by) (Γ' := (ΓS 6)) (okRule_fun Fx.F__law_stove_by) sc__law_stove_by rfl (by decide) fun cdv A outer s H E hr =>
    (xb_cons (xs_if gp_s (xt_op ok_eq (xe_callS (ok__law_pick Fx) rfl (la1 (la1 (la1 la0))) (xl_cons (xv (pv 1)) (xl_cons (xe_op ok_add xe_int (xv (pv 3)) (fun h h2 => pe_op op_addA h h2)) (xl_cons xe_int xl_nil (fun h h2 => pa_cons h h2)) (fun h h2 => pa_cons h h2)) (fun h h2 => pa_cons h h2)) (fun h => pe_callS (ok__law_pick Fx) (hr.mono (by decide)) (by rfl) Fx.g__law_pick Fx.F__law_pick.kp Fx.b__law_pick (fun σ => passAt (takes_of rfl rfl rfl rfl) σ) h)) xe_int (fun h h2 => pt_cmpR (op_eqD hr.units) h h2 (nomark _))) (xb_one (xs_ret gp_s gp_s rfl xe_non (fun h => ps_ret h)))
    xb_nil)
    (xb_cons (xs_set (i := 4) gp_s (xe_callS (ok__law_pick Fx) rfl (la1 (la1 (la1 la0))) (xl_cons (xv (pv 0)) (xl_cons (xe_op ok_add xe_int (xv (pv 3)) (fun h h2 => pe_op op_addA h h2)) (xl_cons xe_int xl_nil (fun h h2 => pa_cons h h2)) (fun h h2 => pa_cons h h2)) (fun h h2 => pa_cons h h2)) (fun h => pe_callS (ok__law_pick Fx) (hr.mono (by decide)) (by rfl) Fx.g__law_pick Fx.F__law_pick.kp Fx.b__law_pick (fun σ => passAt (takes_of rfl rfl rfl rfl) σ) h)) (fun h => ps_set (i := 4) (sc__law_stove_by).nd rfl (Or.inl rfl) h) set_rep)
    (xb_cons (xs_set (i := 5) gp_s (xe_callS (ok__law_pick Fx) rfl (la1 (la1 (la1 la0))) (xl_cons (xv (pv 0)) (xl_cons (xe_op ok_add xe_int (xv (pv 3)) (fun h h2 => pe_op op_addA h h2)) (xl_cons xe_int xl_nil (fun h h2 => pa_cons h h2)) (fun h h2 => pa_cons h h2)) (fun h h2 => pa_cons h h2)) (fun h => pe_callS (ok__law_pick Fx) (hr.mono (by decide)) (by rfl) Fx.g__law_pick Fx.F__law_pick.kp Fx.b__law_pick (fun σ => passAt (takes_of rfl rfl rfl rfl) σ) h)) (fun h => ps_set (i := 5) (sc__law_stove_by).nd rfl (Or.inl rfl) h) set_rep)
    (xb_one (xs_ret gp_s gp_s rfl (xe_tup (xl_cons (xe_callS (ok__law_pick Fx) rfl (la1 (la1 (la1 la0))) (xl_cons (xv (pv 2)) (xl_cons (xe_op ok_add xe_int (xv (pv 3)) (fun h h2 => pe_op op_addA h h2)) (xl_cons xe_int xl_nil (fun h h2 => pa_cons h h2)) (fun h h2 => pa_cons h h2)) (fun h h2 => pa_cons h h2)) (fun h => pe_callS (ok__law_pick Fx) (hr.mono (by decide)) (by rfl) Fx.g__law_pick Fx.F__law_pick.kp Fx.b__law_pick (fun σ => passAt (takes_of rfl rfl rfl rfl) σ) h)) (xl_cons (xv (pv 4)) (xl_cons (xv (pv 5)) (xl_cons (xe_callS (ok__law_pick Fx) rfl (la1 (la1 (la1 la0))) (xl_cons (xv (pv 1)) (xl_cons (xe_op ok_add xe_int (xv (pv 3)) (fun h h2 => pe_op op_addA h h2)) (xl_cons xe_int xl_nil (fun h h2 => pa_cons h h2)) (fun h h2 => pa_cons h h2)) (fun h h2 => pa_cons h h2)) (fun h => pe_callS (ok__law_pick Fx) (hr.mono (by decide)) (by rfl) Fx.g__law_pick Fx.F__law_pick.kp Fx.b__law_pick (fun σ => passAt (takes_of rfl rfl rfl rfl) σ) h)) xl_nil (fun h h2 => pa_cons h h2)) (fun h h2 => pa_cons h h2)) (fun h h2 => pa_cons h h2)) (fun h h2 => pa_cons h h2))) (fun h => ps_ret h))))))
theorem ok__law_drawn : FnOk P w K mg base (L2.CX P w) 3 Fx.a__law_drawn Fx.d__law_drawn ["_law_script"] (spD (th P w Fx) 1 (sgS 1) f__law_drawn) :=
  fn_okSR (N := N__law_drawn) (B := m__law_drawn) (Γ' := (ΓS 11)) (okRule_fun Fx.F__law_drawn) sc__law_drawn rfl (by decide) fun cdv A outer s H E hr =>
    (xb_cons (xs_set (i := 1) gp_s (xe_callS (ok__law_cell_at Fx) rfl (la1 (la1 la0)) (xl_cons (xv (pv 0)) (xl_cons xe_int xl_nil (fun h h2 => pa_cons h h2)) (fun h h2 => pa_cons h h2)) (fun h => pe_callS (ok__law_cell_at Fx) (hr.mono (by decide)) (by rfl) Fx.g__law_cell_at Fx.F__law_cell_at.kp Fx.b__law_cell_at (fun σ => passAt (takes_of rfl rfl rfl rfl) σ) h)) (fun h => ps_set (i := 1) (sc__law_drawn).nd rfl (Or.inl rfl) h) set_rep)
    (xb_cons (xs_set (i := 2) gp_s (xe_callS (ok__law_cell_at Fx) rfl (la1 (la1 la0)) (xl_cons (xv (pv 0)) (xl_cons xe_int xl_nil (fun h h2 => pa_cons h h2)) (fun h h2 => pa_cons h h2)) (fun h => pe_callS (ok__law_cell_at Fx) (hr.mono (by decide)) (by rfl) Fx.g__law_cell_at Fx.F__law_cell_at.kp Fx.b__law_cell_at (fun σ => passAt (takes_of rfl rfl rfl rfl) σ) h)) (fun h => ps_set (i := 2) (sc__law_drawn).nd rfl (Or.inl rfl) h) set_rep)
    (xb_cons (xs_set (i := 3) gp_s (xe_callS (ok__law_cell_at Fx) rfl (la1 (la1 la0)) (xl_cons (xv (pv 0)) (xl_cons xe_int xl_nil (fun h h2 => pa_cons h h2)) (fun h h2 => pa_cons h h2)) (fun h => pe_callS (ok__law_cell_at Fx) (hr.mono (by decide)) (by rfl) Fx.g__law_cell_at Fx.F__law_cell_at.kp Fx.b__law_cell_at (fun σ => passAt (takes_of rfl rfl rfl rfl) σ) h)) (fun h => ps_set (i := 3) (sc__law_drawn).nd rfl (Or.inl rfl) h) set_rep)
    (xb_cons (xs_set (i := 4) gp_s (xe_op ok_ix (xe_lst (xl_cons xe_int (xl_cons xe_int (xl_cons xe_int (xl_cons xe_int (xl_cons xe_int (xl_cons xe_int xl_nil (fun h h2 => pa_cons h h2)) (fun h h2 => pa_cons h h2)) (fun h h2 => pa_cons h h2)) (fun h h2 => pa_cons h h2)) (fun h h2 => pa_cons h h2)) (fun h h2 => pa_cons h h2))) (xe_callS (ok__law_pick Fx) rfl (la1 (la1 (la1 la0))) (xl_cons (xv (pv 1)) (xl_cons xe_int (xl_cons xe_int xl_nil (fun h h2 => pa_cons h h2)) (fun h h2 => pa_cons h h2)) (fun h h2 => pa_cons h h2)) (fun h => pe_callS (ok__law_pick Fx) (hr.mono (by decide)) (by rfl) Fx.g__law_pick Fx.F__law_pick.kp Fx.b__law_pick (fun σ => passAt (takes_of rfl rfl rfl rfl) σ) h)) (fun h h2 => pe_ix ix_A h h2 (fun _ _ => rfl))) (fun h => ps_set (i := 4) (sc__law_drawn).nd rfl (Or.inl rfl) h) set_rep)
    (xb_cons (xs_own (Γ' := [.s, .s, .s, .s, .s, .o 2, .s, .s, .s, .s, .s]) (i := 5) (k := 2) gp_s (by decide) (xf_dct (its := [("marks", .l), ("sky", .l), ("stoves", .l), ("flows", .d), ("scale", .s (eCall0 f__law_scale (lCons (eCall0 f__law_cell_at (lCons (eVar 0) (lCons (eC (.int 3)) lNil))) lNil)))]) (pps_cons xc_str pe_nilL (pps_cons xc_str pe_nilL (pps_cons xc_str pe_nilL (pps_cons xc_str pe_dnewK (pps_cons xc_str (xc_call0 (ok__law_scale Fx) (fun i => by left; exact rep_s) (la1 la0) (xcl_cons (xc_call0 (ok__law_cell_at Fx) (fun i => by left; exact rep_s) (la1 (la1 la0)) (xcl_cons (xc_var (pv 0) rep_s) (xcl_cons xc_int xcl_nil (fun h h2 => pa_cons h h2)) (fun h h2 => pa_cons h h2)) (fun h => pe_callS (ok__law_cell_at Fx) (hr.mono (by decide)) (by rfl) Fx.g__law_cell_at Fx.F__law_cell_at.kp Fx.b__law_cell_at (fun σ => passAt (takes_of rfl rfl rfl rfl) σ) h)) xcl_nil (fun h h2 => pa_cons h h2)) (fun h => pe_callS (ok__law_scale Fx) (hr.mono (by decide)) (by rfl) Fx.g__law_scale Fx.F__law_scale.kp Fx.b__law_scale (fun σ => passAt (takes_of rfl rfl rfl rfl) σ) h)) pps_nil))))) rfl rfl (List.cons_ne_nil _ _) (of_decide_eq_true rfl)) (fun h => ps_set (i := 5) (sc__law_drawn).nd rfl (Or.inl rfl) h) rfl)
    (xb_cons (xs_vput (K := 2) (i := 5) rfl rfl rfl gp_s rfl (xpv_var (K := 2) (pv 5) rfl) xc_str (xe_tup (xl_cons (xe_callS (ok__law_pick Fx) rfl (la1 (la1 (la1 la0))) (xl_cons (xe_var (pv 1) rfl) (xl_cons xe_int (xl_cons xe_int xl_nil (fun h h2 => pa_cons h h2)) (fun h h2 => pa_cons h h2)) (fun h h2 => pa_cons h h2)) (fun h => pe_callS (ok__law_pick Fx) (hr.mono (by decide)) (by rfl) Fx.g__law_pick Fx.F__law_pick.kp Fx.b__law_pick (fun σ => passAt (takes_of rfl rfl rfl rfl) σ) h)) (xl_cons (xe_callS (ok__law_pick Fx) rfl (la1 (la1 (la1 la0))) (xl_cons (xe_var (pv 1) rfl) (xl_cons xe_int (xl_cons xe_int xl_nil (fun h h2 => pa_cons h h2)) (fun h h2 => pa_cons h h2)) (fun h h2 => pa_cons h h2)) (fun h => pe_callS (ok__law_pick Fx) (hr.mono (by decide)) (by rfl) Fx.g__law_pick Fx.F__law_pick.kp Fx.b__law_pick (fun σ => passAt (takes_of rfl rfl rfl rfl) σ) h)) (xl_cons (xe_callS (ok__law_pick Fx) rfl (la1 (la1 (la1 la0))) (xl_cons (xe_var (pv 1) rfl) (xl_cons xe_int (xl_cons xe_int xl_nil (fun h h2 => pa_cons h h2)) (fun h h2 => pa_cons h h2)) (fun h h2 => pa_cons h h2)) (fun h => pe_callS (ok__law_pick Fx) (hr.mono (by decide)) (by rfl) Fx.g__law_pick Fx.F__law_pick.kp Fx.b__law_pick (fun σ => passAt (takes_of rfl rfl rfl rfl) σ) h)) xl_nil (fun h h2 => pa_cons h h2)) (fun h h2 => pa_cons h h2)) (fun h h2 => pa_cons h h2))) (fun hv ho hi => ps_nput (room16 hr) ho hi hv (by rfl)))
    (xb_cons (xs_for (is := [6]) gp_s (passes_of rfl) rfl (xi_range1 (xl_cons (xe_var (pv 4) rfl) xl_nil (fun h h2 => pa_cons h h2)) (fun h => pi_range1 (by rfl) Fx.z_range h)) (pg_name (i := 6) (sc__law_drawn).nd rfl (Or.inl rfl)) (tg_name rfl) (xb_cons (xs_own (Γ' := [.s, .s, .s, .s, .s, .o 2, .s, .o 1, .s, .s, .s]) (i := 7) (k := 1) gp_s (by decide) (xf_lst (xl_cons (xe_op ok_sub (xe_callS (ok__law_pick Fx) rfl (la1 (la1 (la1 la0))) (xl_cons (xe_var (pv 2) rfl) (xl_cons (xe_var (pv 6) rfl) (xl_cons xe_int xl_nil (fun h h2 => pa_cons h h2)) (fun h h2 => pa_cons h h2)) (fun h h2 => pa_cons h h2)) (fun h => pe_callS (ok__law_pick Fx) (hr.mono (by decide)) (by rfl) Fx.g__law_pick Fx.F__law_pick.kp Fx.b__law_pick (fun σ => passAt (takes_of rfl rfl rfl rfl) σ) h)) xe_int (fun h h2 => pe_op op_sub h h2)) xl_nil (fun h h2 => pa_cons h h2))) (fun h => ps_set (i := 7) (sc__law_drawn).nd rfl (Or.inl rfl) h) rfl)
    (xb_cons (xs_for (is := [8]) gp_s (passes_of rfl) rfl (xi_range1 (xl_cons (xe_op ok_add xe_int (xe_callS (ok__law_pick Fx) rfl (la1 (la1 (la1 la0))) (xl_cons (xe_var (pv 1) rfl) (xl_cons (xe_op ok_add xe_int (xe_var (pv 6) rfl) (fun h h2 => pe_op op_addA h h2)) (xl_cons (xe_op ok_ix (xe_lst (xl_cons xe_int (xl_cons xe_int (xl_cons xe_int (xl_cons xe_int xl_nil (fun h h2 => pa_cons h h2)) (fun h h2 => pa_cons h h2)) (fun h h2 => pa_cons h h2)) (fun h h2 => pa_cons h h2))) (xe_op ok_sub (xe_var (pv 4) rfl) xe_int (fun h h2 => pe_op op_sub h h2)) (fun h h2 => pe_ix ix_A h h2 (fun _ _ => rfl))) xl_nil (fun h h2 => pa_cons h h2)) (fun h h2 => pa_cons h h2)) (fun h h2 => pa_cons h h2)) (fun h => pe_callS (ok__law_pick Fx) (hr.mono (by decide)) (by rfl) Fx.g__law_pick Fx.F__law_pick.kp Fx.b__law_pick (fun σ => passAt (takes_of rfl rfl rfl rfl) σ) h)) (fun h h2 => pe_op op_addA h h2)) xl_nil (fun h h2 => pa_cons h h2)) (fun h => pi_range1 (by rfl) Fx.z_range h)) (pg_name (i := 8) (sc__law_drawn).nd rfl (Or.inl rfl)) (tg_name rfl) (xb_one (xs_mut (i := 7) rfl gp_s trivial ok_append (xl_cons (xe_op ok_add (xe_op ok_add (xe_flat (xq_op ok_ix (xq_varO (pv 7) rfl) (xq_of (xe_var (pv 8) rfl)) (fun h h2 => pe_ix ix_A h h2 (fun _ _ => rfl)))) xe_int (fun h h2 => pe_op op_addA h h2)) (xe_callS (ok__law_pick Fx) rfl (la1 (la1 (la1 la0))) (xl_cons (xe_var (pv 2) rfl) (xl_cons (xe_op ok_add (xe_op ok_add xe_int (xe_op ok_mul xe_int (xe_var (pv 6) rfl) (fun h h2 => pe_op op_mulA h h2)) (fun h h2 => pe_op op_addA h h2)) (xe_var (pv 8) rfl) (fun h h2 => pe_op op_addA h h2)) (xl_cons xe_int xl_nil (fun h h2 => pa_cons h h2)) (fun h h2 => pa_cons h h2)) (fun h h2 => pa_cons h h2)) (fun h => pe_callS (ok__law_pick Fx) (hr.mono (by decide)) (by rfl) Fx.g__law_pick Fx.F__law_pick.kp Fx.b__law_pick (fun σ => passAt (takes_of rfl rfl rfl rfl) σ) h)) (fun h h2 => pe_op op_addA h h2)) xl_nil (fun h h2 => pa_cons h h2)) (fun h => ps_expr (pe_bm PySem.F.plainAttrs_list PySem.F.slot_list_append PySem.F.type_list_append mt_append (pv 7) h)))))
    (xb_frz (i := 7) (k := 1) (Γ1 := [.s, .s, .s, .s, .s, .o 2, .s, .s, .s, .s, .s]) rfl rfl (xb_cons (xs_vmut (K := 2) (i := 5) rfl gp_s rfl ok_append (xpv_key rfl rfl rfl rfl (xpv_var (K := 2) (pv 5) rfl) xc_str (fun h h2 => pe_ix (ix_AD (room16 hr)) h h2 (fun _ _ => rfl))) (xcl_cons (xc_var (pv 7) rfl) xcl_nil (fun h h2 => pa_cons h h2)) (fun ho h => ps_expr (pe_bm PySem.F.plainAttrs_list PySem.F.slot_list_append PySem.F.type_list_append mt_append ho h)))
    (xb_cons (xs_set (Γ' := [.s, .s, .s, .s, .s, .o 2, .s, .s, .s, .s, .s]) (i := 9) gp_s (xe_op ok_sub (xe_callS (ok__law_pick Fx) rfl (la1 (la1 (la1 la0))) (xl_cons (xe_var (pv 3) rfl) (xl_cons (xe_var (pv 6) rfl) (xl_cons xe_int xl_nil (fun h h2 => pa_cons h h2)) (fun h h2 => pa_cons h h2)) (fun h h2 => pa_cons h h2)) (fun h => pe_callS (ok__law_pick Fx) (hr.mono (by decide)) (by rfl) Fx.g__law_pick Fx.F__law_pick.kp Fx.b__law_pick (fun σ => passAt (takes_of rfl rfl rfl rfl) σ) h)) xe_int (fun h h2 => pe_op op_sub h h2)) (fun h => ps_set (i := 9) (sc__law_drawn).nd rfl (Or.inl rfl) h) rfl)
    (xb_cons (xs_vmut (K := 2) (i := 5) rfl gp_s rfl ok_append (xpv_key rfl rfl rfl rfl (xpv_var (K := 2) (pv 5) rfl) xc_str (fun h h2 => pe_ix (ix_AD (room16 hr)) h h2 (fun _ _ => rfl))) (xcl_cons (xc_tup (xcl_cons (xc_call0 (ok__law_pick Fx) (fun i => by left; exact rep_s) (la1 (la1 (la1 la0))) (xcl_cons (xc_var (pv 3) rfl) (xcl_cons (xc_op ok_add xc_int (xc_var (pv 6) rfl) (fun h h2 => pe_op op_addA h h2)) (xcl_cons xc_int xcl_nil (fun h h2 => pa_cons h h2)) (fun h h2 => pa_cons h h2)) (fun h h2 => pa_cons h h2)) (fun h => pe_callS (ok__law_pick Fx) (hr.mono (by decide)) (by rfl) Fx.g__law_pick Fx.F__law_pick.kp Fx.b__law_pick (fun σ => passAt (takes_of rfl rfl rfl rfl) σ) h)) (xcl_cons (xc_var (pv 9) rfl) (xcl_cons (xc_op ok_add (xc_var (pv 9) rfl) (xc_call0 (ok__law_pick Fx) (fun i => by left; exact rep_s) (la1 (la1 (la1 la0))) (xcl_cons (xc_var (pv 3) rfl) (xcl_cons (xc_op ok_add xc_int (xc_var (pv 6) rfl) (fun h h2 => pe_op op_addA h h2)) (xcl_cons xc_int xcl_nil (fun h h2 => pa_cons h h2)) (fun h h2 => pa_cons h h2)) (fun h h2 => pa_cons h h2)) (fun h => pe_callS (ok__law_pick Fx) (hr.mono (by decide)) (by rfl) Fx.g__law_pick Fx.F__law_pick.kp Fx.b__law_pick (fun σ => passAt (takes_of rfl rfl rfl rfl) σ) h)) (fun h h2 => pe_op op_addA h h2)) xcl_nil (fun h h2 => pa_cons h h2)) (fun h h2 => pa_cons h h2)) (fun h h2 => pa_cons h h2))) xcl_nil (fun h h2 => pa_cons h h2)) (fun ho h => ps_expr (pe_bm PySem.F.plainAttrs_list PySem.F.slot_list_append PySem.F.type_list_append mt_append ho h)))
    (xb_cons (xs_vmut (K := 2) (i := 5) rfl gp_s rfl ok_append (xpv_key rfl rfl rfl rfl (xpv_var (K := 2) (pv 5) rfl) xc_str (fun h h2 => pe_ix (ix_AD (room16 hr)) h h2 (fun _ _ => rfl))) (xcl_cons (xc_call0 (ok__law_stove_by Fx) (fun i => by left; exact rep_s) (la1 (la1 (la1 (la1 la0)))) (xcl_cons (xc_var (pv 1) rfl) (xcl_cons (xc_var (pv 2) rfl) (xcl_cons (xc_var (pv 3) rfl) (xcl_cons (xc_var (pv 6) rfl) xcl_nil (fun h h2 => pa_cons h h2)) (fun h h2 => pa_cons h h2)) (fun h h2 => pa_cons h h2)) (fun h h2 => pa_cons h h2)) (fun h => pe_callS (ok__law_stove_by Fx) (hr.mono (by decide)) (by rfl) Fx.g__law_stove_by Fx.F__law_stove_by.kp Fx.b__law_stove_by (fun σ => passAt (takes_of rfl rfl rfl rfl) σ) h)) xcl_nil (fun h h2 => pa_cons h h2)) (fun ho h => ps_expr (pe_bm PySem.F.plainAttrs_list PySem.F.slot_list_append PySem.F.type_list_append mt_append ho h)))
    (xb_one (xs_for (is := [10]) gp_s (passes_of rfl) rfl (xi_range1 (xl_cons (xe_var (pv 4) rfl) xl_nil (fun h h2 => pa_cons h h2)) (fun h => pi_range1 (by rfl) Fx.z_range h)) (pg_name (i := 10) (sc__law_drawn).nd rfl (Or.inl rfl)) (tg_name rfl) (xb_one (xs_if gp_s (xt_op ok_ne (xe_var (pv 10) rfl) (xe_var (pv 6) rfl) (fun h h2 => pt_cmpR (op_neD hr.units) h h2 (nomark _))) (xb_one (xs_vput (K := 2) (i := 5) rfl rfl rfl gp_s rfl (xpv_key rfl rfl rfl rfl (xpv_var (K := 2) (pv 5) rfl) xc_str (fun h h2 => pe_ix (ix_AD (room16 hr)) h h2 (fun _ _ => rfl))) (xc_tup (xcl_cons (xc_var (pv 6) rfl) (xcl_cons (xc_var (pv 10) rfl) xcl_nil (fun h h2 => pa_cons h h2)) (fun h h2 => pa_cons h h2))) (xe_callS (ok__law_pick Fx) rfl (la1 (la1 (la1 la0))) (xl_cons (xe_var (pv 2) rfl) (xl_cons (xe_op ok_add (xe_op ok_add xe_int (xe_op ok_mul xe_int (xe_var (pv 6) rfl) (fun h h2 => pe_op op_mulA h h2)) (fun h h2 => pe_op op_addA h h2)) (xe_var (pv 10) rfl) (fun h h2 => pe_op op_addA h h2)) (xl_cons xe_int xl_nil (fun h h2 => pa_cons h h2)) (fun h h2 => pa_cons h h2)) (fun h h2 => pa_cons h h2)) (fun h => pe_callS (ok__law_pick Fx) (hr.mono (by decide)) (by rfl) Fx.g__law_pick Fx.F__law_pick.kp Fx.b__law_pick (fun σ => passAt (takes_of rfl rfl rfl rfl) σ) h)) (fun hv ho hi => ps_nput (room16 hr) ho hi hv (by rfl))))
    xb_nil))))))))))))
    (xb_frz (i := 5) (k := 2) (Γ1 := (ΓS 11)) rfl rfl (xb_one (xs_ret gp_s gp_s rfl (xv (pv 5)) (fun h => ps_ret h)))))))))))
theorem ok_is_bound : FnOk P w K mg base (L2.CX P w) 1 Fx.a_is_bound Fx.d_is_bound ["thing", "most"] (spD (th P w Fx) 2 (sgS 2) f_is_bound) :=
  fn_okSR (N := N_is_bound) (B := m_is_bound) (Γ' := (ΓS 2)) (okRule_fun Fx.F_is_bound) sc_is_bound rfl (by decide) fun cdv A outer s H E hr =>
    (xb_one (xs_ret gp_s gp_s rfl (xe_and (xe_isi (n := "int") rfl (xv (pv 0)) (fun h => pe_callB call_isi (by rfl) Fx.z_isinstance PyProof.Rows.boot_isinstance (pa_cons h (pa_cons (pe_bltn (v := .ty "int") (by rfl) Fx.z_int (by decide +kernel) rfl) pa_nil)))) (xe_and (xe_not (xe_isi (n := "bool") rfl (xv (pv 0)) (fun h => pe_callB call_isi (by rfl) Fx.z_isinstance PyProof.Rows.boot_isinstance (pa_cons h (pa_cons (pe_bltn (v := .ty "bool") (by rfl) Fx.z_bool (by decide +kernel) rfl) pa_nil))))) (xe_and1 (xe_chain ok_le ok_le xe_int (xv (pv 0)) (xv (pv 1)) (fun h h2 h3 => pe_chain op_le op_le h h2 h3))))) (fun h => ps_ret h)))
theorem ok_Hold____init__ : FnOk P w K mg base (L2.CX P w) 2 Fx.a_Hold____init__ Fx.d_Hold____init__ ["self", "most", "cap", "load"] (spD (th P w Fx) 4 (sgS 4) f_Hold____init__) :=
  fn_okSR (N := N_Hold____init__) (B := m_Hold____init__) (Γ' := (ΓS 4)) (okRule_funD Fx.F_Hold____init__) sc_Hold____init__ rfl (by decide) fun cdv A outer s H E hr =>
    (xb_cons (xs_if gp_s (PW.pt (xw_or (xt_not (xt_val (xe_callS (ok_is_bound Fx) rfl (la1 (la1 la0)) (xl_cons (xv (pv 1)) (xl_cons xe_int xl_nil (fun h h2 => pa_cons h h2)) (fun h h2 => pa_cons h h2)) (fun h => pe_callS (ok_is_bound Fx) (hr.mono (by decide)) (by rfl) Fx.g_is_bound Fx.F_is_bound.kp Fx.b_is_bound (fun σ => passAt (takes_of rfl rfl rfl rfl) σ) h)) (fun h => .inl (pt_val h)))) (xw_or (xt_not (xt_val (xe_callS (ok_is_bound Fx) rfl (la1 (la1 la0)) (xl_cons (xv (pv 2)) (xl_cons xe_int xl_nil (fun h h2 => pa_cons h h2)) (fun h h2 => pa_cons h h2)) (fun h => pe_callS (ok_is_bound Fx) (hr.mono (by decide)) (by rfl) Fx.g_is_bound Fx.F_is_bound.kp Fx.b_is_bound (fun σ => passAt (takes_of rfl rfl rfl rfl) σ) h)) (fun h => .inl (pt_val h)))) (xw_or1 (xt_not (xt_val (xe_callS (ok_is_bound Fx) rfl (la1 (la1 la0)) (xl_cons (xv (pv 3)) (xl_cons xe_int xl_nil (fun h h2 => pa_cons h h2)) (fun h h2 => pa_cons h h2)) (fun h => pe_callS (ok_is_bound Fx) (hr.mono (by decide)) (by rfl) Fx.g_is_bound Fx.F_is_bound.kp Fx.b_is_bound (fun σ => passAt (takes_of rfl rfl rfl rfl) σ) h)) (fun h => .inl (pt_val h)))))))) (xb_one (xs_no ps_never))
    xb_nil)
    (xb_cons (xs_fldS rfl Fx.fld_most gp_s (xc_var (pv 0) rep_s) (xv (pv 1)) (fun ho hv => ps_fld ho hv rfl))
    (xb_cons (xs_fldS rfl Fx.fld_cap gp_s (xc_var (pv 0) rep_s) (xv (pv 2)) (fun ho hv => ps_fld ho hv rfl))
    (xb_cons (xs_fldS rfl Fx.fld_load gp_s (xc_var (pv 0) rep_s) (xv (pv 3)) (fun ho hv => ps_fld ho hv rfl))
    (xb_cons (xs_fldF (k := 1) rfl Fx.fld_my_marks gp_s (xc_var (pv 0) rep_s) (xf_ofNC xnc_nil) (fun ho hv => ps_fld ho hv rfl))
    (xb_cons (xs_fldF (k := 2) rfl Fx.fld_my_flows gp_s (xc_var (pv 0) rep_s) (xf_ofNC xnc_nil) (fun ho hv => ps_fld ho hv rfl))
    (xb_cons (xs_fldF (k := 1) rfl Fx.fld_my_skies gp_s (xc_var (pv 0) rep_s) (xf_ofNC xnc_nil) (fun ho hv => ps_fld ho hv rfl))
    (xb_one (xs_fldF (k := 1) rfl Fx.fld_my_stoves gp_s (xc_var (pv 0) rep_s) (xf_ofNC xnc_nil) (fun ho hv => ps_fld ho hv rfl))))))))))
theorem ok_under : FnOk P w K mg base (L2.CX P w) 1 Fx.a_under Fx.d_under ["one", "other"] (spD (th P w Fx) 2 (sgS 2) f_under) :=
  fn_okSR (N := N_under) (B := m_under) (Γ' := (ΓS 2)) (okRule_fun Fx.F_under) sc_under rfl (by decide) fun cdv A outer s H E hr =>
    (xb_one (xs_ret gp_s gp_s rfl (xe_op ok_lt (xe_op ok_mul (xe_op ok_ix (xv (pv 0)) xe_int (fun h h2 => pe_ix ix_A h h2 (fun _ _ => rfl))) (xe_op ok_ix (xv (pv 1)) xe_int (fun h h2 => pe_ix ix_A h h2 (fun _ _ => rfl))) (fun h h2 => pe_op op_mulA h h2)) (xe_op ok_mul (xe_op ok_ix (xv (pv 1)) xe_int (fun h h2 => pe_ix ix_A h h2 (fun _ _ => rfl))) (xe_op ok_ix (xv (pv 0)) xe_int (fun h h2 => pe_ix ix_A h h2 (fun _ _ => rfl))) (fun h h2 => pe_op op_mulA h h2)) (fun h h2 => pe_cmpR op_lt h h2 (nomark _))) (fun h => ps_ret h)))
theorem ok_do_rise : FnOk P w K mg base (L2.CX P w) 2 Fx.a_do_rise Fx.d_do_rise ["marks"] (spD (th P w Fx) 1 (sgS 1) f_do_rise) :=
  fn_okSR (N := N_do_rise) (B := m_do_rise) (Γ' := (ΓS 2)) (okRule_fun Fx.F_do_rise) sc_do_rise rfl (by decide) fun cdv A outer s H E hr =>
    (xb_cons (xs_if gp_s (PW.pt (xw_or (xt_op ok_lt (xe_L ok_len (xl_cons (xv (pv 0)) xl_nil (fun h h2 => pa_cons h h2)) (fun h => pe_callB call_lenA (by rfl) Fx.z_len PySem.boot_len h)) xe_int (fun h h2 => pt_cmpR op_lt h h2 (nomark _))) (xw_or1 (xt_op ok_gt (xe_L ok_len (xl_cons (xv (pv 0)) xl_nil (fun h h2 => pa_cons h h2)) (fun h => pe_callB call_lenA (by rfl) Fx.z_len PySem.boot_len h)) xe_int (fun h h2 => pt_cmpR op_gt h h2 (nomark _)))))) (xb_one (xs_ret gp_s gp_s rfl xe_bl (fun h => ps_ret h)))
    xb_nil)
    (xb_cons (xs_for (is := [1]) gp_s (passes_of rfl) rfl (xi_range1 (xl_cons (xe_op ok_sub (xe_L ok_len (xl_cons (xv (pv 0)) xl_nil (fun h h2 => pa_cons h h2)) (fun h => pe_callB call_lenA (by rfl) Fx.z_len PySem.boot_len h)) xe_int (fun h h2 => pe_op op_sub h h2)) xl_nil (fun h h2 => pa_cons h h2)) (fun h => pi_range1 (by rfl) Fx.z_range h)) (pg_name (i := 1) (sc_do_rise).nd rfl (Or.inl rfl)) (tg_name set_rep) (xb_one (xs_if gp_s (xt_not (xt_val (xe_callS (ok_under Fx) rfl (la1 (la1 la0)) (xl_cons (xe_op ok_ix (xv (pv 0)) (xv (pv 1)) (fun h h2 => pe_ix ix_A h h2 (fun _ _ => rfl))) (xl_cons (xe_op ok_ix (xv (pv 0)) (xe_op ok_add (xv (pv 1)) xe_int (fun h h2 => pe_op op_addA h h2)) (fun h h2 => pe_ix ix_A h h2 (fun _ _ => rfl))) xl_nil (fun h h2 => pa_cons h h2)) (fun h h2 => pa_cons h h2)) (fun h => pe_callS (ok_under Fx) (hr.mono (by decide)) (by rfl) Fx.g_under Fx.F_under.kp Fx.b_under (fun σ => passAt (takes_of rfl rfl rfl rfl) σ) h)) (fun h => .inl (pt_val h)))) (xb_one (xs_ret gp_s gp_s rfl xe_bl (fun h => ps_ret h)))
    xb_nil)))
    (xb_one (xs_ret gp_s gp_s rfl xe_bl (fun h => ps_ret h)))))
theorem ok_Hold__put_room : FnOk P w K mg base (L2.CX P w) 3 Fx.a_Hold__put_room Fx.d_Hold__put_room ["self", "marks"] (spD (th P w Fx) 2 (sgS 2) f_Hold__put_room) :=
  fn_okSR (N := N_Hold__put_room) (B := m_Hold__put_room) (Γ' := (ΓS 5)) (okRule_fun Fx.F_Hold__put_room) sc_Hold__put_room rfl (by decide) fun cdv A outer s H E hr =>
    (xb_cons (xs_if gp_s (xt_op ok_eq (xe_ofC (xc_flat (xv_L ok_len (xvl_cons (xv_fld Fx.fld_my_marks (xc_var (pv 0) rep_s) (fun h => pe_fld h rfl)) xvl_nil (fun h h2 => pa_cons h h2)) (fun h => pe_callB call_lenA (by rfl) Fx.z_len PySem.boot_len h)))) xe_int (fun h h2 => pt_cmpR (op_eqD hr.units) h h2 (nomark _))) (xb_one (xs_no ps_never))
    xb_nil)
    (xb_cons (xs_if gp_s (xt_not (xt_val (xe_callS (ok_do_rise Fx) rfl (la1 la0) (xl_cons (xv (pv 1)) xl_nil (fun h h2 => pa_cons h h2)) (fun h => pe_callS (ok_do_rise Fx) (hr.mono (by decide)) (by rfl) Fx.g_do_rise Fx.F_do_rise.kp Fx.b_do_rise (fun σ => passAt (takes_of rfl rfl rfl rfl) σ) h)) (fun h => .inl (pt_val h)))) (xb_one (xs_no ps_never))
    xb_nil)
    (xb_cons (xs_set (i := 2) gp_s (xe_op ok_sub (xe_L ok_len (xl_cons (xv (pv 1)) xl_nil (fun h h2 => pa_cons h h2)) (fun h => pe_callB call_lenA (by rfl) Fx.z_len PySem.boot_len h)) xe_int (fun h h2 => pe_op op_sub h h2)) (fun h => ps_set (i := 2) (sc_Hold__put_room).nd rfl (Or.inl rfl) h) set_rep)
    (xb_cons (xs_forP (is := [3]) rfl rfl gp_s (passes_of rfl) rfl (xp_fld Fx.fld_my_marks (xc_var (pv 0) rep_s) (fun h => pe_fld h rfl)) (pg_name (i := 3) (sc_Hold__put_room).nd rfl (Or.inl rfl)) (tg_name set_rep) (xbc_one (xsc_set (i := 2) gp_s (xc_op ok_mul (xc_var (pv 2) rep_s) (xc_op ok_sub (xc_flat (xv_L ok_len (xvl_cons (xv_var (pv 3) (fun v h => by rw [rep_s] at h; cases h)) xvl_nil (fun h h2 => pa_cons h h2)) (fun h => pe_callB call_lenA (by rfl) Fx.z_len PySem.boot_len h))) xc_int (fun h h2 => pe_op op_sub h h2)) (fun h h2 => pe_op op_mulA h h2)) (fun h => ps_set (i := 2) (sc_Hold__put_room).nd rfl (Or.inl rfl) h) set_rep)) (fun ho => pi_list ho))
    (xb_cons (xs_if gp_s (xt_op ok_gt (xv (pv 2)) xe_int (fun h h2 => pt_cmpR op_gt h h2 (nomark _))) (xb_one (xs_no ps_never))
    xb_nil)
    (xb_cons (xs_forApp (i := 4) rfl rfl gp_s (fun _ _ => shr_wrt (ns := [0, 1]) Fx.wv_NOUGHT) (xp_fld Fx.fld_my_flows (xc_var (pv 0) rep_s) (fun h => pe_fld h rfl)) (fun ho => ps_for (passes_of rfl) rfl (pi_list ho) (pg_name (i := 4) (sc_Hold__put_room).nd rfl (Or.inl rfl)) (pss_one (ps_expr (pe_bm PySem.F.plainAttrs_list PySem.F.slot_list_append PySem.F.type_list_append mt_append (pv 4) (pa_cons (pe_glob (v := .ref Fx.av_NOUGHT) (by rfl) Fx.gv_NOUGHT rfl) pa_nil))))))
    (xb_cons (xs_pmut rfl rfl gp_s ok_append (xp_fld Fx.fld_my_marks (xc_var (pv 0) rep_s) (fun h => pe_fld h rfl)) (xcl_cons (xc_un ok_list (xc_var (pv 1) rep_s) (fun h => pe_callTy call_list_of (by rfl) Fx.z_list PyProof.Rows.boot_list (pa_cons h pa_nil))) xcl_nil (fun h h2 => pa_cons h h2)) (fun ho h => ps_expr (pe_bm PySem.F.plainAttrs_list PySem.F.slot_list_append PySem.F.type_list_append mt_append ho h)))
    (xb_cons (xs_papp rfl rfl gp_s (xp_fld Fx.fld_my_flows (xc_var (pv 0) rep_s) (fun h => pe_fld h rfl)) (xnc_rep (xc_lst (xcl_cons (xc_of (pe_glob (v := .ref Fx.av_NOUGHT) (by rfl) Fx.gv_NOUGHT rfl) (fun _ _ => shr_wrt (ns := [0, 1]) Fx.wv_NOUGHT)) xcl_nil (fun h h2 => pa_cons h h2))) (xc_flat (xv_L ok_len (xvl_cons (xv_fld Fx.fld_my_marks (xc_var (pv 0) rep_s) (fun h => pe_fld h rfl)) xvl_nil (fun h h2 => pa_cons h h2)) (fun h => pe_callB call_lenA (by rfl) Fx.z_len PySem.boot_len h))) (fun h h2 => pe_op op_rep h h2)) (fun ho h => ps_expr (pe_bm PySem.F.plainAttrs_list PySem.F.slot_list_append PySem.F.type_list_append mt_append ho (pa_cons h pa_nil))))
    (xb_cons (xs_pmut rfl rfl gp_s ok_append (xp_fld Fx.fld_my_skies (xc_var (pv 0) rep_s) (fun h => pe_fld h rfl)) (xcl_cons (xc_tup (xcl_cons (xc_of (pe_glob (v := .ref Fx.av_NOUGHT) (by rfl) Fx.gv_NOUGHT rfl) (fun _ _ => shr_wrt (ns := [0, 1]) Fx.wv_NOUGHT)) (xcl_cons (xc_of (pe_glob (v := .ref Fx.av_NOUGHT) (by rfl) Fx.gv_NOUGHT rfl) (fun _ _ => shr_wrt (ns := [0, 1]) Fx.wv_NOUGHT)) (xcl_cons (xc_of (pe_glob (v := .ref Fx.av_NOUGHT) (by rfl) Fx.gv_NOUGHT rfl) (fun _ _ => shr_wrt (ns := [0, 1]) Fx.wv_NOUGHT)) xcl_nil (fun h h2 => pa_cons h h2)) (fun h h2 => pa_cons h h2)) (fun h h2 => pa_cons h h2))) xcl_nil (fun h h2 => pa_cons h h2)) (fun ho h => ps_expr (pe_bm PySem.F.plainAttrs_list PySem.F.slot_list_append PySem.F.type_list_append mt_append ho h)))
    (xb_cons (xs_pmut rfl rfl gp_s ok_append (xp_fld Fx.fld_my_stoves (xc_var (pv 0) rep_s) (fun h => pe_fld h rfl)) (xcl_cons xc_non xcl_nil (fun h h2 => pa_cons h h2)) (fun ho h => ps_expr (pe_bm PySem.F.plainAttrs_list PySem.F.slot_list_append PySem.F.type_list_append mt_append ho h)))
    (xb_one (xs_ret gp_s gp_s rfl (xe_op ok_sub (xe_ofC (xc_flat (xv_L ok_len (xvl_cons (xv_fld Fx.fld_my_marks (xc_var (pv 0) rep_s) (fun h => pe_fld h rfl)) xvl_nil (fun h h2 => pa_cons h h2)) (fun h => pe_callB call_lenA (by rfl) Fx.z_len PySem.boot_len h)))) xe_int (fun h h2 => pe_op op_sub h h2)) (fun h => ps_ret h)))))))))))))
theorem ok_Hold__ask_room : FnOk P w K mg base (L2.CX P w) 1 Fx.a_Hold__ask_room Fx.d_Hold__ask_room ["self", "room"] (spD (th P w Fx) 2 (sgS 2) f_Hold__ask_room) :=
  fn_okSR (N := N_Hold__ask_room) (B := m_Hold__ask_room) (Γ' := (ΓS 2)) (okRule_fun Fx.F_Hold__ask_room) sc_Hold__ask_room rfl (by decide) fun cdv A outer s H E hr =>
    (xb_one (xs_if gp_s (PW.pt (xw_or (xt_op ok_lt (xv (pv 1)) xe_int (fun h h2 => pt_cmpR op_lt h h2 (nomark _))) (xw_or1 (xt_op ok_ge (xv (pv 1)) (xe_ofC (xc_flat (xv_L ok_len (xvl_cons (xv_fld Fx.fld_my_marks (xc_var (pv 0) rep_s) (fun h => pe_fld h rfl)) xvl_nil (fun h h2 => pa_cons h h2)) (fun h => pe_callB call_lenA (by rfl) Fx.z_len PySem.boot_len h)))) (fun h h2 => pt_cmpR op_ge h h2 (nomark _)))))) (xb_one (xs_no ps_never))
    xb_nil))
theorem ok_divisor : FnOk P w K mg base (L2.CX P w) 1 Fx.a_divisor Fx.d_divisor ["one", "other"] (spD (th P w Fx) 2 (sgS 2) f_divisor) :=
  fn_okSR (N := N_divisor) (B := m_divisor) (Γ' := (ΓS 5)) (okRule_fun Fx.F_divisor) sc_divisor rfl (by decide) fun cdv A outer s H E hr =>
    (xb_cons (xs_set (i := 2) gp_s (xe_L ok_abs (xl_cons (xv (pv 0)) xl_nil (fun h h2 => pa_cons h h2)) (fun h => pe_callB call_abs (by rfl) Fx.z_abs PyProof.Rows.boot_abs h)) (fun h => ps_set (i := 2) (sc_divisor).nd rfl (Or.inl rfl) h) set_rep)
    (xb_cons (xs_set (i := 3) gp_s (xe_L ok_abs (xl_cons (xv (pv 1)) xl_nil (fun h h2 => pa_cons h h2)) (fun h => pe_callB call_abs (by rfl) Fx.z_abs PyProof.Rows.boot_abs h)) (fun h => ps_set (i := 3) (sc_divisor).nd rfl (Or.inl rfl) h) set_rep)
    (xb_cons (xs_while gp_s (passes_of rfl) (xt_op ok_ne (xv (pv 3)) xe_int (fun h h2 => pt_cmpR (op_neD hr.units) h h2 (nomark _))) (xb_cons (xs_set (i := 4) gp_s (xe_op ok_mod (xv (pv 2)) (xv (pv 3)) (fun h h2 => pe_op op_mod h h2)) (fun h => ps_set (i := 4) (sc_divisor).nd rfl (Or.inl rfl) h) set_rep)
    (xb_cons (xs_set (i := 2) gp_s (xv (pv 3)) (fun h => ps_set (i := 2) (sc_divisor).nd rfl (Or.inl rfl) h) set_rep)
    (xb_one (xs_set (i := 3) gp_s (xv (pv 4)) (fun h => ps_set (i := 3) (sc_divisor).nd rfl (Or.inl rfl) h) set_rep)))))
    (xb_one (xs_ret gp_s gp_s rfl (xv (pv 2)) (fun h => ps_ret h))))))
theorem ok_fraction : FnOk P w K mg base (L2.CX P w) 2 Fx.a_fraction Fx.d_fraction ["top", "bottom"] (spD (th P w Fx) 2 (sgS 2) f_fraction) :=
  fn_okSR (N := N_fraction) (B := m_fraction) (Γ' := (ΓS 3)) (okRule_fun Fx.F_fraction) sc_fraction rfl (by decide) fun cdv A outer s H E hr =>
    (xb_cons (xs_if gp_s (xt_op ok_eq (xv (pv 1)) xe_int (fun h h2 => pt_cmpR (op_eqD hr.units) h h2 (nomark _))) (xb_one (xs_no ps_never))
    xb_nil)
    (xb_cons (xs_set (i := 2) gp_s (xe_callS (ok_divisor Fx) rfl (la1 (la1 la0)) (xl_cons (xv (pv 0)) (xl_cons (xv (pv 1)) xl_nil (fun h h2 => pa_cons h h2)) (fun h h2 => pa_cons h h2)) (fun h => pe_callS (ok_divisor Fx) (hr.mono (by decide)) (by rfl) Fx.g_divisor Fx.F_divisor.kp Fx.b_divisor (fun σ => passAt (takes_of rfl rfl rfl rfl) σ) h)) (fun h => ps_set (i := 2) (sc_fraction).nd rfl (Or.inl rfl) h) set_rep)
    (xb_cons (xs_if gp_s (xt_op ok_lt (xv (pv 1)) xe_int (fun h h2 => pt_cmpR op_lt h h2 (nomark _))) (xb_one (xs_set (i := 2) gp_s (xe_un ok_neg (xv (pv 2)) (fun h => pe_un un_neg h)) (fun h => ps_set (i := 2) (sc_fraction).nd rfl (Or.inl rfl) h) set_rep))
    xb_nil)
    (xb_one (xs_ret gp_s gp_s rfl (xe_tup (xl_cons (xe_op ok_div (xv (pv 0)) (xv (pv 2)) (fun h h2 => pe_op op_fdivA h h2)) (xl_cons (xe_op ok_div (xv (pv 1)) (xv (pv 2)) (fun h h2 => pe_op op_fdivA h h2)) xl_nil (fun h h2 => pa_cons h h2)) (fun h h2 => pa_cons h h2))) (fun h => ps_ret h))))))
theorem ok_plus : FnOk P w K mg base (L2.CX P w) 3 Fx.a_plus Fx.d_plus ["one", "other"] (spD (th P w Fx) 2 (sgS 2) f_plus) :=
  fn_okSR (N := N_plus) (B := m_plus) (Γ' := (ΓS 2)) (okRule_fun Fx.F_plus) sc_plus rfl (by decide) fun cdv A outer s H E hr =>
    (xb_one (xs_ret gp_s gp_s rfl (xe_callS (ok_fraction Fx) rfl (la1 (la1 la0)) (xl_cons (xe_op ok_add (xe_op ok_mul (xe_op ok_ix (xv (pv 0)) xe_int (fun h h2 => pe_ix ix_A h h2 (fun _ _ => rfl))) (xe_op ok_ix (xv (pv 1)) xe_int (fun h h2 => pe_ix ix_A h h2 (fun _ _ => rfl))) (fun h h2 => pe_op op_mulA h h2)) (xe_op ok_mul (xe_op ok_ix (xv (pv 1)) xe_int (fun h h2 => pe_ix ix_A h h2 (fun _ _ => rfl))) (xe_op ok_ix (xv (pv 0)) xe_int (fun h h2 => pe_ix ix_A h h2 (fun _ _ => rfl))) (fun h h2 => pe_op op_mulA h h2)) (fun h h2 => pe_op op_addA h h2)) (xl_cons (xe_op ok_mul (xe_op ok_ix (xv (pv 0)) xe_int (fun h h2 => pe_ix ix_A h h2 (fun _ _ => rfl))) (xe_op ok_ix (xv (pv 1)) xe_int (fun h h2 => pe_ix ix_A h h2 (fun _ _ => rfl))) (fun h h2 => pe_op op_mulA h h2)) xl_nil (fun h h2 => pa_cons h h2)) (fun h h2 => pa_cons h h2)) (fun h => pe_callS (ok_fraction Fx) (hr.mono (by decide)) (by rfl) Fx.g_fraction Fx.F_fraction.kp Fx.b_fraction (fun σ => passAt (takes_of rfl rfl rfl rfl) σ) h)) (fun h => ps_ret h)))
theorem ok_minus : FnOk P w K mg base (L2.CX P w) 3 Fx.a_minus Fx.d_minus ["one", "other"] (spD (th P w Fx) 2 (sgS 2) f_minus) :=
  fn_okSR (N := N_minus) (B := m_minus) (Γ' := (ΓS 2)) (okRule_fun Fx.F_minus) sc_minus rfl (by decide) fun cdv A outer s H E hr =>
    (xb_one (xs_ret gp_s gp_s rfl (xe_callS (ok_fraction Fx) rfl (la1 (la1 la0)) (xl_cons (xe_op ok_sub (xe_op ok_mul (xe_op ok_ix (xv (pv 0)) xe_int (fun h h2 => pe_ix ix_A h h2 (fun _ _ => rfl))) (xe_op ok_ix (xv (pv 1)) xe_int (fun h h2 => pe_ix ix_A h h2 (fun _ _ => rfl))) (fun h h2 => pe_op op_mulA h h2)) (xe_op ok_mul (xe_op ok_ix (xv (pv 1)) xe_int (fun h h2 => pe_ix ix_A h h2 (fun _ _ => rfl))) (xe_op ok_ix (xv (pv 0)) xe_int (fun h h2 => pe_ix ix_A h h2 (fun _ _ => rfl))) (fun h h2 => pe_op op_mulA h h2)) (fun h h2 => pe_op op_sub h h2)) (xl_cons (xe_op ok_mul (xe_op ok_ix (xv (pv 0)) xe_int (fun h h2 => pe_ix ix_A h h2 (fun _ _ => rfl))) (xe_op ok_ix (xv (pv 1)) xe_int (fun h h2 => pe_ix ix_A h h2 (fun _ _ => rfl))) (fun h h2 => pe_op op_mulA h h2)) xl_nil (fun h h2 => pa_cons h h2)) (fun h h2 => pa_cons h h2)) (fun h => pe_callS (ok_fraction Fx) (hr.mono (by decide)) (by rfl) Fx.g_fraction Fx.F_fraction.kp Fx.b_fraction (fun σ => passAt (takes_of rfl rfl rfl rfl) σ) h)) (fun h => ps_ret h)))
theorem ok_Hold__taken_share : FnOk P w K mg base (L2.CX P w) 4 Fx.a_Hold__taken_share Fx.d_Hold__taken_share ["self", "room"] (spD (th P w Fx) 2 (sgS 2) f_Hold__taken_share) :=
  fn_okSR (N := N_Hold__taken_share) (B := m_Hold__taken_share) (Γ' := (ΓS 4)) (okRule_fun Fx.F_Hold__taken_share) sc_Hold__taken_share rfl (by decide) fun cdv A outer s H E hr =>
    (xb_cons (xs_set (i := 2) gp_s (xe_op ok_ix (xe_ofC (xc_at rfl (xp_ix rfl rfl (xp_fld Fx.fld_my_skies (xc_var (pv 0) rep_s) (fun h => pe_fld h rfl)) (xc_var (pv 1) rep_s) (fun h h2 => pe_ix ix_A h h2 (fun _ _ => rfl))))) xe_int (fun h h2 => pe_ix ix_A h h2 (fun _ _ => rfl))) (fun h => ps_set (i := 2) (sc_Hold__taken_share).nd rfl (Or.inl rfl) h) set_rep)
    (xb_cons (xs_forP (is := [3]) rfl rfl gp_s (passes_of rfl) rfl (xp_ix rfl rfl (xp_fld Fx.fld_my_flows (xc_var (pv 0) rep_s) (fun h => pe_fld h rfl)) (xc_var (pv 1) rep_s) (fun h h2 => pe_ix ix_A h h2 (fun _ _ => rfl))) (pg_name (i := 3) (sc_Hold__taken_share).nd rfl (Or.inl rfl)) (tg_name set_rep) (xbc_one (xsc_set (i := 2) gp_s (xc_call0 (ok_plus Fx) (fun i => by left; exact rep_s) (la1 (la1 la0)) (xcl_cons (xc_var (pv 2) rep_s) (xcl_cons (xc_var (pv 3) rep_s) xcl_nil (fun h h2 => pa_cons h h2)) (fun h h2 => pa_cons h h2)) (fun h => pe_callS (ok_plus Fx) (hr.mono (by decide)) (by rfl) Fx.g_plus Fx.F_plus.kp Fx.b_plus (fun σ => passAt (takes_of rfl rfl rfl rfl) σ) h)) (fun h => ps_set (i := 2) (sc_Hold__taken_share).nd rfl (Or.inl rfl) h) set_rep)) (fun ho => pi_list ho))
    (xb_one (xs_ret gp_s gp_s rfl (xv (pv 2)) (fun h => ps_ret h)))))
theorem ok_Hold__put_sky : FnOk P w K mg base (L2.CX P w) 6 Fx.a_Hold__put_sky Fx.d_Hold__put_sky ["self", "room", "share", "low", "high"] (spD (th P w Fx) 5 (sgS 5) f_Hold__put_sky) :=
  fn_okSR (N := N_Hold__put_sky) (B := m_Hold__put_sky) (Γ' := (ΓS 6)) (okRule_fun Fx.F_Hold__put_sky) sc_Hold__put_sky rfl (by decide) fun cdv A outer s H E hr =>
    (xb_cons (xs_drop gp_s (xe_of (xf_meth (bs := [false]) (dvs := []) (fun _ _ => .nil) sgS_rows (la1 la0) rfl (tbl_cons ⟨Fx.cl_Hold, _, Fx.M_Hold_ask_room, def1_ofD (ok_Hold__ask_room Fx) (hr.mono (by decide)) Fx.bd_Hold__ask_room_2⟩ tbl_nil) (xv (pv 0)) (xm_s (xv (pv 1)) xm_nil (fun h h2 => pa_cons h h2)) (fun ho M h => pe_methD ho M (fun σ => passAt (takes_of rfl rfl rfl rfl) σ) h))) (fun h => ps_expr h))
    (xb_cons (xs_if gp_s (xt_val (xe_callS (ok_under Fx) rfl (la1 (la1 la0)) (xl_cons (xv (pv 4)) (xl_cons (xv (pv 3)) xl_nil (fun h h2 => pa_cons h h2)) (fun h h2 => pa_cons h h2)) (fun h => pe_callS (ok_under Fx) (hr.mono (by decide)) (by rfl) Fx.g_under Fx.F_under.kp Fx.b_under (fun σ => passAt (takes_of rfl rfl rfl rfl) σ) h)) (fun h => .inl (pt_val h))) (xb_one (xs_no ps_never))
    xb_nil)
    (xb_cons (xs_set (i := 5) gp_s (xe_callS (ok_plus Fx) rfl (la1 (la1 la0)) (xl_cons (xe_callS (ok_minus Fx) rfl (la1 (la1 la0)) (xl_cons (xe_of (xf_meth (bs := [false]) (dvs := []) (fun _ _ => .nil) sgS_rows (la1 la0) rfl (tbl_cons ⟨Fx.cl_Hold, _, Fx.M_Hold_taken_share, def1_ofD (ok_Hold__taken_share Fx) (hr.mono (by decide)) Fx.bd_Hold__taken_share_2⟩ tbl_nil) (xv (pv 0)) (xm_s (xv (pv 1)) xm_nil (fun h h2 => pa_cons h h2)) (fun ho M h => pe_methD ho M (fun σ => passAt (takes_of rfl rfl rfl rfl) σ) h))) (xl_cons (xe_op ok_ix (xe_ofC (xc_at rfl (xp_ix rfl rfl (xp_fld Fx.fld_my_skies (xc_var (pv 0) rep_s) (fun h => pe_fld h rfl)) (xc_var (pv 1) rep_s) (fun h h2 => pe_ix ix_A h h2 (fun _ _ => rfl))))) xe_int (fun h h2 => pe_ix ix_A h h2 (fun _ _ => rfl))) xl_nil (fun h h2 => pa_cons h h2)) (fun h h2 => pa_cons h h2)) (fun h => pe_callS (ok_minus Fx) (hr.mono (by decide)) (by rfl) Fx.g_minus Fx.F_minus.kp Fx.b_minus (fun σ => passAt (takes_of rfl rfl rfl rfl) σ) h)) (xl_cons (xv (pv 2)) xl_nil (fun h h2 => pa_cons h h2)) (fun h h2 => pa_cons h h2)) (fun h => pe_callS (ok_plus Fx) (hr.mono (by decide)) (by rfl) Fx.g_plus Fx.F_plus.kp Fx.b_plus (fun σ => passAt (takes_of rfl rfl rfl rfl) σ) h)) (fun h => ps_set (i := 5) (sc_Hold__put_sky).nd rfl (Or.inl rfl) h) set_rep)
    (xb_cons (xs_if gp_s (PW.pt (xw_or (xt_val (xe_callS (ok_under Fx) rfl (la1 (la1 la0)) (xl_cons (xv (pv 2)) (xl_cons (xe_c (pe_glob (v := .ref Fx.av_NOUGHT) (by rfl) Fx.gv_NOUGHT rfl) (fun _ _ => shr_wrt (ns := [0, 1]) Fx.wv_NOUGHT)) xl_nil (fun h h2 => pa_cons h h2)) (fun h h2 => pa_cons h h2)) (fun h => pe_callS (ok_under Fx) (hr.mono (by decide)) (by rfl) Fx.g_under Fx.F_under.kp Fx.b_under (fun σ => passAt (takes_of rfl rfl rfl rfl) σ) h)) (fun h => .inl (pt_val h))) (xw_or1 (xt_val (xe_callS (ok_under Fx) rfl (la1 (la1 la0)) (xl_cons (xe_c (pe_glob (v := .ref Fx.av_ONE) (by rfl) Fx.gv_ONE rfl) (fun _ _ => shr_wrt (ns := [1, 1]) Fx.wv_ONE)) (xl_cons (xv (pv 5)) xl_nil (fun h h2 => pa_cons h h2)) (fun h h2 => pa_cons h h2)) (fun h => pe_callS (ok_under Fx) (hr.mono (by decide)) (by rfl) Fx.g_under Fx.F_under.kp Fx.b_under (fun σ => passAt (takes_of rfl rfl rfl rfl) σ) h)) (fun h => .inl (pt_val h)))))) (xb_one (xs_no ps_never))
    xb_nil)
    (xb_one (xs_pset rfl gp_s (xp_fld Fx.fld_my_skies (xc_var (pv 0) rep_s) (fun h => pe_fld h rfl)) (xc_var (pv 1) rep_s) (xe_tup (xl_cons (xv (pv 2)) (xl_cons (xv (pv 3)) (xl_cons (xv (pv 4)) xl_nil (fun h h2 => pa_cons h h2)) (fun h h2 => pa_cons h h2)) (fun h h2 => pa_cons h h2))) (fun hv ho hi => ps_asg hv (pg_sub ho hi set_list))))))))
theorem ok__law_ratio : FnOk P w K mg base (L2.CX P w) 1 Fx.a__law_ratio Fx.d__law_ratio ["_law_top", "_law_bottom"] (spD (th P w Fx) 2 (sgS 2) f__law_ratio) :=
  fn_okSR (N := N__law_ratio) (B := m__law_ratio) (Γ' := (ΓS 5)) (okRule_fun Fx.F__law_ratio) sc__law_ratio rfl (by decide) fun cdv A outer s H E hr =>
    (xb_cons (xs_set (i := 2) gp_s (xe_L ok_abs (xl_cons (xv (pv 0)) xl_nil (fun h h2 => pa_cons h h2)) (fun h => pe_callB call_abs (by rfl) Fx.z_abs PyProof.Rows.boot_abs h)) (fun h => ps_set (i := 2) (sc__law_ratio).nd rfl (Or.inl rfl) h) set_rep)
    (xb_cons (xs_set (i := 3) gp_s (xv (pv 1)) (fun h => ps_set (i := 3) (sc__law_ratio).nd rfl (Or.inl rfl) h) set_rep)
    (xb_cons (xs_while gp_s (passes_of rfl) (xt_op ok_gt (xv (pv 3)) xe_int (fun h h2 => pt_cmpR op_gt h h2 (nomark _))) (xb_cons (xs_set (i := 4) gp_s (xe_op ok_mod (xv (pv 2)) (xv (pv 3)) (fun h h2 => pe_op op_mod h h2)) (fun h => ps_set (i := 4) (sc__law_ratio).nd rfl (Or.inl rfl) h) set_rep)
    (xb_cons (xs_set (i := 2) gp_s (xv (pv 3)) (fun h => ps_set (i := 2) (sc__law_ratio).nd rfl (Or.inl rfl) h) set_rep)
    (xb_one (xs_set (i := 3) gp_s (xv (pv 4)) (fun h => ps_set (i := 3) (sc__law_ratio).nd rfl (Or.inl rfl) h) set_rep)))))
    (xb_one (xs_ret gp_s gp_s rfl (xe_tup (xl_cons (xe_op ok_div (xv (pv 0)) (xv (pv 2)) (fun h h2 => pe_op op_fdivA h h2)) (xl_cons (xe_op ok_div (xv (pv 1)) (xv (pv 2)) (fun h h2 => pe_op op_fdivA h h2)) xl_nil (fun h h2 => pa_cons h h2)) (fun h h2 => pa_cons h h2))) (fun h => ps_ret h))))))
theorem ok__law_warm : FnOk P w K mg base (L2.CX P w) 2 Fx.a__law_warm Fx.d__law_warm ["_law_num", "_law_parts", "_law_scale_here"] (spD (th P w Fx) 3 (sgS 3) f__law_warm) :=
  fn_okSR (N := N__law_warm) (B := m__law_warm) (Γ' := (ΓS 4)) (okRule_fun Fx.F__law_warm) sc__law_warm rfl (by decide) fun cdv A outer s H E hr =>
    (xb_cons (xs_set (i := 3) gp_s (xe_op ok_mul (xe_op ok_mul (xv (pv 0)) (xe_op ok_ix (xv (pv 2)) xe_int (fun h h2 => pe_ix ix_A h h2 (fun _ _ => rfl))) (fun h h2 => pe_op op_mulA h h2)) (xe_op ok_ix (xv (pv 2)) xe_int (fun h h2 => pe_ix ix_A h h2 (fun _ _ => rfl))) (fun h h2 => pe_op op_mulA h h2)) (fun h => ps_set (i := 3) (sc__law_warm).nd rfl (Or.inl rfl) h) set_rep)
    (xb_cons (xs_set (i := 3) gp_s (xe_op ok_add (xv (pv 3)) (xe_op ok_mul (xe_op ok_mul (xv (pv 1)) (xe_op ok_ix (xv (pv 2)) xe_int (fun h h2 => pe_ix ix_A h h2 (fun _ _ => rfl))) (fun h h2 => pe_op op_mulA h h2)) (xe_op ok_ix (xv (pv 2)) xe_int (fun h h2 => pe_ix ix_A h h2 (fun _ _ => rfl))) (fun h h2 => pe_op op_mulA h h2)) (fun h h2 => pe_op op_addA h h2)) (fun h => ps_set (i := 3) (sc__law_warm).nd rfl (Or.inl rfl) h) set_rep)
    (xb_one (xs_ret gp_s gp_s rfl (xe_callS (ok__law_ratio Fx) rfl (la1 (la1 la0)) (xl_cons (xv (pv 3)) (xl_cons (xe_op ok_mul (xe_op ok_mul (xv (pv 1)) (xe_op ok_ix (xv (pv 2)) xe_int (fun h h2 => pe_ix ix_A h h2 (fun _ _ => rfl))) (fun h h2 => pe_op op_mulA h h2)) (xe_op ok_ix (xv (pv 2)) xe_int (fun h h2 => pe_ix ix_A h h2 (fun _ _ => rfl))) (fun h h2 => pe_op op_mulA h h2)) xl_nil (fun h h2 => pa_cons h h2)) (fun h h2 => pa_cons h h2)) (fun h => pe_callS (ok__law_ratio Fx) (hr.mono (by decide)) (by rfl) Fx.g__law_ratio Fx.F__law_ratio.kp Fx.b__law_ratio (fun σ => passAt (takes_of rfl rfl rfl rfl) σ) h)) (fun h => ps_ret h)))))
theorem ok_Hold__put_stove : FnOk P w K mg base (L2.CX P w) 3 Fx.a_Hold__put_stove Fx.d_Hold__put_stove ["self", "room", "heat", "wood", "stay", "fails"] (spD (th P w Fx) 6 (sgS 6) f_Hold__put_stove) :=
  fn_okSR (N := N_Hold__put_stove) (B := m_Hold__put_stove) (Γ' := (ΓS 6)) (okRule_funD Fx.F_Hold__put_stove) sc_Hold__put_stove rfl (by decide) fun cdv A outer s H E hr =>
    (xb_cons (xs_drop gp_s (xe_of (xf_meth (bs := [false]) (dvs := []) (fun _ _ => .nil) sgS_rows (la1 la0) rfl (tbl_cons ⟨Fx.cl_Hold, _, Fx.M_Hold_ask_room, def1_ofD (ok_Hold__ask_room Fx) (hr.mono (by decide)) Fx.bd_Hold__ask_room_2⟩ tbl_nil) (xv (pv 0)) (xm_s (xv (pv 1)) xm_nil (fun h h2 => pa_cons h h2)) (fun ho M h => pe_methD ho M (fun σ => passAt (takes_of rfl rfl rfl rfl) σ) h))) (fun h => ps_expr h))
    (xb_cons (xs_if gp_s (PW.pt (xw_or (xt_val (xe_callS (ok_under Fx) rfl (la1 (la1 la0)) (xl_cons (xv (pv 2)) (xl_cons (xe_c (pe_glob (v := .ref Fx.av_NOUGHT) (by rfl) Fx.gv_NOUGHT rfl) (fun _ _ => shr_wrt (ns := [0, 1]) Fx.wv_NOUGHT)) xl_nil (fun h h2 => pa_cons h h2)) (fun h h2 => pa_cons h h2)) (fun h => pe_callS (ok_under Fx) (hr.mono (by decide)) (by rfl) Fx.g_under Fx.F_under.kp Fx.b_under (fun σ => passAt (takes_of rfl rfl rfl rfl) σ) h)) (fun h => .inl (pt_val h))) (xw_or (xt_not (xt_val (xe_callS (ok_is_bound Fx) rfl (la1 (la1 la0)) (xl_cons (xv (pv 3)) (xl_cons xe_int xl_nil (fun h h2 => pa_cons h h2)) (fun h h2 => pa_cons h h2)) (fun h => pe_callS (ok_is_bound Fx) (hr.mono (by decide)) (by rfl) Fx.g_is_bound Fx.F_is_bound.kp Fx.b_is_bound (fun σ => passAt (takes_of rfl rfl rfl rfl) σ) h)) (fun h => .inl (pt_val h)))) (xw_or (xt_not (xt_val (xe_callS (ok_is_bound Fx) rfl (la1 (la1 la0)) (xl_cons (xv (pv 4)) (xl_cons xe_int xl_nil (fun h h2 => pa_cons h h2)) (fun h h2 => pa_cons h h2)) (fun h => pe_callS (ok_is_bound Fx) (hr.mono (by decide)) (by rfl) Fx.g_is_bound Fx.F_is_bound.kp Fx.b_is_bound (fun σ => passAt (takes_of rfl rfl rfl rfl) σ) h)) (fun h => .inl (pt_val h)))) (xw_or1 (xt_not (xt_val (xe_callS (ok_is_bound Fx) rfl (la1 (la1 la0)) (xl_cons (xv (pv 5)) (xl_cons xe_int xl_nil (fun h h2 => pa_cons h h2)) (fun h h2 => pa_cons h h2)) (fun h => pe_callS (ok_is_bound Fx) (hr.mono (by decide)) (by rfl) Fx.g_is_bound Fx.F_is_bound.kp Fx.b_is_bound (fun σ => passAt (takes_of rfl rfl rfl rfl) σ) h)) (fun h => .inl (pt_val h))))))))) (xb_one (xs_no ps_never))
    xb_nil)
    (xb_one (xs_pset rfl gp_s (xp_fld Fx.fld_my_stoves (xc_var (pv 0) rep_s) (fun h => pe_fld h rfl)) (xc_var (pv 1) rep_s) (xe_tup (xl_cons (xv (pv 2)) (xl_cons (xv (pv 3)) (xl_cons (xv (pv 4)) (xl_cons (xv (pv 5)) xl_nil (fun h h2 => pa_cons h h2)) (fun h h2 => pa_cons h h2)) (fun h h2 => pa_cons h h2)) (fun h h2 => pa_cons h h2))) (fun hv ho hi => ps_asg hv (pg_sub ho hi set_list))))))
theorem ok_Hold__put_flow : FnOk P w K mg base (L2.CX P w) 6 Fx.a_Hold__put_flow Fx.d_Hold__put_flow ["self", "into", "of", "share"] (spD (th P w Fx) 4 (sgS 4) f_Hold__put_flow) :=
  fn_okSR (N := N_Hold__put_flow) (B := m_Hold__put_flow) (Γ' := (ΓS 5)) (okRule_fun Fx.F_Hold__put_flow) sc_Hold__put_flow rfl (by decide) fun cdv A outer s H E hr =>
    (xb_cons (xs_drop gp_s (xe_of (xf_meth (bs := [false]) (dvs := []) (fun _ _ => .nil) sgS_rows (la1 la0) rfl (tbl_cons ⟨Fx.cl_Hold, _, Fx.M_Hold_ask_room, def1_ofD (ok_Hold__ask_room Fx) (hr.mono (by decide)) Fx.bd_Hold__ask_room_2⟩ tbl_nil) (xv (pv 0)) (xm_s (xv (pv 1)) xm_nil (fun h h2 => pa_cons h h2)) (fun ho M h => pe_methD ho M (fun σ => passAt (takes_of rfl rfl rfl rfl) σ) h))) (fun h => ps_expr h))
    (xb_cons (xs_drop gp_s (xe_of (xf_meth (bs := [false]) (dvs := []) (fun _ _ => .nil) sgS_rows (la1 la0) rfl (tbl_cons ⟨Fx.cl_Hold, _, Fx.M_Hold_ask_room, def1_ofD (ok_Hold__ask_room Fx) (hr.mono (by decide)) Fx.bd_Hold__ask_room_2⟩ tbl_nil) (xv (pv 0)) (xm_s (xv (pv 2)) xm_nil (fun h h2 => pa_cons h h2)) (fun ho M h => pe_methD ho M (fun σ => passAt (takes_of rfl rfl rfl rfl) σ) h))) (fun h => ps_expr h))
    (xb_cons (xs_if gp_s (xt_op ok_eq (xv (pv 1)) (xv (pv 2)) (fun h h2 => pt_cmpR (op_eqD hr.units) h h2 (nomark _))) (xb_one (xs_no ps_never))
    xb_nil)
    (xb_cons (xs_set (i := 4) gp_s (xe_callS (ok_plus Fx) rfl (la1 (la1 la0)) (xl_cons (xe_callS (ok_minus Fx) rfl (la1 (la1 la0)) (xl_cons (xe_of (xf_meth (bs := [false]) (dvs := []) (fun _ _ => .nil) sgS_rows (la1 la0) rfl (tbl_cons ⟨Fx.cl_Hold, _, Fx.M_Hold_taken_share, def1_ofD (ok_Hold__taken_share Fx) (hr.mono (by decide)) Fx.bd_Hold__taken_share_2⟩ tbl_nil) (xv (pv 0)) (xm_s (xv (pv 1)) xm_nil (fun h h2 => pa_cons h h2)) (fun ho M h => pe_methD ho M (fun σ => passAt (takes_of rfl rfl rfl rfl) σ) h))) (xl_cons (xe_ofC (xc_at rfl (xp_ix rfl rfl (xp_ix rfl rfl (xp_fld Fx.fld_my_flows (xc_var (pv 0) rep_s) (fun h => pe_fld h rfl)) (xc_var (pv 1) rep_s) (fun h h2 => pe_ix ix_A h h2 (fun _ _ => rfl))) (xc_var (pv 2) rep_s) (fun h h2 => pe_ix ix_A h h2 (fun _ _ => rfl))))) xl_nil (fun h h2 => pa_cons h h2)) (fun h h2 => pa_cons h h2)) (fun h => pe_callS (ok_minus Fx) (hr.mono (by decide)) (by rfl) Fx.g_minus Fx.F_minus.kp Fx.b_minus (fun σ => passAt (takes_of rfl rfl rfl rfl) σ) h)) (xl_cons (xv (pv 3)) xl_nil (fun h h2 => pa_cons h h2)) (fun h h2 => pa_cons h h2)) (fun h => pe_callS (ok_plus Fx) (hr.mono (by decide)) (by rfl) Fx.g_plus Fx.F_plus.kp Fx.b_plus (fun σ => passAt (takes_of rfl rfl rfl rfl) σ) h)) (fun h => ps_set (i := 4) (sc_Hold__put_flow).nd rfl (Or.inl rfl) h) set_rep)
    (xb_cons (xs_if gp_s (PW.pt (xw_or (xt_val (xe_callS (ok_under Fx) rfl (la1 (la1 la0)) (xl_cons (xv (pv 3)) (xl_cons (xe_c (pe_glob (v := .ref Fx.av_NOUGHT) (by rfl) Fx.gv_NOUGHT rfl) (fun _ _ => shr_wrt (ns := [0, 1]) Fx.wv_NOUGHT)) xl_nil (fun h h2 => pa_cons h h2)) (fun h h2 => pa_cons h h2)) (fun h => pe_callS (ok_under Fx) (hr.mono (by decide)) (by rfl) Fx.g_under Fx.F_under.kp Fx.b_under (fun σ => passAt (takes_of rfl rfl rfl rfl) σ) h)) (fun h => .inl (pt_val h))) (xw_or1 (xt_val (xe_callS (ok_under Fx) rfl (la1 (la1 la0)) (xl_cons (xe_c (pe_glob (v := .ref Fx.av_ONE) (by rfl) Fx.gv_ONE rfl) (fun _ _ => shr_wrt (ns := [1, 1]) Fx.wv_ONE)) (xl_cons (xv (pv 4)) xl_nil (fun h h2 => pa_cons h h2)) (fun h h2 => pa_cons h h2)) (fun h => pe_callS (ok_under Fx) (hr.mono (by decide)) (by rfl) Fx.g_under Fx.F_under.kp Fx.b_under (fun σ => passAt (takes_of rfl rfl rfl rfl) σ) h)) (fun h => .inl (pt_val h)))))) (xb_one (xs_no ps_never))
    xb_nil)
    (xb_one (xs_pset rfl gp_s (xp_ix rfl rfl (xp_fld Fx.fld_my_flows (xc_var (pv 0) rep_s) (fun h => pe_fld h rfl)) (xc_var (pv 1) rep_s) (fun h h2 => pe_ix ix_A h h2 (fun _ _ => rfl))) (xc_var (pv 2) rep_s) (xv (pv 3)) (fun hv ho hi => ps_asg hv (pg_sub ho hi set_list)))))))))
theorem ok__law_built : FnOk P w K mg base (L2.CX P w) 8 Fx.a__law_built Fx.d__law_built ["_law_told"] (spD (th P w Fx) 1 (sgS 1) f__law_built) :=
  fn_okSR (N := N__law_built) (B := m__law_built) (Γ' := (ΓS 10)) (okRule_fun Fx.F__law_built) sc__law_built rfl (by decide) fun cdv A outer s H E hr =>
    (xb_cons (xs_set (i := 1) gp_s (xe_op ok_ixD (xv (pv 0)) xe_str (fun h h2 => pe_ix (ix_AD (room16 hr)) h h2 (fun _ _ => rfl))) (fun h => ps_set (i := 1) (sc__law_built).nd rfl (Or.inl rfl) h) set_rep)
    (xb_cons (xs_set (i := 2) gp_s (xe_op ok_ixD (xv (pv 0)) xe_str (fun h h2 => pe_ix (ix_AD (room16 hr)) h h2 (fun _ _ => rfl))) (fun h => ps_set (i := 2) (sc__law_built).nd rfl (Or.inr rfl) h) set_rep)
    (xb_cons (xs_set (i := 3) gp_s (xe_make (c := 0) (bs := [false, false, false]) (dvs := []) (fun _ _ => .nil) sgS_rows (la1 (la1 (la1 la0))) rfl (xm_s (xe_op ok_ix (xv (pv 1)) xe_int (fun h h2 => pe_ix ix_A h h2 (fun _ _ => rfl))) (xm_s (xe_op ok_ix (xv (pv 1)) xe_int (fun h h2 => pe_ix ix_A h h2 (fun _ _ => rfl))) (xm_s (xe_op ok_ix (xv (pv 1)) xe_int (fun h h2 => pe_ix ix_A h h2 (fun _ _ => rfl))) xm_nil (fun h h2 => pa_cons h h2)) (fun h h2 => pa_cons h h2)) (fun h h2 => pa_cons h h2)) (fun h => pe_makeD1 Fx.mk_Hold (def1_ofD (ok_Hold____init__ Fx) (hr.mono (by decide)) Fx.bd_Hold____init___4) (by rfl) Fx.gc_Hold (fun σ => passAt (takes_of rfl rfl rfl rfl) σ) h)) (fun h => ps_set (i := 3) (sc__law_built).nd rfl (Or.inl rfl) h) set_rep)
    (xb_cons (xs_for (is := [4]) gp_s (passes_of rfl) rfl (xi_seq rfl (xe_op ok_ixD (xv (pv 0)) xe_str (fun h h2 => pe_ix (ix_AD (room16 hr)) h h2 (fun _ _ => rfl)))) (pg_name (i := 4) (sc__law_built).nd rfl (Or.inl rfl)) (tg_name set_rep) (xb_one (xs_drop gp_s (xe_of (xf_meth (bs := [false]) (dvs := []) (fun _ _ => .nil) sgS_rows (la1 la0) rfl (tbl_cons ⟨Fx.cl_Hold, _, Fx.M_Hold_put_room, def1_ofD (ok_Hold__put_room Fx) (hr.mono (by decide)) Fx.bd_Hold__put_room_2⟩ tbl_nil) (xv (pv 3)) (xm_s (xe_lc (own := [("_law_num", 9)]) (is := [9]) rfl (sc__law_built).nd (xi_seq rfl (xv (pv 4))) (blkOk_by (own := [("_law_num", 9)]) (N := N__law_built) (sc := defScope s__law_built) (by decide +kernel)) (by decide) (fun _ _ _ _ _ => (pg_name (i := 9) (sc__law_built).nd rfl (Or.inl rfl))) (tg_name set_rep) (fun _ _ _ _ _ => xts_nil) (fun _ _ _ _ _ => (xe_callS (ok__law_warm Fx) rfl (la1 (la1 (la1 la0))) (xl_cons (xv (pv 9)) (xl_cons xe_int (xl_cons (xv (pv 2)) xl_nil (fun h h2 => pa_cons h h2)) (fun h h2 => pa_cons h h2)) (fun h h2 => pa_cons h h2)) (fun h => pe_callS (ok__law_warm Fx) (hr.mono (by decide)) (by rfl) Fx.g__law_warm Fx.F__law_warm.kp Fx.b__law_warm (fun σ => passAt takes0 σ) h)))) xm_nil (fun h h2 => pa_cons h h2)) (fun ho M h => pe_methD ho M (fun σ => passAt (takes_of rfl rfl rfl rfl) σ) h))) (fun h => ps_expr h))))
    (xb_cons (xs_for (is := [5]) gp_s (passes_of rfl) rfl (xi_range1 (xl_cons (xe_L ok_len (xl_cons (xe_op ok_ixD (xv (pv 0)) xe_str (fun h h2 => pe_ix (ix_AD (room16 hr)) h h2 (fun _ _ => rfl))) xl_nil (fun h h2 => pa_cons h h2)) (fun h => pe_callB call_lenA (by rfl) Fx.z_len PySem.boot_len h)) xl_nil (fun h h2 => pa_cons h h2)) (fun h => pi_range1 (by rfl) Fx.z_range h)) (pg_name (i := 5) (sc__law_built).nd rfl (Or.inl rfl)) (tg_name set_rep) (xb_cons (xs_set (i := 6) gp_s (xe_op ok_ix (xe_op ok_ixD (xv (pv 0)) xe_str (fun h h2 => pe_ix (ix_AD (room16 hr)) h h2 (fun _ _ => rfl))) (xv (pv 5)) (fun h h2 => pe_ix ix_A h h2 (fun _ _ => rfl))) (fun h => ps_set (i := 6) (sc__law_built).nd rfl (Or.inl rfl) h) set_rep)
    (xb_cons (xs_drop gp_s (xe_of (xf_meth (bs := [false, false, false, false]) (dvs := []) (fun _ _ => .nil) sgS_rows (la1 (la1 (la1 (la1 la0)))) rfl (tbl_cons ⟨Fx.cl_Hold, _, Fx.M_Hold_put_sky, def1_ofD (ok_Hold__put_sky Fx) (hr.mono (by decide)) Fx.bd_Hold__put_sky_5⟩ tbl_nil) (xv (pv 3)) (xm_s (xv (pv 5)) (xm_s (xe_callS (ok__law_ratio Fx) rfl (la1 (la1 la0)) (xl_cons (xe_op ok_ix (xv (pv 6)) xe_int (fun h h2 => pe_ix ix_A h h2 (fun _ _ => rfl))) (xl_cons xe_int xl_nil (fun h h2 => pa_cons h h2)) (fun h h2 => pa_cons h h2)) (fun h => pe_callS (ok__law_ratio Fx) (hr.mono (by decide)) (by rfl) Fx.g__law_ratio Fx.F__law_ratio.kp Fx.b__law_ratio (fun σ => passAt (takes_of rfl rfl rfl rfl) σ) h)) (xm_s (xe_callS (ok__law_warm Fx) rfl (la1 (la1 (la1 la0))) (xl_cons (xe_op ok_ix (xv (pv 6)) xe_int (fun h h2 => pe_ix ix_A h h2 (fun _ _ => rfl))) (xl_cons xe_int (xl_cons (xv (pv 2)) xl_nil (fun h h2 => pa_cons h h2)) (fun h h2 => pa_cons h h2)) (fun h h2 => pa_cons h h2)) (fun h => pe_callS (ok__law_warm Fx) (hr.mono (by decide)) (by rfl) Fx.g__law_warm Fx.F__law_warm.kp Fx.b__law_warm (fun σ => passAt (takes_of rfl rfl rfl rfl) σ) h)) (xm_s (xe_callS (ok__law_warm Fx) rfl (la1 (la1 (la1 la0))) (xl_cons (xe_op ok_ix (xv (pv 6)) xe_int (fun h h2 => pe_ix ix_A h h2 (fun _ _ => rfl))) (xl_cons xe_int (xl_cons (xv (pv 2)) xl_nil (fun h h2 => pa_cons h h2)) (fun h h2 => pa_cons h h2)) (fun h h2 => pa_cons h h2)) (fun h => pe_callS (ok__law_warm Fx) (hr.mono (by decide)) (by rfl) Fx.g__law_warm Fx.F__law_warm.kp Fx.b__law_warm (fun σ => passAt (takes_of rfl rfl rfl rfl) σ) h)) xm_nil (fun h h2 => pa_cons h h2)) (fun h h2 => pa_cons h h2)) (fun h h2 => pa_cons h h2)) (fun h h2 => pa_cons h h2)) (fun ho M h => pe_methD ho M (fun σ => passAt (takes_of rfl rfl rfl rfl) σ) h))) (fun h => ps_expr h))
    (xb_cons (xs_set (i := 7) gp_s (xe_op ok_ix (xe_op ok_ixD (xv (pv 0)) xe_str (fun h h2 => pe_ix (ix_AD (room16 hr)) h h2 (fun _ _ => rfl))) (xv (pv 5)) (fun h h2 => pe_ix ix_A h h2 (fun _ _ => rfl))) (fun h => ps_set (i := 7) (sc__law_built).nd rfl (Or.inl rfl) h) set_rep)
    (xb_cons (xs_if gp_s (xt_op ok_notN (xv (pv 7)) xe_non (fun h h2 => pt_cmpR op_notN h h2 (nomark _))) (xb_one (xs_drop gp_s (xe_of (xf_meth (bs := [false, false, false, false, false]) (dvs := []) (fun _ _ => .nil) sgS_rows (la1 (la1 (la1 (la1 (la1 la0))))) rfl (tbl_cons ⟨Fx.cl_Hold, _, Fx.M_Hold_put_stove, def1_ofD (ok_Hold__put_stove Fx) (hr.mono (by decide)) Fx.bd_Hold__put_stove_6⟩ tbl_nil) (xv (pv 3)) (xm_s (xv (pv 5)) (xm_s (xe_callS (ok__law_ratio Fx) rfl (la1 (la1 la0)) (xl_cons (xe_op ok_mul (xe_op ok_ix (xv (pv 7)) xe_int (fun h h2 => pe_ix ix_A h h2 (fun _ _ => rfl))) (xe_op ok_ix (xv (pv 2)) xe_int (fun h h2 => pe_ix ix_A h h2 (fun _ _ => rfl))) (fun h h2 => pe_op op_mulA h h2)) (xl_cons (xe_op ok_ix (xv (pv 2)) xe_int (fun h h2 => pe_ix ix_A h h2 (fun _ _ => rfl))) xl_nil (fun h h2 => pa_cons h h2)) (fun h h2 => pa_cons h h2)) (fun h => pe_callS (ok__law_ratio Fx) (hr.mono (by decide)) (by rfl) Fx.g__law_ratio Fx.F__law_ratio.kp Fx.b__law_ratio (fun σ => passAt (takes_of rfl rfl rfl rfl) σ) h)) (xm_s (xe_op ok_ix (xv (pv 7)) xe_int (fun h h2 => pe_ix ix_A h h2 (fun _ _ => rfl))) (xm_s (xe_op ok_ix (xv (pv 7)) xe_int (fun h h2 => pe_ix ix_A h h2 (fun _ _ => rfl))) (xm_s (xe_op ok_ix (xv (pv 7)) xe_int (fun h h2 => pe_ix ix_A h h2 (fun _ _ => rfl))) xm_nil (fun h h2 => pa_cons h h2)) (fun h h2 => pa_cons h h2)) (fun h h2 => pa_cons h h2)) (fun h h2 => pa_cons h h2)) (fun h h2 => pa_cons h h2)) (fun ho M h => pe_methD ho M (fun σ => passAt (takes_of rfl rfl rfl rfl) σ) h))) (fun h => ps_expr h)))
    xb_nil)
    (xb_one (xs_for (is := [8]) gp_s (passes_of rfl) rfl (xi_range1 (xl_cons (xe_L ok_len (xl_cons (xe_op ok_ixD (xv (pv 0)) xe_str (fun h h2 => pe_ix (ix_AD (room16 hr)) h h2 (fun _ _ => rfl))) xl_nil (fun h h2 => pa_cons h h2)) (fun h => pe_callB call_lenA (by rfl) Fx.z_len PySem.boot_len h)) xl_nil (fun h h2 => pa_cons h h2)) (fun h => pi_range1 (by rfl) Fx.z_range h)) (pg_name (i := 8) (sc__law_built).nd rfl (Or.inl rfl)) (tg_name set_rep) (xb_one (xs_if gp_s (xt_op ok_ne (xv (pv 8)) (xv (pv 5)) (fun h h2 => pt_cmpR (op_neD hr.units) h h2 (nomark _))) (xb_one (xs_drop gp_s (xe_of (xf_meth (bs := [false, false, false]) (dvs := []) (fun _ _ => .nil) sgS_rows (la1 (la1 (la1 la0))) rfl (tbl_cons ⟨Fx.cl_Hold, _, Fx.M_Hold_put_flow, def1_ofD (ok_Hold__put_flow Fx) (hr.mono (by decide)) Fx.bd_Hold__put_flow_4⟩ tbl_nil) (xv (pv 3)) (xm_s (xv (pv 5)) (xm_s (xv (pv 8)) (xm_s (xe_callS (ok__law_ratio Fx) rfl (la1 (la1 la0)) (xl_cons (xe_op ok_ixD (xe_op ok_ixD (xv (pv 0)) xe_str (fun h h2 => pe_ix (ix_AD (room16 hr)) h h2 (fun _ _ => rfl))) (xe_tup (xl_cons (xv (pv 5)) (xl_cons (xv (pv 8)) xl_nil (fun h h2 => pa_cons h h2)) (fun h h2 => pa_cons h h2))) (fun h h2 => pe_ix (ix_AD (room16 hr)) h h2 (fun _ _ => rfl))) (xl_cons xe_int xl_nil (fun h h2 => pa_cons h h2)) (fun h h2 => pa_cons h h2)) (fun h => pe_callS (ok__law_ratio Fx) (hr.mono (by decide)) (by rfl) Fx.g__law_ratio Fx.F__law_ratio.kp Fx.b__law_ratio (fun σ => passAt (takes_of rfl rfl rfl rfl) σ) h)) xm_nil (fun h h2 => pa_cons h h2)) (fun h h2 => pa_cons h h2)) (fun h h2 => pa_cons h h2)) (fun ho M h => pe_methD ho M (fun σ => passAt (takes_of rfl rfl rfl rfl) σ) h))) (fun h => ps_expr h)))
    xb_nil)))))))))
    (xb_one (xs_ret gp_s gp_s rfl (xv (pv 3)) (fun h => ps_ret h))))))))
theorem ok_Hold__many : FnOk P w K mg base (L2.CX P w) 1 Fx.a_Hold__many Fx.d_Hold__many ["self"] (spD (th P w Fx) 1 (sgS 1) f_Hold__many) :=
  fn_okSR (N := N_Hold__many) (B := m_Hold__many) (Γ' := (ΓS 1)) (okRule_fun Fx.F_Hold__many) sc_Hold__many rfl (by decide) fun cdv A outer s H E hr =>
    (xb_one (xs_ret gp_s gp_s rfl (xe_ofC (xc_flat (xv_L ok_len (xvl_cons (xv_fld Fx.fld_my_marks (xc_var (pv 0) rep_s) (fun h => pe_fld h rfl)) xvl_nil (fun h h2 => pa_cons h h2)) (fun h => pe_callB call_lenA (by rfl) Fx.z_len PySem.boot_len h)))) (fun h => ps_ret h)))
theorem ok_Hold__marks : FnOk P w K mg base (L2.CX P w) 3 Fx.a_Hold__marks Fx.d_Hold__marks ["self", "room"] (spD (th P w Fx) 2 (sgS 2) f_Hold__marks) :=
  fn_okSR (N := N_Hold__marks) (B := m_Hold__marks) (Γ' := (ΓS 2)) (okRule_fun Fx.F_Hold__marks) sc_Hold__marks rfl (by decide) fun cdv A outer s H E hr =>
    (xb_cons (xs_drop gp_s (xe_of (xf_meth (bs := [false]) (dvs := []) (fun _ _ => .nil) sgS_rows (la1 la0) rfl (tbl_cons ⟨Fx.cl_Hold, _, Fx.M_Hold_ask_room, def1_ofD (ok_Hold__ask_room Fx) (hr.mono (by decide)) Fx.bd_Hold__ask_room_2⟩ tbl_nil) (xv (pv 0)) (xm_s (xv (pv 1)) xm_nil (fun h h2 => pa_cons h h2)) (fun ho M h => pe_methD ho M (fun σ => passAt (takes_of rfl rfl rfl rfl) σ) h))) (fun h => ps_expr h))
    (xb_one (xs_ret gp_s gp_s rfl (xe_un ok_list (xe_ofC (xc_at rfl (xp_ix rfl rfl (xp_fld Fx.fld_my_marks (xc_var (pv 0) rep_s) (fun h => pe_fld h rfl)) (xc_var (pv 1) rep_s) (fun h h2 => pe_ix ix_A h h2 (fun _ _ => rfl))))) (fun h => pe_callTy call_list_of (by rfl) Fx.z_list PyProof.Rows.boot_list (pa_cons h pa_nil))) (fun h => ps_ret h))))
theorem ok_Hold__sky : FnOk P w K mg base (L2.CX P w) 3 Fx.a_Hold__sky Fx.d_Hold__sky ["self", "room"] (spD (th P w Fx) 2 (sgS 2) f_Hold__sky) :=
  fn_okSR (N := N_Hold__sky) (B := m_Hold__sky) (Γ' := (ΓS 2)) (okRule_fun Fx.F_Hold__sky) sc_Hold__sky rfl (by decide) fun cdv A outer s H E hr =>
    (xb_cons (xs_drop gp_s (xe_of (xf_meth (bs := [false]) (dvs := []) (fun _ _ => .nil) sgS_rows (la1 la0) rfl (tbl_cons ⟨Fx.cl_Hold, _, Fx.M_Hold_ask_room, def1_ofD (ok_Hold__ask_room Fx) (hr.mono (by decide)) Fx.bd_Hold__ask_room_2⟩ tbl_nil) (xv (pv 0)) (xm_s (xv (pv 1)) xm_nil (fun h h2 => pa_cons h h2)) (fun ho M h => pe_methD ho M (fun σ => passAt (takes_of rfl rfl rfl rfl) σ) h))) (fun h => ps_expr h))
    (xb_one (xs_ret gp_s gp_s rfl (xe_ofC (xc_at rfl (xp_ix rfl rfl (xp_fld Fx.fld_my_skies (xc_var (pv 0) rep_s) (fun h => pe_fld h rfl)) (xc_var (pv 1) rep_s) (fun h h2 => pe_ix ix_A h h2 (fun _ _ => rfl))))) (fun h => ps_ret h))))
theorem ok_Hold__stove : FnOk P w K mg base (L2.CX P w) 3 Fx.a_Hold__stove Fx.d_Hold__stove ["self", "room"] (spD (th P w Fx) 2 (sgS 2) f_Hold__stove) :=
  fn_okSR (N := N_Hold__stove) (B := m_Hold__stove) (Γ' := (ΓS 2)) (okRule_fun Fx.F_Hold__stove) sc_Hold__stove rfl (by decide) fun cdv A outer s H E hr =>
    (xb_cons (xs_drop gp_s (xe_of (xf_meth (bs := [false]) (dvs := []) (fun _ _ => .nil) sgS_rows (la1 la0) rfl (tbl_cons ⟨Fx.cl_Hold, _, Fx.M_Hold_ask_room, def1_ofD (ok_Hold__ask_room Fx) (hr.mono (by decide)) Fx.bd_Hold__ask_room_2⟩ tbl_nil) (xv (pv 0)) (xm_s (xv (pv 1)) xm_nil (fun h h2 => pa_cons h h2)) (fun ho M h => pe_methD ho M (fun σ => passAt (takes_of rfl rfl rfl rfl) σ) h))) (fun h => ps_expr h))
    (xb_one (xs_ret gp_s gp_s rfl (xe_ofC (xc_at rfl (xp_ix rfl rfl (xp_fld Fx.fld_my_stoves (xc_var (pv 0) rep_s) (fun h => pe_fld h rfl)) (xc_var (pv 1) rep_s) (fun h h2 => pe_ix ix_A h h2 (fun _ _ => rfl))))) (fun h => ps_ret h))))
theorem ok_Hold__share : FnOk P w K mg base (L2.CX P w) 6 Fx.a_Hold__share Fx.d_Hold__share ["self", "into", "of"] (spD (th P w Fx) 3 (sgS 3) f_Hold__share) :=
  fn_okSR (N := N_Hold__share) (B := m_Hold__share) (Γ' := (ΓS 3)) (okRule_fun Fx.F_Hold__share) sc_Hold__share rfl (by decide) fun cdv A outer s H E hr =>
    (xb_cons (xs_drop gp_s (xe_of (xf_meth (bs := [false]) (dvs := []) (fun _ _ => .nil) sgS_rows (la1 la0) rfl (tbl_cons ⟨Fx.cl_Hold, _, Fx.M_Hold_ask_room, def1_ofD (ok_Hold__ask_room Fx) (hr.mono (by decide)) Fx.bd_Hold__ask_room_2⟩ tbl_nil) (xv (pv 0)) (xm_s (xv (pv 1)) xm_nil (fun h h2 => pa_cons h h2)) (fun ho M h => pe_methD ho M (fun σ => passAt (takes_of rfl rfl rfl rfl) σ) h))) (fun h => ps_expr h))
    (xb_cons (xs_drop gp_s (xe_of (xf_meth (bs := [false]) (dvs := []) (fun _ _ => .nil) sgS_rows (la1 la0) rfl (tbl_cons ⟨Fx.cl_Hold, _, Fx.M_Hold_ask_room, def1_ofD (ok_Hold__ask_room Fx) (hr.mono (by decide)) Fx.bd_Hold__ask_room_2⟩ tbl_nil) (xv (pv 0)) (xm_s (xv (pv 2)) xm_nil (fun h h2 => pa_cons h h2)) (fun ho M h => pe_methD ho M (fun σ => passAt (takes_of rfl rfl rfl rfl) σ) h))) (fun h => ps_expr h))
    (xb_cons (xs_if gp_s (xt_op ok_eq (xv (pv 1)) (xv (pv 2)) (fun h h2 => pt_cmpR (op_eqD hr.units) h h2 (nomark _))) (xb_one (xs_ret gp_s gp_s rfl (xe_callS (ok_minus Fx) rfl (la1 (la1 la0)) (xl_cons (xe_c (pe_glob (v := .ref Fx.av_ONE) (by rfl) Fx.gv_ONE rfl) (fun _ _ => shr_wrt (ns := [1, 1]) Fx.wv_ONE)) (xl_cons (xe_of (xf_meth (bs := [false]) (dvs := []) (fun _ _ => .nil) sgS_rows (la1 la0) rfl (tbl_cons ⟨Fx.cl_Hold, _, Fx.M_Hold_taken_share, def1_ofD (ok_Hold__taken_share Fx) (hr.mono (by decide)) Fx.bd_Hold__taken_share_2⟩ tbl_nil) (xv (pv 0)) (xm_s (xv (pv 1)) xm_nil (fun h h2 => pa_cons h h2)) (fun ho M h => pe_methD ho M (fun σ => passAt (takes_of rfl rfl rfl rfl) σ) h))) xl_nil (fun h h2 => pa_cons h h2)) (fun h h2 => pa_cons h h2)) (fun h => pe_callS (ok_minus Fx) (hr.mono (by decide)) (by rfl) Fx.g_minus Fx.F_minus.kp Fx.b_minus (fun σ => passAt (takes_of rfl rfl rfl rfl) σ) h)) (fun h => ps_ret h)))
    xb_nil)
    (xb_one (xs_ret gp_s gp_s rfl (xe_ofC (xc_at rfl (xp_ix rfl rfl (xp_ix rfl rfl (xp_fld Fx.fld_my_flows (xc_var (pv 0) rep_s) (fun h => pe_fld h rfl)) (xc_var (pv 1) rep_s) (fun h h2 => pe_ix ix_A h h2 (fun _ _ => rfl))) (xc_var (pv 2) rep_s) (fun h h2 => pe_ix ix_A h h2 (fun _ _ => rfl))))) (fun h => ps_ret h))))))
theorem ok__law_seen : FnOk P w K mg base (L2.CX P w) 8 Fx.a__law_seen Fx.d__law_seen ["_law_hold"] (spD (th P w Fx) 1 (sgS 1) f__law_seen) :=
  fn_okSR (N := N__law_seen) (B := m__law_seen) (Γ' := (ΓS 4)) (okRule_fun Fx.F__law_seen) sc__law_seen rfl (by decide) fun cdv A outer s H E hr =>
    (xb_cons (xs_own (Γ' := [.s, .o 1, .s, .s]) (i := 1) (k := 1) gp_s (by decide) (xf_lst (xl_cons (xe_of (xf_meth (bs := []) (dvs := []) (fun _ _ => .nil) sgS_rows la0 rfl (tbl_cons ⟨Fx.cl_Hold, _, Fx.M_Hold_many, def1_ofD (ok_Hold__many Fx) (hr.mono (by decide)) Fx.bd_Hold__many_1⟩ tbl_nil) (xv (pv 0)) xm_nil (fun ho M h => pe_meth_nil (pe_methD0 ho M (fun σ => passAt (takes_of rfl rfl rfl rfl) σ))))) xl_nil (fun h h2 => pa_cons h h2))) (fun h => ps_set (i := 1) (sc__law_seen).nd rfl (Or.inl rfl) h) rfl)
    (xb_cons (xs_for (is := [2]) gp_s (passes_of rfl) rfl (xi_range1 (xl_cons (xe_of (xf_meth (bs := []) (dvs := []) (fun _ _ => .nil) sgS_rows la0 rfl (tbl_cons ⟨Fx.cl_Hold, _, Fx.M_Hold_many, def1_ofD (ok_Hold__many Fx) (hr.mono (by decide)) Fx.bd_Hold__many_1⟩ tbl_nil) (xe_var (pv 0) rfl) xm_nil (fun ho M h => pe_meth_nil (pe_methD0 ho M (fun σ => passAt (takes_of rfl rfl rfl rfl) σ))))) xl_nil (fun h h2 => pa_cons h h2)) (fun h => pi_range1 (by rfl) Fx.z_range h)) (pg_name (i := 2) (sc__law_seen).nd rfl (Or.inr rfl)) (tg_name rfl) (xb_cons (xs_mut (i := 1) rfl gp_s trivial ok_append (xl_cons (xe_tup (xl_cons (xe_of (xf_meth (bs := [false]) (dvs := []) (fun _ _ => .nil) sgS_rows (la1 la0) rfl (tbl_cons ⟨Fx.cl_Hold, _, Fx.M_Hold_marks, def1_ofD (ok_Hold__marks Fx) (hr.mono (by decide)) Fx.bd_Hold__marks_2⟩ tbl_nil) (xe_var (pv 0) rfl) (xm_s (xe_var (pv 2) rfl) xm_nil (fun h h2 => pa_cons h h2)) (fun ho M h => pe_methD ho M (fun σ => passAt (takes_of rfl rfl rfl rfl) σ) h))) (xl_cons (xe_of (xf_meth (bs := [false]) (dvs := []) (fun _ _ => .nil) sgS_rows (la1 la0) rfl (tbl_cons ⟨Fx.cl_Hold, _, Fx.M_Hold_sky, def1_ofD (ok_Hold__sky Fx) (hr.mono (by decide)) Fx.bd_Hold__sky_2⟩ tbl_nil) (xe_var (pv 0) rfl) (xm_s (xe_var (pv 2) rfl) xm_nil (fun h h2 => pa_cons h h2)) (fun ho M h => pe_methD ho M (fun σ => passAt (takes_of rfl rfl rfl rfl) σ) h))) (xl_cons (xe_of (xf_meth (bs := [false]) (dvs := []) (fun _ _ => .nil) sgS_rows (la1 la0) rfl (tbl_cons ⟨Fx.cl_Hold, _, Fx.M_Hold_stove, def1_ofD (ok_Hold__stove Fx) (hr.mono (by decide)) Fx.bd_Hold__stove_2⟩ tbl_nil) (xe_var (pv 0) rfl) (xm_s (xe_var (pv 2) rfl) xm_nil (fun h h2 => pa_cons h h2)) (fun ho M h => pe_methD ho M (fun σ => passAt (takes_of rfl rfl rfl rfl) σ) h))) xl_nil (fun h h2 => pa_cons h h2)) (fun h h2 => pa_cons h h2)) (fun h h2 => pa_cons h h2))) xl_nil (fun h h2 => pa_cons h h2)) (fun h => ps_expr (pe_bm PySem.F.plainAttrs_list PySem.F.slot_list_append PySem.F.type_list_append mt_append (pv 1) h)))
    (xb_one (xs_mut (i := 1) rfl gp_s trivial ok_append (xl_cons (xe_lc (own := [("_law_of", 3)]) (is := [3]) rfl (sc__law_seen).nd (xi_range1 (xl_cons (xe_of (xf_meth (bs := []) (dvs := []) (fun _ _ => .nil) sgS_rows la0 rfl (tbl_cons ⟨Fx.cl_Hold, _, Fx.M_Hold_many, def1_ofD (ok_Hold__many Fx) (hr.mono (by decide)) Fx.bd_Hold__many_1⟩ tbl_nil) (xe_var (pv 0) rfl) xm_nil (fun ho M h => pe_meth_nil (pe_methD0 ho M (fun σ => passAt (takes_of rfl rfl rfl rfl) σ))))) xl_nil (fun h h2 => pa_cons h h2)) (fun h => pi_range1 (by rfl) Fx.z_range h)) (blkOk_by (own := [("_law_of", 3)]) (N := N__law_seen) (sc := defScope s__law_seen) (by decide +kernel)) (by decide) (fun _ _ _ _ _ => (pg_name (i := 3) (sc__law_seen).nd rfl (Or.inl rfl))) (tg_name rfl) (fun _ _ _ _ _ => xts_nil) (fun _ _ _ _ _ => (xe_of (xf_meth (bs := [false, false]) (dvs := []) (fun _ _ => .nil) sgS_rows (la1 (la1 la0)) rfl (tbl_cons ⟨Fx.cl_Hold, _, Fx.M_Hold_share, def1_ofD (ok_Hold__share Fx) (hr.mono (by decide)) Fx.bd_Hold__share_3⟩ tbl_nil) (xe_var (pv 0) rfl) (xm_s (xe_var (pv 2) rfl) (xm_s (xe_var (pv 3) rfl) xm_nil (fun h h2 => pa_cons h h2)) (fun h h2 => pa_cons h h2)) (fun ho M h => pe_methD ho M (fun σ => passAt takes0 σ) h))))) xl_nil (fun h h2 => pa_cons h h2)) (fun h => ps_expr (pe_bm PySem.F.plainAttrs_list PySem.F.slot_list_append PySem.F.type_list_append mt_append (pv 1) h))))))
    (xb_frz (i := 1) (k := 1) (Γ1 := (ΓS 4)) rfl rfl (xb_one (xs_ret gp_s gp_s rfl (xv (pv 1)) (fun h => ps_ret h))))))
theorem ok_hold_like : FnOk P w K mg base (L2.CX P w) 8 Fx.a_hold_like Fx.d_hold_like ["hold", "most", "cap", "load"] (spD (th P w Fx) 4 (sgS 4) f_hold_like) :=
  fn_okSR (N := N_hold_like) (B := m_hold_like) (Γ' := (ΓS 9)) (okRule_funD Fx.F_hold_like) sc_hold_like rfl (by decide) fun cdv A outer s H E hr =>
    (xb_cons (xs_if gp_s (xt_op ok_isN (xv (pv 1)) xe_non (fun h h2 => pt_cmpR op_isN h h2 (nomark _))) (xb_one (xs_set (i := 1) gp_s (xe_fld rfl rfl Fx.fld_most (xv (pv 0)) (fun h => pe_fld h rfl)) (fun h => ps_set (i := 1) (sc_hold_like).nd rfl (Or.inl rfl) h) set_rep))
    xb_nil)
    (xb_cons (xs_if gp_s (xt_op ok_isN (xv (pv 2)) xe_non (fun h h2 => pt_cmpR op_isN h h2 (nomark _))) (xb_one (xs_set (i := 2) gp_s (xe_fld rfl rfl Fx.fld_cap (xv (pv 0)) (fun h => pe_fld h rfl)) (fun h => ps_set (i := 2) (sc_hold_like).nd rfl (Or.inl rfl) h) set_rep))
    xb_nil)
    (xb_cons (xs_if gp_s (xt_op ok_isN (xv (pv 3)) xe_non (fun h h2 => pt_cmpR op_isN h h2 (nomark _))) (xb_one (xs_set (i := 3) gp_s (xe_fld rfl rfl Fx.fld_load (xv (pv 0)) (fun h => pe_fld h rfl)) (fun h => ps_set (i := 3) (sc_hold_like).nd rfl (Or.inl rfl) h) set_rep))
    xb_nil)
    (xb_cons (xs_set (i := 4) gp_s (xe_make (c := 0) (bs := [false, false, false]) (dvs := []) (fun _ _ => .nil) sgS_rows (la1 (la1 (la1 la0))) rfl (xm_s (xv (pv 1)) (xm_s (xv (pv 2)) (xm_s (xv (pv 3)) xm_nil (fun h h2 => pa_cons h h2)) (fun h h2 => pa_cons h h2)) (fun h h2 => pa_cons h h2)) (fun h => pe_makeD1 Fx.mk_Hold (def1_ofD (ok_Hold____init__ Fx) (hr.mono (by decide)) Fx.bd_Hold____init___4) (by rfl) Fx.gc_Hold (fun σ => passAt (takes_of rfl rfl rfl rfl) σ) h)) (fun h => ps_set (i := 4) (sc_hold_like).nd rfl (Or.inl rfl) h) set_rep)
    (xb_cons (xs_for (is := [5]) gp_s (passes_of rfl) rfl (xi_range1 (xl_cons (xe_of (xf_meth (bs := []) (dvs := []) (fun _ _ => .nil) sgS_rows la0 rfl (tbl_cons ⟨Fx.cl_Hold, _, Fx.M_Hold_many, def1_ofD (ok_Hold__many Fx) (hr.mono (by decide)) Fx.bd_Hold__many_1⟩ tbl_nil) (xv (pv 0)) xm_nil (fun ho M h => pe_meth_nil (pe_methD0 ho M (fun σ => passAt (takes_of rfl rfl rfl rfl) σ))))) xl_nil (fun h h2 => pa_cons h h2)) (fun h => pi_range1 (by rfl) Fx.z_range h)) (pg_name (i := 5) (sc_hold_like).nd rfl (Or.inl rfl)) (tg_name set_rep) (xb_one (xs_drop gp_s (xe_of (xf_meth (bs := [false]) (dvs := []) (fun _ _ => .nil) sgS_rows (la1 la0) rfl (tbl_cons ⟨Fx.cl_Hold, _, Fx.M_Hold_put_room, def1_ofD (ok_Hold__put_room Fx) (hr.mono (by decide)) Fx.bd_Hold__put_room_2⟩ tbl_nil) (xv (pv 4)) (xm_s (xe_of (xf_meth (bs := [false]) (dvs := []) (fun _ _ => .nil) sgS_rows (la1 la0) rfl (tbl_cons ⟨Fx.cl_Hold, _, Fx.M_Hold_marks, def1_ofD (ok_Hold__marks Fx) (hr.mono (by decide)) Fx.bd_Hold__marks_2⟩ tbl_nil) (xv (pv 0)) (xm_s (xv (pv 5)) xm_nil (fun h h2 => pa_cons h h2)) (fun ho M h => pe_methD ho M (fun σ => passAt (takes_of rfl rfl rfl rfl) σ) h))) xm_nil (fun h h2 => pa_cons h h2)) (fun ho M h => pe_methD ho M (fun σ => passAt (takes_of rfl rfl rfl rfl) σ) h))) (fun h => ps_expr h))))
    (xb_cons (xs_for (is := [5]) gp_s (passes_of rfl) rfl (xi_range1 (xl_cons (xe_of (xf_meth (bs := []) (dvs := []) (fun _ _ => .nil) sgS_rows la0 rfl (tbl_cons ⟨Fx.cl_Hold, _, Fx.M_Hold_many, def1_ofD (ok_Hold__many Fx) (hr.mono (by decide)) Fx.bd_Hold__many_1⟩ tbl_nil) (xv (pv 0)) xm_nil (fun ho M h => pe_meth_nil (pe_methD0 ho M (fun σ => passAt (takes_of rfl rfl rfl rfl) σ))))) xl_nil (fun h h2 => pa_cons h h2)) (fun h => pi_range1 (by rfl) Fx.z_range h)) (pg_name (i := 5) (sc_hold_like).nd rfl (Or.inl rfl)) (tg_name set_rep) (xb_cons (xs_set (i := 6) gp_s (xe_of (xf_meth (bs := [false]) (dvs := []) (fun _ _ => .nil) sgS_rows (la1 la0) rfl (tbl_cons ⟨Fx.cl_Hold, _, Fx.M_Hold_sky, def1_ofD (ok_Hold__sky Fx) (hr.mono (by decide)) Fx.bd_Hold__sky_2⟩ tbl_nil) (xv (pv 0)) (xm_s (xv (pv 5)) xm_nil (fun h h2 => pa_cons h h2)) (fun ho M h => pe_methD ho M (fun σ => passAt (takes_of rfl rfl rfl rfl) σ) h))) (fun h => ps_set (i := 6) (sc_hold_like).nd rfl (Or.inl rfl) h) set_rep)
    (xb_cons (xs_drop gp_s (xe_of (xf_meth (bs := [false, false, false, false]) (dvs := []) (fun _ _ => .nil) sgS_rows (la1 (la1 (la1 (la1 la0)))) rfl (tbl_cons ⟨Fx.cl_Hold, _, Fx.M_Hold_put_sky, def1_ofD (ok_Hold__put_sky Fx) (hr.mono (by decide)) Fx.bd_Hold__put_sky_5⟩ tbl_nil) (xv (pv 4)) (xm_s (xv (pv 5)) (xm_s (xe_op ok_ix (xv (pv 6)) xe_int (fun h h2 => pe_ix ix_A h h2 (fun _ _ => rfl))) (xm_s (xe_op ok_ix (xv (pv 6)) xe_int (fun h h2 => pe_ix ix_A h h2 (fun _ _ => rfl))) (xm_s (xe_op ok_ix (xv (pv 6)) xe_int (fun h h2 => pe_ix ix_A h h2 (fun _ _ => rfl))) xm_nil (fun h h2 => pa_cons h h2)) (fun h h2 => pa_cons h h2)) (fun h h2 => pa_cons h h2)) (fun h h2 => pa_cons h h2)) (fun ho M h => pe_methD ho M (fun σ => passAt (takes_of rfl rfl rfl rfl) σ) h))) (fun h => ps_expr h))
    (xb_cons (xs_for (is := [7]) gp_s (passes_of rfl) rfl (xi_range1 (xl_cons (xe_of (xf_meth (bs := []) (dvs := []) (fun _ _ => .nil) sgS_rows la0 rfl (tbl_cons ⟨Fx.cl_Hold, _, Fx.M_Hold_many, def1_ofD (ok_Hold__many Fx) (hr.mono (by decide)) Fx.bd_Hold__many_1⟩ tbl_nil) (xv (pv 0)) xm_nil (fun ho M h => pe_meth_nil (pe_methD0 ho M (fun σ => passAt (takes_of rfl rfl rfl rfl) σ))))) xl_nil (fun h h2 => pa_cons h h2)) (fun h => pi_range1 (by rfl) Fx.z_range h)) (pg_name (i := 7) (sc_hold_like).nd rfl (Or.inl rfl)) (tg_name set_rep) (xb_one (xs_if gp_s (xt_op ok_ne (xv (pv 7)) (xv (pv 5)) (fun h h2 => pt_cmpR (op_neD hr.units) h h2 (nomark _))) (xb_one (xs_drop gp_s (xe_of (xf_meth (bs := [false, false, false]) (dvs := []) (fun _ _ => .nil) sgS_rows (la1 (la1 (la1 la0))) rfl (tbl_cons ⟨Fx.cl_Hold, _, Fx.M_Hold_put_flow, def1_ofD (ok_Hold__put_flow Fx) (hr.mono (by decide)) Fx.bd_Hold__put_flow_4⟩ tbl_nil) (xv (pv 4)) (xm_s (xv (pv 5)) (xm_s (xv (pv 7)) (xm_s (xe_of (xf_meth (bs := [false, false]) (dvs := []) (fun _ _ => .nil) sgS_rows (la1 (la1 la0)) rfl (tbl_cons ⟨Fx.cl_Hold, _, Fx.M_Hold_share, def1_ofD (ok_Hold__share Fx) (hr.mono (by decide)) Fx.bd_Hold__share_3⟩ tbl_nil) (xv (pv 0)) (xm_s (xv (pv 5)) (xm_s (xv (pv 7)) xm_nil (fun h h2 => pa_cons h h2)) (fun h h2 => pa_cons h h2)) (fun ho M h => pe_methD ho M (fun σ => passAt (takes_of rfl rfl rfl rfl) σ) h))) xm_nil (fun h h2 => pa_cons h h2)) (fun h h2 => pa_cons h h2)) (fun h h2 => pa_cons h h2)) (fun ho M h => pe_methD ho M (fun σ => passAt (takes_of rfl rfl rfl rfl) σ) h))) (fun h => ps_expr h)))
    xb_nil)))
    (xb_cons (xs_set (i := 8) gp_s (xe_of (xf_meth (bs := [false]) (dvs := []) (fun _ _ => .nil) sgS_rows (la1 la0) rfl (tbl_cons ⟨Fx.cl_Hold, _, Fx.M_Hold_stove, def1_ofD (ok_Hold__stove Fx) (hr.mono (by decide)) Fx.bd_Hold__stove_2⟩ tbl_nil) (xv (pv 0)) (xm_s (xv (pv 5)) xm_nil (fun h h2 => pa_cons h h2)) (fun ho M h => pe_methD ho M (fun σ => passAt (takes_of rfl rfl rfl rfl) σ) h))) (fun h => ps_set (i := 8) (sc_hold_like).nd rfl (Or.inl rfl) h) set_rep)
    (xb_one (xs_if gp_s (xt_op ok_notN (xv (pv 8)) xe_non (fun h h2 => pt_cmpR op_notN h h2 (nomark _))) (xb_one (xs_drop gp_s (xe_of (xf_meth (bs := [false, false, false, false, false]) (dvs := []) (fun _ _ => .nil) sgS_rows (la1 (la1 (la1 (la1 (la1 la0))))) rfl (tbl_cons ⟨Fx.cl_Hold, _, Fx.M_Hold_put_stove, def1_ofD (ok_Hold__put_stove Fx) (hr.mono (by decide)) Fx.bd_Hold__put_stove_6⟩ tbl_nil) (xv (pv 4)) (xm_s (xv (pv 5)) (xm_s (xe_op ok_ix (xv (pv 8)) xe_int (fun h h2 => pe_ix ix_A h h2 (fun _ _ => rfl))) (xm_s (xe_op ok_ix (xv (pv 8)) xe_int (fun h h2 => pe_ix ix_A h h2 (fun _ _ => rfl))) (xm_s (xe_op ok_ix (xv (pv 8)) xe_int (fun h h2 => pe_ix ix_A h h2 (fun _ _ => rfl))) (xm_s (xe_op ok_ix (xv (pv 8)) xe_int (fun h h2 => pe_ix ix_A h h2 (fun _ _ => rfl))) xm_nil (fun h h2 => pa_cons h h2)) (fun h h2 => pa_cons h h2)) (fun h h2 => pa_cons h h2)) (fun h h2 => pa_cons h h2)) (fun h h2 => pa_cons h h2)) (fun ho M h => pe_methD ho M (fun σ => passAt (takes_of rfl rfl rfl rfl) σ) h))) (fun h => ps_expr h)))
    xb_nil)))))))
    (xb_one (xs_ret gp_s gp_s rfl (xv (pv 4)) (fun h => ps_ret h)))))))))
theorem ok__law_changed : FnOk P w K mg base (L2.CX P w) 8 Fx.a__law_changed Fx.d__law_changed ["_law_hold", "_law_cell"] (spD (th P w Fx) 2 (sgS 2) f__law_changed) :=
  fn_okSR (N := N__law_changed) (B := m__law_changed) (Γ' := (ΓS 4)) (okRule_fun Fx.F__law_changed) sc__law_changed rfl (by decide) fun cdv A outer s H E hr =>
    (xb_cons (xs_set (i := 2) gp_s (xe_callS (ok__law_pick Fx) rfl (la1 (la1 (la1 la0))) (xl_cons (xv (pv 1)) (xl_cons xe_int (xl_cons xe_int xl_nil (fun h h2 => pa_cons h h2)) (fun h h2 => pa_cons h h2)) (fun h h2 => pa_cons h h2)) (fun h => pe_callS (ok__law_pick Fx) (hr.mono (by decide)) (by rfl) Fx.g__law_pick Fx.F__law_pick.kp Fx.b__law_pick (fun σ => passAt (takes_of rfl rfl rfl rfl) σ) h)) (fun h => ps_set (i := 2) (sc__law_changed).nd rfl (Or.inl rfl) h) set_rep)
    (xb_cons (xs_set (i := 3) gp_s (xe_callS (ok__law_pick Fx) rfl (la1 (la1 (la1 la0))) (xl_cons (xv (pv 1)) (xl_cons xe_int (xl_cons (xe_of (xf_meth (bs := []) (dvs := []) (fun _ _ => .nil) sgS_rows la0 rfl (tbl_cons ⟨Fx.cl_Hold, _, Fx.M_Hold_many, def1_ofD (ok_Hold__many Fx) (hr.mono (by decide)) Fx.bd_Hold__many_1⟩ tbl_nil) (xv (pv 0)) xm_nil (fun ho M h => pe_meth_nil (pe_methD0 ho M (fun σ => passAt (takes_of rfl rfl rfl rfl) σ))))) xl_nil (fun h h2 => pa_cons h h2)) (fun h h2 => pa_cons h h2)) (fun h h2 => pa_cons h h2)) (fun h => pe_callS (ok__law_pick Fx) (hr.mono (by decide)) (by rfl) Fx.g__law_pick Fx.F__law_pick.kp Fx.b__law_pick (fun σ => passAt (takes_of rfl rfl rfl rfl) σ) h)) (fun h => ps_set (i := 3) (sc__law_changed).nd rfl (Or.inl rfl) h) set_rep)
    (xb_one (xs_if gp_s (PW.pt (xw_and (xt_op ok_eq (xv (pv 2)) xe_int (fun h h2 => pt_cmpR (op_eqD hr.units) h h2 (nomark _))) (xw_and1 (xt_op ok_lt (xe_of (xf_meth (bs := []) (dvs := []) (fun _ _ => .nil) sgS_rows la0 rfl (tbl_cons ⟨Fx.cl_Hold, _, Fx.M_Hold_many, def1_ofD (ok_Hold__many Fx) (hr.mono (by decide)) Fx.bd_Hold__many_1⟩ tbl_nil) (xv (pv 0)) xm_nil (fun ho M h => pe_meth_nil (pe_methD0 ho M (fun σ => passAt (takes_of rfl rfl rfl rfl) σ))))) xe_int (fun h h2 => pt_cmpR op_lt h h2 (nomark _)))))) (xb_one (xs_drop gp_s (xe_of (xf_meth (bs := [false]) (dvs := []) (fun _ _ => .nil) sgS_rows (la1 la0) rfl (tbl_cons ⟨Fx.cl_Hold, _, Fx.M_Hold_put_room, def1_ofD (ok_Hold__put_room Fx) (hr.mono (by decide)) Fx.bd_Hold__put_room_2⟩ tbl_nil) (xv (pv 0)) (xm_s (xe_lst (xl_cons (xe_tup (xl_cons xe_int (xl_cons xe_int xl_nil (fun h h2 => pa_cons h h2)) (fun h h2 => pa_cons h h2))) (xl_cons (xe_tup (xl_cons xe_int (xl_cons xe_int xl_nil (fun h h2 => pa_cons h h2)) (fun h h2 => pa_cons h h2))) xl_nil (fun h h2 => pa_cons h h2)) (fun h h2 => pa_cons h h2))) xm_nil (fun h h2 => pa_cons h h2)) (fun ho M h => pe_methD ho M (fun σ => passAt (takes_of rfl rfl rfl rfl) σ) h))) (fun h => ps_expr h)))
    (xb_one (xs_if gp_s (PW.pt (xw_and (xt_op ok_eq (xv (pv 2)) xe_int (fun h h2 => pt_cmpR (op_eqD hr.units) h h2 (nomark _))) (xw_and1 (xt_op ok_gt (xe_of (xf_meth (bs := []) (dvs := []) (fun _ _ => .nil) sgS_rows la0 rfl (tbl_cons ⟨Fx.cl_Hold, _, Fx.M_Hold_many, def1_ofD (ok_Hold__many Fx) (hr.mono (by decide)) Fx.bd_Hold__many_1⟩ tbl_nil) (xv (pv 0)) xm_nil (fun ho M h => pe_meth_nil (pe_methD0 ho M (fun σ => passAt (takes_of rfl rfl rfl rfl) σ))))) xe_int (fun h h2 => pt_cmpR op_gt h h2 (nomark _)))))) (xb_cons (xs_drop gp_s (xe_of (xf_meth (bs := [false, false, false]) (dvs := []) (fun _ _ => .nil) sgS_rows (la1 (la1 (la1 la0))) rfl (tbl_cons ⟨Fx.cl_Hold, _, Fx.M_Hold_put_flow, def1_ofD (ok_Hold__put_flow Fx) (hr.mono (by decide)) Fx.bd_Hold__put_flow_4⟩ tbl_nil) (xv (pv 0)) (xm_s (xv (pv 3)) (xm_s (xe_op ok_mod (xe_op ok_add (xv (pv 3)) xe_int (fun h h2 => pe_op op_addA h h2)) (xe_of (xf_meth (bs := []) (dvs := []) (fun _ _ => .nil) sgS_rows la0 rfl (tbl_cons ⟨Fx.cl_Hold, _, Fx.M_Hold_many, def1_ofD (ok_Hold__many Fx) (hr.mono (by decide)) Fx.bd_Hold__many_1⟩ tbl_nil) (xv (pv 0)) xm_nil (fun ho M h => pe_meth_nil (pe_methD0 ho M (fun σ => passAt (takes_of rfl rfl rfl rfl) σ))))) (fun h h2 => pe_op op_mod h h2)) (xm_s (xe_tup (xl_cons xe_int (xl_cons xe_int xl_nil (fun h h2 => pa_cons h h2)) (fun h h2 => pa_cons h h2))) xm_nil (fun h h2 => pa_cons h h2)) (fun h h2 => pa_cons h h2)) (fun h h2 => pa_cons h h2)) (fun ho M h => pe_methD ho M (fun σ => passAt (takes_of rfl rfl rfl rfl) σ) h))) (fun h => ps_expr h))
    (xb_one (xs_drop gp_s (xe_of (xf_meth (bs := [false, false, false, false]) (dvs := []) (fun _ _ => .nil) sgS_rows (la1 (la1 (la1 (la1 la0)))) rfl (tbl_cons ⟨Fx.cl_Hold, _, Fx.M_Hold_put_sky, def1_ofD (ok_Hold__put_sky Fx) (hr.mono (by decide)) Fx.bd_Hold__put_sky_5⟩ tbl_nil) (xv (pv 0)) (xm_s (xv (pv 3)) (xm_s (xe_tup (xl_cons xe_int (xl_cons xe_int xl_nil (fun h h2 => pa_cons h h2)) (fun h h2 => pa_cons h h2))) (xm_s (xe_tup (xl_cons xe_int (xl_cons xe_int xl_nil (fun h h2 => pa_cons h h2)) (fun h h2 => pa_cons h h2))) (xm_s (xe_tup (xl_cons xe_int (xl_cons xe_int xl_nil (fun h h2 => pa_cons h h2)) (fun h h2 => pa_cons h h2))) xm_nil (fun h h2 => pa_cons h h2)) (fun h h2 => pa_cons h h2)) (fun h h2 => pa_cons h h2)) (fun h h2 => pa_cons h h2)) (fun ho M h => pe_methD ho M (fun σ => passAt (takes_of rfl rfl rfl rfl) σ) h))) (fun h => ps_expr h))))
    (xb_one (xs_if gp_s (xt_op ok_eq (xv (pv 2)) xe_int (fun h h2 => pt_cmpR (op_eqD hr.units) h h2 (nomark _))) (xb_one (xs_drop gp_s (xe_of (xf_meth (bs := [false, false, false, false]) (dvs := []) (fun _ _ => .nil) sgS_rows (la1 (la1 (la1 (la1 la0)))) rfl (tbl_cons ⟨Fx.cl_Hold, _, Fx.M_Hold_put_sky, def1_ofD (ok_Hold__put_sky Fx) (hr.mono (by decide)) Fx.bd_Hold__put_sky_5⟩ tbl_nil) (xv (pv 0)) (xm_s (xv (pv 3)) (xm_s (xe_tup (xl_cons xe_int (xl_cons xe_int xl_nil (fun h h2 => pa_cons h h2)) (fun h h2 => pa_cons h h2))) (xm_s (xe_tup (xl_cons (xe_op ok_mod (xv (pv 1)) xe_int (fun h h2 => pe_op op_mod h h2)) (xl_cons xe_int xl_nil (fun h h2 => pa_cons h h2)) (fun h h2 => pa_cons h h2))) (xm_s (xe_tup (xl_cons (xe_op ok_add (xe_op ok_mod (xv (pv 1)) xe_int (fun h h2 => pe_op op_mod h h2)) xe_int (fun h h2 => pe_op op_addA h h2)) (xl_cons xe_int xl_nil (fun h h2 => pa_cons h h2)) (fun h h2 => pa_cons h h2))) xm_nil (fun h h2 => pa_cons h h2)) (fun h h2 => pa_cons h h2)) (fun h h2 => pa_cons h h2)) (fun h h2 => pa_cons h h2)) (fun ho M h => pe_methD ho M (fun σ => passAt (takes_of rfl rfl rfl rfl) σ) h))) (fun h => ps_expr h)))
    (xb_one (xs_drop gp_s (xe_of (xf_meth (bs := [false, false, false, false, false]) (dvs := [.int (0), .int (0)]) (fun _ _ => (.cons (shr_int.mpr rfl) (.cons (shr_int.mpr rfl) .nil))) sgS_rows (la1 (la1 (la1 la0))) rfl (tbl_cons ⟨Fx.cl_Hold, _, Fx.M_Hold_put_stove, def1_ofD (ok_Hold__put_stove Fx) (hr.mono (by decide)) Fx.bd_Hold__put_stove_4⟩ tbl_nil) (xv (pv 0)) (xm_s (xv (pv 3)) (xm_s (xe_tup (xl_cons (xe_op ok_add xe_int (xe_op ok_mod (xv (pv 1)) (xe_op ok_pow xe_int xe_int (fun h h2 => pe_op op_pow h h2)) (fun h h2 => pe_op op_mod h h2)) (fun h h2 => pe_op op_addA h h2)) (xl_cons xe_int xl_nil (fun h h2 => pa_cons h h2)) (fun h h2 => pa_cons h h2))) (xm_s xe_int xm_nil (fun h h2 => pa_cons h h2)) (fun h h2 => pa_cons h h2)) (fun h h2 => pa_cons h h2)) (fun ho M h => pe_methD ho M (fun σ => passAt (takes_of rfl rfl rfl rfl) σ) h))) (fun h => ps_expr h)))))))))))
theorem ok__law_bounds : FnOk P w K mg base (L2.CX P w) 1 Fx.a__law_bounds Fx.d__law_bounds ["_law_hold"] (spD (th P w Fx) 1 (sgS 1) f__law_bounds) :=
  fn_okSR (N := N__law_bounds) (B := m__law_bounds) (Γ' := (ΓS 1)) (okRule_fun Fx.F__law_bounds) sc__law_bounds rfl (by decide) fun cdv A outer s H E hr =>
    (xb_one (xs_ret gp_s gp_s rfl (xe_tup (xl_cons (xe_fld rfl rfl Fx.fld_most (xv (pv 0)) (fun h => pe_fld h rfl)) (xl_cons (xe_fld rfl rfl Fx.fld_cap (xv (pv 0)) (fun h => pe_fld h rfl)) (xl_cons (xe_fld rfl rfl Fx.fld_load (xv (pv 0)) (fun h => pe_fld h rfl)) xl_nil (fun h h2 => pa_cons h h2)) (fun h h2 => pa_cons h h2)) (fun h h2 => pa_cons h h2))) (fun h => ps_ret h)))
theorem ok_law : FnOk P w K mg base (L2.CX P w) 10 Fx.a_law Fx.d_law ["_law_script"] (spD (th P w Fx) 1 (sgS 1) f_law) :=
  fn_okSR (N := N_law) (B := m_law) (Γ' := (ΓS 15)) (okRule_fun Fx.F_law) sc_law rfl (by decide) fun cdv A outer s H E hr =>
    (xb_cons (xs_set (i := 1) gp_s (xe_callS (ok__law_drawn Fx) rfl (la1 la0) (xl_cons (xv (pv 0)) xl_nil (fun h h2 => pa_cons h h2)) (fun h => pe_callS (ok__law_drawn Fx) (hr.mono (by decide)) (by rfl) Fx.g__law_drawn Fx.F__law_drawn.kp Fx.b__law_drawn (fun σ => passAt (takes_of rfl rfl rfl rfl) σ) h)) (fun h => ps_set (i := 1) (sc_law).nd rfl (Or.inr rfl) h) set_rep)
    (xb_cons (xs_set (i := 2) gp_s (xe_callS (ok__law_cell_at Fx) rfl (la1 (la1 la0)) (xl_cons (xv (pv 0)) (xl_cons xe_int xl_nil (fun h h2 => pa_cons h h2)) (fun h h2 => pa_cons h h2)) (fun h => pe_callS (ok__law_cell_at Fx) (hr.mono (by decide)) (by rfl) Fx.g__law_cell_at Fx.F__law_cell_at.kp Fx.b__law_cell_at (fun σ => passAt (takes_of rfl rfl rfl rfl) σ) h)) (fun h => ps_set (i := 2) (sc_law).nd rfl (Or.inr rfl) h) set_rep)
    (xb_cons (xs_set (i := 3) gp_s (xe_callS (ok__law_built Fx) rfl (la1 la0) (xl_cons (xv (pv 1)) xl_nil (fun h h2 => pa_cons h h2)) (fun h => pe_callS (ok__law_built Fx) (hr.mono (by decide)) (by rfl) Fx.g__law_built Fx.F__law_built.kp Fx.b__law_built (fun σ => passAt (takes_of rfl rfl rfl rfl) σ) h)) (fun h => ps_set (i := 3) (sc_law).nd rfl (Or.inl rfl) h) set_rep)
    (xb_cons (xs_set (i := 4) gp_s (xe_lst (xl_cons (xe_callS (ok__law_pick Fx) rfl (la1 (la1 (la1 la0))) (xl_cons (xv (pv 2)) (xl_cons xe_int (xl_cons xe_int xl_nil (fun h h2 => pa_cons h h2)) (fun h h2 => pa_cons h h2)) (fun h h2 => pa_cons h h2)) (fun h => pe_callS (ok__law_pick Fx) (hr.mono (by decide)) (by rfl) Fx.g__law_pick Fx.F__law_pick.kp Fx.b__law_pick (fun σ => passAt (takes_of rfl rfl rfl rfl) σ) h)) (xl_cons (xe_callS (ok__law_pick Fx) rfl (la1 (la1 (la1 la0))) (xl_cons (xv (pv 2)) (xl_cons xe_int (xl_cons xe_int xl_nil (fun h h2 => pa_cons h h2)) (fun h h2 => pa_cons h h2)) (fun h h2 => pa_cons h h2)) (fun h => pe_callS (ok__law_pick Fx) (hr.mono (by decide)) (by rfl) Fx.g__law_pick Fx.F__law_pick.kp Fx.b__law_pick (fun σ => passAt (takes_of rfl rfl rfl rfl) σ) h)) (xl_cons (xe_callS (ok__law_pick Fx) rfl (la1 (la1 (la1 la0))) (xl_cons (xv (pv 2)) (xl_cons xe_int (xl_cons xe_int xl_nil (fun h h2 => pa_cons h h2)) (fun h h2 => pa_cons h h2)) (fun h h2 => pa_cons h h2)) (fun h => pe_callS (ok__law_pick Fx) (hr.mono (by decide)) (by rfl) Fx.g__law_pick Fx.F__law_pick.kp Fx.b__law_pick (fun σ => passAt (takes_of rfl rfl rfl rfl) σ) h)) xl_nil (fun h h2 => pa_cons h h2)) (fun h h2 => pa_cons h h2)) (fun h h2 => pa_cons h h2))) (fun h => ps_set (i := 4) (sc_law).nd rfl (Or.inr rfl) h) set_rep)
    (xb_cons (xs_set (i := 5) gp_s (xe_lc (own := [("_law_k", 14)]) (is := [14]) rfl (sc_law).nd (xi_range1 (xl_cons xe_int xl_nil (fun h h2 => pa_cons h h2)) (fun h => pi_range1 (by rfl) Fx.z_range h)) (blkOk_by (own := [("_law_k", 14)]) (N := N_law) (sc := defScope s_law) (by decide +kernel)) (by decide) (fun _ _ _ _ _ => (pg_name (i := 14) (sc_law).nd rfl (Or.inl rfl))) (tg_name set_rep) (fun _ _ _ _ _ => xts_nil) (fun _ _ _ _ _ => (xe_op ok_eq (xe_callS (ok__law_pick Fx) rfl (la1 (la1 (la1 la0))) (xl_cons (xv (pv 2)) (xl_cons (xe_op ok_add xe_int (xv (pv 14)) (fun h h2 => pe_op op_addA h h2)) (xl_cons xe_int xl_nil (fun h h2 => pa_cons h h2)) (fun h h2 => pa_cons h h2)) (fun h h2 => pa_cons h h2)) (fun h => pe_callS (ok__law_pick Fx) (hr.mono (by decide)) (by rfl) Fx.g__law_pick Fx.F__law_pick.kp Fx.b__law_pick (fun σ => passAt takes0 σ) h)) xe_int (fun h h2 => pe_cmpR (op_eqD hr.units) h h2 (nomark _))))) (fun h => ps_set (i := 5) (sc_law).nd rfl (Or.inr rfl) h) set_rep)
    (xb_cons (xs_setP (i := 6) gp_s (ps_lcS (ps_lcX (is := [14]) (by decide) (tg_name set_rep) (ps_setLc (own := [("_law_k", 14)]) (i := 6) rfl (sc_law).nd rfl rfl (by rfl) (xi_range1 (xl_cons xe_int xl_nil (fun h h2 => pa_cons h h2)) (fun h => pi_range1 (by rfl) Fx.z_range h)) (blkOk_by (own := [("_law_k", 14)]) (N := N_law) (sc := defScope s_law) (by decide +kernel)) (fun _ _ _ _ _ => (pg_name (i := 14) (sc_law).nd rfl (Or.inl rfl))) (fun _ _ _ _ _ => xts_nil) (fun _ _ _ _ _ => (xe_if (xt_tru (xe_op ok_ix (xv (pv 5)) (xv (pv 14)) (fun h h2 => pe_ix ix_A h h2 (fun _ _ => rfl))) rfl) xe_non (xe_op ok_ix (xv (pv 4)) (xv (pv 14)) (fun h h2 => pe_ix ix_A h h2 (fun _ _ => rfl)))))))) set_rep)
    (xb_cons (xs_set (i := 7) gp_s (xe_un ok_tuple (xe_lc (own := [("_law_k", 14)]) (is := [14]) rfl (sc_law).nd (xi_range1 (xl_cons xe_int xl_nil (fun h h2 => pa_cons h h2)) (fun h => pi_range1 (by rfl) Fx.z_range h)) (blkOk_by (own := [("_law_k", 14)]) (N := N_law) (sc := defScope s_law) (by decide +kernel)) (by decide) (fun _ _ _ _ _ => (pg_name (i := 14) (sc_law).nd rfl (Or.inl rfl))) (tg_name set_rep) (fun _ _ _ _ _ => xts_nil) (fun _ _ _ _ _ => (xe_if (xt_tru (xe_op ok_ix (xv (pv 5)) (xv (pv 14)) (fun h h2 => pe_ix ix_A h h2 (fun _ _ => rfl))) rfl) (xe_op ok_ix (xe_op ok_ixD (xv (pv 1)) xe_str (fun h h2 => pe_ix (ix_AD (room16 hr)) h h2 (fun _ _ => rfl))) (xv (pv 14)) (fun h h2 => pe_ix ix_A h h2 (fun _ _ => rfl))) (xe_op ok_ix (xv (pv 4)) (xv (pv 14)) (fun h h2 => pe_ix ix_A h h2 (fun _ _ => rfl)))))) (fun h => pe_callTy call_tuple_of (by rfl) Fx.z_tuple PyProof.Rows.boot_tuple (pa_cons h pa_nil))) (fun h => ps_set (i := 7) (sc_law).nd rfl (Or.inl rfl) h) set_rep)
    (xb_cons (xs_set (i := 8) gp_s (xe_callS (ok__law_seen Fx) rfl (la1 la0) (xl_cons (xv (pv 3)) xl_nil (fun h h2 => pa_cons h h2)) (fun h => pe_callS (ok__law_seen Fx) (hr.mono (by decide)) (by rfl) Fx.g__law_seen Fx.F__law_seen.kp Fx.b__law_seen (fun σ => passAt (takes_of rfl rfl rfl rfl) σ) h)) (fun h => ps_set (i := 8) (sc_law).nd rfl (Or.inl rfl) h) set_rep)
    (xb_cons (xs_set (i := 9) gp_s (xe_of (xf_callD (bs := [false, false, false, false]) (dvs := []) (fun _ _ => .nil) sgS_rows (la1 (la1 (la1 (la1 la0)))) rfl (xm_s (xv (pv 3)) (xm_s (xe_op ok_ix (xv (pv 6)) xe_int (fun h h2 => pe_ix ix_A h h2 (fun _ _ => rfl))) (xm_s (xe_op ok_ix (xv (pv 6)) xe_int (fun h h2 => pe_ix ix_A h h2 (fun _ _ => rfl))) (xm_s (xe_op ok_ix (xv (pv 6)) xe_int (fun h h2 => pe_ix ix_A h h2 (fun _ _ => rfl))) xm_nil (fun h h2 => pa_cons h h2)) (fun h h2 => pa_cons h h2)) (fun h h2 => pa_cons h h2)) (fun h h2 => pa_cons h h2)) (fun h => pe_def (def1_ofD (ok_hold_like Fx) (hr.mono (by decide)) Fx.bd_hold_like_4) (by rfl) Fx.g_hold_like Fx.F_hold_like.kp (fun σ => passAt (takes_of rfl rfl rfl rfl) σ) h))) (fun h => ps_set (i := 9) (sc_law).nd rfl (Or.inl rfl) h) set_rep)
    (xb_cons (xs_set (i := 10) gp_s (xe_of (xf_callD (bs := [false, false, false, false]) (dvs := [.non, .non, .non]) (fun _ _ => (.cons (shr_non.mpr rfl) (.cons (shr_non.mpr rfl) (.cons (shr_non.mpr rfl) .nil)))) sgS_rows (la1 la0) rfl (xm_s (xv (pv 9)) xm_nil (fun h h2 => pa_cons h h2)) (fun h => pe_def (def1_ofD (ok_hold_like Fx) (hr.mono (by decide)) Fx.bd_hold_like_1) (by rfl) Fx.g_hold_like Fx.F_hold_like.kp (fun σ => passAt (takes_of rfl rfl rfl rfl) σ) h))) (fun h => ps_set (i := 10) (sc_law).nd rfl (Or.inl rfl) h) set_rep)
    (xb_cons (xs_set (i := 11) gp_s (xe_of (xf_callD (bs := [false, false, false, false]) (dvs := [.non, .non]) (fun _ _ => (.cons (shr_non.mpr rfl) (.cons (shr_non.mpr rfl) .nil))) sgS_rows (la1 (la1 la0)) rfl (xm_s (xv (pv 3)) (xm_s (xe_op ok_ix (xv (pv 4)) xe_int (fun h h2 => pe_ix ix_A h h2 (fun _ _ => rfl))) xm_nil (fun h h2 => pa_cons h h2)) (fun h h2 => pa_cons h h2)) (fun h => pe_def (def1_ofD (ok_hold_like Fx) (hr.mono (by decide)) Fx.bd_hold_like_2) (by rfl) Fx.g_hold_like Fx.F_hold_like.kp (fun σ => passAt (takes_of rfl rfl rfl rfl) σ) h))) (fun h => ps_set (i := 11) (sc_law).nd rfl (Or.inl rfl) h) set_rep)
    (xb_cons (xs_if gp_s (PW.pt (xw_or (xt_op ok_ne (xe_callS (ok__law_bounds Fx) rfl (la1 la0) (xl_cons (xv (pv 9)) xl_nil (fun h h2 => pa_cons h h2)) (fun h => pe_callS (ok__law_bounds Fx) (hr.mono (by decide)) (by rfl) Fx.g__law_bounds Fx.F__law_bounds.kp Fx.b__law_bounds (fun σ => passAt (takes_of rfl rfl rfl rfl) σ) h)) (xv (pv 7)) (fun h h2 => pt_cmpR (op_neD hr.units) h h2 (nomark _))) (xw_or (xt_op ok_ne (xe_callS (ok__law_bounds Fx) rfl (la1 la0) (xl_cons (xv (pv 10)) xl_nil (fun h h2 => pa_cons h h2)) (fun h => pe_callS (ok__law_bounds Fx) (hr.mono (by decide)) (by rfl) Fx.g__law_bounds Fx.F__law_bounds.kp Fx.b__law_bounds (fun σ => passAt (takes_of rfl rfl rfl rfl) σ) h)) (xv (pv 7)) (fun h h2 => pt_cmpR (op_neD hr.units) h h2 (nomark _))) (xw_or1 (xt_op ok_ne (xe_callS (ok__law_bounds Fx) rfl (la1 la0) (xl_cons (xv (pv 3)) xl_nil (fun h h2 => pa_cons h h2)) (fun h => pe_callS (ok__law_bounds Fx) (hr.mono (by decide)) (by rfl) Fx.g__law_bounds Fx.F__law_bounds.kp Fx.b__law_bounds (fun σ => passAt (takes_of rfl rfl rfl rfl) σ) h)) (xe_op ok_ixD (xv (pv 1)) xe_str (fun h h2 => pe_ix (ix_AD (room16 hr)) h h2 (fun _ _ => rfl))) (fun h h2 => pt_cmpR (op_neD hr.units) h h2 (nomark _))))))) (xb_one (xs_ret gp_s gp_s rfl xe_bl (fun h => ps_ret h)))
    xb_nil)
    (xb_cons (xs_if gp_s (xt_op ok_ne (xe_callS (ok__law_bounds Fx) rfl (la1 la0) (xl_cons (xv (pv 11)) xl_nil (fun h h2 => pa_cons h h2)) (fun h => pe_callS (ok__law_bounds Fx) (hr.mono (by decide)) (by rfl) Fx.g__law_bounds Fx.F__law_bounds.kp Fx.b__law_bounds (fun σ => passAt (takes_of rfl rfl rfl rfl) σ) h)) (xe_tup (xl_cons (xe_op ok_ix (xv (pv 4)) xe_int (fun h h2 => pe_ix ix_A h h2 (fun _ _ => rfl))) (xl_cons (xe_op ok_ix (xe_op ok_ixD (xv (pv 1)) xe_str (fun h h2 => pe_ix (ix_AD (room16 hr)) h h2 (fun _ _ => rfl))) xe_int (fun h h2 => pe_ix ix_A h h2 (fun _ _ => rfl))) (xl_cons (xe_op ok_ix (xe_op ok_ixD (xv (pv 1)) xe_str (fun h h2 => pe_ix (ix_AD (room16 hr)) h h2 (fun _ _ => rfl))) xe_int (fun h h2 => pe_ix ix_A h h2 (fun _ _ => rfl))) xl_nil (fun h h2 => pa_cons h h2)) (fun h h2 => pa_cons h h2)) (fun h h2 => pa_cons h h2))) (fun h h2 => pt_cmpR (op_neD hr.units) h h2 (nomark _))) (xb_one (xs_ret gp_s gp_s rfl xe_bl (fun h => ps_ret h)))
    xb_nil)
    (xb_cons (xs_if gp_s (PW.pt (xw_or (xt_op ok_ne (xe_callS (ok__law_seen Fx) rfl (la1 la0) (xl_cons (xv (pv 9)) xl_nil (fun h h2 => pa_cons h h2)) (fun h => pe_callS (ok__law_seen Fx) (hr.mono (by decide)) (by rfl) Fx.g__law_seen Fx.F__law_seen.kp Fx.b__law_seen (fun σ => passAt (takes_of rfl rfl rfl rfl) σ) h)) (xv (pv 8)) (fun h h2 => pt_cmpR (op_neD hr.units) h h2 (nomark _))) (xw_or (xt_op ok_ne (xe_callS (ok__law_seen Fx) rfl (la1 la0) (xl_cons (xv (pv 10)) xl_nil (fun h h2 => pa_cons h h2)) (fun h => pe_callS (ok__law_seen Fx) (hr.mono (by decide)) (by rfl) Fx.g__law_seen Fx.F__law_seen.kp Fx.b__law_seen (fun σ => passAt (takes_of rfl rfl rfl rfl) σ) h)) (xv (pv 8)) (fun h h2 => pt_cmpR (op_neD hr.units) h h2 (nomark _))) (xw_or1 (xt_op ok_ne (xe_callS (ok__law_seen Fx) rfl (la1 la0) (xl_cons (xv (pv 11)) xl_nil (fun h h2 => pa_cons h h2)) (fun h => pe_callS (ok__law_seen Fx) (hr.mono (by decide)) (by rfl) Fx.g__law_seen Fx.F__law_seen.kp Fx.b__law_seen (fun σ => passAt (takes_of rfl rfl rfl rfl) σ) h)) (xv (pv 8)) (fun h h2 => pt_cmpR (op_neD hr.units) h h2 (nomark _))))))) (xb_one (xs_ret gp_s gp_s rfl xe_bl (fun h => ps_ret h)))
    xb_nil)
    (xb_cons (xs_set (i := 12) gp_s (xe_lst (xl_cons (xv (pv 3)) (xl_cons (xv (pv 9)) (xl_cons (xv (pv 10)) xl_nil (fun h h2 => pa_cons h h2)) (fun h h2 => pa_cons h h2)) (fun h h2 => pa_cons h h2))) (fun h => ps_set (i := 12) (sc_law).nd rfl (Or.inl rfl) h) set_rep)
    (xb_cons (xs_set (i := 13) gp_s (xe_callS (ok__law_pick Fx) rfl (la1 (la1 (la1 la0))) (xl_cons (xv (pv 2)) (xl_cons xe_int (xl_cons xe_int xl_nil (fun h h2 => pa_cons h h2)) (fun h h2 => pa_cons h h2)) (fun h h2 => pa_cons h h2)) (fun h => pe_callS (ok__law_pick Fx) (hr.mono (by decide)) (by rfl) Fx.g__law_pick Fx.F__law_pick.kp Fx.b__law_pick (fun σ => passAt (takes_of rfl rfl rfl rfl) σ) h)) (fun h => ps_set (i := 13) (sc_law).nd rfl (Or.inl rfl) h) set_rep)
    (xb_cons (xs_drop gp_s (xe_callS (ok__law_changed Fx) rfl (la1 (la1 la0)) (xl_cons (xe_op ok_ix (xv (pv 12)) (xv (pv 13)) (fun h h2 => pe_ix ix_A h h2 (fun _ _ => rfl))) (xl_cons (xe_callS (ok__law_cell_at Fx) rfl (la1 (la1 la0)) (xl_cons (xv (pv 0)) (xl_cons xe_int xl_nil (fun h h2 => pa_cons h h2)) (fun h h2 => pa_cons h h2)) (fun h => pe_callS (ok__law_cell_at Fx) (hr.mono (by decide)) (by rfl) Fx.g__law_cell_at Fx.F__law_cell_at.kp Fx.b__law_cell_at (fun σ => passAt (takes_of rfl rfl rfl rfl) σ) h)) xl_nil (fun h h2 => pa_cons h h2)) (fun h h2 => pa_cons h h2)) (fun h => pe_callS (ok__law_changed Fx) (hr.mono (by decide)) (by rfl) Fx.g__law_changed Fx.F__law_changed.kp Fx.b__law_changed (fun σ => passAt (takes_of rfl rfl rfl rfl) σ) h)) (fun h => ps_expr h))
    (xb_cons (xs_for (is := [14]) gp_s (passes_of rfl) rfl (xi_range1 (xl_cons xe_int xl_nil (fun h h2 => pa_cons h h2)) (fun h => pi_range1 (by rfl) Fx.z_range h)) (pg_name (i := 14) (sc_law).nd rfl (Or.inl rfl)) (tg_name set_rep) (xb_one (xs_if gp_s (PW.pt (xw_and (xt_op ok_ne (xv (pv 14)) (xv (pv 13)) (fun h h2 => pt_cmpR (op_neD hr.units) h h2 (nomark _))) (xw_and1 (xt_op ok_ne (xe_callS (ok__law_seen Fx) rfl (la1 la0) (xl_cons (xe_op ok_ix (xv (pv 12)) (xv (pv 14)) (fun h h2 => pe_ix ix_A h h2 (fun _ _ => rfl))) xl_nil (fun h h2 => pa_cons h h2)) (fun h => pe_callS (ok__law_seen Fx) (hr.mono (by decide)) (by rfl) Fx.g__law_seen Fx.F__law_seen.kp Fx.b__law_seen (fun σ => passAt (takes_of rfl rfl rfl rfl) σ) h)) (xv (pv 8)) (fun h h2 => pt_cmpR (op_neD hr.units) h h2 (nomark _)))))) (xb_one (xs_ret gp_s gp_s rfl xe_bl (fun h => ps_ret h)))
    xb_nil)))
    (xb_one (xs_ret gp_s gp_s rfl (xe_op ok_eq (xe_callS (ok__law_bounds Fx) rfl (la1 la0) (xl_cons (xe_op ok_ix (xv (pv 12)) (xv (pv 13)) (fun h h2 => pe_ix ix_A h h2 (fun _ _ => rfl))) xl_nil (fun h h2 => pa_cons h h2)) (fun h => pe_callS (ok__law_bounds Fx) (hr.mono (by decide)) (by rfl) Fx.g__law_bounds Fx.F__law_bounds.kp Fx.b__law_bounds (fun σ => passAt (takes_of rfl rfl rfl rfl) σ) h)) (xe_op ok_ix (xe_lst (xl_cons (xe_op ok_ixD (xv (pv 1)) xe_str (fun h h2 => pe_ix (ix_AD (room16 hr)) h h2 (fun _ _ => rfl))) (xl_cons (xv (pv 7)) (xl_cons (xv (pv 7)) xl_nil (fun h h2 => pa_cons h h2)) (fun h h2 => pa_cons h h2)) (fun h h2 => pa_cons h h2))) (xv (pv 13)) (fun h h2 => pe_ix ix_A h h2 (fun _ _ => rfl))) (fun h h2 => pe_cmpR (op_eqD hr.units) h h2 (nomark _))) (fun h => ps_ret h)))))))))))))))))))))
end
set_option maxHeartbeats 0 in
theorem facts_mk {K : PySem.W.Frag} {h : Heap} {mg : Str → Option Value} (X : K.In h) (G : h.Ns mainGlobals mg)
    {c_Hold : Addr} (ac_Hold : PySem.W.nsIn K mainGlobals "Hold" = some (some (.ref c_Hold)))
    {f1 : Addr} {od1 an1 : Option Addr} {sl1 : Array (Option Value)} {oc1 kV1 dc1 pm1 cd1 ct1 : Value}
    (a1 : PySem.W.nsIn K mainGlobals "_law_cell_at" = some (some (.ref f1)))
    (l1 : K.lookup f1 = some ⟨oc1, od1, .func (PySem.W.fnOf "_law_cell_at" "_law_cell_at" (defArgs s__law_cell_at) (defBody s__law_cell_at) (defScope s__law_cell_at) .none kV1 dc1 pm1 an1 cd1 ct1), sl1⟩) (e1 : PySem.W.codeIn K cd1 "_law_cell_at" = true) (k1 : PySem.W.keepIn K (.ref f1) = true)
    {f2 : Addr} {od2 an2 : Option Addr} {sl2 : Array (Option Value)} {oc2 kV2 dc2 pm2 cd2 ct2 : Value}
    (a2 : PySem.W.nsIn K mainGlobals "_law_pick" = some (some (.ref f2)))
    (l2 : K.lookup f2 = some ⟨oc2, od2, .func (PySem.W.fnOf "_law_pick" "_law_pick" (defArgs s__law_pick) (defBody s__law_pick) (defScope s__law_pick) .none kV2 dc2 pm2 an2 cd2 ct2), sl2⟩) (e2 : PySem.W.codeIn K cd2 "_law_pick" = true) (k2 : PySem.W.keepIn K (.ref f2) = true)
    {f3 : Addr} {od3 an3 : Option Addr} {sl3 : Array (Option Value)} {oc3 kV3 dc3 pm3 cd3 ct3 : Value}
    (a3 : PySem.W.nsIn K mainGlobals "_law_scale" = some (some (.ref f3)))
    (l3 : K.lookup f3 = some ⟨oc3, od3, .func (PySem.W.fnOf "_law_scale" "_law_scale" (defArgs s__law_scale) (defBody s__law_scale) (defScope s__law_scale) .none kV3 dc3 pm3 an3 cd3 ct3), sl3⟩) (e3 : PySem.W.codeIn K cd3 "_law_scale" = true) (k3 : PySem.W.keepIn K (.ref f3) = true)
    {f4 : Addr} {od4 an4 : Option Addr} {sl4 : Array (Option Value)} {oc4 kV4 dc4 pm4 cd4 ct4 : Value}
    (a4 : PySem.W.nsIn K mainGlobals "_law_stove_by" = some (some (.ref f4)))
    (l4 : K.lookup f4 = some ⟨oc4, od4, .func (PySem.W.fnOf "_law_stove_by" "_law_stove_by" (defArgs s__law_stove_by) (defBody s__law_stove_by) (defScope s__law_stove_by) .none kV4 dc4 pm4 an4 cd4 ct4), sl4⟩) (e4 : PySem.W.codeIn K cd4 "_law_stove_by" = true) (k4 : PySem.W.keepIn K (.ref f4) = true)
    {f5 : Addr} {od5 an5 : Option Addr} {sl5 : Array (Option Value)} {oc5 kV5 dc5 pm5 cd5 ct5 : Value}
    (a5 : PySem.W.nsIn K mainGlobals "_law_drawn" = some (some (.ref f5)))
    (l5 : K.lookup f5 = some ⟨oc5, od5, .func (PySem.W.fnOf "_law_drawn" "_law_drawn" (defArgs s__law_drawn) (defBody s__law_drawn) (defScope s__law_drawn) .none kV5 dc5 pm5 an5 cd5 ct5), sl5⟩) (e5 : PySem.W.codeIn K cd5 "_law_drawn" = true) (k5 : PySem.W.keepIn K (.ref f5) = true)
    {f6 : Addr} {od6 an6 : Option Addr} {sl6 : Array (Option Value)} {oc6 kV6 dc6 pm6 cd6 ct6 : Value}
    (a6 : PySem.W.nsIn K mainGlobals "is_bound" = some (some (.ref f6)))
    (l6 : K.lookup f6 = some ⟨oc6, od6, .func (PySem.W.fnOf "is_bound" "is_bound" (defArgs s_is_bound) (defBody s_is_bound) (defScope s_is_bound) .none kV6 dc6 pm6 an6 cd6 ct6), sl6⟩) (e6 : PySem.W.codeIn K cd6 "is_bound" = true) (k6 : PySem.W.keepIn K (.ref f6) = true)
    {f7 : Addr} {od7 an7 : Option Addr} {sl7 : Array (Option Value)} {oc7 kV7 dc7 pm7 cd7 ct7 : Value}
    (at_Hold___init__ : PySem.W.findIn K (.ref c_Hold) "__init__" = some (some (.ref f7)))
    (if7 : PySem.W.isFn K (.ref f7) = true)
    {T7 : Addr} {odT7 : Option Addr} {cT7 : Value} {slT7 : Array (Option Value)} {nT7 : Nat} {tj7_0 tj7_1 tj7_2 : Tok}
    (l7 : K.lookup f7 = some ⟨oc7, od7, .func (PySem.W.fnOf "__init__" "Hold.__init__" (defArgs s_Hold____init__) (defBody s_Hold____init__) (defScope s_Hold____init__) (.ref T7) kV7 dc7 pm7 an7 cd7 ct7), sl7⟩) (e7 : PySem.W.codeIn K cd7 "Hold.__init__" = true) (k7 : PySem.W.keepIn K (.ref f7) = true)
    (lT7 : K.lookup T7 = some ⟨cT7, odT7, .seq #[.int 4 tj7_0, .int 0 tj7_1, .int 0 tj7_2] nT7, slT7⟩)
    {f8 : Addr} {od8 an8 : Option Addr} {sl8 : Array (Option Value)} {oc8 kV8 dc8 pm8 cd8 ct8 : Value}
    (a8 : PySem.W.nsIn K mainGlobals "under" = some (some (.ref f8)))
    (l8 : K.lookup f8 = some ⟨oc8, od8, .func (PySem.W.fnOf "under" "under" (defArgs s_under) (defBody s_under) (defScope s_under) .none kV8 dc8 pm8 an8 cd8 ct8), sl8⟩) (e8 : PySem.W.codeIn K cd8 "under" = true) (k8 : PySem.W.keepIn K (.ref f8) = true)
    {f9 : Addr} {od9 an9 : Option Addr} {sl9 : Array (Option Value)} {oc9 kV9 dc9 pm9 cd9 ct9 : Value}
    (a9 : PySem.W.nsIn K mainGlobals "do_rise" = some (some (.ref f9)))
    (l9 : K.lookup f9 = some ⟨oc9, od9, .func (PySem.W.fnOf "do_rise" "do_rise" (defArgs s_do_rise) (defBody s_do_rise) (defScope s_do_rise) .none kV9 dc9 pm9 an9 cd9 ct9), sl9⟩) (e9 : PySem.W.codeIn K cd9 "do_rise" = true) (k9 : PySem.W.keepIn K (.ref f9) = true)
    {f10 : Addr} {od10 an10 : Option Addr} {sl10 : Array (Option Value)} {oc10 kV10 dc10 pm10 cd10 ct10 : Value}
    (at_Hold_put_room : PySem.W.findIn K (.ref c_Hold) "put_room" = some (some (.ref f10)))
    (if10 : PySem.W.isFn K (.ref f10) = true)
    (l10 : K.lookup f10 = some ⟨oc10, od10, .func (PySem.W.fnOf "put_room" "Hold.put_room" (defArgs s_Hold__put_room) (defBody s_Hold__put_room) (defScope s_Hold__put_room) .none kV10 dc10 pm10 an10 cd10 ct10), sl10⟩) (e10 : PySem.W.codeIn K cd10 "Hold.put_room" = true) (k10 : PySem.W.keepIn K (.ref f10) = true)
    {f11 : Addr} {od11 an11 : Option Addr} {sl11 : Array (Option Value)} {oc11 kV11 dc11 pm11 cd11 ct11 : Value}
    (at_Hold_ask_room : PySem.W.findIn K (.ref c_Hold) "ask_room" = some (some (.ref f11)))
    (if11 : PySem.W.isFn K (.ref f11) = true)
    (l11 : K.lookup f11 = some ⟨oc11, od11, .func (PySem.W.fnOf "ask_room" "Hold.ask_room" (defArgs s_Hold__ask_room) (defBody s_Hold__ask_room) (defScope s_Hold__ask_room) .none kV11 dc11 pm11 an11 cd11 ct11), sl11⟩) (e11 : PySem.W.codeIn K cd11 "Hold.ask_room" = true) (k11 : PySem.W.keepIn K (.ref f11) = true)
    {f12 : Addr} {od12 an12 : Option Addr} {sl12 : Array (Option Value)} {oc12 kV12 dc12 pm12 cd12 ct12 : Value}
    (a12 : PySem.W.nsIn K mainGlobals "divisor" = some (some (.ref f12)))
    (l12 : K.lookup f12 = some ⟨oc12, od12, .func (PySem.W.fnOf "divisor" "divisor" (defArgs s_divisor) (defBody s_divisor) (defScope s_divisor) .none kV12 dc12 pm12 an12 cd12 ct12), sl12⟩) (e12 : PySem.W.codeIn K cd12 "divisor" = true) (k12 : PySem.W.keepIn K (.ref f12) = true)
    {f13 : Addr} {od13 an13 : Option Addr} {sl13 : Array (Option Value)} {oc13 kV13 dc13 pm13 cd13 ct13 : Value}
    (a13 : PySem.W.nsIn K mainGlobals "fraction" = some (some (.ref f13)))
    (l13 : K.lookup f13 = some ⟨oc13, od13, .func (PySem.W.fnOf "fraction" "fraction" (defArgs s_fraction) (defBody s_fraction) (defScope s_fraction) .none kV13 dc13 pm13 an13 cd13 ct13), sl13⟩) (e13 : PySem.W.codeIn K cd13 "fraction" = true) (k13 : PySem.W.keepIn K (.ref f13) = true)
    {f14 : Addr} {od14 an14 : Option Addr} {sl14 : Array (Option Value)} {oc14 kV14 dc14 pm14 cd14 ct14 : Value}
    (a14 : PySem.W.nsIn K mainGlobals "plus" = some (some (.ref f14)))
    (l14 : K.lookup f14 = some ⟨oc14, od14, .func (PySem.W.fnOf "plus" "plus" (defArgs s_plus) (defBody s_plus) (defScope s_plus) .none kV14 dc14 pm14 an14 cd14 ct14), sl14⟩) (e14 : PySem.W.codeIn K cd14 "plus" = true) (k14 : PySem.W.keepIn K (.ref f14) = true)
    {f15 : Addr} {od15 an15 : Option Addr} {sl15 : Array (Option Value)} {oc15 kV15 dc15 pm15 cd15 ct15 : Value}
    (a15 : PySem.W.nsIn K mainGlobals "minus" = some (some (.ref f15)))
    (l15 : K.lookup f15 = some ⟨oc15, od15, .func (PySem.W.fnOf "minus" "minus" (defArgs s_minus) (defBody s_minus) (defScope s_minus) .none kV15 dc15 pm15 an15 cd15 ct15), sl15⟩) (e15 : PySem.W.codeIn K cd15 "minus" = true) (k15 : PySem.W.keepIn K (.ref f15) = true)
    {f16 : Addr} {od16 an16 : Option Addr} {sl16 : Array (Option Value)} {oc16 kV16 dc16 pm16 cd16 ct16 : Value}
    (at_Hold_taken_share : PySem.W.findIn K (.ref c_Hold) "taken_share" = some (some (.ref f16)))
    (if16 : PySem.W.isFn K (.ref f16) = true)
    (l16 : K.lookup f16 = some ⟨oc16, od16, .func (PySem.W.fnOf "taken_share" "Hold.taken_share" (defArgs s_Hold__taken_share) (defBody s_Hold__taken_share) (defScope s_Hold__taken_share) .none kV16 dc16 pm16 an16 cd16 ct16), sl16⟩) (e16 : PySem.W.codeIn K cd16 "Hold.taken_share" = true) (k16 : PySem.W.keepIn K (.ref f16) = true)
    {f17 : Addr} {od17 an17 : Option Addr} {sl17 : Array (Option Value)} {oc17 kV17 dc17 pm17 cd17 ct17 : Value}
    (at_Hold_put_sky : PySem.W.findIn K (.ref c_Hold) "put_sky" = some (some (.ref f17)))
    (if17 : PySem.W.isFn K (.ref f17) = true)
    (l17 : K.lookup f17 = some ⟨oc17, od17, .func (PySem.W.fnOf "put_sky" "Hold.put_sky" (defArgs s_Hold__put_sky) (defBody s_Hold__put_sky) (defScope s_Hold__put_sky) .none kV17 dc17 pm17 an17 cd17 ct17), sl17⟩) (e17 : PySem.W.codeIn K cd17 "Hold.put_sky" = true) (k17 : PySem.W.keepIn K (.ref f17) = true)
    {f18 : Addr} {od18 an18 : Option Addr} {sl18 : Array (Option Value)} {oc18 kV18 dc18 pm18 cd18 ct18 : Value}
    (a18 : PySem.W.nsIn K mainGlobals "_law_ratio" = some (some (.ref f18)))
    (l18 : K.lookup f18 = some ⟨oc18, od18, .func (PySem.W.fnOf "_law_ratio" "_law_ratio" (defArgs s__law_ratio) (defBody s__law_ratio) (defScope s__law_ratio) .none kV18 dc18 pm18 an18 cd18 ct18), sl18⟩) (e18 : PySem.W.codeIn K cd18 "_law_ratio" = true) (k18 : PySem.W.keepIn K (.ref f18) = true)
    {f19 : Addr} {od19 an19 : Option Addr} {sl19 : Array (Option Value)} {oc19 kV19 dc19 pm19 cd19 ct19 : Value}
    (a19 : PySem.W.nsIn K mainGlobals "_law_warm" = some (some (.ref f19)))
    (l19 : K.lookup f19 = some ⟨oc19, od19, .func (PySem.W.fnOf "_law_warm" "_law_warm" (defArgs s__law_warm) (defBody s__law_warm) (defScope s__law_warm) .none kV19 dc19 pm19 an19 cd19 ct19), sl19⟩) (e19 : PySem.W.codeIn K cd19 "_law_warm" = true) (k19 : PySem.W.keepIn K (.ref f19) = true)
    {f20 : Addr} {od20 an20 : Option Addr} {sl20 : Array (Option Value)} {oc20 kV20 dc20 pm20 cd20 ct20 : Value}
    (at_Hold_put_stove : PySem.W.findIn K (.ref c_Hold) "put_stove" = some (some (.ref f20)))
    (if20 : PySem.W.isFn K (.ref f20) = true)
    {T20 : Addr} {odT20 : Option Addr} {cT20 : Value} {slT20 : Array (Option Value)} {nT20 : Nat} {tj20_0 tj20_1 tj20_2 : Tok}
    (l20 : K.lookup f20 = some ⟨oc20, od20, .func (PySem.W.fnOf "put_stove" "Hold.put_stove" (defArgs s_Hold__put_stove) (defBody s_Hold__put_stove) (defScope s_Hold__put_stove) (.ref T20) kV20 dc20 pm20 an20 cd20 ct20), sl20⟩) (e20 : PySem.W.codeIn K cd20 "Hold.put_stove" = true) (k20 : PySem.W.keepIn K (.ref f20) = true)
    (lT20 : K.lookup T20 = some ⟨cT20, odT20, .seq #[.int 0 tj20_0, .int 0 tj20_1, .int 0 tj20_2] nT20, slT20⟩)
    {f21 : Addr} {od21 an21 : Option Addr} {sl21 : Array (Option Value)} {oc21 kV21 dc21 pm21 cd21 ct21 : Value}
    (at_Hold_put_flow : PySem.W.findIn K (.ref c_Hold) "put_flow" = some (some (.ref f21)))
    (if21 : PySem.W.isFn K (.ref f21) = true)
    (l21 : K.lookup f21 = some ⟨oc21, od21, .func (PySem.W.fnOf "put_flow" "Hold.put_flow" (defArgs s_Hold__put_flow) (defBody s_Hold__put_flow) (defScope s_Hold__put_flow) .none kV21 dc21 pm21 an21 cd21 ct21), sl21⟩) (e21 : PySem.W.codeIn K cd21 "Hold.put_flow" = true) (k21 : PySem.W.keepIn K (.ref f21) = true)
    {f22 : Addr} {od22 an22 : Option Addr} {sl22 : Array (Option Value)} {oc22 kV22 dc22 pm22 cd22 ct22 : Value}
    (a22 : PySem.W.nsIn K mainGlobals "_law_built" = some (some (.ref f22)))
    (l22 : K.lookup f22 = some ⟨oc22, od22, .func (PySem.W.fnOf "_law_built" "_law_built" (defArgs s__law_built) (defBody s__law_built) (defScope s__law_built) .none kV22 dc22 pm22 an22 cd22 ct22), sl22⟩) (e22 : PySem.W.codeIn K cd22 "_law_built" = true) (k22 : PySem.W.keepIn K (.ref f22) = true)
    {f23 : Addr} {od23 an23 : Option Addr} {sl23 : Array (Option Value)} {oc23 kV23 dc23 pm23 cd23 ct23 : Value}
    (at_Hold_many : PySem.W.findIn K (.ref c_Hold) "many" = some (some (.ref f23)))
    (if23 : PySem.W.isFn K (.ref f23) = true)
    (l23 : K.lookup f23 = some ⟨oc23, od23, .func (PySem.W.fnOf "many" "Hold.many" (defArgs s_Hold__many) (defBody s_Hold__many) (defScope s_Hold__many) .none kV23 dc23 pm23 an23 cd23 ct23), sl23⟩) (e23 : PySem.W.codeIn K cd23 "Hold.many" = true) (k23 : PySem.W.keepIn K (.ref f23) = true)
    {f24 : Addr} {od24 an24 : Option Addr} {sl24 : Array (Option Value)} {oc24 kV24 dc24 pm24 cd24 ct24 : Value}
    (at_Hold_marks : PySem.W.findIn K (.ref c_Hold) "marks" = some (some (.ref f24)))
    (if24 : PySem.W.isFn K (.ref f24) = true)
    (l24 : K.lookup f24 = some ⟨oc24, od24, .func (PySem.W.fnOf "marks" "Hold.marks" (defArgs s_Hold__marks) (defBody s_Hold__marks) (defScope s_Hold__marks) .none kV24 dc24 pm24 an24 cd24 ct24), sl24⟩) (e24 : PySem.W.codeIn K cd24 "Hold.marks" = true) (k24 : PySem.W.keepIn K (.ref f24) = true)
    {f25 : Addr} {od25 an25 : Option Addr} {sl25 : Array (Option Value)} {oc25 kV25 dc25 pm25 cd25 ct25 : Value}
    (at_Hold_sky : PySem.W.findIn K (.ref c_Hold) "sky" = some (some (.ref f25)))
    (if25 : PySem.W.isFn K (.ref f25) = true)
    (l25 : K.lookup f25 = some ⟨oc25, od25, .func (PySem.W.fnOf "sky" "Hold.sky" (defArgs s_Hold__sky) (defBody s_Hold__sky) (defScope s_Hold__sky) .none kV25 dc25 pm25 an25 cd25 ct25), sl25⟩) (e25 : PySem.W.codeIn K cd25 "Hold.sky" = true) (k25 : PySem.W.keepIn K (.ref f25) = true)
    {f26 : Addr} {od26 an26 : Option Addr} {sl26 : Array (Option Value)} {oc26 kV26 dc26 pm26 cd26 ct26 : Value}
    (at_Hold_stove : PySem.W.findIn K (.ref c_Hold) "stove" = some (some (.ref f26)))
    (if26 : PySem.W.isFn K (.ref f26) = true)
    (l26 : K.lookup f26 = some ⟨oc26, od26, .func (PySem.W.fnOf "stove" "Hold.stove" (defArgs s_Hold__stove) (defBody s_Hold__stove) (defScope s_Hold__stove) .none kV26 dc26 pm26 an26 cd26 ct26), sl26⟩) (e26 : PySem.W.codeIn K cd26 "Hold.stove" = true) (k26 : PySem.W.keepIn K (.ref f26) = true)
    {f27 : Addr} {od27 an27 : Option Addr} {sl27 : Array (Option Value)} {oc27 kV27 dc27 pm27 cd27 ct27 : Value}
    (at_Hold_share : PySem.W.findIn K (.ref c_Hold) "share" = some (some (.ref f27)))
    (if27 : PySem.W.isFn K (.ref f27) = true)
    (l27 : K.lookup f27 = some ⟨oc27, od27, .func (PySem.W.fnOf "share" "Hold.share" (defArgs s_Hold__share) (defBody s_Hold__share) (defScope s_Hold__share) .none kV27 dc27 pm27 an27 cd27 ct27), sl27⟩) (e27 : PySem.W.codeIn K cd27 "Hold.share" = true) (k27 : PySem.W.keepIn K (.ref f27) = true)
    {f28 : Addr} {od28 an28 : Option Addr} {sl28 : Array (Option Value)} {oc28 kV28 dc28 pm28 cd28 ct28 : Value}
    (a28 : PySem.W.nsIn K mainGlobals "_law_seen" = some (some (.ref f28)))
    (l28 : K.lookup f28 = some ⟨oc28, od28, .func (PySem.W.fnOf "_law_seen" "_law_seen" (defArgs s__law_seen) (defBody s__law_seen) (defScope s__law_seen) .none kV28 dc28 pm28 an28 cd28 ct28), sl28⟩) (e28 : PySem.W.codeIn K cd28 "_law_seen" = true) (k28 : PySem.W.keepIn K (.ref f28) = true)
    {f29 : Addr} {od29 an29 : Option Addr} {sl29 : Array (Option Value)} {oc29 kV29 dc29 pm29 cd29 ct29 : Value}
    (a29 : PySem.W.nsIn K mainGlobals "hold_like" = some (some (.ref f29)))
    {T29 : Addr} {odT29 : Option Addr} {cT29 : Value} {slT29 : Array (Option Value)} {nT29 : Nat}
    (l29 : K.lookup f29 = some ⟨oc29, od29, .func (PySem.W.fnOf "hold_like" "hold_like" (defArgs s_hold_like) (defBody s_hold_like) (defScope s_hold_like) (.ref T29) kV29 dc29 pm29 an29 cd29 ct29), sl29⟩) (e29 : PySem.W.codeIn K cd29 "hold_like" = true) (k29 : PySem.W.keepIn K (.ref f29) = true)
    (lT29 : K.lookup T29 = some ⟨cT29, odT29, .seq #[.none, .none, .none] nT29, slT29⟩)
    {f30 : Addr} {od30 an30 : Option Addr} {sl30 : Array (Option Value)} {oc30 kV30 dc30 pm30 cd30 ct30 : Value}
    (a30 : PySem.W.nsIn K mainGlobals "_law_changed" = some (some (.ref f30)))
    (l30 : K.lookup f30 = some ⟨oc30, od30, .func (PySem.W.fnOf "_law_changed" "_law_changed" (defArgs s__law_changed) (defBody s__law_changed) (defScope s__law_changed) .none kV30 dc30 pm30 an30 cd30 ct30), sl30⟩) (e30 : PySem.W.codeIn K cd30 "_law_changed" = true) (k30 : PySem.W.keepIn K (.ref f30) = true)
    {f31 : Addr} {od31 an31 : Option Addr} {sl31 : Array (Option Value)} {oc31 kV31 dc31 pm31 cd31 ct31 : Value}
    (a31 : PySem.W.nsIn K mainGlobals "_law_bounds" = some (some (.ref f31)))
    (l31 : K.lookup f31 = some ⟨oc31, od31, .func (PySem.W.fnOf "_law_bounds" "_law_bounds" (defArgs s__law_bounds) (defBody s__law_bounds) (defScope s__law_bounds) .none kV31 dc31 pm31 an31 cd31 ct31), sl31⟩) (e31 : PySem.W.codeIn K cd31 "_law_bounds" = true) (k31 : PySem.W.keepIn K (.ref f31) = true)
    {f32 : Addr} {od32 an32 : Option Addr} {sl32 : Array (Option Value)} {oc32 kV32 dc32 pm32 cd32 ct32 : Value}
    (a32 : PySem.W.nsIn K mainGlobals "law" = some (some (.ref f32)))
    (l32 : K.lookup f32 = some ⟨oc32, od32, .func (PySem.W.fnOf "law" "law" (defArgs s_law) (defBody s_law) (defScope s_law) .none kV32 dc32 pm32 an32 cd32 ct32), sl32⟩) (e32 : PySem.W.codeIn K cd32 "law" = true) (k32 : PySem.W.keepIn K (.ref f32) = true)
    {av_NOUGHT : Addr} {odv_NOUGHT : Option Addr} {slv_NOUGHT : Array (Option Value)} {nnv_NOUGHT : Nat} {tiNOUGHT_0 tiNOUGHT_1 : Tok} (nv_NOUGHT : PySem.W.nsIn K mainGlobals "NOUGHT" = some (some (.ref av_NOUGHT))) (lv_NOUGHT : K.lookup av_NOUGHT = some ⟨.type "tuple", odv_NOUGHT, .seq #[.int 0 tiNOUGHT_0, .int 1 tiNOUGHT_1] nnv_NOUGHT, slv_NOUGHT⟩)
    {av_ONE : Addr} {odv_ONE : Option Addr} {slv_ONE : Array (Option Value)} {nnv_ONE : Nat} {tiONE_0 tiONE_1 : Tok} (nv_ONE : PySem.W.nsIn K mainGlobals "ONE" = some (some (.ref av_ONE))) (lv_ONE : K.lookup av_ONE = some ⟨.type "tuple", odv_ONE, .seq #[.int 1 tiONE_0, .int 1 tiONE_1] nnv_ONE, slv_ONE⟩)
    (z_abs : PySem.W.nsIn K mainGlobals "abs" = some none)
    (z_bool : PySem.W.nsIn K mainGlobals "bool" = some none)
    (z_int : PySem.W.nsIn K mainGlobals "int" = some none)
    (z_isinstance : PySem.W.nsIn K mainGlobals "isinstance" = some none)
    (z_len : PySem.W.nsIn K mainGlobals "len" = some none)
    (z_list : PySem.W.nsIn K mainGlobals "list" = some none)
    (z_range : PySem.W.nsIn K mainGlobals "range" = some none)
    (z_tuple : PySem.W.nsIn K mainGlobals "tuple" = some none)
    (pg_Hold : PySem.W.plainGet K c_Hold Str.empty = true) (hd_Hold : PySem.W.hasDictIn K c_Hold = true) (po_Hold : PySem.W.plainOver K c_Hold = true) (sa_Hold : PySem.W.findIn K (.ref c_Hold) "__setattr__" = some (some (.builtin "object.__setattr__")))
    (mm_Hold : PySem.W.makesIn K c_Hold = true) (kc_Hold : PySem.W.keepIn K (.ref c_Hold) = true)
    (n_Hold_cap : PySem.W.findIn K (.ref c_Hold) "cap" = some none)
    (n_Hold_load : PySem.W.findIn K (.ref c_Hold) "load" = some none)
    (n_Hold_most : PySem.W.findIn K (.ref c_Hold) "most" = some none)
    (n_Hold_my_flows : PySem.W.findIn K (.ref c_Hold) "my_flows" = some none)
    (n_Hold_my_marks : PySem.W.findIn K (.ref c_Hold) "my_marks" = some none)
    (n_Hold_my_skies : PySem.W.findIn K (.ref c_Hold) "my_skies" = some none)
    (n_Hold_my_stoves : PySem.W.findIn K (.ref c_Hold) "my_stoves" = some none)
    : ∃ Fx : Facts K mg, ∀ (s : Shared) (v : Value), BindsTo s Fx.d_law ⟨[v], []⟩ [("_law_script", v)] := by
  have F1 := fun_mk (st := s__law_cell_at) l1 e1 k1
  have b1 := F1.binds (ps := ["_law_script", "_law_k"]) fun _ _ _ _ _ _ us hl => match us, hl with | [_, _], _ => rfl
  have F2 := fun_mk (st := s__law_pick) l2 e2 k2
  have b2 := F2.binds (ps := ["_law_cell", "_law_k", "_law_many"]) fun _ _ _ _ _ _ us hl => match us, hl with | [_, _, _], _ => rfl
  have F3 := fun_mk (st := s__law_scale) l3 e3 k3
  have b3 := F3.binds (ps := ["_law_cell"]) fun _ _ _ _ _ _ us hl => match us, hl with | [_], _ => rfl
  have F4 := fun_mk (st := s__law_stove_by) l4 e4 k4
  have b4 := F4.binds (ps := ["_law_a", "_law_b", "_law_c", "_law_room"]) fun _ _ _ _ _ _ us hl => match us, hl with | [_, _, _, _], _ => rfl
  have F5 := fun_mk (st := s__law_drawn) l5 e5 k5
  have b5 := F5.binds (ps := ["_law_script"]) fun _ _ _ _ _ _ us hl => match us, hl with | [_], _ => rfl
  have F6 := fun_mk (st := s_is_bound) l6 e6 k6
  have b6 := F6.binds (ps := ["thing", "most"]) fun _ _ _ _ _ _ us hl => match us, hl with | [_, _], _ => rfl
  have F7 := funD_mk (st := s_Hold____init__) (dvs := [.int (4), .int (0), .int (0)]) l7 e7 k7 lT7 (its := [_, _, _]) (.cons ⟨_, rfl⟩ (.cons ⟨_, rfl⟩ (.cons ⟨_, rfl⟩ .nil))) (by simp)
  have bd7_4 : BindsD K _ ["self", "most", "cap", "load"] [] := F7.binds1 (ps := ["self", "most", "cap", "load"]) 4 3 (by simp) rfl fun _ _ _ _ _ _ _ us its h1 h2 => match us, its, h1, h2 with | [_, _, _, _], [_, _, _], _, _ => ⟨_, rfl, rfl⟩
  have F8 := fun_mk (st := s_under) l8 e8 k8
  have b8 := F8.binds (ps := ["one", "other"]) fun _ _ _ _ _ _ us hl => match us, hl with | [_, _], _ => rfl
  have F9 := fun_mk (st := s_do_rise) l9 e9 k9
  have b9 := F9.binds (ps := ["marks"]) fun _ _ _ _ _ _ us hl => match us, hl with | [_], _ => rfl
  have F10 := fun_mk (st := s_Hold__put_room) l10 e10 k10
  have b10 := F10.binds (ps := ["self", "marks"]) fun _ _ _ _ _ _ us hl => match us, hl with | [_, _], _ => rfl
  have F11 := fun_mk (st := s_Hold__ask_room) l11 e11 k11
  have b11 := F11.binds (ps := ["self", "room"]) fun _ _ _ _ _ _ us hl => match us, hl with | [_, _], _ => rfl
  have F12 := fun_mk (st := s_divisor) l12 e12 k12
  have b12 := F12.binds (ps := ["one", "other"]) fun _ _ _ _ _ _ us hl => match us, hl with | [_, _], _ => rfl
  have F13 := fun_mk (st := s_fraction) l13 e13 k13
  have b13 := F13.binds (ps := ["top", "bottom"]) fun _ _ _ _ _ _ us hl => match us, hl with | [_, _], _ => rfl
  have F14 := fun_mk (st := s_plus) l14 e14 k14
  have b14 := F14.binds (ps := ["one", "other"]) fun _ _ _ _ _ _ us hl => match us, hl with | [_, _], _ => rfl
  have F15 := fun_mk (st := s_minus) l15 e15 k15
  have b15 := F15.binds (ps := ["one", "other"]) fun _ _ _ _ _ _ us hl => match us, hl with | [_, _], _ => rfl
  have F16 := fun_mk (st := s_Hold__taken_share) l16 e16 k16
  have b16 := F16.binds (ps := ["self", "room"]) fun _ _ _ _ _ _ us hl => match us, hl with | [_, _], _ => rfl
  have F17 := fun_mk (st := s_Hold__put_sky) l17 e17 k17
  have b17 := F17.binds (ps := ["self", "room", "share", "low", "high"]) fun _ _ _ _ _ _ us hl => match us, hl with | [_, _, _, _, _], _ => rfl
  have F18 := fun_mk (st := s__law_ratio) l18 e18 k18
  have b18 := F18.binds (ps := ["_law_top", "_law_bottom"]) fun _ _ _ _ _ _ us hl => match us, hl with | [_, _], _ => rfl
  have F19 := fun_mk (st := s__law_warm) l19 e19 k19
  have b19 := F19.binds (ps := ["_law_num", "_law_parts", "_law_scale_here"]) fun _ _ _ _ _ _ us hl => match us, hl with | [_, _, _], _ => rfl
  have F20 := funD_mk (st := s_Hold__put_stove) (dvs := [.int (0), .int (0), .int (0)]) l20 e20 k20 lT20 (its := [_, _, _]) (.cons ⟨_, rfl⟩ (.cons ⟨_, rfl⟩ (.cons ⟨_, rfl⟩ .nil))) (by simp)
  have bd20_4 : BindsD K _ ["self", "room", "heat", "wood", "stay", "fails"] [.int (0), .int (0)] := F20.binds1 (ps := ["self", "room", "heat", "wood", "stay", "fails"]) 4 1 (by simp) rfl fun _ _ _ _ _ _ _ us its h1 h2 => match us, its, h1, h2 with | [_, _, _, _], [_, _, _], _, _ => ⟨_, rfl, rfl⟩
  have bd20_6 : BindsD K _ ["self", "room", "heat", "wood", "stay", "fails"] [] := F20.binds1 (ps := ["self", "room", "heat", "wood", "stay", "fails"]) 6 3 (by simp) rfl fun _ _ _ _ _ _ _ us its h1 h2 => match us, its, h1, h2 with | [_, _, _, _, _, _], [_, _, _], _, _ => ⟨_, rfl, rfl⟩
  have F21 := fun_mk (st := s_Hold__put_flow) l21 e21 k21
  have b21 := F21.binds (ps := ["self", "into", "of", "share"]) fun _ _ _ _ _ _ us hl => match us, hl with | [_, _, _, _], _ => rfl
  have F22 := fun_mk (st := s__law_built) l22 e22 k22
  have b22 := F22.binds (ps := ["_law_told"]) fun _ _ _ _ _ _ us hl => match us, hl with | [_], _ => rfl
  have F23 := fun_mk (st := s_Hold__many) l23 e23 k23
  have b23 := F23.binds (ps := ["self"]) fun _ _ _ _ _ _ us hl => match us, hl with | [_], _ => rfl
  have F24 := fun_mk (st := s_Hold__marks) l24 e24 k24
  have b24 := F24.binds (ps := ["self", "room"]) fun _ _ _ _ _ _ us hl => match us, hl with | [_, _], _ => rfl
  have F25 := fun_mk (st := s_Hold__sky) l25 e25 k25
  have b25 := F25.binds (ps := ["self", "room"]) fun _ _ _ _ _ _ us hl => match us, hl with | [_, _], _ => rfl
  have F26 := fun_mk (st := s_Hold__stove) l26 e26 k26
  have b26 := F26.binds (ps := ["self", "room"]) fun _ _ _ _ _ _ us hl => match us, hl with | [_, _], _ => rfl
  have F27 := fun_mk (st := s_Hold__share) l27 e27 k27
  have b27 := F27.binds (ps := ["self", "into", "of"]) fun _ _ _ _ _ _ us hl => match us, hl with | [_, _, _], _ => rfl
  have F28 := fun_mk (st := s__law_seen) l28 e28 k28
  have b28 := F28.binds (ps := ["_law_hold"]) fun _ _ _ _ _ _ us hl => match us, hl with | [_], _ => rfl
  have F29 := funD_mk (st := s_hold_like) (dvs := [.non, .non, .non]) l29 e29 k29 lT29 (its := [_, _, _]) (.cons rfl (.cons rfl (.cons rfl .nil))) (by simp)
  have bd29_1 : BindsD K _ ["hold", "most", "cap", "load"] [.non, .non, .non] := F29.binds1 (ps := ["hold", "most", "cap", "load"]) 1 0 (by simp) rfl fun _ _ _ _ _ _ _ us its h1 h2 => match us, its, h1, h2 with | [_], [_, _, _], _, _ => ⟨_, rfl, rfl⟩
  have bd29_2 : BindsD K _ ["hold", "most", "cap", "load"] [.non, .non] := F29.binds1 (ps := ["hold", "most", "cap", "load"]) 2 1 (by simp) rfl fun _ _ _ _ _ _ _ us its h1 h2 => match us, its, h1, h2 with | [_, _], [_, _, _], _, _ => ⟨_, rfl, rfl⟩
  have bd29_4 : BindsD K _ ["hold", "most", "cap", "load"] [] := F29.binds1 (ps := ["hold", "most", "cap", "load"]) 4 3 (by simp) rfl fun _ _ _ _ _ _ _ us its h1 h2 => match us, its, h1, h2 with | [_, _, _, _], [_, _, _], _, _ => ⟨_, rfl, rfl⟩
  have F30 := fun_mk (st := s__law_changed) l30 e30 k30
  have b30 := F30.binds (ps := ["_law_hold", "_law_cell"]) fun _ _ _ _ _ _ us hl => match us, hl with | [_, _], _ => rfl
  have F31 := fun_mk (st := s__law_bounds) l31 e31 k31
  have b31 := F31.binds (ps := ["_law_hold"]) fun _ _ _ _ _ _ us hl => match us, hl with | [_], _ => rfl
  have F32 := fun_mk (st := s_law) l32 e32 k32
  have b32 := F32.binds (ps := ["_law_script"]) fun _ _ _ _ _ _ us hl => match us, hl with | [_], _ => rfl
  exact ⟨{
    a__law_cell_at := f1,
    d__law_cell_at := _,
    a__law_pick := f2,
    d__law_pick := _,
    a__law_scale := f3,
    d__law_scale := _,
    a__law_stove_by := f4,
    d__law_stove_by := _,
    a__law_drawn := f5,
    d__law_drawn := _,
    a_is_bound := f6,
    d_is_bound := _,
    a_Hold____init__ := f7,
    d_Hold____init__ := _,
    a_under := f8,
    d_under := _,
    a_do_rise := f9,
    d_do_rise := _,
    a_Hold__put_room := f10,
    d_Hold__put_room := _,
    a_Hold__ask_room := f11,
    d_Hold__ask_room := _,
    a_divisor := f12,
    d_divisor := _,
    a_fraction := f13,
    d_fraction := _,
    a_plus := f14,
    d_plus := _,
    a_minus := f15,
    d_minus := _,
    a_Hold__taken_share := f16,
    d_Hold__taken_share := _,
    a_Hold__put_sky := f17,
    d_Hold__put_sky := _,
    a__law_ratio := f18,
    d__law_ratio := _,
    a__law_warm := f19,
    d__law_warm := _,
    a_Hold__put_stove := f20,
    d_Hold__put_stove := _,
    a_Hold__put_flow := f21,
    d_Hold__put_flow := _,
    a__law_built := f22,
    d__law_built := _,
    a_Hold__many := f23,
    d_Hold__many := _,
    a_Hold__marks := f24,
    d_Hold__marks := _,
    a_Hold__sky := f25,
    d_Hold__sky := _,
    a_Hold__stove := f26,
    d_Hold__stove := _,
    a_Hold__share := f27,
    d_Hold__share := _,
    a__law_seen := f28,
    d__law_seen := _,
    a_hold_like := f29,
    d_hold_like := _,
    a__law_changed := f30,
    d__law_changed := _,
    a__law_bounds := f31,
    d__law_bounds := _,
    a_law := f32,
    d_law := _,
    av_NOUGHT := av_NOUGHT,
    wv_NOUGHT := ⟨_, _, _, lv_NOUGHT, rfl, rfl, (by show 2 ≤ 2 ^ 24; decide), (.cons ⟨_, rfl⟩ (.cons ⟨_, rfl⟩ .nil))⟩,
    gv_NOUGHT := PySem.W.mg_of X G nv_NOUGHT,
    av_ONE := av_ONE,
    wv_ONE := ⟨_, _, _, lv_ONE, rfl, rfl, (by show 2 ≤ 2 ^ 24; decide), (.cons ⟨_, rfl⟩ (.cons ⟨_, rfl⟩ .nil))⟩,
    gv_ONE := PySem.W.mg_of X G nv_ONE,
    c_Hold := c_Hold,
    F__law_cell_at := F1,
    b__law_cell_at := b1,
    g__law_cell_at := PySem.W.mg_of X G a1,
    F__law_pick := F2,
    b__law_pick := b2,
    g__law_pick := PySem.W.mg_of X G a2,
    F__law_scale := F3,
    b__law_scale := b3,
    g__law_scale := PySem.W.mg_of X G a3,
    F__law_stove_by := F4,
    b__law_stove_by := b4,
    g__law_stove_by := PySem.W.mg_of X G a4,
    F__law_drawn := F5,
    b__law_drawn := b5,
    g__law_drawn := PySem.W.mg_of X G a5,
    F_is_bound := F6,
    b_is_bound := b6,
    g_is_bound := PySem.W.mg_of X G a6,
    F_Hold____init__ := F7,
    bd_Hold____init___4 := bd7_4,
    F_under := F8,
    b_under := b8,
    g_under := PySem.W.mg_of X G a8,
    F_do_rise := F9,
    b_do_rise := b9,
    g_do_rise := PySem.W.mg_of X G a9,
    F_Hold__put_room := F10,
    b_Hold__put_room := b10,
    bd_Hold__put_room_2 := ⟨[], .nil, b10⟩,
    F_Hold__ask_room := F11,
    b_Hold__ask_room := b11,
    bd_Hold__ask_room_2 := ⟨[], .nil, b11⟩,
    F_divisor := F12,
    b_divisor := b12,
    g_divisor := PySem.W.mg_of X G a12,
    F_fraction := F13,
    b_fraction := b13,
    g_fraction := PySem.W.mg_of X G a13,
    F_plus := F14,
    b_plus := b14,
    g_plus := PySem.W.mg_of X G a14,
    F_minus := F15,
    b_minus := b15,
    g_minus := PySem.W.mg_of X G a15,
    F_Hold__taken_share := F16,
    b_Hold__taken_share := b16,
    bd_Hold__taken_share_2 := ⟨[], .nil, b16⟩,
    F_Hold__put_sky := F17,
    b_Hold__put_sky := b17,
    bd_Hold__put_sky_5 := ⟨[], .nil, b17⟩,
    F__law_ratio := F18,
    b__law_ratio := b18,
    g__law_ratio := PySem.W.mg_of X G a18,
    F__law_warm := F19,
    b__law_warm := b19,
    g__law_warm := PySem.W.mg_of X G a19,
    F_Hold__put_stove := F20,
    bd_Hold__put_stove_4 := bd20_4,
    bd_Hold__put_stove_6 := bd20_6,
    F_Hold__put_flow := F21,
    b_Hold__put_flow := b21,
    bd_Hold__put_flow_4 := ⟨[], .nil, b21⟩,
    F__law_built := F22,
    b__law_built := b22,
    g__law_built := PySem.W.mg_of X G a22,
    F_Hold__many := F23,
    b_Hold__many := b23,
    bd_Hold__many_1 := ⟨[], .nil, b23⟩,
    F_Hold__marks := F24,
    b_Hold__marks := b24,
    bd_Hold__marks_2 := ⟨[], .nil, b24⟩,
    F_Hold__sky := F25,
    b_Hold__sky := b25,
    bd_Hold__sky_2 := ⟨[], .nil, b25⟩,
    F_Hold__stove := F26,
    b_Hold__stove := b26,
    bd_Hold__stove_2 := ⟨[], .nil, b26⟩,
    F_Hold__share := F27,
    b_Hold__share := b27,
    bd_Hold__share_3 := ⟨[], .nil, b27⟩,
    F__law_seen := F28,
    b__law_seen := b28,
    g__law_seen := PySem.W.mg_of X G a28,
    F_hold_like := F29,
    bd_hold_like_1 := bd29_1,
    bd_hold_like_2 := bd29_2,
    bd_hold_like_4 := bd29_4,
    g_hold_like := PySem.W.mg_of X G a29,
    F__law_changed := F30,
    b__law_changed := b30,
    g__law_changed := PySem.W.mg_of X G a30,
    F__law_bounds := F31,
    b__law_bounds := b31,
    g__law_bounds := PySem.W.mg_of X G a31,
    F_law := F32,
    b_law := b32,
    g_law := PySem.W.mg_of X G a32,
    cl_Hold := ⟨pg_Hold, hd_Hold, po_Hold, sa_Hold⟩,
    n_Hold_cap := n_Hold_cap,
    n_Hold_load := n_Hold_load,
    n_Hold_most := n_Hold_most,
    n_Hold_my_flows := n_Hold_my_flows,
    n_Hold_my_marks := n_Hold_my_marks,
    n_Hold_my_skies := n_Hold_my_skies,
    n_Hold_my_stoves := n_Hold_my_stoves,
    M_Hold___init__ := ⟨at_Hold___init__, if7, k7⟩,
    M_Hold_ask_room := ⟨at_Hold_ask_room, if11, k11⟩,
    M_Hold_many := ⟨at_Hold_many, if23, k23⟩,
    M_Hold_marks := ⟨at_Hold_marks, if24, k24⟩,
    M_Hold_put_flow := ⟨at_Hold_put_flow, if21, k21⟩,
    M_Hold_put_room := ⟨at_Hold_put_room, if10, k10⟩,
    M_Hold_put_sky := ⟨at_Hold_put_sky, if17, k17⟩,
    M_Hold_put_stove := ⟨at_Hold_put_stove, if20, k20⟩,
    M_Hold_share := ⟨at_Hold_share, if27, k27⟩,
    M_Hold_sky := ⟨at_Hold_sky, if25, k25⟩,
    M_Hold_stove := ⟨at_Hold_stove, if26, k26⟩,
    M_Hold_taken_share := ⟨at_Hold_taken_share, if16, k16⟩,
    mk_Hold := ⟨mm_Hold, at_Hold___init__, if7, kc_Hold⟩,
    z_abs := PySem.W.mg_none_of X G z_abs,
    z_bool := PySem.W.mg_none_of X G z_bool,
    z_int := PySem.W.mg_none_of X G z_int,
    z_isinstance := PySem.W.mg_none_of X G z_isinstance,
    z_len := PySem.W.mg_none_of X G z_len,
    z_list := PySem.W.mg_none_of X G z_list,
    z_range := PySem.W.mg_none_of X G z_range,
    z_tuple := PySem.W.mg_none_of X G z_tuple,
    gc_Hold := PySem.W.mg_of X G ac_Hold }, fun s v => .of_eq rfl⟩
end K07

/-! Fractions in lowest terms, as the numbers they are. -/
namespace Q
open PySem PySem.Spec PyProof.Rows L2
/-- the fraction in lowest terms -/
def frac (a b : Int) : Int × Int := if b < 0 then (a.fdiv (-(Int.gcd a b)), b.fdiv (-(Int.gcd a b))) else (a / Int.gcd a b, b / Int.gcd a b)
theorem gcd_lt {a b : Int} (hb : b ≠ 0) {n : Nat} (h : b.natAbs < 2 ^ n) : ((Int.gcd a b : Nat) : Int).natAbs < 2 ^ n := by
  rw [Int.natAbs_natCast]
  exact Nat.lt_of_le_of_lt (Nat.le_of_dvd (by omega) (Nat.gcd_dvd_right _ _)) h
theorem gcd_pos {a b : Int} (hb : b ≠ 0) : 0 < Int.gcd a b := Nat.gcd_pos_of_pos_right _ (by omega)
theorem frac_neg {a b : Int} (hn : b < 0) : frac a b = (-(a / Int.gcd a b), -(b / Int.gcd a b)) := by
  have g0 := gcd_pos (a := a) (b := b) (by omega)
  have d1 : (Int.gcd a b : Int) ∣ a := Int.gcd_dvd_left ..
  have d2 : (Int.gcd a b : Int) ∣ b := Int.gcd_dvd_right ..
  obtain ⟨x, hx⟩ := d1
  obtain ⟨y, hy⟩ := d2
  unfold frac
  rw [if_pos hn]
  generalize (Int.gcd a b : Nat) = d at *
  have hd : (d : Int) ≠ 0 := by omega
  have k : ∀ z x : Int, z = d * x → z.fdiv (-(d : Int)) = -x ∧ z / d = x := fun z x e => by
    subst e
    constructor
    · rw [show (d : Int) * x = (-x) * (-(d : Int)) by rw [Int.neg_mul_neg, Int.mul_comm]]
      exact Int.mul_fdiv_cancel _ (by omega)
    · exact Int.mul_ediv_cancel_left _ hd
  rw [(k a x hx).1, (k b y hy).1, (k a x hx).2, (k b y hy).2]
theorem frac_ok {a b : Int} (hb : b ≠ 0) : 0 < (frac a b).2 ∧ (frac a b).1 * b = a * (frac a b).2 ∧ Int.gcd (frac a b).1 (frac a b).2 = 1 ∧ (frac a b).1.natAbs ≤ a.natAbs ∧ (frac a b).2.natAbs ≤ b.natAbs := by
  have g0 := gcd_pos (a := a) hb
  have d1 : (Int.gcd a b : Int) ∣ a := Int.gcd_dvd_left ..
  have d2 : (Int.gcd a b : Int) ∣ b := Int.gcd_dvd_right ..
  have e1 : (a / (Int.gcd a b : Int)) * Int.gcd a b = a := Int.ediv_mul_cancel d1
  have e2 : (b / (Int.gcd a b : Int)) * Int.gcd a b = b := Int.ediv_mul_cancel d2
  have cg : Int.gcd (a / Int.gcd a b) (b / Int.gcd a b) = 1 := Int.gcd_ediv_gcd_ediv_gcd g0
  have n1 : (a / (Int.gcd a b : Int)).natAbs ≤ a.natAbs := by
    conv => rhs; rw [← e1]
    rw [Int.natAbs_mul, Int.natAbs_natCast]
    exact Nat.le_mul_of_pos_right _ g0
  have n2 : (b / (Int.gcd a b : Int)).natAbs ≤ b.natAbs := by
    conv => rhs; rw [← e2]
    rw [Int.natAbs_mul, Int.natAbs_natCast]
    exact Nat.le_mul_of_pos_right _ g0
  generalize hx : a / (Int.gcd a b : Int) = x at *
  generalize hy : b / (Int.gcd a b : Int) = y at *
  have gp : (0 : Int) < Int.gcd a b := by omega
  have cross : x * b = a * y := by
    calc x * b = x * (y * (Int.gcd a b : Int)) := by rw [e2]
      _ = (x * (Int.gcd a b : Int)) * y := by rw [Int.mul_comm y, ← Int.mul_assoc]
      _ = a * y := by rw [e1]
  by_cases hn : b < 0
  · rw [frac_neg hn, hx, hy]
    refine ⟨?_, ?_, ?_, by rw [Int.natAbs_neg]; exact n1, by rw [Int.natAbs_neg]; exact n2⟩
    · show 0 < -y
      have : y < 0 := by
        rcases Int.lt_trichotomy y 0 with h | h | h
        · exact h
        · rw [h, Int.zero_mul] at e2; omega
        · have := Int.mul_pos h gp; omega
      omega
    · show -x * b = a * -y
      rw [Int.neg_mul, Int.mul_neg, cross]
    · show Int.gcd (-x) (-y) = 1
      rw [Int.neg_gcd, Int.gcd_neg]; exact cg
  · have ef : frac a b = (x, y) := by unfold frac; rw [if_neg hn, hx, hy]
    rw [ef]
    refine ⟨?_, ?_, cg, n1, n2⟩
    · show 0 < y
      rcases Int.lt_trichotomy y 0 with h | h | h
      · have := Int.mul_neg_of_neg_of_pos h gp; omega
      · rw [h, Int.zero_mul] at e2; omega
      · exact h
    · exact cross

/-- a fraction told -/
def rD (q : Rat) : D := .tup [.int q.num, .int q.den]
def rI (a b : Int) : Rat := (a : Rat) / (b : Rat)
theorem intc {b : Int} (h : b ≠ 0) : (b : Rat) ≠ 0 := by simpa using h
theorem rI_eq {a b x y : Int} (hb : b ≠ 0) (hy : y ≠ 0) (e : x * b = a * y) : rI x y = rI a b := by
  have h1 := intc hb
  have h2 := intc hy
  have e1 : (x : Rat) * b = a * y := by rw [← Rat.intCast_mul, ← Rat.intCast_mul, e]
  unfold rI
  grind
theorem rI_mul {a b : Int} (hb : b ≠ 0) : rI a b * b = a := by
  have h1 := intc hb
  unfold rI
  grind
theorem rat_rI (q : Rat) : rI q.num q.den = q := by
  unfold rI
  rw [← Rat.divInt_eq_div, Rat.num_divInt_den]
theorem den_pos (q : Rat) : (0 : Int) < q.den := by have := q.den_pos; omega
theorem rI_low {x y : Int} (hy : 0 < y) (g : Int.gcd x y = 1) : (rI x y).num = x ∧ ((rI x y).den : Int) = y := by
  have c : x.natAbs.Coprime y.toNat := by
    have : y.toNat = y.natAbs := by omega
    rw [this]
    exact g
  have hz : y.toNat ≠ 0 := by omega
  have e : (⟨x, y.toNat, hz, c⟩ : Rat) = rI x y := by
    rw [Rat.mk_eq_divInt, Rat.divInt_eq_div, Int.toNat_of_nonneg (by omega)]
    rfl
  rw [← e]
  exact ⟨rfl, Int.toNat_of_nonneg (by omega)⟩
theorem frac_rI {a b : Int} (hb : b ≠ 0) : D.tup [.int (frac a b).1, .int (frac a b).2] = rD (rI a b) := by
  obtain ⟨q1, q2, q3, _, _⟩ := frac_ok (a := a) hb
  have e := rI_eq hb (by omega) q2
  obtain ⟨h1, h2⟩ := rI_low q1 q3
  unfold rD
  rw [← e, h1, h2]
/-- of few figures -/
def rb (n : Nat) (q : Rat) : Prop := q.num.natAbs < 2 ^ n ∧ q.den < 2 ^ n
theorem bd_mul {a b : Int} {m n : Nat} (ha : a.natAbs < 2 ^ m) (hb : b.natAbs < 2 ^ n) : (a * b).natAbs < 2 ^ (m + n) := by
  rw [Int.natAbs_mul, Nat.pow_add]
  exact Nat.mul_lt_mul'' ha hb
theorem bd_mono {a m n : Nat} (ha : a < 2 ^ m) (h : m ≤ n) : a < 2 ^ n := Nat.lt_of_lt_of_le ha (Nat.pow_le_pow_right (by decide) h)
theorem bd_add {a b : Int} {m : Nat} (ha : a.natAbs < 2 ^ m) (hb : b.natAbs < 2 ^ m) : (a + b).natAbs < 2 ^ (m + 1) := by
  rw [Nat.pow_succ]; omega
theorem bd_sub {a b : Int} {m : Nat} (ha : a.natAbs < 2 ^ m) (hb : b.natAbs < 2 ^ m) : (a - b).natAbs < 2 ^ (m + 1) := by
  rw [Nat.pow_succ]; omega
theorem rb_rI {a b : Int} {n : Nat} (hb : b ≠ 0) (h1 : a.natAbs < 2 ^ n) (h2 : b.natAbs < 2 ^ n) : rb n (rI a b) := by
  obtain ⟨q1, q2, q3, q4, q5⟩ := frac_ok (a := a) hb
  have e := rI_eq hb (by omega) q2
  obtain ⟨k1, k2⟩ := rI_low q1 q3
  rw [← e]
  constructor
  · rw [k1]; omega
  · have : ((rI (frac a b).1 (frac a b).2).den : Int).natAbs < 2 ^ n := by rw [k2]; omega
    rwa [Int.natAbs_natCast] at this
theorem rb_mono {m n : Nat} {q : Rat} (h : rb m q) (k : m ≤ n) : rb n q := ⟨bd_mono h.1 k, bd_mono h.2 k⟩
theorem rb.den {n : Nat} {q : Rat} (h : rb n q) : ((q.den : Nat) : Int).natAbs < 2 ^ n := by rw [Int.natAbs_natCast]; exact h.2
theorem add_rI (p q : Rat) : rI (p.num * q.den + q.num * p.den) (p.den * q.den) = p + q := by
  have h1 := intc (show ((p.den : Nat) : Int) ≠ 0 by have := den_pos p; omega)
  have h2 := intc (show ((q.den : Nat) : Int) ≠ 0 by have := den_pos q; omega)
  have e1 := rat_rI p
  have e2 := rat_rI q
  unfold rI at *
  rw [Rat.intCast_add, Rat.intCast_mul, Rat.intCast_mul, Rat.intCast_mul]
  grind
theorem sub_rI (p q : Rat) : rI (p.num * q.den - q.num * p.den) (p.den * q.den) = p - q := by
  have h1 := intc (show ((p.den : Nat) : Int) ≠ 0 by have := den_pos p; omega)
  have h2 := intc (show ((q.den : Nat) : Int) ≠ 0 by have := den_pos q; omega)
  have e1 := rat_rI p
  have e2 := rat_rI q
  unfold rI at *
  rw [Rat.intCast_sub, Rat.intCast_mul, Rat.intCast_mul, Rat.intCast_mul]
  grind
theorem mul_rI (p q : Rat) : rI (p.num * q.num) (p.den * q.den) = p * q := by
  have h1 := intc (show ((p.den : Nat) : Int) ≠ 0 by have := den_pos p; omega)
  have h2 := intc (show ((q.den : Nat) : Int) ≠ 0 by have := den_pos q; omega)
  have e1 := rat_rI p
  have e2 := rat_rI q
  unfold rI at *
  rw [Rat.intCast_mul, Rat.intCast_mul]
  grind
theorem den2 (p q : Rat) : (p.den : Int) * q.den ≠ 0 := Int.mul_ne_zero (by have := den_pos p; omega) (by have := den_pos q; omega)
theorem rb_add {m n : Nat} {p q : Rat} (hp : rb m p) (hq : rb n q) : rb (m + n + 1) (p + q) := by
  rw [← add_rI]
  refine rb_rI (den2 p q) (bd_add (bd_mul hp.1 hq.den) ?_) (bd_mono (bd_mul hp.den hq.den) (by omega))
  rw [Nat.add_comm m n]
  exact bd_mul hq.1 hp.den
theorem rb_sub {m n : Nat} {p q : Rat} (hp : rb m p) (hq : rb n q) : rb (m + n + 1) (p - q) := by
  rw [← sub_rI]
  refine rb_rI (den2 p q) (bd_sub (bd_mul hp.1 hq.den) ?_) (bd_mono (bd_mul hp.den hq.den) (by omega))
  rw [Nat.add_comm m n]
  exact bd_mul hq.1 hp.den
theorem rb_mul {m n : Nat} {p q : Rat} (hp : rb m p) (hq : rb n q) : rb (m + n) (p * q) := by
  rw [← mul_rI]
  exact rb_rI (den2 p q) (bd_mul hp.1 hq.1) (bd_mul hp.den hq.den)
theorem rb_0 : rb 1 0 := ⟨by decide, by decide⟩
theorem rb_1 : rb 1 1 := ⟨by decide, by decide⟩
theorem rD_0 : D.tup [.int 0, .int 1] = rD 0 := rfl
theorem rD_1 : D.tup [.int 1, .int 1] = rD 1 := rfl
theorem hIx_rD0 (q : Rat) : hIx (rD q) (.int 0) = some (.int q.num) := hIxT0
theorem hIx_rD1 (q : Rat) : hIx (rD q) (.int 1) = some (.int q.den) := hIxT1
theorem num_den_eq {q : Rat} {a b : Int} (hb : b ≠ 0) (h : q = rI a b) : q.num * b = a * q.den := by
  have h1 := intc hb
  have h2 := intc (show ((q.den : Nat) : Int) ≠ 0 by have := den_pos q; omega)
  have e1 := rat_rI q
  refine Rat.intCast_inj.mp ?_
  rw [Rat.intCast_mul, Rat.intCast_mul]
  unfold rI at *
  grind
theorem gcd_rat (q : Rat) : Int.gcd q.num q.den = 1 := q.reduced
theorem lt_rat (p q : Rat) : (p.num * q.den < q.num * p.den) = (p < q) := propext (Rat.lt_iff p q).symm
/-! sums -/
def sumQ (f : Nat → Rat) : Nat → Rat
  | 0 => 0
  | n + 1 => sumQ f n + f n
theorem sumQ_add (f g : Nat → Rat) : ∀ n, sumQ (fun j => f j + g j) n = sumQ f n + sumQ g n
  | 0 => by simp only [sumQ]; grind
  | n + 1 => by simp only [sumQ]; rw [sumQ_add f g n]; grind
theorem sumQ_congr {f g : Nat → Rat} : ∀ {n}, (∀ j, j < n → f j = g j) → sumQ f n = sumQ g n
  | 0, _ => rfl
  | n + 1, h => by simp only [sumQ]; rw [sumQ_congr (n := n) (fun j hj => h j (by omega)), h n (by omega)]
theorem sumQ_split {f : Nat → Rat} {r : Nat} : ∀ {n}, r < n → sumQ f n = f r + sumQ (fun j => if j = r then 0 else f j) n
  | 0, h => by omega
  | n + 1, h => by
    simp only [sumQ]
    by_cases e : r = n
    · subst e
      rw [if_pos rfl, sumQ_congr (f := fun j => if j = r then 0 else f j) (g := f) (fun j hj => if_neg (by omega))]
      grind
    · rw [sumQ_split (r := r) (n := n) (by omega), if_neg (by omega)]
      grind
theorem sumQ_le {f g : Nat → Rat} : ∀ {n}, (∀ j, j < n → f j ≤ g j) → sumQ f n ≤ sumQ g n
  | 0, _ => by simp only [sumQ]; grind
  | n + 1, h => by
    simp only [sumQ]
    have h1 := sumQ_le (n := n) (fun j hj => h j (by omega))
    have h2 := h n (by omega)
    grind
theorem sumQ_const (c : Rat) : ∀ n, sumQ (fun _ => c) n = n * c
  | 0 => by simp only [sumQ]; grind
  | n + 1 => by simp only [sumQ]; rw [sumQ_const c n]; simp; grind
theorem sumQ_mul (c : Rat) (f : Nat → Rat) : ∀ n, sumQ (fun j => c * f j) n = c * sumQ f n
  | 0 => by simp only [sumQ]; grind
  | n + 1 => by simp only [sumQ]; rw [sumQ_mul c f n]; grind
theorem rb_sumQ {f : Nat → Rat} {m : Nat} : ∀ {n}, (∀ j, j < n → rb m (f j)) → rb ((m + 1) * (n + 1)) (sumQ f n)
  | 0, _ => rb_mono rb_0 (by omega)
  | n + 1, h => rb_mono (rb_add (rb_sumQ (n := n) (fun j hj => h j (by omega))) (h n (by omega))) (by simp only [Nat.mul_add, Nat.add_mul]; omega)
end Q

/-! What is said of places in fields, at data. A hold of rooms as data. -/
namespace Q
open PySem PySem.Spec PyProof.Rows L2
section
variable {fm : Nat → Str → Nat} {c n i : Nat} {f : Str} {ρ : Env} {S : Store} {l m : List D} {x d : D} {r q : Nat}
theorem ev_fldV {cs : List Nat} {a : FE} : eFldV cs f a ρ S = (a ρ S).bind fun x S1 => fldV cs f x S1 := rfl
theorem ev_fld {cs : List Nat} {a : FE} : eFld fm cs f a ρ S = (a ρ S).bind fun x S1 => fldK fm cs f x S1 := rfl
theorem ev_meth {m : Str} {tbl : List (Nat × FF)} {dd : List D} {a : FE} {as : FL} : eMeth m tbl dd a as ρ S = (a ρ S).bind fun x S1 => methK m tbl dd x S1 (fun S2 => as ρ S2) := rfl
theorem ixN_nat {k r : Nat} (h : r < k) : ixN k (r : Int) = some r := by
  unfold ixN
  rw [if_pos (by omega)]
  simp
  exact h
theorem posOf_nat (h : l[r]? = some d) : posOf (.lst l) (.int r) = some (r, d) := by
  have hr := (List.getElem?_eq_some_iff.mp h).1
  show (ixN l.length (r : Int)).bind _ = _
  rw [ixN_nat hr]
  show (l[r]?).map _ = _
  rw [h]
  rfl
theorem deep_of {k : Nat} (hg : getF S n f = some (c, x)) : deep fm S n f k = decide (k ≤ fm c f) := by
  unfold deep
  rw [hg]
theorem pFld_at (ho : ρ[i]? = some (some (.obj n))) (hg : getF S n f = some (c, x)) : pFld [c] f (eVar i) ρ S = .ok n f [] x S := by
  unfold pFld eVar
  rw [ho]
  show pFldK [c] f (.obj n) S = _
  show (match getF S n f with
    | some (c', d) => if c' ∈ [c] then RP.ok n f [] d S else .no
    | none => .no) = _
  rw [hg]
  exact if_pos (List.mem_singleton.mpr rfl)
theorem pIx_at {p : FP} {js : List Nat} {e : FE} {l : List D} (hp : p ρ S = .ok n f js (.lst l) S) (he : e ρ S = .ok (.int r) S) (hg : getF S n f = some (c, x)) (hl : l[r]? = some d) (hf : js.length + 1 ≤ fm c f) : pIx fm p e ρ S = .ok n f (js ++ [r]) d S := by
  unfold pIx
  rw [hp]
  show (match e ρ S with
    | .ok k S2 => pIxK fm n f js S2 (posOf (.lst l) k)
    | .exc y S2 => .exc y S2
    | .no => .no) = _
  rw [he]
  show pIxK fm n f js S (posOf (.lst l) (.int r)) = _
  rw [posOf_nat hl]
  show (if deep fm S n f (js.length + 1) = true then RP.ok n f (js ++ [r]) d S else .no) = _
  rw [deep_of hg, decide_eq_true hf]
  rfl
theorem eAt_at {p : FP} {js : List Nat} (hp : p ρ S = .ok n f js d S) (hg : getF S n f = some (c, x)) (hf : fm c f = js.length) : eAt fm p ρ S = .ok d S := by
  unfold eAt
  rw [hp]
  show (if deep fm S n f js.length = true ∧ deep fm S n f (js.length + 1) = false then RE.ok d S else .no) = _
  rw [deep_of hg, deep_of hg, hf]
  exact if_pos ⟨by simp, by simp⟩
theorem at1 {e : FE} (ho : ρ[i]? = some (some (.obj n))) (hg : getF S n f = some (c, .lst l)) (he : e ρ S = .ok (.int r) S) (hl : l[r]? = some d) (hf : fm c f = 1) : eAt fm (pIx fm (pFld [c] f (eVar i)) e) ρ S = .ok d S :=
  eAt_at (pIx_at (pFld_at ho hg) he hg hl (by rw [hf]; exact Nat.le_refl _)) hg hf
theorem at2 {e e2 : FE} (ho : ρ[i]? = some (some (.obj n))) (hg : getF S n f = some (c, .lst l)) (he : e ρ S = .ok (.int r) S) (hl : l[r]? = some (.lst m)) (he2 : e2 ρ S = .ok (.int q) S) (hm : m[q]? = some d) (hf : fm c f = 2) : eAt fm (pIx fm (pIx fm (pFld [c] f (eVar i)) e) e2) ρ S = .ok d S :=
  eAt_at (pIx_at (pIx_at (pFld_at ho hg) he hg hl (by rw [hf]; decide)) he2 hg hm (by show 2 ≤ fm c f; omega)) hg hf
theorem plPut_at {k : Nat} {js : List Nat} {y : D} (hg : getF S n f = some (c, x)) (hf : fm c f = js.length + k) : plPut fm k n f js y S ρ = .nx ρ (setF S n f (setAt js x y)) := by
  unfold plPut
  rw [hg]
  exact if_pos hf
theorem pset1 {e v : FE} (hv : v ρ S = .ok x S) (ho : ρ[i]? = some (some (.obj n))) (hg : getF S n f = some (c, .lst l)) (he : e ρ S = .ok (.int r) S) (hl : r < l.length) (hf : fm c f = 1) : fPSet fm (pFld [c] f (eVar i)) e v ρ S = .nx ρ (setF S n f (.lst (l.set r x))) := by
  unfold fPSet
  rw [hv]
  show (pFld [c] f (eVar i) ρ S).bindS ρ _ = _
  rw [pFld_at ho hg]
  show (e ρ S).bindS ρ _ = _
  rw [he]
  show optK (posOf (.lst l) (.int r)) _ = _
  rw [posOf_nat (List.getElem?_eq_getElem hl)]
  show plPut fm 1 n f [] (.lst (l.set r x)) S ρ = _
  rw [plPut_at hg hf]
  rfl
theorem pset2 {e e2 v : FE} (hv : v ρ S = .ok x S) (ho : ρ[i]? = some (some (.obj n))) (hg : getF S n f = some (c, .lst l)) (he : e ρ S = .ok (.int r) S) (hl : l[r]? = some (.lst m)) (he2 : e2 ρ S = .ok (.int q) S) (hm : q < m.length) (hf : fm c f = 2) : fPSet fm (pIx fm (pFld [c] f (eVar i)) e) e2 v ρ S = .nx ρ (setF S n f (.lst (l.set r (.lst (m.set q x))))) := by
  unfold fPSet
  rw [hv]
  show (pIx fm (pFld [c] f (eVar i)) e ρ S).bindS ρ _ = _
  rw [pIx_at (pFld_at ho hg) he hg hl (by rw [hf]; decide)]
  show (e2 ρ S).bindS ρ _ = _
  rw [he2]
  show optK (posOf (.lst m) (.int q)) _ = _
  rw [posOf_nat (List.getElem?_eq_getElem hm)]
  show plPut fm 1 n f [r] (.lst (m.set q x)) S ρ = _
  rw [plPut_at hg hf]
  show RS.nx ρ (setF S n f (match l[r]? with
    | some d => .lst (l.set r (setAt [] d (.lst (m.set q x))))
    | none => .lst l)) = _
  rw [hl]
  rfl
theorem pmut1 {v : FE} (hv : v ρ S = .ok x S) (ho : ρ[i]? = some (some (.obj n))) (hg : getF S n f = some (c, .lst l)) (hl : l.length < 1000000) (hf : fm c f = 1) : fPMut fm (pFld [c] f (eVar i)) mAppend (lCons v lNil) ρ S = .nx ρ (setF S n f (.lst (l ++ [x]))) := by
  unfold fPMut
  rw [pFld_at ho hg]
  show (if deep fm S n f (0 + 1) = true then _ else RS.no) = _
  rw [deep_of hg, hf]
  show (lCons v lNil ρ S).bindR ρ _ = _
  unfold lCons
  rw [hv]
  show optK (mAppend l [x]) _ = _
  rw [mAppend_lt hl]
  show plPut fm 1 n f [] (.lst (l ++ [x])) S ρ = _
  rw [plPut_at hg hf]
  rfl
theorem papp {v : FE} (hv : v ρ S = .ok x S) (ho : ρ[i]? = some (some (.obj n))) (hg : getF S n f = some (c, .lst l)) (hl : l.length < 1000000) (hf : fm c f = 2) : fPApp fm (pFld [c] f (eVar i)) v ρ S = .nx ρ (setF S n f (.lst (l ++ [x]))) := by
  unfold fPApp
  rw [pFld_at ho hg]
  show (if deep fm S n f (0 + 2) = true ∧ l.length < 1000000 then _ else RS.no) = _
  rw [deep_of hg, hf, if_pos ⟨rfl, hl⟩, hv]
  show plPut fm 2 n f [] (.lst (l ++ [x])) S ρ = _
  rw [plPut_at hg hf]
  rfl
theorem forp1 {tf : D → Env → Option Env} {b : FS} (ho : ρ[i]? = some (some (.obj n))) (hg : getF S n f = some (c, .lst l)) (hf : fm c f = 1) : fForP fm (pFld [c] f (eVar i)) tf b ρ S = forC tf b l ρ S := by
  unfold fForP
  rw [pFld_at ho hg]
  show (if deep fm S n f (0 + 1) = true ∧ deep fm S n f (0 + 2) = false then forC tf b l ρ S else RS.no) = _
  rw [deep_of hg, deep_of hg, hf]
  exact if_pos ⟨rfl, rfl⟩
theorem forp2 {tf : D → Env → Option Env} {b : FS} {e : FE} (ho : ρ[i]? = some (some (.obj n))) (hg : getF S n f = some (c, .lst l)) (he : e ρ S = .ok (.int r) S) (hl : l[r]? = some (.lst m)) (hf : fm c f = 2) : fForP fm (pIx fm (pFld [c] f (eVar i)) e) tf b ρ S = forC tf b m ρ S := by
  unfold fForP
  rw [pIx_at (pFld_at ho hg) he hg hl (by rw [hf]; decide)]
  show (if deep fm S n f (1 + 1) = true ∧ deep fm S n f (1 + 2) = false then forC tf b m ρ S else RS.no) = _
  rw [deep_of hg, deep_of hg, hf]
  exact if_pos ⟨rfl, rfl⟩
theorem forapp {j : Nat} (ho : ρ[i]? = some (some (.obj n))) (hg : getF S n f = some (c, .lst l)) (hs : l.all shortL = true) (hj : j < ρ.length) (hf : fm c f = 2) : fForApp fm (pFld [c] f (eVar i)) j x ρ S = .nx (if l.isEmpty = true then ρ else ρ.set j none) (setF S n f (.lst (l.map (appD x)))) := by
  unfold fForApp
  rw [pFld_at ho hg]
  show (if ([] : List Nat) = [] ∧ deep fm S n f 2 = true ∧ deep fm S n f 3 = false ∧ l.all shortL = true ∧ j < ρ.length then _ else RS.no) = _
  rw [deep_of hg, deep_of hg, hf]
  exact if_pos ⟨rfl, rfl, rfl, hs, hj⟩
end
theorem ev_chain {h h' : D → D → Option D} {a b c : FE} {ρ : Env} {S : Store} : eChain h h' a b c ρ S = (a ρ S).bind fun x S1 => (b ρ S1).bind fun y S2 => (RE.of S2 (h x y)).bind fun z S3 => condE z ((c ρ S3).bind fun w S4 => .of S4 (h' y w)) (.ok (.bl false) S3) := rfl
theorem fldPut_at {fm : Nat → Str → Nat} {c n k : Nat} {f : Str} {d : D} {ρ : Env} {S : Store} {fs : List (Str × D)} (ho : S[n]? = some ⟨c, fs⟩) (hf : fm c f = k) (hl : fs.length < 1000) : fldPut fm [c] k f (.obj n) d ρ S = .nx ρ (S.set n ⟨c, putD f d fs⟩) := by
  show (match S[n]? with
    | some ob => if ob.cls ∈ [c] ∧ fm ob.cls f = k ∧ ob.fs.length < 1000 then RS.nx ρ (S.set n ⟨ob.cls, putD f d ob.fs⟩) else .no
    | none => .no) = _
  rw [ho]
  exact if_pos ⟨List.mem_singleton.mpr rfl, hf, hl⟩
theorem fFld_at {fm : Nat → Str → Nat} {c n k i : Nat} {f : Str} {d : D} {e : FE} {ρ : Env} {S : Store} {fs : List (Str × D)} (he : e ρ S = .ok d S) (hi : ρ[i]? = some (some (.obj n))) (ho : S[n]? = some ⟨c, fs⟩) (hf : fm c f = k) (hl : fs.length < 1000) : fFld fm [c] k f (eVar i) e ρ S = .nx ρ (S.set n ⟨c, putD f d fs⟩) := by
  unfold fFld
  rw [he]
  show (eVar i ρ S).bindS ρ _ = _
  unfold eVar
  rw [hi]
  exact fldPut_at ho hf hl
theorem eMake_at {c : Nat} {Φ : FF} {dd : List D} {as : FL} {ρ : Env} {S S1 S2 : Store} {ds : List D} {o : Env} (ha : as ρ S = .ok ds S1) (hf : Φ (.obj S1.length :: (ds ++ dd)) (S1 ++ [⟨c, []⟩]) = .ok .non o S2) : eMake c Φ dd as ρ S = .ok (.obj S1.length) S2 := by
  unfold eMake
  rw [ha]
  show makeR S1.length (Φ (.obj S1.length :: (ds ++ dd)) (S1 ++ [⟨c, []⟩])) = _
  rw [hf]
  rfl
theorem last_get {S : Store} {o : Ob} : (S ++ [o])[S.length]? = some o := by simp
theorem last_set {S : Store} {o p : Ob} : (S ++ [o]).set S.length p = S ++ [p] := by simp
theorem rfe_ok {d : D} {o : Env} {S : Store} : RFE (.ok d o S) = .ok d S := rfl
theorem call0_ok {Φ : FF} {as : FL} {ρ : Env} {S S1 : Store} {ds : List D} {d : D} {o : Env} (ha : as ρ S = .ok ds S1) (hn : noObjL ds = true) (hf : Φ ds [] = .ok d o []) : eCall0 Φ as ρ S = .ok d S1 := by
  unfold eCall0
  rw [ha]
  show (if noObjL ds = true then (match Φ ds [] with
    | .ok d _ [] => RE.ok d S1
    | _ => .no) else .no) = _
  rw [if_pos hn, hf]
/-! ### a hold of rooms: so many rooms, the marks, flows, sky, stove of each -/
def tbl {α : Type} (m : Nat) (f : Nat → α) : List α := (List.range m).map f
theorem tbl_len {α : Type} {m : Nat} {f : Nat → α} : (tbl m f).length = m := by unfold tbl; simp
theorem tbl_get {α : Type} {m r : Nat} {f : Nat → α} (h : r < m) : (tbl m f)[r]? = some (f r) := by
  unfold tbl
  rw [List.getElem?_map, List.getElem?_range h]
  rfl
theorem tbl_succ {α : Type} {m : Nat} {f : Nat → α} : tbl (m + 1) f = tbl m f ++ [f m] := by
  unfold tbl
  rw [List.range_succ, List.map_append]
  rfl
theorem tbl_congr {α : Type} {m : Nat} {f g : Nat → α} (h : ∀ j, j < m → f j = g j) : tbl m f = tbl m g := by
  unfold tbl
  exact List.map_congr_left fun j hj => h j (List.mem_range.mp hj)
theorem tbl_set {α : Type} {m r : Nat} {f : Nat → α} {x : α} : (tbl m f).set r x = tbl m fun i => if i = r then x else f i := by
  refine List.ext_getElem? fun i => ?_
  rw [List.getElem?_set]
  by_cases hi : i < m
  · rw [tbl_get hi, tbl_get hi, tbl_len]
    by_cases e : r = i
    · subst e; rw [if_pos rfl, if_pos hi, if_pos rfl]
    · rw [if_neg e, if_neg (Ne.symm e)]
  · rw [List.getElem?_eq_none (l := tbl m f) (by rw [tbl_len]; omega), List.getElem?_eq_none (l := tbl m _) (by rw [tbl_len]; omega), tbl_len]
    by_cases e : r = i
    · subst e; rw [if_pos rfl, if_neg hi]
    · rw [if_neg e]
theorem tbl_map {α β : Type} {m : Nat} {f : Nat → α} {g : α → β} : (tbl m f).map g = tbl m fun i => g (f i) := by
  unfold tbl
  rw [List.map_map]
  rfl
theorem tbl_mem {α : Type} {m : Nat} {f : Nat → α} {x : α} : x ∈ tbl m f ↔ ∃ i, i < m ∧ f i = x := by
  unfold tbl
  simp
theorem tbl_zero {α : Type} {f : Nat → α} : tbl 0 f = [] := rfl
theorem tbl_const {α : Type} {m : Nat} {x : α} : tbl m (fun _ => x) = List.replicate m x := by
  refine List.ext_getElem? fun i => ?_
  by_cases hi : i < m
  · rw [tbl_get hi, List.getElem?_replicate, if_pos hi]
  · rw [List.getElem?_eq_none (l := tbl m _) (by rw [tbl_len]; omega), List.getElem?_replicate, if_neg hi]
theorem foldl_tbl {g : Nat → Rat} {x : Rat} : ∀ m, (tbl m g).foldl (· + ·) x = x + sumQ g m
  | 0 => by rw [tbl_zero]; simp only [List.foldl, sumQ]; grind
  | m + 1 => by
    rw [tbl_succ, List.foldl_append, foldl_tbl m]
    simp only [List.foldl, sumQ]
    grind
structure Hs where
  most : Int
  cap : Int
  load : Int
  many : Nat
  marks : Nat → List Rat
  flow : Nat → Nat → Rat
  sky : Nat → Rat × Rat × Rat
  stove : Nat → Option (Rat × Int × Int × Int)
def rsD (m : List Rat) : D := .lst (m.map rD)
def skyD (s : Rat × Rat × Rat) : D := .tup [rD s.1, rD s.2.1, rD s.2.2]
def stoveD : Option (Rat × Int × Int × Int) → D
  | none => .non
  | some (h, w, s, f) => .tup [rD h, .int w, .int s, .int f]
def Hs.flows (h : Hs) : D := .lst (tbl h.many fun i => .lst (tbl h.many fun j => rD (h.flow i j)))
def Hs.fs (h : Hs) : List (Str × D) := [("most", .int h.most), ("cap", .int h.cap), ("load", .int h.load), ("my_marks", .lst (tbl h.many fun i => rsD (h.marks i))), ("my_flows", h.flows), ("my_skies", .lst (tbl h.many fun i => skyD (h.sky i))), ("my_stoves", .lst (tbl h.many fun i => stoveD (h.stove i)))]
def Hs.ob (h : Hs) (c : Nat) : Ob := ⟨c, h.fs⟩
def At (S : Store) (n c : Nat) (h : Hs) : Prop := S[n]? = some (h.ob c)
/-- the share taken of a room -/
def Hs.taken (h : Hs) (r : Nat) : Rat := (h.sky r).1 + sumQ (h.flow r) h.many
/-- few rooms, of few figures -/
structure Hs.Wf (h : Hs) (k : Nat) : Prop where
  m4 : h.many ≤ 4
  bf : ∀ i j, i < h.many → j < h.many → rb k (h.flow i j)
  bs : ∀ i, i < h.many → rb k (h.sky i).1
def Hs.add (h : Hs) (ms : List Rat) : Hs := { h with many := h.many + 1, marks := fun i => if i = h.many then ms else h.marks i, flow := fun i j => if i = h.many ∨ j = h.many then 0 else h.flow i j, sky := fun i => if i = h.many then (0, 0, 0) else h.sky i, stove := fun i => if i = h.many then none else h.stove i }
def Hs.setSky (h : Hs) (r : Nat) (s : Rat × Rat × Rat) : Hs := { h with sky := fun i => if i = r then s else h.sky i }
def Hs.setFlow (h : Hs) (r q : Nat) (s : Rat) : Hs := { h with flow := fun i j => if i = r then (if j = q then s else h.flow i j) else h.flow i j }
def Hs.setStove (h : Hs) (r : Nat) (s : Option (Rat × Int × Int × Int)) : Hs := { h with stove := fun i => if i = r then s else h.stove i }
/-- a hold with no room -/
def Hs.none (a b c : Int) : Hs := ⟨a, b, c, 0, fun _ => [], fun _ _ => 0, fun _ => (0, 0, 0), fun _ => .none⟩
section
variable {S : Store} {n c : Nat} {h : Hs} {fm : Nat → Str → Nat}
theorem At.lt (a : At S n c h) : n < S.length := (List.getElem?_eq_some_iff.mp a).1
theorem At.set {h' : Hs} (a : At S n c h) : At (S.set n (h'.ob c)) n c h' := by
  show (S.set n (h'.ob c))[n]? = _
  rw [List.getElem?_set_self a.lt]
theorem At.marks (a : At S n c h) : getF S n "my_marks" = some (c, .lst (tbl h.many fun i => rsD (h.marks i))) := by
  unfold getF; rw [a]; rfl
theorem At.flows (a : At S n c h) : getF S n "my_flows" = some (c, .lst (tbl h.many fun i => .lst (tbl h.many fun j => rD (h.flow i j)))) := by
  unfold getF; rw [a]; rfl
theorem At.skies (a : At S n c h) : getF S n "my_skies" = some (c, .lst (tbl h.many fun i => skyD (h.sky i))) := by
  unfold getF; rw [a]; rfl
theorem At.stoves (a : At S n c h) : getF S n "my_stoves" = some (c, .lst (tbl h.many fun i => stoveD (h.stove i))) := by
  unfold getF; rw [a]; rfl
theorem At.most (a : At S n c h) : getF S n "most" = some (c, .int h.most) := by
  unfold getF; rw [a]; rfl
theorem At.cap (a : At S n c h) : getF S n "cap" = some (c, .int h.cap) := by
  unfold getF; rw [a]; rfl
theorem At.load (a : At S n c h) : getF S n "load" = some (c, .int h.load) := by
  unfold getF; rw [a]; rfl
theorem fldV_of {f : Str} {x : D} (hg : getF S n f = some (c, x)) : fldV [c] f (.obj n) S = .ok x S := by
  show (match getF S n f with
    | some (c', d) => if c' ∈ [c] then RE.ok d S else .no
    | none => .no) = _
  rw [hg]
  exact if_pos (List.mem_singleton.mpr rfl)
theorem fldK_of {f : Str} {x : D} (hg : getF S n f = some (c, x)) (hf : fm c f = 0) : fldK fm [c] f (.obj n) S = .ok x S := by
  show (match getF S n f with
    | some (c', d) => if c' ∈ [c] ∧ fm c' f = 0 then RE.ok d S else .no
    | none => .no) = _
  rw [hg]
  exact if_pos ⟨List.mem_singleton.mpr rfl, hf⟩
theorem setF_of {f : Str} {d : D} {o : Ob} (ho : S[n]? = some o) : setF S n f d = S.set n ⟨o.cls, putD f d o.fs⟩ := by
  unfold setF
  rw [ho]
theorem At.putF (a : At S n c h) {f : Str} {d : D} (h' : Hs) (e : putD f d h.fs = h'.fs) : setF S n f d = S.set n (h'.ob c) := by
  rw [setF_of a]
  show S.set n ⟨c, putD f d h.fs⟩ = _
  rw [e]
  rfl
theorem At.put_sky (a : At S n c h) (r : Nat) (s : Rat × Rat × Rat) : setF S n "my_skies" (.lst ((tbl h.many fun i => skyD (h.sky i)).set r (skyD s))) = S.set n ((h.setSky r s).ob c) := by
  refine a.putF _ ?_
  rw [tbl_set]
  show (h.fs.set 5 ("my_skies", .lst (tbl h.many fun i => if i = r then skyD s else skyD (h.sky i)))) = _
  rw [tbl_congr (g := fun i => skyD (if i = r then s else h.sky i)) (fun i _ => by split <;> rfl)]
  rfl
theorem At.put_stove (a : At S n c h) (r : Nat) (s : Option (Rat × Int × Int × Int)) : setF S n "my_stoves" (.lst ((tbl h.many fun i => stoveD (h.stove i)).set r (stoveD s))) = S.set n ((h.setStove r s).ob c) := by
  refine a.putF _ ?_
  rw [tbl_set]
  show (h.fs.set 6 ("my_stoves", .lst (tbl h.many fun i => if i = r then stoveD s else stoveD (h.stove i)))) = _
  rw [tbl_congr (g := fun i => stoveD (if i = r then s else h.stove i)) (fun i _ => by split <;> rfl)]
  rfl
theorem At.put_flow (a : At S n c h) (r q : Nat) (s : Rat) : setF S n "my_flows" (.lst ((tbl h.many fun i => D.lst (tbl h.many fun j => rD (h.flow i j))).set r (.lst ((tbl h.many fun j => rD (h.flow r j)).set q (rD s))))) = S.set n ((h.setFlow r q s).ob c) := by
  refine a.putF _ ?_
  rw [tbl_set, tbl_set]
  show (h.fs.set 4 ("my_flows", .lst (tbl h.many fun i => if i = r then .lst (tbl h.many fun j => if j = q then rD s else rD (h.flow r j)) else .lst (tbl h.many fun j => rD (h.flow i j))))) = _
  rw [tbl_congr (g := fun i => .lst (tbl h.many fun j => rD (if i = r then (if j = q then s else h.flow i j) else h.flow i j))) (fun i _ => by
    split
    · rename_i e
      subst e
      rw [tbl_congr (g := fun j => rD (if j = q then s else h.flow i j)) (fun j _ => by split <;> rfl)]
    · rfl)]
  rfl
/-! the raw fields -/
def raw (a b c mk fl sk st : D) : List (Str × D) := [("most", a), ("cap", b), ("load", c), ("my_marks", mk), ("my_flows", fl), ("my_skies", sk), ("my_stoves", st)]
section
variable {a b e mk fl sk st : D}
theorem raw_marks (o : S[n]? = some ⟨c, raw a b e mk fl sk st⟩) : getF S n "my_marks" = some (c, mk) := by unfold getF; rw [o]; rfl
theorem raw_flows (o : S[n]? = some ⟨c, raw a b e mk fl sk st⟩) : getF S n "my_flows" = some (c, fl) := by unfold getF; rw [o]; rfl
theorem raw_skies (o : S[n]? = some ⟨c, raw a b e mk fl sk st⟩) : getF S n "my_skies" = some (c, sk) := by unfold getF; rw [o]; rfl
theorem raw_stoves (o : S[n]? = some ⟨c, raw a b e mk fl sk st⟩) : getF S n "my_stoves" = some (c, st) := by unfold getF; rw [o]; rfl
theorem raw_setMarks (o : S[n]? = some ⟨c, raw a b e mk fl sk st⟩) (d : D) : setF S n "my_marks" d = S.set n ⟨c, raw a b e d fl sk st⟩ := by rw [setF_of o]; rfl
theorem raw_setFlows (o : S[n]? = some ⟨c, raw a b e mk fl sk st⟩) (d : D) : setF S n "my_flows" d = S.set n ⟨c, raw a b e mk d sk st⟩ := by rw [setF_of o]; rfl
theorem raw_setSkies (o : S[n]? = some ⟨c, raw a b e mk fl sk st⟩) (d : D) : setF S n "my_skies" d = S.set n ⟨c, raw a b e mk fl d st⟩ := by rw [setF_of o]; rfl
theorem raw_setStoves (o : S[n]? = some ⟨c, raw a b e mk fl sk st⟩) (d : D) : setF S n "my_stoves" d = S.set n ⟨c, raw a b e mk fl sk d⟩ := by rw [setF_of o]; rfl
end
theorem set_get {o p : Ob} (h : S[n]? = some o) : (S.set n p)[n]? = some p := by
  rw [List.getElem?_set_self (List.getElem?_eq_some_iff.mp h).1]
theorem get_of_set {o p : Ob} {S1 : Store} (e : S.set n p = S1) (h : S[n]? = some o) : S1[n]? = some p := by rw [← e]; exact set_get h
theorem rep_one {d : D} {k : Nat} : rep [d] k = tbl k fun _ => d := by
  rw [tbl_const]
  unfold rep
  induction k with
  | zero => rfl
  | succ k ih => rw [List.replicate_succ, List.flatten_cons, ih]; rfl
theorem hRep_one {d : D} {k : Nat} (h : k ≤ 1000) : hRep (.lst [d]) (.int k) = some (.lst (tbl k fun _ => d)) := by
  show (if 0 ≤ (k : Int) ∧ (k : Int) ≤ 1000000 ∧ 1 * (k : Int).toNat ≤ 1000000 then some (D.lst (rep [d] (k : Int).toNat)) else none) = _
  rw [if_pos ⟨by omega, by omega, by omega⟩, Int.toNat_natCast, rep_one]
theorem add_flows {ms : List Rat} : D.lst ((tbl h.many fun i => D.lst (tbl h.many fun j => rD (h.flow i j))).map (appD (rD 0)) ++ [.lst (tbl (h.many + 1) fun _ => rD 0)]) = (h.add ms).flows := by
  unfold Hs.flows
  show _ = D.lst (tbl (h.many + 1) fun i => .lst (tbl (h.many + 1) fun j => rD ((h.add ms).flow i j)))
  rw [tbl_map, tbl_succ (m := h.many) (f := fun i => D.lst (tbl (h.many + 1) fun j => rD ((h.add ms).flow i j)))]
  congr 2
  · refine tbl_congr fun i hi => ?_
    show D.lst (_ ++ [rD 0]) = _
    rw [tbl_succ, tbl_congr (f := fun j => rD ((h.add ms).flow i j)) (g := fun j => rD (h.flow i j)) (fun j hj => by
      show rD (if i = h.many ∨ j = h.many then 0 else h.flow i j) = _
      rw [if_neg (by omega)]), show (h.add ms).flow i h.many = 0 from if_pos (.inr rfl)]
  · refine congrArg (fun z => [D.lst z]) (tbl_congr fun j hj => ?_)
    rw [show (h.add ms).flow h.many j = 0 from if_pos (.inl rfl)]
theorem add_marks {ms : List Rat} : D.lst ((tbl h.many fun i => rsD (h.marks i)) ++ [rsD ms]) = .lst (tbl (h.add ms).many fun i => rsD ((h.add ms).marks i)) := by
  show _ = D.lst (tbl (h.many + 1) _)
  rw [tbl_succ, tbl_congr (f := fun i => rsD ((h.add ms).marks i)) (g := fun i => rsD (h.marks i)) (fun i hi => by
    show rsD (if i = h.many then ms else h.marks i) = _
    rw [if_neg (by omega)]), show (h.add ms).marks h.many = ms from if_pos rfl]
theorem add_skies {ms : List Rat} : D.lst ((tbl h.many fun i => skyD (h.sky i)) ++ [skyD (0, 0, 0)]) = .lst (tbl (h.add ms).many fun i => skyD ((h.add ms).sky i)) := by
  show _ = D.lst (tbl (h.many + 1) _)
  rw [tbl_succ, tbl_congr (f := fun i => skyD ((h.add ms).sky i)) (g := fun i => skyD (h.sky i)) (fun i hi => by
    show skyD (if i = h.many then (0, 0, 0) else h.sky i) = _
    rw [if_neg (by omega)]), show (h.add ms).sky h.many = (0, 0, 0) from if_pos rfl]
theorem add_stoves {ms : List Rat} : D.lst ((tbl h.many fun i => stoveD (h.stove i)) ++ [.non]) = .lst (tbl (h.add ms).many fun i => stoveD ((h.add ms).stove i)) := by
  show _ = D.lst (tbl (h.many + 1) _)
  rw [tbl_succ, tbl_congr (f := fun i => stoveD ((h.add ms).stove i)) (g := fun i => stoveD (h.stove i)) (fun i hi => by
    show stoveD (if i = h.many then .none else h.stove i) = _
    rw [if_neg (by omega)]), show (h.add ms).stove h.many = .none from if_pos rfl]
  rfl
/-- a method of the hold is called -/
theorem methK_H {m : Str} {Φ : FF} {dd ds : List D} {S2 : Store} {k : Store → RL} (a : At S n c h) (hm : (h.fs.lookup m).isNone = true) (hk : k S = .ok ds S2) : methK m [(c, Φ)] dd (.obj n) S k = RFE (Φ (.obj n :: (ds ++ dd)) S2) := by
  show (match S[n]? with
    | some ob => if (ob.fs.lookup m).isNone = true then (match ([(c, Φ)] : List (Nat × FF)).lookup ob.cls with
      | some Φ => (match k S with
        | .ok ds S2 => RFE (Φ (.obj n :: (ds ++ dd)) S2)
        | .exc y S2 => .exc y S2
        | .no => .no)
      | none => .no) else .no
    | none => .no) = _
  rw [a]
  show (if (h.fs.lookup m).isNone = true then (match ([(c, Φ)] : List (Nat × FF)).lookup c with
      | some Φ => (match k S with
        | .ok ds S2 => RFE (Φ (.obj n :: (ds ++ dd)) S2)
        | .exc y S2 => .exc y S2
        | .no => .no)
      | none => .no) else .no) = _
  rw [if_pos hm]
  simp only [List.lookup, BEq.rfl]
  rw [hk]
end
end Q

/-! Loops over a range, cuts, scripts' numbers. -/
namespace Q
open PySem PySem.Spec PyProof.Rows L2
theorem hTru_of {b : Bool} : hTru (.bl b) = some (.bl b) := rfl
theorem rangeL_tbl (m : Nat) : rangeL 0 (m : Int) = tbl m fun j => .int j := by
  unfold rangeL tbl
  rw [show ((m : Int) - 0).toNat = m by omega]
  exact List.map_congr_left fun j _ => by rw [Int.zero_add]
theorem forL_range {v : Nat} {b : FS} (I : Nat → Env → Store → Prop) {m : Nat} {ρ : Env} {S : Store} (h0 : I 0 ρ S) (turn : ∀ i, i < m → ∀ ρ S, I i ρ S → ∃ ρ2 S2, b (ρ.set v (some (.int i))) S = .nx ρ2 S2 ∧ I (i + 1) ρ2 S2) :
    ∃ ρ' S', forL (tfName v) b (rangeL 0 (m : Int)) ρ S = .nx ρ' S' ∧ I m ρ' S' := by
  obtain ⟨ρ', S', e, h⟩ := forL_all (tf := tfName v) (b := b) I (ds := rangeL 0 (m : Int)) h0 (fun i d ρ S hd h => by
    obtain ⟨rfl, hi⟩ := rangeL_get hd
    rw [Int.zero_add] at hi ⊢
    exact ⟨_, rfl, .inl (turn i (by omega) ρ S h)⟩)
  rw [rangeL_length, show ((m : Int) - 0).toNat = m by omega] at h
  exact ⟨ρ', S', e, h⟩
theorem forL_list {α : Type} {v : Nat} {b : FS} (f : α → D) (I : Nat → Env → Store → Prop) {l : List α} {ρ : Env} {S : Store} (h0 : I 0 ρ S) (turn : ∀ i (hi : i < l.length), ∀ ρ S, I i ρ S → ∃ ρ2 S2, b (ρ.set v (some (f l[i]))) S = .nx ρ2 S2 ∧ I (i + 1) ρ2 S2) :
    ∃ ρ' S', forL (tfName v) b (l.map f) ρ S = .nx ρ' S' ∧ I l.length ρ' S' := by
  obtain ⟨ρ', S', e, h⟩ := forL_all (tf := tfName v) (b := b) I (ds := l.map f) h0 (fun i d ρ S hd h => by
    rw [List.getElem?_map] at hd
    obtain ⟨x, e1, e2⟩ := Option.map_eq_some_iff.mp hd
    obtain ⟨hi, e3⟩ := List.getElem?_eq_some_iff.mp e1
    subst e3 e2
    exact ⟨_, rfl, .inl (turn i hi ρ S h)⟩)
  rw [List.length_map] at h
  exact ⟨ρ', S', e, h⟩
theorem eLc_range {it : FL} {vs : List Nat} {v m : Nat} {E : FE} {ρ : Env} {S S1 : Store} (f : Nat → D) (hi : it ρ S = .ok (rangeL 0 (m : Int)) S1) (hm : m ≤ 1000000)
    (h : ∀ j, j < m → E ((wipeE ρ vs).set v (some (.int j))) S1 = .ok (f j) S1) : eLc it vs (tfName v) (eC (.bl true)) E ρ S = .ok (.lst (tbl m f)) S1 := by
  have e := eLc_eq (it := it) (vs := vs) (tf := tfName v) (C := eC (.bl true)) (E := E) (ρ := ρ) (S := S) (S1 := S1) (ds := rangeL 0 (m : Int)) (fun _ => true) (fun d => match d with
    | .int j => f j.toNat
    | _ => .non) hi (by rw [rangeL_length]; omega) (fun d hd => by
      obtain ⟨i, hi, e⟩ := List.getElem_of_mem hd
      have hg : (rangeL 0 (m : Int))[i]? = some d := by rw [List.getElem?_eq_getElem hi, e]
      obtain ⟨rfl, h2⟩ := rangeL_get hg
      rw [Int.zero_add] at h2 ⊢
      exact ⟨_, rfl, rfl, fun _ => h i (by omega)⟩)
  rw [e, rangeL_tbl, List.filter_eq_self.mpr (fun _ _ => rfl), tbl_map]
  rw [tbl_congr (g := f) (fun j _ => by show f (j : Int).toNat = f j; rw [Int.toNat_natCast])]
theorem cutD_mid {l : List D} (a b : Nat) : cutD l (some (a : Int)) (some (b : Int)) = (l.drop a).take (b - a) := by
  unfold cutD
  rw [HT.sIx_nat, HT.sIx_nat]
  by_cases ha : a ≤ l.length
  · rw [Nat.min_eq_left ha]
    by_cases hb : b ≤ l.length
    · rw [Nat.min_eq_left hb]
    · rw [Nat.min_eq_right (by omega), List.take_of_length_le (by simp), List.take_of_length_le (by simp; omega)]
  · rw [Nat.min_eq_right (show l.length ≤ a by omega), List.drop_of_length_le (Nat.le_refl _), List.drop_of_length_le (show l.length ≤ a by omega), List.take_nil, List.take_nil]
/-! the script's numbers -/
def cellAt (ns : List Int) (k : Nat) : Int := ns[k]?.getD 0
def small (ns : List Int) : Prop := ∀ z ∈ ns, Builtin.Int.intBits z ≤ 1048576
theorem cell_bd {ns : List Int} (h : small ns) (k : Nat) : (cellAt ns k).natAbs < 2 ^ 1048576 := by
  refine PySem.intBits_le_iff.mp ?_
  unfold cellAt
  cases e : ns[k]? with
  | none => decide
  | some z => exact h z (List.mem_of_getElem? e)
theorem small_cut {ns : List Int} (h : small ns) (a b : Nat) : small ((ns.drop a).take b) := fun z hz => h z (List.mem_of_mem_drop (List.mem_of_mem_take hz))
theorem hIx_ints {ns : List Int} {k : Nat} (h : k < ns.length) : hIx (.lst (ns.map .int)) (.int k) = some (.int (cellAt ns k)) := hIx_lst (by
  rw [List.getElem?_map, List.getElem?_eq_getElem h]
  unfold cellAt
  rw [List.getElem?_eq_getElem h]
  rfl)
theorem hIx_scrs {ns : List Int} {k : Nat} (h : k < ns.length) : hIx (.scr (ns.map .int)) (.int k) = some (.int (cellAt ns k)) := hIx_scr (by
  rw [List.getElem?_map, List.getElem?_eq_getElem h]
  unfold cellAt
  rw [List.getElem?_eq_getElem h]
  rfl)
theorem cell_none {ns : List Int} {k : Nat} (h : ¬ k < ns.length) : cellAt ns k = 0 := by
  unfold cellAt
  rw [List.getElem?_eq_none (by omega)]
  rfl
theorem hIx_tbl {m r : Nat} {f : Nat → D} (h : r < m) : hIx (.lst (tbl m f)) (.int r) = some (f r) := hIx_lst (tbl_get h)
/-- a fraction without its sign -/
def rabs (q : Rat) : Rat := ⟨q.num.natAbs, q.den, q.den_nz, by simpa using q.reduced⟩
theorem rabs_D (q : Rat) : D.tup [.int (q.num.natAbs : Nat), .int q.den] = rD (rabs q) := rfl
theorem rabs_rb {k : Nat} {q : Rat} (h : rb k q) : rb k (rabs q) := ⟨by show ((q.num.natAbs : Nat) : Int).natAbs < _; rw [Int.natAbs_natCast]; exact h.1, h.2⟩
theorem rabs_pos (q : Rat) : ¬ rabs q < 0 := by
  have h : 0 ≤ (rabs q).num := by show (0 : Int) ≤ (q.num.natAbs : Nat); omega
  have := Rat.num_nonneg.mp h
  grind
/-! sums of fractions not in lowest terms -/
def tD (t : Int × Int) : D := .tup [.int t.1, .int t.2]
def tsum : List (Int × Int) → Rat
  | [] => 0
  | t :: l => rI t.1 t.2 + tsum l
theorem tsum_app (a b : List (Int × Int)) : tsum (a ++ b) = tsum a + tsum b := by
  induction a with
  | nil => simp only [List.nil_append, tsum]; grind
  | cons t a ih => simp only [List.cons_append, tsum, ih]; grind
def tok (k : Nat) (t : Int × Int) : Prop := t.1.natAbs < 2 ^ k ∧ t.2.natAbs < 2 ^ k ∧ t.2 ≠ 0
theorem add_frac {t b u d : Int} (hb : b ≠ 0) (hd : d ≠ 0) : rI (t * d + u * b) (b * d) = rI t b + rI u d := by
  have h1 := intc hb
  have h2 := intc hd
  unfold rI
  rw [Rat.intCast_add, Rat.intCast_mul, Rat.intCast_mul, Rat.intCast_mul]
  grind
theorem mul_frac {w : Int} {q : Rat} {p : Int} (hw : w ≠ 0) : rI (p * q.num) (w * q.den) = rI p w * q := by
  have h1 := intc hw
  have h2 := intc (show ((q.den : Nat) : Int) ≠ 0 by have := den_pos q; omega)
  have e2 := rat_rI q
  unfold rI at *
  rw [Rat.intCast_mul, Rat.intCast_mul]
  grind
theorem sub_same {a b w : Int} (hw : w ≠ 0) : rI (a - b) w = rI a w - rI b w := by
  have h1 := intc hw
  unfold rI
  rw [Rat.intCast_sub]
  grind
theorem rI_self {w : Int} (hw : w ≠ 0) : rI w w = 1 := by
  have h1 := intc hw
  unfold rI
  grind
theorem rI_zero {w : Int} : rI 0 w = 0 := by
  unfold rI
  simp
  grind
theorem rI_nonneg {a w : Int} (ha : 0 ≤ a) (hw : 0 < w) : 0 ≤ rI a w := by
  have h1 := intc (show w ≠ 0 by omega)
  have h2 : (0 : Rat) ≤ a := by exact_mod_cast ha
  have h3 : (0 : Rat) < w := by exact_mod_cast hw
  unfold rI
  rw [Rat.div_def]
  exact Rat.mul_nonneg h2 (Rat.le_of_lt (Rat.inv_pos.mpr h3))
theorem rI_le {a w c d : Int} (hw : 0 < w) (hd : 0 < d) (h : a * d ≤ c * w) : rI a w ≤ rI c d := by
  have e : rI c d - rI a w = rI (c * w - a * d) (d * w) := by
    have h1 := intc (show w ≠ 0 by omega)
    have h2 := intc (show d ≠ 0 by omega)
    unfold rI
    rw [Rat.intCast_sub, Rat.intCast_mul, Rat.intCast_mul, Rat.intCast_mul]
    grind
  have := rI_nonneg (a := c * w - a * d) (w := d * w) (by omega) (Int.mul_pos hd hw)
  grind
/-! the warmth of a room -/
theorem taken_rb {k : Nat} {h : Hs} {r : Nat} (w : h.Wf k) (hr : r < h.many) : rb (k + (k + 1) * 5 + 1) (h.taken r) :=
  rb_mono (rb_add (w.bs r hr) (rb_sumQ (m := k) fun j hj => w.bf r j hr hj)) (by
    have m4 := w.m4
    have := Nat.mul_le_mul_left (k + 1) (show h.many + 1 ≤ 5 by omega)
    omega)
def heatOf : Option (Rat × Int × Int × Int) → Rat
  | none => 0
  | some s => s.1
def Hs.part (h : Hs) (r j : Nat) : Rat := if r = j then 1 - h.taken r else h.flow r j
def Hs.warm (h : Hs) (r : Nat) (air : Nat → Rat) (w : Rat) (b : Bool) : Rat := (h.sky r).1 * w + sumQ (fun j => h.part r j * air j) h.many + (if b = true then heatOf (h.stove r) else 0)
theorem part_rb {h : Hs} {r j k : Nat} (wf : h.Wf k) (hr : r < h.many) (hj : j < h.many) : rb (6 * k + 10) (h.part r j) := by
  unfold Hs.part
  split
  · exact rb_mono (rb_sub rb_1 (taken_rb wf hr)) (by omega)
  · exact rb_mono (wf.bf r j hr hj) (by omega)
/-! shares of a quarter at most -/
theorem taken_le {h : Hs} {r : Nat} (m4 : h.many ≤ 4) (hr : r < h.many) (hs : (h.sky r).1 ≤ rI 1 4) (hf : ∀ j, j < h.many → h.flow r j ≤ rI 1 4) (h0 : h.flow r r = 0) : ¬ 1 < h.taken r := by
  unfold Hs.taken
  have e := rI_mul (a := 1) (b := 4) (by decide)
  generalize rI 1 4 = z at *
  have e : z * 4 = 1 := e
  generalize (h.sky r).1 = s at *
  have k : h.many = 1 ∨ h.many = 2 ∨ h.many = 3 ∨ h.many = 4 := by omega
  have f0 := hf 0
  have f1 := hf 1
  have f2 := hf 2
  have f3 := hf 3
  rcases k with k | k | k | k <;> rw [k] at hr f0 f1 f2 f3 ⊢ <;> simp only [sumQ]
  · have hr : r = 0 := by omega
    subst hr
    grind
  · have hr : r = 0 ∨ r = 1 := by omega
    rcases hr with rfl | rfl <;> grind
  · have hr : r = 0 ∨ r = 1 ∨ r = 2 := by omega
    rcases hr with rfl | rfl | rfl <;> grind
  · have hr : r = 0 ∨ r = 1 ∨ r = 2 ∨ r = 3 := by omega
    rcases hr with rfl | rfl | rfl | rfl <;> grind
theorem taken_setFlow {h : Hs} {r o : Nat} {q : Rat} (ho : o < h.many) : (h.setFlow r o q).taken r = h.taken r - h.flow r o + q := by
  unfold Hs.taken
  show (h.sky r).1 + sumQ ((h.setFlow r o q).flow r) h.many = _
  rw [sumQ_split (f := (h.setFlow r o q).flow r) ho, sumQ_split (f := h.flow r) ho]
  have e1 : (h.setFlow r o q).flow r o = q := by
    show (if r = r then (if o = o then q else _) else _) = q
    rw [if_pos rfl, if_pos rfl]
  have e2 : sumQ (fun j => if j = o then 0 else (h.setFlow r o q).flow r j) h.many = sumQ (fun j => if j = o then 0 else h.flow r j) h.many := sumQ_congr fun j _ => by
    split
    · rfl
    · rename_i hj
      show (if r = r then (if j = o then q else h.flow r j) else _) = _
      rw [if_pos rfl, if_neg hj]
  rw [e1, e2]
  grind
theorem taken_setSky {h : Hs} {r : Nat} {s : Rat × Rat × Rat} : (h.setSky r s).taken r = h.taken r - (h.sky r).1 + s.1 := by
  unfold Hs.taken
  show ((h.setSky r s).sky r).1 + sumQ (h.flow r) h.many = _
  rw [show (h.setSky r s).sky r = s from if_pos rfl]
  grind
theorem bands_two : ∀ {l : List (List Rat)} {z : Int}, (∀ q ∈ l, q.length = 2) → l.foldl (fun z q => z * ((q.length : Int) - 1)) z = z
  | [], _, _ => rfl
  | q :: l, z, h => by
    rw [List.foldl_cons, h q (List.mem_cons_self ..), bands_two fun p hp => h p (List.mem_cons_of_mem _ hp)]
    omega
theorem two_marks : D.lst [.tup [.int 0, .int 1], .tup [.int 1, .int 1]] = rsD [0, 1] := rfl
theorem lt01 : ∀ i (hi : i + 1 < ([0, 1] : List Rat).length), ([0, 1] : List Rat)[i] < ([0, 1] : List Rat)[i + 1] := fun i hi => by
  have : i = 0 := by
    have : i + 1 < 2 := hi
    omega
  subst this
  show (0 : Rat) < 1
  decide
end Q

/-! Rules for reckoning with dicts and places in slots; rules with conditions. -/
namespace Q
open PySem PySem.Spec PyProof.Rows L2
section
variable {ρ : Env} {S : Store} {K i k : Nat} {js : List Nat} {d x : D} {l : List D}
theorem hMul_sm {a b : Int} (ha : a.natAbs < 2 ^ 220) (hb : b.natAbs < 2 ^ 220) : hMul (.int a) (.int b) = some (.int (a * b)) := hMul_bd ha hb (by decide)
theorem hDiv_sm {a b : Int} (h : 0 < b) (hb : b < 2 ^ 220) : hDiv (.int a) (.int b) = some (.int (a / b)) := hDiv_pos h (by
  have : (2 : Nat) ^ 220 < 2 ^ 8999 := Nat.pow_lt_pow_right (by decide) (by decide)
  omega)
theorem rgK1_ok {n : Int} (h0 : -1000000000000 ≤ n) (h1 : n ≤ 1000000000000) : rgK1 [.int n] S = .ok (rangeL 0 n) S := rgK1_int ⟨h0, h1⟩
theorem rgK2_ok {m n : Int} (h0 : -1000000000000 ≤ m) (h1 : m ≤ 1000000000000) (h2 : -1000000000000 ≤ n) (h3 : n ≤ 1000000000000) : rgK2 [.int m, .int n] S = .ok (rangeL m n) S := rgK2_int ⟨⟨h0, h1⟩, ⟨h2, h3⟩⟩
theorem beq_f {a b : Int} (h : a ≠ b) : (a == b) = false := by simpa using h
theorem beq_t {a b : Int} (h : a = b) : (a == b) = true := by simpa using h
theorem mAppend_ok (h : l.length < 1000000) : mAppend l [x] = some (.non, l ++ [x]) := mAppend_lt h
/-! slots -/
theorem ev_pvar : pVar i ρ S = (match ρ[i]? with | some (some d) => .ok [] d S | _ => .no) := rfl
theorem ev_pkey {p : FV} {c : Str} : pKey K p c ρ S = (match p ρ S with | .ok js d S1 => pKeyK K js S1 (posT d c) | .exc y S1 => .exc y S1 | .no => .no) := rfl
theorem pKeyK_ok {j : Nat} : pKeyK K js S (some (j, d)) = if js.length + 1 ≤ K then .ok (js ++ [j]) d S else .no := rfl
theorem ev_vmut {p : FV} {h : HM} {a : FL} : fVMut K i p h a ρ S = (p ρ S).bindS ρ fun js d S1 => lstK d fun l => if K = js.length + 1 then (a ρ S1).bindR ρ fun ds S2 => optK (h l ds) fun zl => slotPut K 1 i js (.lst zl.2) S2 ρ else .no := rfl
def vputK (K i : Nat) (js : List Nat) (x k : D) (S : Store) (ρ : Env) (l : List (D × D)) : RS := if (keyF k = true ∧ sortOk l k = true ∧ l.length < 1000000) ∧ js.length + 1 ≤ K ∧ (K - js.length - 1 = 0 ∨ plainV x = true) then slotPut K (K - js.length - 1 + 1) i js (.dct (dput l k x)) S ρ else .no
theorem ev_vput {p : FV} {e v : FE} : fVPut K i p e v ρ S = (v ρ S).bindS ρ fun x S1 => (p ρ S1).bindS ρ fun js d S2 => (e ρ S2).bindS ρ fun k S3 => dctK d fun l => vputK K i js x k S3 ρ l := rfl
theorem vputK_in {j : Nat} {k : D} {l : List (D × D)} (h1 : keyF k = true) (h2 : sortOk l k = true) (h3 : l.length < 1000000) : vputK 2 i [j] x k S ρ l = slotPut 2 1 i [j] (.dct (dput l k x)) S ρ := if_pos ⟨⟨h1, h2, h3⟩, Nat.le_refl 2, .inl rfl⟩
theorem vputK_top {k : D} {l : List (D × D)} (h1 : keyF k = true) (h2 : sortOk l k = true) (h3 : l.length < 1000000) (h4 : plainV x = true) : vputK 2 i [] x k S ρ l = slotPut 2 2 i [] (.dct (dput l k x)) S ρ := if_pos ⟨⟨h1, h2, h3⟩, by decide, .inr h4⟩
def slotK (o : Option (Option D)) (b : Bool) (i : Nat) (js : List Nat) (x : D) (S : Store) (ρ : Env) : RS := match o with
  | some (some d0) => if b = true then .nx (ρ.set i (some (setAt js d0 x))) S else .no
  | _ => .no
theorem slotPut_ok : slotPut K k i js x S ρ = slotK ρ[i]? (K == js.length + k) i js x S ρ := by
  unfold slotPut slotK
  cases ρ[i]? with
  | none => rfl
  | some o => cases o with
    | none => rfl
    | some d => simp only [beq_iff_eq]
theorem slotK_ok {d0 : D} : slotK (some (some d0)) true i js x S ρ = .nx (ρ.set i (some (setAt js d0 x))) S := rfl
theorem rv_ok {k : List Nat → D → Store → RS} : (RV.ok js d S).bindS ρ k = k js d S := rfl
theorem rl_bindR {ds : List D} {k : List D → Store → RS} : (RL.ok ds S).bindR ρ k = k ds S := rfl
theorem lstK_lst {k : List D → RS} : lstK (.lst l) k = k l := rfl
theorem dctK_dct {l : List (D × D)} {k : List (D × D) → RS} : dctK (.dct l) k = k l := rfl
theorem optK_some {α : Type} {a : α} {k : α → RS} : optK (some a) k = k a := rfl
theorem setAt_nil {y : D} : setAt [] d x = x := rfl
theorem hIxD_dct {l : List (D × D)} {c : D} (h : keyF c = true) : hIxD (.dct l) c = dlook l c := if_pos h
theorem hIxD_lst {c : D} : hIxD (.lst l) c = hIx (.lst l) c := rfl
theorem hIxD_tup {c : D} : hIxD (.tup l) c = hIx (.tup l) c := rfl
theorem keyF_str {c : Str} : keyF (.str c) = true := rfl
theorem keyF_pair {a b : Int} : keyF (.tup [.int a, .int b]) = true := by
  unfold keyF
  simp only [nk, nkL, Option.map_some, Option.any_some]
  exact of_decide_eq_true rfl
theorem kEq_str {a b : Str} : kEq (.str a) (.str b) = decide (a = b) := by
  unfold kEq
  simp only [nk, NestedKey.text.injEq]
theorem kEq_pair {a b c d : Int} : kEq (.tup [.int a, .int b]) (.tup [.int c, .int d]) = decide (a = c ∧ b = d) := by
  unfold kEq
  simp only [nk, nkL, Option.map_some, NestedKey.tup.injEq, List.cons.injEq, NestedKey.num.injEq, and_true]
theorem any_look {l : List (D × D)} {c : D} : (l.any fun p => kEq p.1 c) = (dlook l c).isSome := by
  unfold dlook
  rw [Option.isSome_map]
  induction l with
  | nil => rfl
  | cons p l ih =>
    rw [List.any_cons, List.find?_cons, ih]
    cases kEq p.1 c <;> rfl
theorem dput_new {l : List (D × D)} {c x : D} (h : dlook l c = none) : dput l c x = l ++ [(c, x)] := by
  unfold dput
  rw [any_look, h]
  rfl
theorem dlook_app {l m : List (D × D)} {c : D} : dlook (l ++ m) c = (dlook l c).or (dlook m c) := by
  unfold dlook
  rw [List.find?_append]
  cases l.find? _ <;> rfl
theorem dlook_nil {c : D} : dlook [] c = none := rfl
theorem dlook_one_t {p : D × D} {c : D} (h : kEq p.1 c = true) : dlook [p] c = some p.2 := dlook_cons_t h
theorem dlook_one_f {p : D × D} {c : D} (h : kEq p.1 c = false) : dlook [p] c = none := dlook_cons_f h
end
/-! ### a dict with keys (r, o), o not r -/
def prD (r o : Nat) : D := .tup [.int r, .int o]
def rowL (f : Nat → Nat → D) (r : Nat) : Nat → List (D × D)
  | 0 => []
  | o + 1 => if o = r then rowL f r o else rowL f r o ++ [(prD r o, f r o)]
def flowL (f : Nat → Nat → D) (m : Nat) : Nat → List (D × D)
  | 0 => []
  | r + 1 => flowL f m r ++ rowL f r m
theorem kEq_prD {a b c d : Nat} : kEq (prD a b) (prD c d) = decide (a = c ∧ b = d) := by
  unfold prD
  rw [kEq_pair]
  congr 1
  apply propext
  omega
theorem rowL_ne {f : Nat → Nat → D} {r r' o : Nat} (h : r ≠ r') : ∀ m, dlook (rowL f r m) (prD r' o) = none
  | 0 => rfl
  | m + 1 => by
    unfold rowL
    split
    · exact rowL_ne h m
    · rw [dlook_app, rowL_ne h m, dlook_one_f (by rw [kEq_prD]; simp; omega)]
      rfl
theorem rowL_look {f : Nat → Nat → D} {r o : Nat} : ∀ m, dlook (rowL f r m) (prD r o) = if o < m ∧ o ≠ r then some (f r o) else none
  | 0 => by rw [if_neg (by omega)]; rfl
  | m + 1 => by
    unfold rowL
    split
    · rw [rowL_look m]
      congr 1
      apply propext
      omega
    · rename_i h
      rw [dlook_app, rowL_look m]
      by_cases e : o = m
      · subst e
        rw [if_neg (by omega), if_pos (by omega), dlook_one_t (by rw [kEq_prD]; simp)]
        rfl
      · rw [dlook_one_f (by rw [kEq_prD]; simp; omega)]
        by_cases h2 : o < m ∧ o ≠ r
        · rw [if_pos h2, if_pos (by omega)]; rfl
        · rw [if_neg h2, if_neg (by omega)]; rfl
theorem flowL_look {f : Nat → Nat → D} {m r o : Nat} : ∀ n, dlook (flowL f m n) (prD r o) = if r < n ∧ o < m ∧ o ≠ r then some (f r o) else none
  | 0 => by rw [if_neg (by omega)]; rfl
  | n + 1 => by
    unfold flowL
    rw [dlook_app, flowL_look n]
    by_cases e : r = n
    · subst e
      rw [if_neg (by omega), rowL_look]
      by_cases h2 : o < m ∧ o ≠ r
      · rw [if_pos h2, if_pos (by omega)]; rfl
      · rw [if_neg h2, if_neg (by omega)]; rfl
    · rw [rowL_ne (by omega)]
      by_cases h2 : r < n ∧ o < m ∧ o ≠ r
      · rw [if_pos h2, if_pos (by omega)]; rfl
      · rw [if_neg h2, if_neg (by omega)]; rfl
def tupKs (l : List (D × D)) : Bool := l.all fun p => match p.1 with
  | .tup _ => true
  | _ => false
theorem tupKs_app {l m : List (D × D)} (h : tupKs l = true) (k : tupKs m = true) : tupKs (l ++ m) = true := by
  unfold tupKs at *
  rw [List.all_append, h, k]
  rfl
theorem rowL_tup {f : Nat → Nat → D} {r : Nat} : ∀ m, tupKs (rowL f r m) = true
  | 0 => rfl
  | m + 1 => by
    unfold rowL
    split
    · exact rowL_tup m
    · exact tupKs_app (rowL_tup m) rfl
theorem flowL_tup {f : Nat → Nat → D} {m : Nat} : ∀ n, tupKs (flowL f m n) = true
  | 0 => rfl
  | n + 1 => tupKs_app (flowL_tup n) (rowL_tup m)
theorem rowL_len {f : Nat → Nat → D} {r : Nat} : ∀ m, (rowL f r m).length ≤ m
  | 0 => Nat.le_refl 0
  | m + 1 => by
    have := rowL_len (f := f) (r := r) m
    unfold rowL
    split
    · omega
    · rw [List.length_append, List.length_singleton]; omega
theorem flowL_len {f : Nat → Nat → D} {m : Nat} : ∀ n, (flowL f m n).length ≤ n * m
  | 0 => Nat.zero_le _
  | n + 1 => by
    have := flowL_len (f := f) (m := m) n
    have h2 := rowL_len (f := f) (r := n) m
    unfold flowL
    rw [List.length_append, Nat.succ_mul]
    omega
/-! calls without a store; displays of dicts -/
section
variable {ρ : Env} {S : Store}
def call0R (r : RF) (S : Store) : RE := match r with
  | .ok d _ [] => .ok d S
  | _ => .no
def call0K (Φ : FF) (ds : List D) (S : Store) : RE := if noObjL ds = true then call0R (Φ ds []) S else .no
theorem ev_call0 {Φ : FF} {as : FL} : eCall0 Φ as ρ S = (match as ρ S with
    | .ok ds S1 => if noObjL ds = true then (match Φ ds [] with
      | .ok d _ [] => RE.ok d S1
      | _ => .no) else .no
    | .exc y S1 => .exc y S1
    | .no => .no) := rfl
theorem ev_call0' {Φ : FF} {as : FL} : eCall0 Φ as ρ S = (as ρ S).bindE (call0K Φ) := by
  rw [ev_call0]
  cases as ρ S <;> rfl
def call0C (b : Bool) (r : RF) (S : Store) : RE := if b = true then call0R r S else .no
theorem call0K_ok {Φ : FF} {ds : List D} : call0K Φ ds S = call0C (noObjL ds) (Φ ds []) S := rfl
theorem call0C_t {r : RF} : call0C true r S = call0R r S := rfl
theorem call0R_ok {d : D} {o : Env} : call0R (.ok d o []) S = .ok d S := rfl
theorem noObjL_nil : noObjL [] = true := by simp only [noObjL]
theorem noObjL_cons {d : D} {l : List D} : noObjL (d :: l) = (noObj d && noObjL l) := by simp only [noObjL]
theorem noObj_int {i : Int} : noObj (.int i) = true := by simp only [noObj]
theorem noObj_bl {i : Bool} : noObj (.bl i) = true := by simp only [noObj]
theorem noObj_str {i : Str} : noObj (.str i) = true := by simp only [noObj]
theorem noObj_non : noObj .non = true := by simp only [noObj]
theorem noObj_tup {l : List D} : noObj (.tup l) = noObjL l := by simp only [noObj]
theorem noObj_lst {l : List D} : noObj (.lst l) = noObjL l := by simp only [noObj]
theorem noObj_scr {l : List D} : noObj (.scr l) = noObjL l := by simp only [noObj]
theorem noObj_rD {q : Rat} : noObj (rD q) = true := by unfold rD; simp only [noObj, noObjL, Bool.and_self]
theorem noObjL_all {l : List D} (h : ∀ d ∈ l, noObj d = true) : noObjL l = true := by
  induction l with
  | nil => exact noObjL_nil
  | cons d l ih => rw [noObjL_cons, h d (List.mem_cons_self ..), ih fun e he => h e (List.mem_cons_of_mem _ he)]; rfl
theorem noObjL_app {l m : List D} : noObjL (l ++ m) = (noObjL l && noObjL m) := by
  induction l with
  | nil => rw [noObjL_nil]; rfl
  | cons d l ih => rw [List.cons_append, noObjL_cons, noObjL_cons, ih, Bool.and_assoc]
theorem noObjL_tbl {n : Nat} {f : Nat → D} (h : ∀ i, i < n → noObj (f i) = true) : noObjL (tbl n f) = true := noObjL_all fun d hd => by
  obtain ⟨i, hi, rfl⟩ := tbl_mem.mp hd
  exact h i hi
theorem noObjL_ints {l : List Int} : noObjL (l.map .int) = true := noObjL_all fun d hd => by
  obtain ⟨i, _, rfl⟩ := List.mem_map.mp hd
  exact noObj_int
theorem noObjL_rats {l : List Rat} : noObjL (l.map rD) = true := noObjL_all fun d hd => by
  obtain ⟨i, _, rfl⟩ := List.mem_map.mp hd
  exact noObj_rD
theorem noObjK_app {l m : List (D × D)} (h : noObjK l = true) (k : noObjK m = true) : noObjK (l ++ m) = true := by
  induction l with
  | nil => exact k
  | cons d l ih =>
    obtain ⟨a, b⟩ := d
    simp only [List.cons_append, noObjK, Bool.and_eq_true] at h ⊢
    exact ⟨h.1, ih h.2⟩
theorem rowL_noObj {f : Nat → Nat → D} {r : Nat} (hf : ∀ o, noObj (f r o) = true) : ∀ m, noObjK (rowL f r m) = true
  | 0 => by simp only [rowL, noObjK]
  | m + 1 => by
    unfold rowL
    split
    · exact rowL_noObj hf m
    · refine noObjK_app (rowL_noObj hf m) ?_
      unfold prD
      simp only [noObjK, noObj, noObjL, hf, Bool.and_self]
theorem flowL_noObj {f : Nat → Nat → D} {m : Nat} (hf : ∀ r o, noObj (f r o) = true) : ∀ n, noObjK (flowL f m n) = true
  | 0 => by simp only [flowL, noObjK]
  | n + 1 => noObjK_app (flowL_noObj hf n) (rowL_noObj (hf n) m)
def dctR (o : Option (List (D × D))) (b : Bool) (S : Store) : RE := match o with
  | some l => if b = true then .ok (.dct l) S else .no
  | none => .no
theorem ev_dct {its : List (Str × Itm)} : eDct its ρ S = dctR (eItms its ρ S) (decide (its.length ≤ 15 ∧ (its.map (·.1)).Nodup)) S := by
  unfold eDct dctR
  cases eItms its ρ S with
  | none => rfl
  | some l => simp only [decide_eq_true_eq]
theorem dctR_ok {l : List (D × D)} {b : Bool} (h : b = true) : dctR (some l) b S = .ok (.dct l) S := if_pos h
def itS (r : RE) (k : Str) (o : Option (List (D × D))) : Option (List (D × D)) := match r with
  | .ok x _ => if plainV x = true then o.map ((.str k, x) :: ·) else none
  | _ => none
theorem itms_nil : eItms [] ρ S = some [] := rfl
theorem itms_l {k : Str} {r : List (Str × Itm)} : eItms ((k, .l) :: r) ρ S = (eItms r ρ S).map ((.str k, .lst []) :: ·) := rfl
theorem itms_d {k : Str} {r : List (Str × Itm)} : eItms ((k, .d) :: r) ρ S = (eItms r ρ S).map ((.str k, .dct []) :: ·) := rfl
theorem itms_s {k : Str} {F : FE} {r : List (Str × Itm)} : eItms ((k, .s F) :: r) ρ S = itS (F ρ S) k (eItms r ρ S) := rfl
theorem itS_ok {x : D} {k : Str} {S1 : Store} {o : Option (List (D × D))} (h : plainV x = true) : itS (.ok x S1) k o = o.map ((.str k, x) :: ·) := if_pos h
end
theorem forL_tbl {v : Nat} {b : FS} {f : Nat → D} (I : Nat → Env → Store → Prop) {m : Nat} {ρ : Env} {S : Store} (h0 : I 0 ρ S) (turn : ∀ i, i < m → ∀ ρ S, I i ρ S → ∃ ρ2 S2, b (ρ.set v (some (f i))) S = .nx ρ2 S2 ∧ I (i + 1) ρ2 S2) :
    ∃ ρ' S', forL (tfName v) b (tbl m f) ρ S = .nx ρ' S' ∧ I m ρ' S' := by
  obtain ⟨ρ', S', e, h⟩ := forL_all (tf := tfName v) (b := b) I (ds := tbl m f) h0 (fun i d ρ S hd h => by
    have hi : i < m := by
      have := (List.getElem?_eq_some_iff.mp hd).1
      rwa [tbl_len] at this
    rw [tbl_get hi] at hd
    cases hd
    exact ⟨_, rfl, .inl (turn i hi ρ S h)⟩)
  rw [tbl_len] at h
  exact ⟨ρ', S', e, h⟩
/-- a comprehension over a list -/
theorem eLc_fm {α : Type} {it : FL} {vs : List Nat} {v : Nat} {C E : FE} {ρ : Env} {S S1 : Store} (g : α → D) (p : α → Bool) (f : α → D) {l : List α} (hi : it ρ S = .ok (l.map g) S1) (hl : l.length ≤ 1000000)
    (hC : ∀ x ∈ l, C ((wipeE ρ vs).set v (some (g x))) S1 = .ok (.bl (p x)) S1) (hE : ∀ x ∈ l, p x = true → E ((wipeE ρ vs).set v (some (g x))) S1 = .ok (f x) S1) : eLc it vs (tfName v) C E ρ S = .ok (.lst ((l.filter p).map f)) S1 := by
  have k : ∀ (l : List α), (∀ x ∈ l, C ((wipeE ρ vs).set v (some (g x))) S1 = .ok (.bl (p x)) S1) → (∀ x ∈ l, p x = true → E ((wipeE ρ vs).set v (some (g x))) S1 = .ok (f x) S1) → lcL (tfName v) C E (l.map g) (wipeE ρ vs) S1 = .ok ((l.filter p).map f) S1 := by
    intro l
    induction l with
    | nil => intro _ _; rfl
    | cons x l ih =>
      intro h1 h2
      have e2 := ih (fun y hy => h1 y (List.mem_cons_of_mem _ hy)) (fun y hy => h2 y (List.mem_cons_of_mem _ hy))
      have c1 := h1 x (List.mem_cons_self ..)
      rw [List.map_cons, lcL]
      simp only [tfName]
      cases hp : p x with
      | true =>
        rw [hp] at c1
        simp only [c1, h2 x (List.mem_cons_self ..) hp, e2]
        rw [List.filter_cons_of_pos (by rw [hp]), List.map_cons]
      | false =>
        rw [hp] at c1
        simp only [c1, e2]
        rw [List.filter_cons_of_neg (by rw [hp]; decide)]
  unfold eLc
  rw [hi]
  simp only [k l hC hE]
  rw [if_pos (by rw [List.length_map]; exact hl)]
theorem eLc_map {α : Type} {it : FL} {vs : List Nat} {v : Nat} {E : FE} {ρ : Env} {S S1 : Store} (g : α → D) (f : α → D) {l : List α} (hi : it ρ S = .ok (l.map g) S1) (hl : l.length ≤ 1000000)
    (h : ∀ x ∈ l, E ((wipeE ρ vs).set v (some (g x))) S1 = .ok (f x) S1) : eLc it vs (tfName v) (eC (.bl true)) E ρ S = .ok (.lst (l.map f)) S1 := by
  have e := eLc_fm (it := it) (vs := vs) (v := v) (C := eC (.bl true)) (E := E) (ρ := ρ) (S := S) g (fun _ => true) f hi hl (fun _ _ => rfl) (fun x hx _ => h x hx)
  rw [e, List.filter_eq_self.mpr (fun _ _ => rfl)]
theorem rangeL_map (m : Nat) : rangeL 0 (m : Int) = (List.range m).map fun (k : Nat) => D.int k := rangeL_tbl m
end Q

/-! A hold as the laws draw it. -/
namespace Q
open PySem PySem.Spec PyProof.Rows L2
structure Td where
  many : Nat
  nb : Nat → Nat
  mv : Nat → Nat → Int
  sky : Nat → Int × Int × Int
  stove : Nat → Option (Int × Int × Int × Int)
  flow : Nat → Nat → Int
  s0 : Int
  s1 : Int
  s2 : Int
  s3 : Int
  b0 : Int
  b1 : Int
  b2 : Int
structure Td.Ok (t : Td) : Prop where
  m1 : 1 ≤ t.many
  m4 : t.many ≤ 4
  nb1 : ∀ r, 1 ≤ t.nb r
  nb6 : ∀ r, t.nb r ≤ (if t.many ≤ 2 then 6 else 4)
  rise : ∀ r j, t.mv r j < t.mv r (j + 1)
  mlo : ∀ r j, -30 ≤ t.mv r j
  mhi : ∀ r j, t.mv r j ≤ 30 + 20 * j
  sk0 : ∀ r, 0 ≤ (t.sky r).1
  sk3 : ∀ r, (t.sky r).1 ≤ 3
  slo : ∀ r, -30 ≤ (t.sky r).2.1
  sle : ∀ r, (t.sky r).2.1 ≤ (t.sky r).2.2
  shi : ∀ r, (t.sky r).2.2 ≤ 60
  st : ∀ r h w s f, t.stove r = some (h, w, s, f) → (0 ≤ h ∧ h ≤ 25) ∧ (0 ≤ w ∧ w ≤ 9) ∧ (0 ≤ s ∧ s ≤ 3) ∧ (0 ≤ f ∧ f ≤ 3)
  f0 : ∀ r o, 0 ≤ t.flow r o
  f3 : ∀ r o, t.flow r o ≤ 3
  p0 : 0 < t.s0
  p1 : 0 < t.s1
  p3 : 0 < t.s3
  q0 : t.s0 ≤ 1000000000
  q1 : t.s1 ≤ 1000000000
  q3 : t.s3 ≤ 1000000000
  l2 : -1000000000 ≤ t.s2
  h2 : t.s2 ≤ 1000000000
  b00 : 0 ≤ t.b0
  b04 : t.b0 ≤ 4
  b10 : 0 ≤ t.b1
  b130 : t.b1 ≤ 30
  b20 : 0 ≤ t.b2
  b230 : t.b2 ≤ 30
/-! as data -/
def Td.marks (t : Td) (r : Nat) : List Int := tbl (t.nb r + 1) (t.mv r)
def msD (l : List Int) : D := .lst (l.map .int)
def sky3 (s : Int × Int × Int) : D := .tup [.int s.1, .int s.2.1, .int s.2.2]
def stv4 : Option (Int × Int × Int × Int) → D
  | none => .non
  | some (h, w, s, f) => .tup [.int h, .int w, .int s, .int f]
def D5 (a b c f s : D) : D := .dct [(.str "marks", a), (.str "sky", b), (.str "stoves", c), (.str "flows", f), (.str "scale", s)]
def D6 (a b c f s g : D) : D := .dct [(.str "marks", a), (.str "sky", b), (.str "stoves", c), (.str "flows", f), (.str "scale", s), (.str "bounds", g)]
def Td.scD (t : Td) : D := .tup [.int t.s0, .int t.s1, .int t.s2, .int t.s3]
def Td.bD (t : Td) : D := .tup [.int t.b0, .int t.b1, .int t.b2]
def Td.flD (t : Td) (r o : Nat) : D := .int (t.flow r o)
def Td.mkD (t : Td) (n : Nat) : D := .lst (tbl n fun r => msD (t.marks r))
def Td.skD (t : Td) (n : Nat) : D := .lst (tbl n fun r => sky3 (t.sky r))
def Td.stD (t : Td) (n : Nat) : D := .lst (tbl n fun r => stv4 (t.stove r))
def Td.told (t : Td) : D := D6 (t.mkD t.many) (t.skD t.many) (t.stD t.many) (.dct (flowL t.flD t.many t.many)) t.scD t.bD
section
variable {a b c f s g x : D}
theorem ne_str {a b : Str} (h : decide (a = b) = false) : kEq (.str a) (.str b) = false := by rw [kEq_str, h]
theorem eq_str {a : Str} : kEq (.str a) (.str a) = true := by rw [kEq_str]; simp
theorem D6_marks : hIxD (D6 a b c f s g) (.str "marks") = some a := by
  unfold D6
  rw [hIxD_dct rfl, dlook_cons_t eq_str]
theorem D6_sky : hIxD (D6 a b c f s g) (.str "sky") = some b := by
  unfold D6
  rw [hIxD_dct rfl, dlook_cons_f (ne_str (by decide +kernel)), dlook_cons_t eq_str]
theorem D6_stoves : hIxD (D6 a b c f s g) (.str "stoves") = some c := by
  unfold D6
  rw [hIxD_dct rfl, dlook_cons_f (ne_str (by decide +kernel)), dlook_cons_f (ne_str (by decide +kernel)), dlook_cons_t eq_str]
theorem D6_flows : hIxD (D6 a b c f s g) (.str "flows") = some f := by
  unfold D6
  rw [hIxD_dct rfl, dlook_cons_f (ne_str (by decide +kernel)), dlook_cons_f (ne_str (by decide +kernel)), dlook_cons_f (ne_str (by decide +kernel)), dlook_cons_t eq_str]
theorem D6_scale : hIxD (D6 a b c f s g) (.str "scale") = some s := by
  unfold D6
  rw [hIxD_dct rfl, dlook_cons_f (ne_str (by decide +kernel)), dlook_cons_f (ne_str (by decide +kernel)), dlook_cons_f (ne_str (by decide +kernel)), dlook_cons_f (ne_str (by decide +kernel)), dlook_cons_t eq_str]
theorem D6_bounds : hIxD (D6 a b c f s g) (.str "bounds") = some g := by
  unfold D6
  rw [hIxD_dct rfl, dlook_cons_f (ne_str (by decide +kernel)), dlook_cons_f (ne_str (by decide +kernel)), dlook_cons_f (ne_str (by decide +kernel)), dlook_cons_f (ne_str (by decide +kernel)), dlook_cons_f (ne_str (by decide +kernel)), dlook_cons_t eq_str]
theorem D5_put {i : Nat} {S : Store} {ρ : Env} (hx : plainV x = true) : vputK 2 i [] x (.str "bounds") S ρ [(.str "marks", a), (.str "sky", b), (.str "stoves", c), (.str "flows", f), (.str "scale", s)] = slotPut 2 2 i [] (D6 a b c f s x) S ρ := by
  rw [vputK_top (l := [(.str "marks", a), (.str "sky", b), (.str "stoves", c), (.str "flows", f), (.str "scale", s)]) rfl rfl (show 5 < 1000000 by decide) hx, dput_new (by
    rw [dlook_cons_f (ne_str (by decide +kernel)), dlook_cons_f (ne_str (by decide +kernel)), dlook_cons_f (ne_str (by decide +kernel)), dlook_cons_f (ne_str (by decide +kernel)), dlook_one_f (ne_str (by decide +kernel))])]
  rfl
theorem itS_sc {t : Td} {k : Str} {S : Store} {o : Option (List (D × D))} : itS (.ok t.scD S) k o = o.map ((.str k, t.scD) :: ·) := itS_ok rfl
theorem dpos_t {p : D × D} {l : List (D × D)} {k : D} (h : kEq p.1 k = true) : dpos (p :: l) k = some (0, p.2) := if_pos h
theorem dpos_f {p : D × D} {l : List (D × D)} {k : D} (h : kEq p.1 k = false) : dpos (p :: l) k = (dpos l k).map fun q => (q.1 + 1, q.2) := if_neg (by rw [h]; decide)
theorem posT_d {l : List (D × D)} {k : Str} (h : flatKs l = true) : posT (.dct l) k = dpos l (.str k) := if_pos h
theorem P6_marks : posT (D6 a b c f s g) "marks" = some (0, a) := by
  unfold D6
  rw [posT_d rfl, dpos_t eq_str]
theorem P6_sky : posT (D6 a b c f s g) "sky" = some (1, b) := by
  unfold D6
  rw [posT_d rfl, dpos_f (ne_str (by decide +kernel)), dpos_t eq_str]
  rfl
theorem P6_stoves : posT (D6 a b c f s g) "stoves" = some (2, c) := by
  unfold D6
  rw [posT_d rfl, dpos_f (ne_str (by decide +kernel)), dpos_f (ne_str (by decide +kernel)), dpos_t eq_str]
  rfl
theorem P6_flows : posT (D6 a b c f s g) "flows" = some (3, f) := by
  unfold D6
  rw [posT_d rfl, dpos_f (ne_str (by decide +kernel)), dpos_f (ne_str (by decide +kernel)), dpos_f (ne_str (by decide +kernel)), dpos_t eq_str]
  rfl
theorem A6_marks : setAt [0] (D6 a b c f s g) x = D6 x b c f s g := rfl
theorem A6_sky : setAt [1] (D6 a b c f s g) x = D6 a x c f s g := rfl
theorem A6_stoves : setAt [2] (D6 a b c f s g) x = D6 a b x f s g := rfl
theorem A6_flows : setAt [3] (D6 a b c f s g) x = D6 a b c x s g := rfl
end
section
variable {t : Td}
theorem told_marks : hIxD t.told (.str "marks") = some (t.mkD t.many) := D6_marks
theorem told_sky : hIxD t.told (.str "sky") = some (t.skD t.many) := D6_sky
theorem told_stoves : hIxD t.told (.str "stoves") = some (t.stD t.many) := D6_stoves
theorem told_flows : hIxD t.told (.str "flows") = some (.dct (flowL t.flD t.many t.many)) := D6_flows
theorem told_scale : hIxD t.told (.str "scale") = some t.scD := D6_scale
theorem told_bounds : hIxD t.told (.str "bounds") = some t.bD := D6_bounds
theorem ix_mk {r n : Nat} (h : r < n) : hIx (t.mkD n) (.int r) = some (msD (t.marks r)) := hIx_tbl h
theorem ix_sk {r n : Nat} (h : r < n) : hIx (t.skD n) (.int r) = some (sky3 (t.sky r)) := hIx_tbl h
theorem ix_st {r n : Nat} (h : r < n) : hIx (t.stD n) (.int r) = some (stv4 (t.stove r)) := hIx_tbl h
theorem ix_fl {r o : Nat} (h : r < t.many) (h2 : o < t.many) (h3 : o ≠ r) : hIxD (.dct (flowL t.flD t.many t.many)) (.tup [.int r, .int o]) = some (.int (t.flow r o)) := by
  rw [hIxD_dct keyF_pair]
  exact (flowL_look t.many).trans (if_pos ⟨h, h2, h3⟩)
theorem lstK_mk {n : Nat} {k : List D → RS} : lstK (t.mkD n) k = k (tbl n fun r => msD (t.marks r)) := rfl
theorem lstK_sk {n : Nat} {k : List D → RS} : lstK (t.skD n) k = k (tbl n fun r => sky3 (t.sky r)) := rfl
theorem lstK_st {n : Nat} {k : List D → RS} : lstK (t.stD n) k = k (tbl n fun r => stv4 (t.stove r)) := rfl
theorem seqK_mk {n : Nat} {S : Store} : seqK (t.mkD n) S = .ok (tbl n fun r => msD (t.marks r)) S := rfl
theorem mk_app {n : Nat} : D.lst ((tbl n fun r => msD (t.marks r)) ++ [msD (t.marks n)]) = t.mkD (n + 1) := by unfold Td.mkD; rw [tbl_succ]
theorem sk_app {n : Nat} : D.lst ((tbl n fun r => sky3 (t.sky r)) ++ [sky3 (t.sky n)]) = t.skD (n + 1) := by unfold Td.skD; rw [tbl_succ]
theorem st_app {n : Nat} : D.lst ((tbl n fun r => stv4 (t.stove r)) ++ [stv4 (t.stove n)]) = t.stD (n + 1) := by unfold Td.stD; rw [tbl_succ]
theorem mApp_tbl {n : Nat} {f : Nat → D} {x : D} (h : n < 1000000) : mAppend (tbl n f) [x] = some (.non, tbl n f ++ [x]) := mAppend_lt (by rw [tbl_len]; exact h)
theorem len_mk {n : Nat} : hLen [t.mkD n] = some (.int n) := by
  show some (D.int ((tbl n _).length : Nat)) = _
  rw [tbl_len]
theorem marks_len {r : Nat} : (t.marks r).length = t.nb r + 1 := tbl_len
theorem ix_ms {r j : Nat} (h : j ≤ t.nb r) : hIx (msD (t.marks r)) (.int j) = some (.int (t.mv r j)) := hIx_lst (by
  rw [List.getElem?_map]
  unfold Td.marks
  rw [tbl_get (by omega)]
  rfl)
theorem ix_ms0 {r : Nat} : hIx (msD (t.marks r)) (.int 0) = some (.int (t.mv r 0)) := ix_ms (j := 0) (Nat.zero_le _)
theorem len_ms {r : Nat} : hLen [msD (t.marks r)] = some (.int (t.nb r + 1 : Nat)) := by
  show some (D.int ((t.marks r).map D.int).length) = _
  rw [List.length_map, marks_len]
theorem hIx_last {l : List D} {d : D} (h : l ≠ []) (e : l[l.length - 1]? = some d) : hIx (.lst l) (.int (-1)) = some d := by
  have hl : 0 < l.length := List.length_pos_iff.mpr h
  show atI l (-1) = _
  unfold atI
  have : ixN l.length (-1) = some (l.length - 1) := by
    unfold ixN
    rw [if_neg (by decide), if_pos (by omega)]
    congr 1
    omega
  rw [this]
  exact e
theorem ix_last {r : Nat} : hIx (msD (t.marks r)) (.int (-1)) = some (.int (t.mv r (t.nb r))) := hIx_last (by
  intro h
  have := congrArg List.length h
  rw [List.length_map, marks_len] at this
  simp at this) (by
  rw [List.length_map, marks_len, List.getElem?_map]
  unfold Td.marks
  rw [Nat.add_sub_cancel, tbl_get (by omega)]
  rfl)
end
/-! ### warmths -/
def Td.warm (t : Td) (n p : Int) : Rat := rI (n * t.s0 * t.s3 + p * t.s2 * t.s1) (p * t.s1 * t.s3)
def Td.mks (t : Td) (r : Nat) : List Rat := tbl (t.nb r + 1) fun j => t.warm (t.mv r j) 1
def Td.sk (t : Td) (r : Nat) : Rat × Rat × Rat := (rI (t.sky r).1 12, t.warm (t.sky r).2.1 1, t.warm (t.sky r).2.2 1)
def Td.sv (t : Td) (r : Nat) : Option (Rat × Int × Int × Int) := (t.stove r).map fun q => (rI (q.1 * t.s0) t.s1, q.2.1, q.2.2.1, q.2.2.2)
def Td.fl (t : Td) (r o : Nat) : Rat := rI (t.flow r o) 12
section
variable {t : Td} (ok : t.Ok)
include ok
theorem Td.Ok.nb7 (r : Nat) : t.nb r ≤ 6 := by
  have := ok.nb6 r
  split at this <;> omega
theorem Td.Ok.s30 : t.s0.natAbs < 2 ^ 30 ∧ t.s1.natAbs < 2 ^ 30 ∧ t.s2.natAbs < 2 ^ 30 ∧ t.s3.natAbs < 2 ^ 30 := by
  have h := ok.p0; have h1 := ok.p1; have h3 := ok.p3; have q0 := ok.q0; have q1 := ok.q1; have q3 := ok.q3; have l2 := ok.l2; have h2 := ok.h2
  omega
theorem Td.Ok.den {p : Int} (hp : 0 < p) : 0 < p * t.s1 * t.s3 := Int.mul_pos (Int.mul_pos hp ok.p1) ok.p3
theorem Td.Ok.topb {n p : Int} (hn : n.natAbs < 2 ^ 30) (hp : p.natAbs < 2 ^ 30) : (n * t.s0 * t.s3 + p * t.s2 * t.s1).natAbs < 2 ^ 91 := bd_add (bd_mul (bd_mul hn ok.s30.1) ok.s30.2.2.2) (bd_mul (bd_mul hp ok.s30.2.2.1) ok.s30.2.1)
theorem Td.Ok.denb {p : Int} (hp : p.natAbs < 2 ^ 30) : (p * t.s1 * t.s3).natAbs < 2 ^ 91 := bd_mono (bd_mul (bd_mul hp ok.s30.2.1) ok.s30.2.2.2) (by decide)
theorem Td.Ok.warm_rb {n p : Int} (hn : n.natAbs < 2 ^ 30) (h0 : 0 < p) (hp : p.natAbs < 2 ^ 30) : rb 91 (t.warm n p) := rb_rI (by have := ok.den h0; omega) (ok.topb hn hp) (ok.denb hp)
theorem Td.Ok.mv30 {r j : Nat} (h : j ≤ 6) : (t.mv r j).natAbs < 2 ^ 30 := by
  have := ok.mlo r j; have := ok.mhi r j
  omega
theorem Td.Ok.mk_rb (r : Nat) : ∀ q ∈ t.mks r, rb 91 q := fun q hq => by
  obtain ⟨j, hj, rfl⟩ := tbl_mem.mp hq
  exact ok.warm_rb (ok.mv30 (by have := ok.nb7 r; omega)) (by decide) (by decide)
/-- a warmth by whole numbers of parts -/
theorem Td.Ok.warm_eq {n p : Int} (h0 : 0 < p) : t.warm n p = rI n p * rI t.s0 t.s1 + rI t.s2 t.s3 := by
  have hp := intc (show p ≠ 0 by omega)
  have h1 := intc (show t.s1 ≠ 0 by have := ok.p1; omega)
  have h3 := intc (show t.s3 ≠ 0 by have := ok.p3; omega)
  unfold Td.warm rI
  rw [Rat.intCast_add, Rat.intCast_mul, Rat.intCast_mul, Rat.intCast_mul, Rat.intCast_mul, Rat.intCast_mul, Rat.intCast_mul]
  grind
theorem Td.Ok.step0 : 0 < rI t.s0 t.s1 := by
  have h1 : (0 : Rat) < t.s1 := by have := ok.p1; exact_mod_cast this
  have h0 : (0 : Rat) < t.s0 := by have := ok.p0; exact_mod_cast this
  unfold rI
  rw [Rat.div_def]
  exact Rat.mul_pos h0 (Rat.inv_pos.mpr h1)
theorem Td.Ok.warm_lt {n p m q : Int} (hp : 0 < p) (hq : 0 < q) : t.warm n p < t.warm m q ↔ n * q < m * p := by
  have h := ok.step0
  rw [ok.warm_eq hp, ok.warm_eq hq]
  have hp' : (0 : Rat) < p := by exact_mod_cast hp
  have hq' : (0 : Rat) < q := by exact_mod_cast hq
  have e1 : rI n p * p = n := rI_mul (by omega)
  have e2 : rI m q * q = m := rI_mul (by omega)
  generalize rI n p = x at *
  generalize rI m q = y at *
  have k1 : x * rI t.s0 t.s1 + rI t.s2 t.s3 < y * rI t.s0 t.s1 + rI t.s2 t.s3 ↔ x < y := by
    constructor
    · intro z
      have z : x * rI t.s0 t.s1 < y * rI t.s0 t.s1 := by grind
      exact (Rat.mul_lt_mul_right h).mp z
    · intro z
      have := (Rat.mul_lt_mul_right h).mpr z
      grind
  rw [k1]
  have k2 : n * q < m * p ↔ (n : Rat) * q < m * p := by
    rw [← Rat.intCast_mul, ← Rat.intCast_mul]
    exact Rat.intCast_lt_intCast.symm
  rw [k2, ← e1, ← e2]
  have hpq := Rat.mul_pos hp' hq'
  have k3 := Rat.mul_lt_mul_right (a := x) (b := y) hpq
  rw [← k3]
  have a1 : x * (p * q) = x * p * q := by grind
  have a2 : y * ((p : Rat) * q) = y * q * p := by grind
  rw [a1, a2]
end
/-! ### the hold laid, step by step -/
def Td.h0 (t : Td) (n : Nat) : Hs := ⟨t.b0, t.b1, t.b2, n, fun i => if i < n then t.mks i else [], fun _ _ => 0, fun _ => (0, 0, 0), fun _ => none⟩
/-- rooms below k laid, of room k what flows from rooms below o -/
def Td.hj (t : Td) (k o : Nat) : Hs := { t.h0 t.many with flow := fun i j => if (i < k ∧ j < t.many ∨ i = k ∧ j < o) ∧ i ≠ j then t.fl i j else 0, sky := fun i => if i ≤ k then t.sk i else (0, 0, 0), stove := fun i => if i ≤ k then t.sv i else none }
def Td.hk (t : Td) (k : Nat) : Hs := { t.h0 t.many with flow := fun i j => if (i < k ∧ j < t.many) ∧ i ≠ j then t.fl i j else 0, sky := fun i => if i < k then t.sk i else (0, 0, 0), stove := fun i => if i < k then t.sv i else none }
def Td.hs (t : Td) : Hs := t.hk t.many
section
variable {t : Td}
theorem h0_add (n : Nat) : (t.h0 n).add (t.mks n) = t.h0 (n + 1) := by
  unfold Td.h0 Hs.add
  simp only [ite_self]
  congr 1
  funext i
  by_cases h : i = n
  · subst h
    rw [if_pos rfl, if_pos (by omega)]
  · rw [if_neg h]
    by_cases h2 : i < n
    · rw [if_pos h2, if_pos (by omega)]
    · rw [if_neg h2, if_neg (by omega)]
theorem hj_0 (k : Nat) : (({ (t.hk k).setSky k (t.sk k) with stove := fun i => if i < k + 1 then t.sv i else none } : Hs)) = t.hj k 0 := by
  unfold Td.hk Td.hj Hs.setSky
  simp only [Hs.mk.injEq, true_and]
  refine ⟨?_, ?_, ?_⟩
  · funext i j
    congr 1
    apply propext
    omega
  · funext i
    by_cases h : i = k
    · subst h; rw [if_pos rfl, if_pos (by omega)]
    · rw [if_neg h]
      by_cases h2 : i < k
      · rw [if_pos h2, if_pos (by omega)]
      · rw [if_neg h2, if_neg (by omega)]
  · funext i
    by_cases h2 : i < k + 1
    · rw [if_pos h2, if_pos (by omega)]
    · rw [if_neg h2, if_neg (by omega)]
theorem hk_stove {k : Nat} {h : Hs} (e : h.stove = (t.hk k).stove) {s} (hs : s = t.sv k) : (h.setStove k s) = { h with stove := fun i => if i < k + 1 then t.sv i else none } := by
  unfold Hs.setStove
  rw [e, hs]
  congr 1
  funext i
  show (if i = k then t.sv k else if i < k then t.sv i else none) = _
  by_cases h : i = k
  · subst h; rw [if_pos rfl, if_pos (by omega)]
  · rw [if_neg h]
    by_cases h2 : i < k
    · rw [if_pos h2, if_pos (by omega)]
    · rw [if_neg h2, if_neg (by omega)]
theorem hk_stove_none {k : Nat} {h : Hs} (e : h.stove = (t.hk k).stove) (hs : t.sv k = none) : h = { h with stove := fun i => if i < k + 1 then t.sv i else none } := by
  cases h
  simp only at e
  subst e
  congr 1
  funext i
  show (if i < k then t.sv i else none) = _
  by_cases h : i = k
  · subst h; rw [if_neg (by omega), if_pos (by omega), hs]
  · by_cases h2 : i < k
    · rw [if_pos h2, if_pos (by omega)]
    · rw [if_neg h2, if_neg (by omega)]
theorem hj_flow {k o : Nat} (h : o ≠ k) : (t.hj k o).setFlow k o (t.fl k o) = t.hj k (o + 1) := by
  unfold Td.hj Hs.setFlow
  congr 1
  funext i j
  show (if i = k then (if j = o then t.fl k o else if (i < k ∧ j < t.many ∨ i = k ∧ j < o) ∧ i ≠ j then t.fl i j else 0) else if (i < k ∧ j < t.many ∨ i = k ∧ j < o) ∧ i ≠ j then t.fl i j else 0) = if (i < k ∧ j < t.many ∨ i = k ∧ j < o + 1) ∧ i ≠ j then t.fl i j else 0
  by_cases e1 : i = k
  · subst e1
    rw [if_pos rfl]
    by_cases e2 : j = o
    · subst e2
      rw [if_pos rfl, if_pos (by omega)]
    · rw [if_neg e2]
      congr 1
      apply propext
      omega
  · rw [if_neg e1]
    congr 1
    apply propext
    omega
theorem hj_same {k : Nat} : t.hj k k = t.hj k (k + 1) := by
  unfold Td.hj
  simp only [Hs.mk.injEq, true_and, and_true]
  funext i j
  congr 1
  apply propext
  omega
theorem hj_next {k : Nat} : t.hj k t.many = t.hk (k + 1) := by
  unfold Td.hj Td.hk
  simp only [Hs.mk.injEq, true_and]
  refine ⟨?_, ?_, ?_⟩
  · funext i j
    congr 1
    apply propext
    omega
  · funext i
    congr 1
    apply propext
    omega
  · funext i
    congr 1
    apply propext
    omega
theorem h0_hk : t.h0 t.many = t.hk 0 := by
  unfold Td.hk
  have e : ∀ i j : Nat, ((i < 0 ∧ j < t.many) ∧ i ≠ j) = False := fun i j => by simp
  simp only [e, if_false, Nat.not_lt_zero]
  rfl
end
section
variable {t : Td} (ok : t.Ok)
include ok
theorem Td.Ok.share_rb {x : Int} (h0 : 0 ≤ x) (h3 : x ≤ 3) : rb 91 (rI x 12) := rb_rI (by decide) (by
  have : (2 : Nat) ^ 91 = 2475880078570760549798248448 := by decide
  omega) (by decide)
theorem Td.Ok.share_le {x : Int} (h3 : x ≤ 3) : rI x 12 ≤ rI 1 4 := rI_le (by decide) (by decide) (by omega)
theorem Td.Ok.qu0 : (0 : Rat) ≤ rI 1 4 := rI_nonneg (by decide) (by decide)
theorem Td.Ok.fl_rb (r o : Nat) : rb 91 (t.fl r o) := ok.share_rb (ok.f0 r o) (ok.f3 r o)
theorem Td.Ok.fl_le (r o : Nat) : t.fl r o ≤ rI 1 4 := ok.share_le (ok.f3 r o)
theorem Td.Ok.fl_nn (r o : Nat) : ¬ t.fl r o < 0 := by have := rI_nonneg (ok.f0 r o) (show (0 : Int) < 12 by decide); unfold Td.fl; grind
theorem Td.Ok.sk_rb (r : Nat) : rb 91 (t.sk r).1 := ok.share_rb (ok.sk0 r) (ok.sk3 r)
theorem Td.Ok.sk_le (r : Nat) : (t.sk r).1 ≤ rI 1 4 := ok.share_le (ok.sk3 r)
theorem Td.Ok.sk_nn (r : Nat) : ¬ (t.sk r).1 < 0 := by have := rI_nonneg (ok.sk0 r) (show (0 : Int) < 12 by decide); unfold Td.sk; grind
theorem Td.Ok.lo30 (r : Nat) : (t.sky r).2.1.natAbs < 2 ^ 30 ∧ (t.sky r).2.2.natAbs < 2 ^ 30 := by
  have h1 := ok.slo r; have h2 := ok.sle r; have h3 := ok.shi r
  omega
theorem Td.Ok.lo_rb (r : Nat) : rb 91 (t.sk r).2.1 := ok.warm_rb (ok.lo30 r).1 (by decide) (by decide)
theorem Td.Ok.hi_rb (r : Nat) : rb 91 (t.sk r).2.2 := ok.warm_rb (ok.lo30 r).2 (by decide) (by decide)
theorem Td.Ok.lo_hi (r : Nat) : ¬ (t.sk r).2.2 < (t.sk r).2.1 := by
  show ¬ t.warm _ 1 < t.warm _ 1
  rw [ok.warm_lt (by decide) (by decide)]
  have := ok.sle r
  omega
/-- rooms laid in part -/
structure Td.Part (t : Td) (h : Hs) : Prop where
  many : h.many = t.many
  flow : ∀ i j, h.flow i j = 0 ∨ h.flow i j = t.fl i j
  self : ∀ i, h.flow i i = 0
  sky : ∀ i, (h.sky i).1 = 0 ∨ (h.sky i).1 = (t.sk i).1
theorem Td.Part.wf {h : Hs} (g : t.Part h) : h.Wf 91 where
  m4 := by rw [g.many]; exact ok.m4
  bf i j _ _ := by
    rcases g.flow i j with e | e
    · rw [e]; exact rb_mono rb_0 (by decide)
    · rw [e]; exact ok.fl_rb i j
  bs i _ := by
    rcases g.sky i with e | e
    · rw [e]; exact rb_mono rb_0 (by decide)
    · rw [e]; exact ok.sk_rb i
theorem Td.Part.le {h : Hs} (g : t.Part h) {r : Nat} (hr : r < t.many) : ¬ 1 < h.taken r := taken_le (by rw [g.many]; exact ok.m4) (by rw [g.many]; exact hr) (by
    rcases g.sky r with e | e
    · rw [e]; exact ok.qu0
    · rw [e]; exact ok.sk_le r) (fun j _ => by
    rcases g.flow r j with e | e
    · rw [e]; exact ok.qu0
    · rw [e]; exact ok.fl_le r j) (g.self r)
omit ok
theorem hj_part (k o : Nat) : t.Part (t.hj k o) where
  many := rfl
  flow i j := by
    show (if (i < k ∧ j < t.many ∨ i = k ∧ j < o) ∧ i ≠ j then t.fl i j else 0) = 0 ∨ _
    split
    · exact .inr (by show (if (i < k ∧ j < t.many ∨ i = k ∧ j < o) ∧ i ≠ j then t.fl i j else 0) = _; rw [if_pos (by assumption)])
    · exact .inl rfl
  self i := by
    show (if (i < k ∧ i < t.many ∨ i = k ∧ i < o) ∧ i ≠ i then t.fl i i else 0) = 0
    rw [if_neg (by simp)]
  sky i := by
    show (if i ≤ k then t.sk i else (0, 0, 0)).1 = 0 ∨ (if i ≤ k then t.sk i else (0, 0, 0)).1 = _
    split
    · exact .inr rfl
    · exact .inl rfl
theorem hk_part (k : Nat) : t.Part (t.hk k) where
  many := rfl
  flow i j := by
    show (if (i < k ∧ j < t.many) ∧ i ≠ j then t.fl i j else 0) = 0 ∨ _
    split
    · exact .inr (by show (if (i < k ∧ j < t.many) ∧ i ≠ j then t.fl i j else 0) = _; rw [if_pos (by assumption)])
    · exact .inl rfl
  self i := by
    show (if (i < k ∧ i < t.many) ∧ i ≠ i then t.fl i i else 0) = 0
    rw [if_neg (by simp)]
  sky i := by
    show (if i < k then t.sk i else (0, 0, 0)).1 = 0 ∨ (if i < k then t.sk i else (0, 0, 0)).1 = _
    split
    · exact .inr rfl
    · exact .inl rfl
theorem hk_sky_part (k : Nat) : t.Part ((t.hk k).setSky k (t.sk k)) := ⟨rfl, (hk_part k).flow, (hk_part k).self, fun i => by
  show (if i = k then t.sk k else (t.hk k).sky i).1 = 0 ∨ (if i = k then t.sk k else (t.hk k).sky i).1 = _
  split
  · rename_i e
    subst e
    exact .inr rfl
  · exact (hk_part k).sky i⟩
end
theorem methK_o {S : Store} {n c : Nat} {h : Hs} {m : Str} {Φ : FF} {dd : List D} {k : Store → RL} (a : At S n c h) (hm : (h.fs.lookup m).isNone = true) : methK m [(c, Φ)] dd (.obj n) S k = (k S).bindE fun ds S2 => RFE (Φ (.obj n :: (ds ++ dd)) S2) := by
  show (match S[n]? with
    | some ob => if (ob.fs.lookup m).isNone = true then (match ([(c, Φ)] : List (Nat × FF)).lookup ob.cls with
      | some Φ => (match k S with
        | .ok ds S2 => RFE (Φ (.obj n :: (ds ++ dd)) S2)
        | .exc y S2 => .exc y S2
        | .no => .no)
      | none => .no) else .no
    | none => .no) = _
  rw [a]
  show (if (h.fs.lookup m).isNone = true then (match ([(c, Φ)] : List (Nat × FF)).lookup c with
      | some Φ => (match k S with
        | .ok ds S2 => RFE (Φ (.obj n :: (ds ++ dd)) S2)
        | .exc y S2 => .exc y S2
        | .no => .no)
      | none => .no) else .no) = _
  rw [if_pos hm]
  simp only [List.lookup, BEq.rfl]
  cases k S <;> rfl
theorem rfe_exc {x : Exc} {o : Env} {S : Store} : RFE (.exc x o S) = .exc x S := rfl
theorem notN_stv0 : hNotN (stv4 none) .non = some (.bl false) := rfl
theorem notN_stv1 {q : Int × Int × Int × Int} : hNotN (stv4 (some q)) .non = some (.bl true) := rfl
theorem stv_0 {q : Int × Int × Int × Int} : hIx (stv4 (some q)) (.int 0) = some (.int q.1) := hIxT0
theorem stv_1 {q : Int × Int × Int × Int} : hIx (stv4 (some q)) (.int 1) = some (.int q.2.1) := hIxT1
theorem stv_2 {q : Int × Int × Int × Int} : hIx (stv4 (some q)) (.int 2) = some (.int q.2.2.1) := hIxT2
theorem stv_3 {q : Int × Int × Int × Int} : hIx (stv4 (some q)) (.int 3) = some (.int q.2.2.2) := hIxT3
theorem Td.Ok.heat {t : Td} (ok : t.Ok) {h : Int} (h0 : 0 ≤ h) (h25 : h ≤ 25) : rb 91 (rI (h * t.s0) t.s1) ∧ ¬ rI (h * t.s0) t.s1 < 0 ∧ (h * t.s0).natAbs < 2 ^ 60 := by
  have b := bd_mul (m := 30) (show h.natAbs < 2 ^ 30 by omega) ok.s30.1
  refine ⟨rb_rI (by have := ok.p1; omega) (bd_mono b (by decide)) (bd_mono ok.s30.2.1 (by decide)), ?_, b⟩
  have := rI_nonneg (a := h * t.s0) (w := t.s1) (Int.mul_nonneg h0 (by have := ok.p0; omega)) ok.p1
  grind
section
variable {t : Td}
theorem mks_len {r : Nat} : (t.mks r).length = t.nb r + 1 := tbl_len
theorem mks_get {r b : Nat} (h : b ≤ t.nb r) : (t.mks r).getD b 0 = t.warm (t.mv r b) 1 := by
  unfold Td.mks
  rw [List.getD_eq_getElem?_getD, tbl_get (by omega)]
  rfl
theorem hs_marks {r : Nat} (hr : r < t.many) : t.hs.marks r = t.mks r := if_pos hr
end
end Q

/-! Spans by whole numbers of twelfths. -/
namespace Q
open PySem PySem.Spec PyProof.Rows L2
def sumI (f : Nat → Int) : Nat → Int
  | 0 => 0
  | n + 1 => sumI f n + f n
theorem sumI_congr {f g : Nat → Int} : ∀ {n}, (∀ j, j < n → f j = g j) → sumI f n = sumI g n
  | 0, _ => rfl
  | n + 1, h => by simp only [sumI]; rw [sumI_congr (n := n) (fun j hj => h j (by omega)), h n (by omega)]
theorem sumI_le {f g : Nat → Int} : ∀ {n}, (∀ j, j < n → f j ≤ g j) → sumI f n ≤ sumI g n
  | 0, _ => Int.le_refl _
  | n + 1, h => by
    simp only [sumI]
    have h1 := sumI_le (n := n) (fun j hj => h j (by omega))
    have h2 := h n (by omega)
    omega
theorem sumI_nonneg {f : Nat → Int} : ∀ {n}, (∀ j, j < n → 0 ≤ f j) → 0 ≤ sumI f n
  | 0, _ => Int.le_refl _
  | n + 1, h => by
    simp only [sumI]
    have h1 := sumI_nonneg (n := n) (fun j hj => h j (by omega))
    have h2 := h n (by omega)
    omega
theorem sumI_mul (c : Int) (f : Nat → Int) : ∀ n, sumI (fun j => c * f j) n = c * sumI f n
  | 0 => by simp [sumI]
  | n + 1 => by simp only [sumI]; rw [sumI_mul c f n, Int.mul_add]
theorem sumI_bd {f : Nat → Int} {c : Int} : ∀ {n}, (∀ j, j < n → f j ≤ c) → sumI f n ≤ n * c
  | 0, _ => by simp [sumI]
  | n + 1, h => by
    simp only [sumI]
    have h1 := sumI_bd (n := n) (fun j hj => h j (by omega))
    have h2 := h n (by omega)
    rw [Int.natCast_add, Int.add_mul]
    omega
theorem rI_add {a b w : Int} (hw : w ≠ 0) : rI (a + b) w = rI a w + rI b w := by
  have := intc hw
  unfold rI
  rw [Rat.intCast_add]
  grind
theorem rI_sum {f : Nat → Int} {w : Int} (hw : w ≠ 0) : ∀ n, rI (sumI f n) w = sumQ (fun j => rI (f j) w) n
  | 0 => by simp only [sumI, sumQ]; exact rI_zero
  | n + 1 => by simp only [sumI, sumQ]; rw [rI_add hw, rI_sum hw n]
theorem rI_mulr {a b v w : Int} (hv : v ≠ 0) (hw : w ≠ 0) : rI a v * rI b w = rI (a * b) (v * w) := by
  have h1 := intc hv
  have h2 := intc hw
  unfold rI
  rw [Rat.intCast_mul, Rat.intCast_mul]
  grind
theorem rI_scale {a w c : Int} (hw : w ≠ 0) (hc : c ≠ 0) : rI (c * a) (c * w) = rI a w := by
  have h1 := intc hw
  have h2 := intc hc
  unfold rI
  rw [Rat.intCast_mul, Rat.intCast_mul]
  grind
/-- what a room takes of other rooms, in twelfths -/
def Td.off (t : Td) (r j : Nat) : Int := if j = r then 0 else t.flow r j
def Td.rest (t : Td) (r : Nat) : Int := 12 - (t.sky r).1 - sumI (t.off r) t.many
/-- the warmth in twelfths, of numbers for the rooms and the weather -/
def Td.span (t : Td) (r : Nat) (n : Nat → Int) (m : Int) : Int := (t.sky r).1 * m + sumI (fun j => t.off r j * n j) t.many + t.rest r * n r
def heat4 : Option (Int × Int × Int × Int) → Int
  | none => 0
  | some q => q.1
theorem sumI_off {f : Nat → Int} {r : Nat} (h : f r = 0) (h3 : ∀ j, f j ≤ 3) : ∀ {n}, r < n → sumI f n ≤ 3 * (n - 1)
  | 0, hr => by omega
  | n + 1, hr => by
    simp only [sumI]
    by_cases e : r = n
    · subst e
      have := sumI_bd (f := f) (c := 3) (n := r) (fun j _ => h3 j)
      rw [h]
      omega
    · have := sumI_off h h3 (n := n) (by omega)
      have := h3 n
      omega
section
variable {t : Td} (ok : t.Ok)
theorem off_self {r : Nat} : t.off r r = 0 := if_pos rfl
include ok
theorem Td.Ok.off0 (r j : Nat) : 0 ≤ t.off r j := by unfold Td.off; split; exact Int.le_refl _; exact ok.f0 r j
theorem Td.Ok.off3 (r j : Nat) : t.off r j ≤ 3 := by unfold Td.off; split; decide; exact ok.f3 r j
theorem Td.Ok.rest0 {r : Nat} (hr : r < t.many) : 0 ≤ t.rest r := by
  have h1 := sumI_off (f := t.off r) (r := r) off_self (ok.off3 r) hr
  have h2 := ok.sk3 r
  have h3 := ok.m4
  unfold Td.rest
  omega
theorem Td.Ok.rest12 {r : Nat} : t.rest r ≤ 12 := by
  have h1 := sumI_nonneg (f := t.off r) (n := t.many) (fun j _ => ok.off0 r j)
  have h2 := ok.sk0 r
  unfold Td.rest
  omega
theorem Td.Ok.span_le {r : Nat} (hr : r < t.many) {n n' : Nat → Int} {m m' : Int} (hn : ∀ j, j < t.many → n j ≤ n' j) (hm : m ≤ m') : t.span r n m ≤ t.span r n' m' := by
  unfold Td.span
  have h1 := Int.mul_le_mul_of_nonneg_left hm (ok.sk0 r)
  have h2 := sumI_le (f := fun j => t.off r j * n j) (g := fun j => t.off r j * n' j) (n := t.many) (fun j hj => Int.mul_le_mul_of_nonneg_left (hn j hj) (ok.off0 r j))
  have h3 := Int.mul_le_mul_of_nonneg_left (hn r hr) (ok.rest0 hr)
  omega
omit ok
theorem span_mul {r : Nat} {n : Nat → Int} {m c : Int} : t.span r (fun j => c * n j) (c * m) = c * t.span r n m := by
  unfold Td.span
  rw [show (fun j => t.off r j * (c * n j)) = fun j => c * (t.off r j * n j) from funext fun j => by rw [Int.mul_left_comm], sumI_mul, Int.mul_add, Int.mul_add, Int.mul_left_comm, Int.mul_left_comm (t.rest r)]
theorem span_congr {r : Nat} (hr : r < t.many) {n n' : Nat → Int} {m : Int} (hn : ∀ j, j < t.many → n j = n' j) : t.span r n m = t.span r n' m := by
  unfold Td.span
  rw [hn r hr, sumI_congr (f := fun j => t.off r j * n j) (g := fun j => t.off r j * n' j) fun j hj => by rw [hn j hj]]
theorem hs_sky {r : Nat} (hr : r < t.many) : t.hs.sky r = t.sk r := if_pos hr
theorem hs_flow {r j : Nat} (hr : r < t.many) (hj : j < t.many) : t.hs.flow r j = rI (t.off r j) 12 := by
  show (if (r < t.many ∧ j < t.many) ∧ r ≠ j then t.fl r j else 0) = _
  unfold Td.off
  by_cases e : j = r
  · subst e
    rw [if_neg (by omega), if_pos rfl]
    exact rI_zero.symm
  · rw [if_pos (by omega), if_neg e]
    rfl
theorem hs_stove {r : Nat} (hr : r < t.many) : t.hs.stove r = t.sv r := if_pos hr
theorem hs_taken {r : Nat} (hr : r < t.many) : t.hs.taken r = rI ((t.sky r).1 + sumI (t.off r) t.many) 12 := by
  unfold Hs.taken
  rw [hs_sky hr, rI_add (by decide), rI_sum (by decide)]
  show rI (t.sky r).1 12 + sumQ (t.hs.flow r) t.many = _
  rw [sumQ_congr (fun j hj => hs_flow hr hj)]
theorem hs_part {r j : Nat} (hr : r < t.many) (hj : j < t.many) : t.hs.part r j = rI (if j = r then t.rest r else t.off r j) 12 := by
  unfold Hs.part
  by_cases e : j = r
  · subst e
    rw [if_pos rfl, if_pos rfl, hs_taken hr]
    unfold Td.rest
    rw [show 12 - (t.sky j).1 - sumI (t.off j) t.many = 12 - ((t.sky j).1 + sumI (t.off j) t.many) by omega, sub_same (by decide), rI_self (by decide)]
  · rw [if_neg (Ne.symm e), if_neg e, hs_flow hr hj]
theorem sumI_split {f : Nat → Int} {r : Nat} : ∀ {n}, r < n → sumI f n = f r + sumI (fun j => if j = r then 0 else f j) n
  | 0, h => by omega
  | n + 1, h => by
    simp only [sumI]
    by_cases e : r = n
    · subst e
      rw [if_pos rfl, sumI_congr (f := fun j => if j = r then 0 else f j) (g := f) (fun j hj => if_neg (by omega))]
      omega
    · rw [sumI_split (r := r) (n := n) (by omega), if_neg (by omega)]
      omega
include ok
theorem Td.Ok.hs_warm {r : Nat} (hr : r < t.many) {n : Nat → Int} {m p : Int} (hp : 0 < p) {b : Bool} (hb : b = true → t.stove r ≠ none) :
    t.hs.warm r (fun j => t.warm (n j) p) (t.warm m p) b = t.warm (t.span r n m + (if b = true then 12 * p * heat4 (t.stove r) else 0)) (12 * p) := by
  have p12 : (12 : Int) * p ≠ 0 := by omega
  have e0 : t.hs.warm r (fun j => t.warm (n j) p) (t.warm m p) b = rI (t.sky r).1 12 * t.warm m p + sumQ (fun j => rI (if j = r then t.rest r else t.off r j) 12 * t.warm (n j) p) t.many + (if b = true then heatOf (t.sv r) else 0) := by
    unfold Hs.warm
    rw [hs_sky hr, hs_stove hr]
    congr 2
    exact sumQ_congr fun j hj => by rw [hs_part hr hj]
  rw [e0]
  have e1 : (fun j => rI (if j = r then t.rest r else t.off r j) 12 * t.warm (n j) p) = fun j => rI t.s0 t.s1 * rI ((if j = r then t.rest r else t.off r j) * n j) (12 * p) + rI t.s2 t.s3 * rI (if j = r then t.rest r else t.off r j) 12 := by
    funext j
    rw [ok.warm_eq hp, ← rI_mulr (by decide) (by omega)]
    grind
  rw [e1, sumQ_add, sumQ_mul, sumQ_mul, ← rI_sum p12, ← rI_sum (by decide)]
  have s1 : sumI (fun j => if j = r then t.rest r else t.off r j) t.many = 12 - (t.sky r).1 := by
    rw [sumI_split (r := r) hr, if_pos rfl, sumI_congr (g := t.off r) (fun j hj => by
      by_cases e : j = r
      · rw [if_pos e, e, off_self]
      · rw [if_neg e, if_neg e])]
    unfold Td.rest
    omega
  have s2 : sumI (fun j => (if j = r then t.rest r else t.off r j) * n j) t.many = t.rest r * n r + sumI (fun j => t.off r j * n j) t.many := by
    rw [sumI_split (r := r) hr, if_pos rfl, sumI_congr (g := fun j => t.off r j * n j) (fun j hj => by
      by_cases e : j = r
      · rw [if_pos e, e, off_self, Int.zero_mul]
      · rw [if_neg e, if_neg e])]
  rw [s1, s2, ok.warm_eq hp, ok.warm_eq (n := t.span r n m + _) (by omega), sub_same (by decide), rI_self (by decide), rI_add (a := t.span r n m) p12]
  have e3 : rI (t.span r n m) (12 * p) = rI (t.sky r).1 12 * rI m p + rI (t.rest r * n r + sumI (fun j => t.off r j * n j) t.many) (12 * p) := by
    unfold Td.span
    rw [rI_mulr (by decide) (by omega), ← rI_add p12]
    congr 1
    omega
  have e4 : (if b = true then heatOf (t.sv r) else 0) = rI (if b = true then 12 * p * heat4 (t.stove r) else 0) (12 * p) * rI t.s0 t.s1 := by
    cases b with
    | false =>
      rw [if_neg (by decide), if_neg (by decide), rI_zero]
      grind
    | true =>
      rw [if_pos rfl, if_pos rfl]
      cases hs : t.stove r with
      | none => exact absurd hs (hb rfl)
      | some q =>
        have hv : t.sv r = some (rI (q.1 * t.s0) t.s1, q.2.1, q.2.2.1, q.2.2.2) := by unfold Td.sv; rw [hs]; rfl
        rw [hv]
        show rI (q.1 * t.s0) t.s1 = rI (12 * p * q.1) (12 * p) * rI t.s0 t.s1
        have h1 := ok.p1
        have k1 : rI (12 * p * q.1) (12 * p) = rI q.1 1 := by
          have := rI_scale (a := q.1) (w := 1) (c := 12 * p) (by decide) p12
          rwa [Int.mul_one] at this
        rw [k1, rI_mulr (by decide) (by omega), Int.one_mul]
  rw [e3, e4]
  grind
theorem Td.Ok.warm_same {n p c : Int} (hp : 0 < p) (hc : 0 < c) : t.warm (c * n) (c * p) = t.warm n p := by
  rw [ok.warm_eq (Int.mul_pos hc hp), ok.warm_eq hp, rI_scale (by omega) (by omega)]
end
def Td.lo (t : Td) (r : Nat) (bd : Nat → Nat) (b : Bool) : Int := t.span r (fun j => t.mv j (bd j)) (t.sky r).2.1 + (if b = true then 12 * heat4 (t.stove r) else 0)
def Td.hi (t : Td) (r : Nat) (bd : Nat → Nat) (b : Bool) : Int := t.span r (fun j => t.mv j (bd j + 1)) (t.sky r).2.2 + (if b = true then 12 * heat4 (t.stove r) else 0)
section
variable {t : Td} (ok : t.Ok)
include ok
theorem Td.Ok.span_bd {r : Nat} {n : Nat → Int} {m : Int} (hr : r < t.many) (hn : ∀ j, j < t.many → (n j).natAbs ≤ 1000) (hm : m.natAbs ≤ 1000) : (t.span r n m).natAbs ≤ 30000 := by
  have h1 := ok.span_le hr (n := n) (n' := fun _ => 1000) (m := m) (m' := 1000) (fun j hj => by have := hn j hj; omega) (by omega)
  have h2 := ok.span_le hr (n := fun _ => -1000) (n' := n) (m := -1000) (m' := m) (fun j hj => by have := hn j hj; omega) (by omega)
  have e1 := span_mul (t := t) (r := r) (n := fun _ => 1) (m := 1) (c := 1000)
  have e2 := span_mul (t := t) (r := r) (n := fun _ => 1) (m := 1) (c := -1000)
  have e3 : t.span r (fun _ => 1) 1 = 12 := by
    unfold Td.span Td.rest
    rw [show (fun j => t.off r j * 1) = t.off r from funext fun j => Int.mul_one _]
    show (t.sky r).1 * 1 + sumI (t.off r) t.many + (12 - (t.sky r).1 - sumI (t.off r) t.many) * 1 = 12
    omega
  rw [e3] at e1 e2
  simp only [Int.mul_one] at e1 e2
  omega
theorem Td.Ok.heat_bd (r : Nat) : 0 ≤ heat4 (t.stove r) ∧ heat4 (t.stove r) ≤ 25 := by
  cases e : t.stove r with
  | none => exact ⟨by decide, by decide⟩
  | some q =>
    obtain ⟨h, w, s, f⟩ := q
    exact (ok.st r h w s f e).1
theorem Td.Ok.mv1000 {r b : Nat} (h : b ≤ t.nb r) : (t.mv r b).natAbs ≤ 200 := by
  have h7 := ok.nb7 r
  have h1 := ok.mlo r b; have h2 := ok.mhi r b
  omega
theorem Td.Ok.lo_bd {r : Nat} {bd : Nat → Nat} {b : Bool} (hr : r < t.many) (hbd : ∀ j, j < t.many → bd j < t.nb j) : (t.lo r bd b).natAbs ≤ 40000 := by
  have h1 := ok.span_bd hr (n := fun j => t.mv j (bd j)) (m := (t.sky r).2.1) (fun j hj => by have := ok.mv1000 (r := j) (b := bd j) (by have := hbd j hj; omega); omega) (by have := ok.slo r; have := ok.sle r; have := ok.shi r; omega)
  have h2 := ok.heat_bd r
  unfold Td.lo
  split <;> omega
theorem Td.Ok.hi_bd {r : Nat} {bd : Nat → Nat} {b : Bool} (hr : r < t.many) (hbd : ∀ j, j < t.many → bd j < t.nb j) : (t.hi r bd b).natAbs ≤ 40000 := by
  have h1 := ok.span_bd hr (n := fun j => t.mv j (bd j + 1)) (m := (t.sky r).2.2) (fun j hj => by have := ok.mv1000 (r := j) (b := bd j + 1) (by have := hbd j hj; omega); omega) (by have := ok.slo r; have := ok.sle r; have := ok.shi r; omega)
  have h2 := ok.heat_bd r
  unfold Td.hi
  split <;> omega
theorem Td.Ok.stove_rb {r : Nat} {b : Bool} (hr : r < t.many) (hb : b = true → t.stove r ≠ none) : b = true → ∃ q w s f, t.hs.stove r = some (q, w, s, f) ∧ rb 91 q := fun h => by
  cases e : t.stove r with
  | none => exact absurd e (hb h)
  | some q =>
    obtain ⟨q0, w, s, f⟩ := q
    have hv : t.sv r = some (rI (q0 * t.s0) t.s1, w, s, f) := by unfold Td.sv; rw [e]; rfl
    have hh := (ok.st r q0 w s f e).1
    exact ⟨_, w, s, f, by rw [hs_stove hr, hv], (ok.heat hh.1 hh.2).1⟩
end
end Q

/-! Right holds; a hold laid after another one; what a hold tells. -/
namespace Q
open PySem PySem.Spec PyProof.Rows L2
section
variable {ρ : Env} {S : Store}
theorem ev_callD {Φ : FF} {dd : List D} {as : FL} : eCallD Φ dd as ρ S = (as ρ S).bindE fun ds S1 => RFE (Φ (ds ++ dd) S1) := by
  unfold eCallD
  cases as ρ S <;> rfl
theorem ev_make {c : Nat} {Φ : FF} {dd : List D} {as : FL} : eMake c Φ dd as ρ S = (as ρ S).bindE fun ds S1 => makeR S1.length (Φ (.obj S1.length :: (ds ++ dd)) (S1 ++ [⟨c, []⟩])) := by
  unfold eMake
  cases as ρ S <;> rfl
theorem makeR_ok {n : Nat} {o : Env} : makeR n (.ok .non o S) = .ok (.obj n) S := rfl
theorem makeR_exc {n : Nat} {x : Exc} {o : Env} : makeR n (.exc x o S) = .exc x S := rfl
end
section
variable {t : Td} (ok : t.Ok)
include ok
theorem Td.Ok.mks_rise (r : Nat) : ∀ i (hi : i + 1 < (t.mks r).length), (t.mks r)[i] < (t.mks r)[i + 1] := fun i hi => by
  have hl : (t.mks r).length = t.nb r + 1 := tbl_len
  have g : ∀ k (hk : k < (t.mks r).length), (t.mks r)[k] = t.warm (t.mv r k) 1 := fun k hk => by
    have := tbl_get (f := fun j => t.warm (t.mv r j) 1) (m := t.nb r + 1) (r := k) (by omega)
    rw [List.getElem?_eq_some_iff] at this
    exact this.2
  rw [g, g, ok.warm_lt (by decide) (by decide)]
  have := ok.rise r i
  omega
theorem Td.Ok.bands {n : Nat} (hn : n < t.many) : (tbl n t.mks).foldl (fun z q => z * ((q.length : Int) - 1)) (((t.mks n).length : Int) - 1) ≤ 400 := by
  have m4 := ok.m4
  have e : ∀ r, (((t.mks r).length : Nat) : Int) - 1 = t.nb r := fun r => by
    have : (t.mks r).length = t.nb r + 1 := tbl_len
    omega
  have h1 : ∀ r, (1 : Int) ≤ t.nb r := fun r => by have := ok.nb1 r; omega
  have h6 : ∀ r, (t.nb r : Int) ≤ (if t.many ≤ 2 then 6 else 4) := fun r => by
    have := ok.nb6 r
    split at this <;> rename_i h <;> simp only [h, if_true, if_false] <;> omega
  have mm : ∀ a b c d : Int, 0 ≤ a → 0 ≤ b → a ≤ c → b ≤ d → a * b ≤ c * d ∧ 0 ≤ a * b := fun a b c d ha hb hc hd => ⟨Int.mul_le_mul hc hd hb (by omega), Int.mul_nonneg ha hb⟩
  rw [e]
  have a0 := h1 0; have a1 := h1 1; have a2 := h1 2; have a3 := h1 3
  have b0 := h6 0; have b1 := h6 1; have b2 := h6 2; have b3 := h6 3
  have hn4 : n = 0 ∨ n = 1 ∨ n = 2 ∨ n = 3 := by omega
  rcases hn4 with h | h | h | h <;> subst h
  · show (t.nb 0 : Int) ≤ 400
    split at b0 <;> omega
  · show (t.nb 1 : Int) * (((t.mks 0).length : Int) - 1) ≤ 400
    rw [e]
    split at b0 <;> rename_i h <;> simp only [h, if_true, if_false] at b1
    · have := mm _ _ _ _ (by omega) (by omega) b1 b0; omega
    · have := mm _ _ _ _ (by omega) (by omega) b1 b0; omega
  · rw [if_neg (by omega)] at b0 b1 b2
    show (t.nb 2 : Int) * (((t.mks 0).length : Int) - 1) * (((t.mks 1).length : Int) - 1) ≤ 400
    rw [e, e]
    have u := mm _ _ _ _ (by omega) (by omega) b2 b0
    have := mm _ _ _ _ (by omega) (by omega) u.1 b1
    omega
  · rw [if_neg (by omega)] at b0 b1 b2 b3
    show (t.nb 3 : Int) * (((t.mks 0).length : Int) - 1) * (((t.mks 1).length : Int) - 1) * (((t.mks 2).length : Int) - 1) ≤ 400
    rw [e, e, e]
    have u := mm _ _ _ _ (by omega) (by omega) b3 b0
    have v := mm _ _ _ _ (by omega) (by omega) u.1 b1
    have := mm _ _ _ _ (by omega) (by omega) v.1 b2
    omega
end
/-- a hold that was laid rightly, its fractions of so many bits -/
structure Hs.Good (g : Hs) (k : Nat) : Prop where
  k5 : k ≤ 500
  b0 : 0 ≤ g.most ∧ g.most ≤ 4
  b1 : 0 ≤ g.cap ∧ g.cap ≤ 30
  b2 : 0 ≤ g.load ∧ g.load ≤ 30
  m4 : g.many ≤ 4
  l2 : ∀ i, i < g.many → 2 ≤ (g.marks i).length
  l7 : ∀ i, i < g.many → (g.marks i).length ≤ 7
  mb : ∀ i, i < g.many → ∀ q ∈ g.marks i, rb k q
  rise : ∀ i, i < g.many → ∀ j (hj : j + 1 < (g.marks i).length), (g.marks i)[j] < (g.marks i)[j + 1]
  bands : ∀ i, i < g.many → (tbl i g.marks).foldl (fun z q => z * ((q.length : Int) - 1)) (((g.marks i).length : Int) - 1) ≤ 400
  fb : ∀ i j, i < g.many → j < g.many → rb k (g.flow i j)
  f0 : ∀ i j, i < g.many → j < g.many → 0 ≤ g.flow i j
  fs : ∀ i, i < g.many → g.flow i i = 0
  sb : ∀ i, i < g.many → rb k (g.sky i).1
  s0 : ∀ i, i < g.many → 0 ≤ (g.sky i).1
  lb : ∀ i, i < g.many → rb k (g.sky i).2.1
  hb : ∀ i, i < g.many → rb k (g.sky i).2.2
  lh : ∀ i, i < g.many → ¬ (g.sky i).2.2 < (g.sky i).2.1
  t1 : ∀ i, i < g.many → ¬ 1 < g.taken i
  st : ∀ i q w s f, i < g.many → g.stove i = some (q, w, s, f) → rb k q ∧ ¬ q < 0 ∧ (0 ≤ w ∧ w ≤ 9) ∧ (0 ≤ s ∧ s ≤ 3) ∧ (0 ≤ f ∧ f ≤ 3)
theorem Hs.Good.wf {g : Hs} {k : Nat} (G : g.Good k) : g.Wf k := ⟨G.m4, G.fb, G.sb⟩
theorem Td.Ok.good {t : Td} (ok : t.Ok) : t.hs.Good 91 where
  k5 := by decide
  b0 := ⟨ok.b00, ok.b04⟩
  b1 := ⟨ok.b10, ok.b130⟩
  b2 := ⟨ok.b20, ok.b230⟩
  m4 := ok.m4
  l2 i hi := by rw [hs_marks hi, mks_len]; have := ok.nb1 i; omega
  l7 i hi := by rw [hs_marks hi, mks_len]; have := ok.nb7 i; omega
  mb i hi := by rw [hs_marks hi]; exact ok.mk_rb i
  rise i hi := by
    have e : t.hs.marks i = t.mks i := hs_marks hi
    exact (congrArg (fun l : List Rat => ∀ j (hj : j + 1 < l.length), l[j] < l[j + 1]) e).mpr (ok.mks_rise i)
  bands i hi := by
    have hi : i < t.many := hi
    rw [hs_marks hi, tbl_congr (f := t.hs.marks) (g := t.mks) (fun r hr => hs_marks (by omega))]
    exact ok.bands hi
  fb i j hi hj := ((hk_part t.many).wf ok).bf i j hi hj
  f0 i j hi hj := by rw [hs_flow hi hj]; exact rI_nonneg (ok.off0 i j) (by decide)
  fs i _ := (hk_part t.many).self i
  sb i hi := ((hk_part t.many).wf ok).bs i hi
  s0 i hi := by rw [hs_sky hi]; exact rI_nonneg (ok.sk0 i) (by decide)
  lb i hi := by rw [hs_sky hi]; exact ok.lo_rb i
  hb i hi := by rw [hs_sky hi]; exact ok.hi_rb i
  lh i hi := by rw [hs_sky hi]; exact ok.lo_hi i
  t1 i hi := (hk_part t.many).le ok hi
  st i q w s f hi e := by
    rw [hs_stove hi] at e
    unfold Td.sv at e
    cases h : t.stove i with
    | none => rw [h] at e; cases e
    | some z =>
      obtain ⟨z0, z1, z2, z3⟩ := z
      rw [h] at e
      simp only [Option.map_some, Option.some.injEq, Prod.mk.injEq] at e
      obtain ⟨rfl, rfl, rfl, rfl⟩ := e
      obtain ⟨h0, h1, h2, h3⟩ := ok.st i z0 z1 z2 z3 h
      obtain ⟨a, b, _⟩ := ok.heat h0.1 h0.2
      exact ⟨a, b, h1, h2, h3⟩
/-! ### laid step by step -/
def Hs.st0 (g : Hs) (n : Nat) : Hs := ⟨g.most, g.cap, g.load, n, fun i => if i < n then g.marks i else [], fun _ _ => 0, fun _ => (0, 0, 0), fun _ => .none⟩
/-- skies below sk, stoves below st, what rooms below a take of others, of room a what it takes of those below b -/
def Hs.stage (g : Hs) (sk st a b : Nat) : Hs := { g.st0 g.many with flow := fun i j => if (i < a ∧ j < g.many ∨ i = a ∧ j < b) ∧ i ≠ j then g.flow i j else 0, sky := fun i => if i < sk then g.sky i else (0, 0, 0), stove := fun i => if i < st then g.stove i else .none }
section
variable {g : Hs} {sk st a b k i o c : Nat}
theorem st0_add : (g.st0 i).add (g.marks i) = g.st0 (i + 1) := by
  unfold Hs.st0 Hs.add
  simp only [ite_self]
  congr 1
  funext j
  by_cases h : j = i
  · subst h
    rw [if_pos rfl, if_pos (by omega)]
  · rw [if_neg h]
    by_cases h2 : j < i
    · rw [if_pos h2, if_pos (by omega)]
    · rw [if_neg h2, if_neg (by omega)]
theorem st0_stage : g.st0 g.many = g.stage 0 0 0 0 := by
  unfold Hs.stage
  simp only [Nat.not_lt_zero, false_and, and_false, or_self, if_false]
  rfl
theorem stage_sky : (g.stage i st a b).setSky i (g.sky i) = g.stage (i + 1) st a b := by
  unfold Hs.stage Hs.setSky
  simp only [Hs.mk.injEq, true_and, and_true]
  funext j
  by_cases h : j = i
  · subst h; rw [if_pos rfl, if_pos (by omega)]
  · rw [if_neg h]
    by_cases h2 : j < i
    · rw [if_pos h2, if_pos (by omega)]
    · rw [if_neg h2, if_neg (by omega)]
theorem stage_stove : (g.stage sk i a b).setStove i (g.stove i) = g.stage sk (i + 1) a b := by
  unfold Hs.stage Hs.setStove
  simp only [Hs.mk.injEq, true_and, and_true]
  funext j
  by_cases h : j = i
  · subst h; rw [if_pos rfl, if_pos (by omega)]
  · rw [if_neg h]
    by_cases h2 : j < i
    · rw [if_pos h2, if_pos (by omega)]
    · rw [if_neg h2, if_neg (by omega)]
theorem stage_stove0 (h : g.stove k = .none) : g.stage sk k a b = g.stage sk (k + 1) a b := by
  unfold Hs.stage
  simp only [Hs.mk.injEq, true_and, and_true]
  funext i
  by_cases e : i = k
  · subst e; rw [if_neg (by omega), if_pos (by omega), h]
  · by_cases h2 : i < k
    · rw [if_pos h2, if_pos (by omega)]
    · rw [if_neg h2, if_neg (by omega)]
theorem stage_flow (h : o ≠ k) : (g.stage sk st k o).setFlow k o (g.flow k o) = g.stage sk st k (o + 1) := by
  unfold Hs.stage Hs.setFlow
  simp only [Hs.mk.injEq, true_and, and_true]
  funext i j
  by_cases e1 : i = k
  · subst e1
    rw [if_pos rfl]
    by_cases e2 : j = o
    · subst e2
      rw [if_pos rfl, if_pos (by omega)]
    · rw [if_neg e2]
      congr 1
      apply propext
      omega
  · rw [if_neg e1]
    congr 1
    apply propext
    omega
theorem stage_same : g.stage sk st k k = g.stage sk st k (k + 1) := by
  unfold Hs.stage
  simp only [Hs.mk.injEq, true_and, and_true]
  funext i j
  congr 1
  apply propext
  omega
theorem stage_next : g.stage sk st k g.many = g.stage sk st (k + 1) 0 := by
  unfold Hs.stage
  simp only [Hs.mk.injEq, true_and, and_true]
  funext i j
  congr 1
  apply propext
  omega
section
variable (G : g.Good k)
include G
theorem stage_wf (h : a ≤ g.many) : (g.stage sk st a b).Wf k where
  m4 := G.m4
  bf i j hi hj := by
    show rb k (if (i < a ∧ j < g.many ∨ i = a ∧ j < b) ∧ i ≠ j then g.flow i j else 0)
    split
    · exact G.fb i j hi hj
    · have := G.fb i j hi hj
      refine ⟨?_, ?_⟩
      · show 0 < 2 ^ k
        exact Nat.pow_pos (by decide)
      · show 1 < 2 ^ k
        have h1 := this.2
        have h2 := (g.flow i j).den_pos
        have : k ≠ 0 := by
          rintro rfl
          simp at h1
          omega
        exact Nat.one_lt_two_pow this
  bs i hi := by
    show rb k (if i < sk then g.sky i else (0, 0, 0)).1
    split
    · exact G.sb i hi
    · have := G.sb i hi
      refine ⟨?_, ?_⟩
      · show 0 < 2 ^ k
        exact Nat.pow_pos (by decide)
      · show 1 < 2 ^ k
        have h1 := this.2
        have h2 := (g.sky i).1.den_pos
        have : k ≠ 0 := by
          rintro rfl
          simp at h1
          omega
        exact Nat.one_lt_two_pow this
theorem stage_taken (hi : i < g.many) : ¬ 1 < (g.stage sk st a b).taken i := by
  have h1 := G.t1 i hi
  unfold Hs.taken at h1 ⊢
  have e1 : ((g.stage sk st a b).sky i).1 ≤ (g.sky i).1 := by
    show (if i < sk then g.sky i else (0, 0, 0)).1 ≤ _
    split
    · exact Rat.le_refl
    · exact G.s0 i hi
  have e2 : sumQ ((g.stage sk st a b).flow i) (g.stage sk st a b).many ≤ sumQ (g.flow i) g.many := sumQ_le fun j hj => by
    show (if (i < a ∧ j < g.many ∨ i = a ∧ j < b) ∧ i ≠ j then g.flow i j else 0) ≤ _
    split
    · exact Rat.le_refl
    · exact G.f0 i j hi hj
  grind
theorem stage_end : (g.stage g.many g.many g.many 0).ob c = g.ob c := by
  unfold Hs.ob Hs.fs Hs.flows
  have e1 : (tbl g.many fun i => rsD ((g.stage g.many g.many g.many 0).marks i)) = tbl g.many fun i => rsD (g.marks i) := tbl_congr fun i hi => by
    show rsD (if i < g.many then g.marks i else []) = _
    rw [if_pos hi]
  have e2 : (tbl g.many fun i => D.lst (tbl (g.stage g.many g.many g.many 0).many fun j => rD ((g.stage g.many g.many g.many 0).flow i j))) = tbl g.many fun i => D.lst (tbl g.many fun j => rD (g.flow i j)) := tbl_congr fun i hi => by
    congr 1
    refine tbl_congr fun j hj => ?_
    show rD (if (i < g.many ∧ j < g.many ∨ i = g.many ∧ j < 0) ∧ i ≠ j then g.flow i j else 0) = _
    by_cases e : i = j
    · subst e; rw [if_neg (by omega), G.fs i hi]
    · have hj : j < g.many := hj
      rw [if_pos (by omega)]
  have e3 : (tbl g.many fun i => skyD ((g.stage g.many g.many g.many 0).sky i)) = tbl g.many fun i => skyD (g.sky i) := tbl_congr fun i hi => by
    show skyD (if i < g.many then g.sky i else (0, 0, 0)) = _
    rw [if_pos hi]
  have e4 : (tbl g.many fun i => stoveD ((g.stage g.many g.many g.many 0).stove i)) = tbl g.many fun i => stoveD (g.stove i) := tbl_congr fun i hi => by
    show stoveD (if i < g.many then g.stove i else .none) = _
    rw [if_pos hi]
  show Ob.mk c [("most", .int g.most), ("cap", .int g.cap), ("load", .int g.load), ("my_marks", .lst (tbl g.many _)), ("my_flows", .lst (tbl g.many _)), ("my_skies", .lst (tbl g.many _)), ("my_stoves", .lst (tbl g.many _))] = _
  rw [e1, e2, e3, e4]
end
end
def Hs.like (h : Hs) (u v w : Int) : Hs := { h with most := u, cap := v, load := w }
theorem Hs.Good.like {h : Hs} {k : Nat} (G : h.Good k) {u v w : Int} (hu : 0 ≤ u ∧ u ≤ 4) (hv : 0 ≤ v ∧ v ≤ 30) (hw : 0 ≤ w ∧ w ≤ 30) : (h.like u v w).Good k where
  k5 := G.k5
  b0 := hu
  b1 := hv
  b2 := hw
  m4 := G.m4
  l2 := G.l2
  l7 := G.l7
  mb := G.mb
  rise := G.rise
  bands := G.bands
  fb := G.fb
  f0 := G.f0
  fs := G.fs
  sb := G.sb
  s0 := G.s0
  lb := G.lb
  hb := G.hb
  lh := G.lh
  t1 := G.t1
  st := G.st
theorem At.app {S : Store} {n c : Nat} {h : Hs} (a : At S n c h) (l : List Ob) : At (S ++ l) n c h := by
  have hl := a.lt
  unfold At at a ⊢
  rw [List.getElem?_append_left hl]
  exact a
theorem At.setNe {S : Store} {n m c : Nat} {h : Hs} {o : Ob} (a : At S n c h) (e : m ≠ n) : At (S.set m o) n c h := by
  unfold At at a ⊢
  rw [List.getElem?_set_ne e]
  exact a
def oD : Option Int → D
  | none => .non
  | some i => .int i
/-! ### what a hold tells -/
def Hs.roomD (h : Hs) (i : Nat) : D := .tup [rsD (h.marks i), skyD (h.sky i), stoveD (h.stove i)]
def Hs.sharesD (h : Hs) (i : Nat) : D := .lst (tbl h.many fun j => rD (h.part i j))
def Hs.seenL (h : Hs) : Nat → List D
  | 0 => [.int h.many]
  | i + 1 => h.seenL i ++ [h.roomD i] ++ [h.sharesD i]
theorem seenL_len {h : Hs} : ∀ i, (h.seenL i).length = 1 + 2 * i
  | 0 => rfl
  | i + 1 => by
    show (h.seenL i ++ [h.roomD i] ++ [h.sharesD i]).length = _
    rw [List.length_append, List.length_append, seenL_len i, List.length_singleton, List.length_singleton]
    omega
theorem seenL_like {h : Hs} {u v w : Int} : ∀ i, (h.like u v w).seenL i = h.seenL i
  | 0 => rfl
  | i + 1 => by
    show (h.like u v w).seenL i ++ [h.roomD i] ++ [h.sharesD i] = _
    rw [seenL_like i]
    rfl
theorem plD_rD {n : Nat} {q : Rat} : plD (n + 1) (rD q) = true := plD_tup fun d hd => by
  simp only [List.mem_cons, List.not_mem_nil, or_false] at hd
  rcases hd with e | e <;> rw [e] <;> exact plD_int
theorem plD_seen {h : Hs} : ∀ i, ∀ d ∈ h.seenL i, plD 59 d = true
  | 0, d, hd => by
    have : d = .int h.many := List.mem_singleton.mp hd
    rw [this]; exact plD_int
  | i + 1, d, hd => by
    have hd : d ∈ h.seenL i ++ [h.roomD i] ++ [h.sharesD i] := hd
    rcases List.mem_append.mp hd with hd | hd
    · rcases List.mem_append.mp hd with hd | hd
      · exact plD_seen i d hd
      · rw [List.mem_singleton.mp hd]
        refine plD_tup fun d hd => ?_
        simp only [List.mem_cons, List.not_mem_nil, or_false] at hd
        rcases hd with e | e | e
        · rw [e]
          refine plD_lst fun d hd => ?_
          obtain ⟨q, _, rfl⟩ := List.mem_map.mp hd
          exact plD_rD
        · rw [e]
          refine plD_tup fun d hd => ?_
          simp only [List.mem_cons, List.not_mem_nil, or_false] at hd
          rcases hd with e | e | e <;> rw [e] <;> exact plD_rD
        · rw [e]
          cases h.stove i with
          | none => exact plD_non
          | some z =>
            obtain ⟨q, w, s, f⟩ := z
            refine plD_tup fun d hd => ?_
            simp only [List.mem_cons, List.not_mem_nil, or_false] at hd
            rcases hd with e | e | e | e <;> rw [e]
            · exact plD_rD
            · exact plD_int
            · exact plD_int
            · exact plD_int
    · rw [List.mem_singleton.mp hd]
      refine plD_lst fun d hd => ?_
      obtain ⟨j, _, rfl⟩ := tbl_mem.mp hd
      exact plD_rD
theorem seen_ne {h : Hs} {i : Nat} : hNe (.lst (h.seenL i)) (.lst (h.seenL i)) = some (.bl false) := hNe_t (plD_lst (plD_seen i))
theorem rD_lit {a b : Int} (hb : 0 < b) (g : Int.gcd a b = 1) : D.tup [.int a, .int b] = rD (rI a b) := by
  obtain ⟨h1, h2⟩ := rI_low hb g
  unfold rD
  rw [h1, h2]
theorem rD_one {a : Int} : D.tup [.int a, .int 1] = rD (rI a 1) := rD_lit (by decide) (by
  show Nat.gcd a.natAbs 1 = 1
  exact Nat.gcd_one_right _)
theorem rI_lt1 {a b : Int} (h : a ≤ b) : ¬ rI b 1 < rI a 1 := by
  have := rI_le (a := a) (w := 1) (c := b) (d := 1) (by decide) (by decide) (by omega)
  grind
end Q

set_option maxHeartbeats 0
set_option pp.maxSteps 400
namespace K07
open PySem PySem.Spec PyProof.Rows L2 Q
local macro_rules | `(tactic| walk_at "ev") => `(tactic| simp -implicitDefEqProofs only [hTru_of, ev_meth, ev_fldV, rfe_ok, tbl_len, hIx_rD0, hIx_rD1, ev_body, outsOf, ΓS, List.replicate, List.map_cons, List.map_nil, List.cons_append, List.nil_append, List.headD_cons, List.tail_cons, ev_var, ev_c, ev_op, ev_un, ev_nil, ev_cons, ev_L, ev_tup, ev_lst, ev_call, ev_and, ev_or, ev_not, ev_if, ev_seq, ev_set, ev_ret, ev_drop, ev_pass, ev_brk, ev_ct, ev_raise, ev_ifS, ev_for, ev_held, ev_tru, ev_mut, ev_mutset, mutK_lst, mutR_some, ev_flat, flatK_int, flatK_bl, flatK_str, flatK_non, ev_m1, m1K_str, hIsi_list_lst, hIsi_bool_bl, hIsi_int_bl, hEq_bl, hNe_bl, List.length_map, bind_ok, bind_exc, bindS_ok, bindS_exc, of_some, seq_nx, seq_rt, seq_exc, seq_bk, seq_ct, condS_t, condS_f, condE_t, condE_f, notD_bl, bindE_ok, bindE_exc, bindL_ok, bindL_exc, bindLL_ok, bindLL_exc, bindLS_ok, bindLS_exc, toE_ok, toE_exc, toF_nx, toF_rt, toF_exc, slotE_some, List.getElem?_cons_zero, List.getElem?_cons_succ, List.set_cons_zero, List.set_cons_succ, hNe_int, hEq_int, hAdd_int, hSub_int, hLt_int, hLe_int, hGt_int, hGe_int, hNeg_int, hAbs_int, hIsi_int_int, hIsi_bool_int, hIsi_tuple_tup, hIxT0, hIxT1, hIxT2, hIxT3, hIxT4, hIxL0, hIxL1, hIxL2, hIxL3, hLen_lst, hLen_tup, hLen_scr, ev_sl, bnd_none, bnd_some, bndK_int, hSl_scr, hSl_lst, ev_range1, ev_iseq, seqK_lst, seqK_tup, seqK_scr, Bool.not_true, Bool.not_false, List.length_cons, List.length_nil, Nat.sub_self, Nat.reduceSub, Nat.reduceAdd, Nat.reduceLeDiff, decide_true, decide_false, reduceIte, Int.reduceSub, Int.reduceAdd, Int.reduceMul, Int.reduceNeg, Int.reduceMod, Int.reduceDiv, Int.reduceBEq, Int.reduceLT, Int.reduceLE, Int.cast_ofNat_Int, BEq.rfl, Nat.reduceBEq, Nat.zero_add])
local macro_rules | `(tactic| walk_at "evh") => `(tactic| simp -implicitDefEqProofs only [hTru_of, ev_meth, ev_fldV, rfe_ok, tbl_len, hIx_rD0, hIx_rD1, ev_body, outsOf, ΓS, List.replicate, List.map_cons, List.map_nil, List.cons_append, List.nil_append, List.headD_cons, List.tail_cons, ev_var, ev_c, ev_op, ev_un, ev_nil, ev_cons, ev_L, ev_tup, ev_lst, ev_call, ev_and, ev_or, ev_not, ev_if, ev_seq, ev_set, ev_ret, ev_drop, ev_pass, ev_brk, ev_ct, ev_raise, ev_ifS, ev_for, ev_held, ev_tru, ev_mut, ev_mutset, mutK_lst, mutR_some, ev_flat, flatK_int, flatK_bl, flatK_str, flatK_non, ev_m1, m1K_str, hIsi_list_lst, hIsi_bool_bl, hIsi_int_bl, hEq_bl, hNe_bl, List.length_map, bind_ok, bind_exc, bindS_ok, bindS_exc, of_some, seq_nx, seq_rt, seq_exc, seq_bk, seq_ct, condS_t, condS_f, condE_t, condE_f, notD_bl, bindE_ok, bindE_exc, bindL_ok, bindL_exc, bindLL_ok, bindLL_exc, bindLS_ok, bindLS_exc, toE_ok, toE_exc, toF_nx, toF_rt, toF_exc, slotE_some, List.getElem?_cons_zero, List.getElem?_cons_succ, List.set_cons_zero, List.set_cons_succ, hNe_int, hEq_int, hAdd_int, hSub_int, hLt_int, hLe_int, hGt_int, hGe_int, hNeg_int, hAbs_int, hIsi_int_int, hIsi_bool_int, hIsi_tuple_tup, hIxT0, hIxT1, hIxT2, hIxT3, hIxT4, hIxL0, hIxL1, hIxL2, hIxL3, hLen_lst, hLen_tup, hLen_scr, ev_sl, bnd_none, bnd_some, bndK_int, hSl_scr, hSl_lst, ev_range1, ev_iseq, seqK_lst, seqK_tup, seqK_scr, Bool.not_true, Bool.not_false, List.length_cons, List.length_nil, Nat.sub_self, Nat.reduceSub, Nat.reduceAdd, Nat.reduceLeDiff, decide_true, decide_false, reduceIte, Int.reduceSub, Int.reduceAdd, Int.reduceMul, Int.reduceNeg, Int.reduceMod, Int.reduceDiv, Int.reduceBEq, Int.reduceLT, Int.reduceLE, Int.cast_ofNat_Int, BEq.rfl, Nat.reduceBEq, Nat.zero_add, *])
local macro_rules | `(tactic| walk_at "gs") => `(tactic| simp -implicitDefEqProofs (disch := first | omega | (exact rfl) | assumption) only [hTru_of, ev_meth, ev_fldV, rfe_ok, tbl_len, hIx_rD0, hIx_rD1, ev_body, outsOf, ΓS, List.replicate, List.map_cons, List.map_nil, List.cons_append, List.nil_append, List.headD_cons, List.tail_cons, ev_var, ev_c, ev_op, ev_un, ev_nil, ev_cons, ev_L, ev_tup, ev_lst, ev_call, ev_and, ev_or, ev_not, ev_if, ev_seq, ev_set, ev_ret, ev_drop, ev_pass, ev_brk, ev_ct, ev_raise, ev_ifS, ev_for, ev_held, ev_tru, ev_mut, ev_mutset, mutK_lst, mutR_some, ev_flat, flatK_int, flatK_bl, flatK_str, flatK_non, ev_m1, m1K_str, hIsi_list_lst, hIsi_bool_bl, hIsi_int_bl, hEq_bl, hNe_bl, List.length_map, bind_ok, bind_exc, bindS_ok, bindS_exc, of_some, seq_nx, seq_rt, seq_exc, seq_bk, seq_ct, condS_t, condS_f, condE_t, condE_f, notD_bl, bindE_ok, bindE_exc, bindL_ok, bindL_exc, bindLL_ok, bindLL_exc, bindLS_ok, bindLS_exc, toE_ok, toE_exc, toF_nx, toF_rt, toF_exc, slotE_some, List.getElem?_cons_zero, List.getElem?_cons_succ, List.set_cons_zero, List.set_cons_succ, hNe_int, hEq_int, hAdd_int, hSub_int, hLt_int, hLe_int, hGt_int, hGe_int, hNeg_int, hAbs_int, hIsi_int_int, hIsi_bool_int, hIsi_tuple_tup, hIxT0, hIxT1, hIxT2, hIxT3, hIxT4, hIxL0, hIxL1, hIxL2, hIxL3, hLen_lst, hLen_tup, hLen_scr, ev_sl, bnd_none, bnd_some, bndK_int, hSl_scr, hSl_lst, ev_range1, ev_iseq, seqK_lst, seqK_tup, seqK_scr, Bool.not_true, Bool.not_false, List.length_cons, List.length_nil, Nat.sub_self, Nat.reduceSub, Nat.reduceAdd, Nat.reduceLeDiff, decide_true, decide_false, reduceIte, Int.reduceSub, Int.reduceAdd, Int.reduceMul, Int.reduceNeg, Int.reduceMod, Int.reduceDiv, Int.reduceBEq, Int.reduceLT, Int.reduceLE, Int.cast_ofNat_Int, BEq.rfl, Nat.reduceBEq, Nat.zero_add, hMul_sm, hDiv_sm, hMod_pos, rgK1_ok, rgK2_ok, beq_f, beq_t, decide_eq_true, decide_eq_false, hAdd_int, ev_pvar, ev_pkey, pKeyK_ok, ev_vmut, ev_vput, slotPut_ok, rv_ok, rl_bindR, lstK_lst, dctK_dct, optK_some, mAppend_ok, setAt_nil, hIxD_lst, hIxD_tup, keyF_str, keyF_pair, ev_range2, Nat.not_lt_zero, Bool.false_eq_true, slotK_ok, ev_call0', call0K_ok, call0R_ok, noObjL_nil, noObjL_cons, noObj_int, noObj_bl, noObj_str, noObj_non, noObj_tup, noObj_lst, noObj_scr, noObj_rD, noObjL_ints, noObjL_rats, Bool.and_self, Bool.and_true, Bool.true_and, ev_dct, dctR_ok, itms_nil, itms_l, itms_d, itms_s, itS_ok, Option.map_some, call0C_t, rfe_exc, List.append_nil, Bool.false_and, Bool.and_false, ev_callD, ev_make, makeR_ok, makeR_exc, ev_fld])
local macro_rules | `(tactic| walk_at "go") => `(tactic| try simp -implicitDefEqProofs (disch := first | omega | (exact rfl) | assumption) only [hTru_of, ev_meth, ev_fldV, rfe_ok, tbl_len, hIx_rD0, hIx_rD1, ev_body, outsOf, ΓS, List.replicate, List.map_cons, List.map_nil, List.cons_append, List.nil_append, List.headD_cons, List.tail_cons, ev_var, ev_c, ev_op, ev_un, ev_nil, ev_cons, ev_L, ev_tup, ev_lst, ev_call, ev_and, ev_or, ev_not, ev_if, ev_seq, ev_set, ev_ret, ev_drop, ev_pass, ev_brk, ev_ct, ev_raise, ev_ifS, ev_for, ev_held, ev_tru, ev_mut, ev_mutset, mutK_lst, mutR_some, ev_flat, flatK_int, flatK_bl, flatK_str, flatK_non, ev_m1, m1K_str, hIsi_list_lst, hIsi_bool_bl, hIsi_int_bl, hEq_bl, hNe_bl, List.length_map, bind_ok, bind_exc, bindS_ok, bindS_exc, of_some, seq_nx, seq_rt, seq_exc, seq_bk, seq_ct, condS_t, condS_f, condE_t, condE_f, notD_bl, bindE_ok, bindE_exc, bindL_ok, bindL_exc, bindLL_ok, bindLL_exc, bindLS_ok, bindLS_exc, toE_ok, toE_exc, toF_nx, toF_rt, toF_exc, slotE_some, List.getElem?_cons_zero, List.getElem?_cons_succ, List.set_cons_zero, List.set_cons_succ, hNe_int, hEq_int, hAdd_int, hSub_int, hLt_int, hLe_int, hGt_int, hGe_int, hNeg_int, hAbs_int, hIsi_int_int, hIsi_bool_int, hIsi_tuple_tup, hIxT0, hIxT1, hIxT2, hIxT3, hIxT4, hIxL0, hIxL1, hIxL2, hIxL3, hLen_lst, hLen_tup, hLen_scr, ev_sl, bnd_none, bnd_some, bndK_int, hSl_scr, hSl_lst, ev_range1, ev_iseq, seqK_lst, seqK_tup, seqK_scr, Bool.not_true, Bool.not_false, List.length_cons, List.length_nil, Nat.sub_self, Nat.reduceSub, Nat.reduceAdd, Nat.reduceLeDiff, decide_true, decide_false, reduceIte, Int.reduceSub, Int.reduceAdd, Int.reduceMul, Int.reduceNeg, Int.reduceMod, Int.reduceDiv, Int.reduceBEq, Int.reduceLT, Int.reduceLE, Int.cast_ofNat_Int, BEq.rfl, Nat.reduceBEq, Nat.zero_add, hMul_sm, hDiv_sm, hMod_pos, rgK1_ok, rgK2_ok, beq_f, beq_t, decide_eq_true, decide_eq_false, hAdd_int, ev_pvar, ev_pkey, pKeyK_ok, ev_vmut, ev_vput, slotPut_ok, rv_ok, rl_bindR, lstK_lst, dctK_dct, optK_some, mAppend_ok, setAt_nil, hIxD_lst, hIxD_tup, keyF_str, keyF_pair, ev_range2, Nat.not_lt_zero, Bool.false_eq_true, slotK_ok, ev_call0', call0K_ok, call0R_ok, noObjL_nil, noObjL_cons, noObj_int, noObj_bl, noObj_str, noObj_non, noObj_tup, noObj_lst, noObj_scr, noObj_rD, noObjL_ints, noObjL_rats, Bool.and_self, Bool.and_true, Bool.true_and, ev_dct, dctR_ok, itms_nil, itms_l, itms_d, itms_s, itS_ok, Option.map_some, call0C_t, rfe_exc, List.append_nil, Bool.false_and, Bool.and_false, ev_callD, ev_make, makeR_ok, makeR_exc, ev_fld])
theorem cell_scr (ns : List Int) (k : Nat) (S : Store) : f__law_cell_at [.scr (ns.map .int), .int k] S = .ok (.int (cellAt ns k)) [none, none] S := by
  unfold f__law_cell_at m__law_cell_at
  walk_at "ev"
  by_cases h : k < ns.length
  · rw [decide_eq_true (show (k : Int) < ns.length by omega)]
    walk_at "ev"
    rw [hIx_scrs h]
    walk_at "ev"
  · rw [decide_eq_false (show ¬ (k : Int) < ns.length by omega), cell_none h]
    walk_at "ev"
theorem cell_lst (ns : List Int) (k : Nat) (S : Store) : f__law_cell_at [.lst (ns.map .int), .int k] S = .ok (.int (cellAt ns k)) [none, none] S := by
  unfold f__law_cell_at m__law_cell_at
  walk_at "ev"
  by_cases h : k < ns.length
  · rw [decide_eq_true (show (k : Int) < ns.length by omega)]
    walk_at "ev"
    rw [hIx_ints h]
    walk_at "ev"
  · rw [decide_eq_false (show ¬ (k : Int) < ns.length by omega), cell_none h]
    walk_at "ev"
theorem cell_scr0 (ns : List Int) (S : Store) : f__law_cell_at [.scr (ns.map .int), .int 0] S = .ok (.int (cellAt ns 0)) [none, none] S := cell_scr ns 0 S
theorem cell_scr1 (ns : List Int) (S : Store) : f__law_cell_at [.scr (ns.map .int), .int 1] S = .ok (.int (cellAt ns 1)) [none, none] S := cell_scr ns 1 S
theorem cell_scr2 (ns : List Int) (S : Store) : f__law_cell_at [.scr (ns.map .int), .int 2] S = .ok (.int (cellAt ns 2)) [none, none] S := cell_scr ns 2 S
theorem cell_scr3 (ns : List Int) (S : Store) : f__law_cell_at [.scr (ns.map .int), .int 3] S = .ok (.int (cellAt ns 3)) [none, none] S := cell_scr ns 3 S
theorem cell_lst0 (ns : List Int) (S : Store) : f__law_cell_at [.lst (ns.map .int), .int 0] S = .ok (.int (cellAt ns 0)) [none, none] S := cell_lst ns 0 S
theorem cell_lst1 (ns : List Int) (S : Store) : f__law_cell_at [.lst (ns.map .int), .int 1] S = .ok (.int (cellAt ns 1)) [none, none] S := cell_lst ns 1 S
def pick (c k m : Int) : Int := (c % 1000003 + 1) * (k * k + 48271) % 65537 % m
theorem pick_lt {c k m : Int} (h : 0 < m) : 0 ≤ pick c k m ∧ pick c k m < m := ⟨Int.emod_nonneg _ (by omega), Int.emod_lt_of_pos _ h⟩
theorem pick_eq {c k m : Int} (hk : k.natAbs < 2 ^ 40) (hm : 0 < m) (S : Store) : f__law_pick [.int c, .int k, .int m] S = .ok (.int (pick c k m)) [none, none, none] S := by
  unfold f__law_pick m__law_pick
  walk_at "ev"
  rw [hMod_pos (by decide)]
  walk_at "ev"
  rw [hMul_bd hk hk (by decide)]
  walk_at "ev"
  have h1 : (c % 1000003 + 1).natAbs < 2 ^ 40 := by
    have : (2 : Nat) ^ 40 = 1099511627776 := by decide
    omega
  have h2 : (k * k + 48271).natAbs < 2 ^ 81 := bd_add (bd_mul hk hk) (by decide)
  rw [hMul_bd h1 h2 (by decide)]
  walk_at "ev"
  rw [hMod_pos (by decide)]
  walk_at "ev"
  rw [hMod_pos hm]
  walk_at "ev"
  rfl
local macro_rules | `(tactic| walk_at "gs") => `(tactic| simp -implicitDefEqProofs (disch := first | omega | (exact rfl) | assumption) only [hTru_of, ev_meth, ev_fldV, rfe_ok, tbl_len, hIx_rD0, hIx_rD1, ev_body, outsOf, ΓS, List.replicate, List.map_cons, List.map_nil, List.cons_append, List.nil_append, List.headD_cons, List.tail_cons, ev_var, ev_c, ev_op, ev_un, ev_nil, ev_cons, ev_L, ev_tup, ev_lst, ev_call, ev_and, ev_or, ev_not, ev_if, ev_seq, ev_set, ev_ret, ev_drop, ev_pass, ev_brk, ev_ct, ev_raise, ev_ifS, ev_for, ev_held, ev_tru, ev_mut, ev_mutset, mutK_lst, mutR_some, ev_flat, flatK_int, flatK_bl, flatK_str, flatK_non, ev_m1, m1K_str, hIsi_list_lst, hIsi_bool_bl, hIsi_int_bl, hEq_bl, hNe_bl, List.length_map, bind_ok, bind_exc, bindS_ok, bindS_exc, of_some, seq_nx, seq_rt, seq_exc, seq_bk, seq_ct, condS_t, condS_f, condE_t, condE_f, notD_bl, bindE_ok, bindE_exc, bindL_ok, bindL_exc, bindLL_ok, bindLL_exc, bindLS_ok, bindLS_exc, toE_ok, toE_exc, toF_nx, toF_rt, toF_exc, slotE_some, List.getElem?_cons_zero, List.getElem?_cons_succ, List.set_cons_zero, List.set_cons_succ, hNe_int, hEq_int, hAdd_int, hSub_int, hLt_int, hLe_int, hGt_int, hGe_int, hNeg_int, hAbs_int, hIsi_int_int, hIsi_bool_int, hIsi_tuple_tup, hIxT0, hIxT1, hIxT2, hIxT3, hIxT4, hIxL0, hIxL1, hIxL2, hIxL3, hLen_lst, hLen_tup, hLen_scr, ev_sl, bnd_none, bnd_some, bndK_int, hSl_scr, hSl_lst, ev_range1, ev_iseq, seqK_lst, seqK_tup, seqK_scr, Bool.not_true, Bool.not_false, List.length_cons, List.length_nil, Nat.sub_self, Nat.reduceSub, Nat.reduceAdd, Nat.reduceLeDiff, decide_true, decide_false, reduceIte, Int.reduceSub, Int.reduceAdd, Int.reduceMul, Int.reduceNeg, Int.reduceMod, Int.reduceDiv, Int.reduceBEq, Int.reduceLT, Int.reduceLE, Int.cast_ofNat_Int, BEq.rfl, Nat.reduceBEq, Nat.zero_add, hMul_sm, hDiv_sm, hMod_pos, rgK1_ok, rgK2_ok, beq_f, beq_t, decide_eq_true, decide_eq_false, hAdd_int, ev_pvar, ev_pkey, pKeyK_ok, ev_vmut, ev_vput, slotPut_ok, rv_ok, rl_bindR, lstK_lst, dctK_dct, optK_some, mAppend_ok, setAt_nil, hIxD_lst, hIxD_tup, keyF_str, keyF_pair, ev_range2, Nat.not_lt_zero, Bool.false_eq_true, slotK_ok, ev_call0', call0K_ok, call0R_ok, noObjL_nil, noObjL_cons, noObj_int, noObj_bl, noObj_str, noObj_non, noObj_tup, noObj_lst, noObj_scr, noObj_rD, noObjL_ints, noObjL_rats, Bool.and_self, Bool.and_true, Bool.true_and, ev_dct, dctR_ok, itms_nil, itms_l, itms_d, itms_s, itS_ok, Option.map_some, call0C_t, rfe_exc, List.append_nil, Bool.false_and, Bool.and_false, ev_callD, ev_make, makeR_ok, makeR_exc, ev_fld, cell_scr0, cell_scr1, cell_scr2, cell_scr3, cell_lst0, cell_lst1, cell_scr, cell_lst, pick_eq])
local macro_rules | `(tactic| walk_at "go") => `(tactic| try simp -implicitDefEqProofs (disch := first | omega | (exact rfl) | assumption) only [hTru_of, ev_meth, ev_fldV, rfe_ok, tbl_len, hIx_rD0, hIx_rD1, ev_body, outsOf, ΓS, List.replicate, List.map_cons, List.map_nil, List.cons_append, List.nil_append, List.headD_cons, List.tail_cons, ev_var, ev_c, ev_op, ev_un, ev_nil, ev_cons, ev_L, ev_tup, ev_lst, ev_call, ev_and, ev_or, ev_not, ev_if, ev_seq, ev_set, ev_ret, ev_drop, ev_pass, ev_brk, ev_ct, ev_raise, ev_ifS, ev_for, ev_held, ev_tru, ev_mut, ev_mutset, mutK_lst, mutR_some, ev_flat, flatK_int, flatK_bl, flatK_str, flatK_non, ev_m1, m1K_str, hIsi_list_lst, hIsi_bool_bl, hIsi_int_bl, hEq_bl, hNe_bl, List.length_map, bind_ok, bind_exc, bindS_ok, bindS_exc, of_some, seq_nx, seq_rt, seq_exc, seq_bk, seq_ct, condS_t, condS_f, condE_t, condE_f, notD_bl, bindE_ok, bindE_exc, bindL_ok, bindL_exc, bindLL_ok, bindLL_exc, bindLS_ok, bindLS_exc, toE_ok, toE_exc, toF_nx, toF_rt, toF_exc, slotE_some, List.getElem?_cons_zero, List.getElem?_cons_succ, List.set_cons_zero, List.set_cons_succ, hNe_int, hEq_int, hAdd_int, hSub_int, hLt_int, hLe_int, hGt_int, hGe_int, hNeg_int, hAbs_int, hIsi_int_int, hIsi_bool_int, hIsi_tuple_tup, hIxT0, hIxT1, hIxT2, hIxT3, hIxT4, hIxL0, hIxL1, hIxL2, hIxL3, hLen_lst, hLen_tup, hLen_scr, ev_sl, bnd_none, bnd_some, bndK_int, hSl_scr, hSl_lst, ev_range1, ev_iseq, seqK_lst, seqK_tup, seqK_scr, Bool.not_true, Bool.not_false, List.length_cons, List.length_nil, Nat.sub_self, Nat.reduceSub, Nat.reduceAdd, Nat.reduceLeDiff, decide_true, decide_false, reduceIte, Int.reduceSub, Int.reduceAdd, Int.reduceMul, Int.reduceNeg, Int.reduceMod, Int.reduceDiv, Int.reduceBEq, Int.reduceLT, Int.reduceLE, Int.cast_ofNat_Int, BEq.rfl, Nat.reduceBEq, Nat.zero_add, hMul_sm, hDiv_sm, hMod_pos, rgK1_ok, rgK2_ok, beq_f, beq_t, decide_eq_true, decide_eq_false, hAdd_int, ev_pvar, ev_pkey, pKeyK_ok, ev_vmut, ev_vput, slotPut_ok, rv_ok, rl_bindR, lstK_lst, dctK_dct, optK_some, mAppend_ok, setAt_nil, hIxD_lst, hIxD_tup, keyF_str, keyF_pair, ev_range2, Nat.not_lt_zero, Bool.false_eq_true, slotK_ok, ev_call0', call0K_ok, call0R_ok, noObjL_nil, noObjL_cons, noObj_int, noObj_bl, noObj_str, noObj_non, noObj_tup, noObj_lst, noObj_scr, noObj_rD, noObjL_ints, noObjL_rats, Bool.and_self, Bool.and_true, Bool.true_and, ev_dct, dctR_ok, itms_nil, itms_l, itms_d, itms_s, itS_ok, Option.map_some, call0C_t, rfe_exc, List.append_nil, Bool.false_and, Bool.and_false, ev_callD, ev_make, makeR_ok, makeR_exc, ev_fld, cell_scr0, cell_scr1, cell_scr2, cell_scr3, cell_lst0, cell_lst1, cell_scr, cell_lst, pick_eq])
/-! ### what the law draws: a hold told -/
theorem hPow_4 : hPow (.int 10) (.int 4) = some (.int 10000) := rfl
theorem hPow_9 : hPow (.int 10) (.int 9) = some (.int 1000000000) := rfl
def farOf (p : Int) : Int := if p = 0 then 1 else if p = 1 then 12 else if p = 5 then 1000000000 else 10000
theorem farOf_eq {p : Int} (h0 : 0 ≤ p) (h1 : p < 6) : hIx (.lst [.int 1, .int 12, .int 10000, .int 10000, .int 10000, .int 1000000000]) (.int p) = some (.int (farOf p)) := by
  have : p = 0 ∨ p = 1 ∨ p = 2 ∨ p = 3 ∨ p = 4 ∨ p = 5 := by omega
  rcases this with e | e | e | e | e | e <;> subst e <;> exact hIx_lst (k := _) rfl
theorem farOf_bd (p : Int) : 1 ≤ farOf p ∧ farOf p ≤ 1000000000 := by
  unfold farOf
  split
  · omega
  · split
    · omega
    · split <;> omega
def manyOf (p : Int) : Nat := if p ≤ 1 then 1 else if p ≤ 3 then 2 else if p = 4 then 3 else 4
theorem manyOf_eq {p : Int} (h0 : 0 ≤ p) (h1 : p < 6) : hIx (.lst [.int 1, .int 1, .int 2, .int 2, .int 3, .int 4]) (.int p) = some (.int (manyOf p)) := by
  have : p = 0 ∨ p = 1 ∨ p = 2 ∨ p = 3 ∨ p = 4 ∨ p = 5 := by omega
  rcases this with e | e | e | e | e | e <;> subst e <;> exact hIx_lst (k := _) rfl
theorem manyOf_bd (p : Int) : 1 ≤ manyOf p ∧ manyOf p ≤ 4 := by
  unfold manyOf
  split
  · omega
  · split
    · omega
    · split <;> omega
def nbOf (m : Nat) : Int := if m ≤ 2 then 6 else 4
theorem nbOf_eq {m : Nat} (h0 : 1 ≤ m) (h1 : m ≤ 4) : hIx (.lst [.int 6, .int 6, .int 4, .int 4]) (.int ((m : Int) - 1)) = some (.int (nbOf m)) := by
  have : m = 1 ∨ m = 2 ∨ m = 3 ∨ m = 4 := by omega
  rcases this with e | e | e | e <;> subst e <;> exact hIx_lst (k := _) rfl
def mvR (b : Int) (r : Nat) : Nat → Int
  | 0 => pick b r 61 - 30
  | j + 1 => mvR b r j + 1 + pick b (20 + 8 * r + j) 20
def tdOf (a b c d : Int) : Td where
  many := manyOf (pick a 1 6)
  nb r := (1 + pick a (10 + r) (nbOf (manyOf (pick a 1 6)))).toNat
  mv := mvR b
  sky r := (pick c (10 + r) 4, pick c r 61 - 30, pick c r 61 - 30 + pick c (20 + r) 31)
  stove r := if pick b (60 + r) 4 = 0 then none else some (pick c (30 + r) 26, pick a (70 + r) 10, pick a (80 + r) 4, pick b (90 + r) 4)
  flow r o := pick b (100 + 5 * r + o) 4
  s0 := 1 + d % farOf (pick d 40 6)
  s1 := 1 + (d + 1) / 2 % farOf (pick d 40 6)
  s2 := d / 7 % (2 * farOf (pick d 40 6) + 1) - farOf (pick d 40 6)
  s3 := 1 + (d + 2) / 3 % farOf (pick d 40 6)
  b0 := pick a 2 5
  b1 := pick a 3 31
  b2 := pick a 4 10
theorem nb_pos {a : Int} {m r : Nat} : 0 ≤ pick a (10 + r) (nbOf m) ∧ pick a (10 + r) (nbOf m) < nbOf m := pick_lt (by unfold nbOf; split <;> omega)
theorem mvR_bd (b : Int) (r : Nat) : ∀ j : Nat, -30 ≤ mvR b r j ∧ mvR b r j ≤ 30 + 20 * j
  | 0 => by
    have := pick_lt (c := b) (k := r) (m := 61) (by decide)
    show -30 ≤ pick b r 61 - 30 ∧ pick b r 61 - 30 ≤ _
    omega
  | j + 1 => by
    have h1 := mvR_bd b r j
    have := pick_lt (c := b) (k := 20 + 8 * r + j) (m := 20) (by decide)
    show -30 ≤ mvR b r j + 1 + pick b (20 + 8 * r + j) 20 ∧ mvR b r j + 1 + pick b (20 + 8 * r + j) 20 ≤ _
    omega
theorem tdOf_ok (a b c d : Int) : (tdOf a b c d).Ok := by
  have pl : ∀ (c k m : Int), 0 < m → 0 ≤ pick c k m ∧ pick c k m < m := fun c k m h => pick_lt h
  have hf := farOf_bd (pick d 40 6)
  have e0 := Int.emod_nonneg d (show farOf (pick d 40 6) ≠ 0 by omega)
  have e1 := Int.emod_lt_of_pos d (show 0 < farOf (pick d 40 6) by omega)
  have e2 := Int.emod_nonneg ((d + 1) / 2) (show farOf (pick d 40 6) ≠ 0 by omega)
  have e3 := Int.emod_lt_of_pos ((d + 1) / 2) (show 0 < farOf (pick d 40 6) by omega)
  have e4 := Int.emod_nonneg ((d + 2) / 3) (show farOf (pick d 40 6) ≠ 0 by omega)
  have e5 := Int.emod_lt_of_pos ((d + 2) / 3) (show 0 < farOf (pick d 40 6) by omega)
  have e6 := Int.emod_nonneg (d / 7) (show 2 * farOf (pick d 40 6) + 1 ≠ 0 by omega)
  have e7 := Int.emod_lt_of_pos (d / 7) (show 0 < 2 * farOf (pick d 40 6) + 1 by omega)
  have hm := manyOf_bd (pick a 1 6)
  constructor
  · exact hm.1
  · exact hm.2
  · intro r
    have := nb_pos (a := a) (m := manyOf (pick a 1 6)) (r := r)
    show 1 ≤ (1 + pick a (10 + r) (nbOf (manyOf (pick a 1 6)))).toNat
    omega
  · intro r
    have := nb_pos (a := a) (m := manyOf (pick a 1 6)) (r := r)
    show (1 + pick a (10 + r) (nbOf (manyOf (pick a 1 6)))).toNat ≤ if manyOf (pick a 1 6) ≤ 2 then 6 else 4
    unfold nbOf at this ⊢
    split <;> rename_i h <;> simp only [h, if_true, if_false] at this ⊢ <;> omega
  · intro r j
    have := pl b (20 + 8 * r + j) 20 (by decide)
    show mvR b r j < mvR b r j + 1 + pick b (20 + 8 * r + j) 20
    omega
  · exact fun r j => (mvR_bd b r j).1
  · exact fun r j => (mvR_bd b r j).2
  · exact fun r => (pl c (10 + r) 4 (by decide)).1
  · exact fun r => by have := (pl c (10 + r) 4 (by decide)).2; show pick c (10 + r) 4 ≤ 3; omega
  · exact fun r => by have := (pl c r 61 (by decide)).1; show -30 ≤ pick c r 61 - 30; omega
  · exact fun r => by have := (pl c (20 + r) 31 (by decide)).1; show pick c r 61 - 30 ≤ pick c r 61 - 30 + pick c (20 + r) 31; omega
  · exact fun r => by have := (pl c r 61 (by decide)).2; have := (pl c (20 + r) 31 (by decide)).2; show pick c r 61 - 30 + pick c (20 + r) 31 ≤ 60; omega
  · intro r h w s f e
    have e : (if pick b (60 + r) 4 = 0 then none else some (pick c (30 + r) 26, pick a (70 + r) 10, pick a (80 + r) 4, pick b (90 + r) 4)) = some (h, w, s, f) := e
    have h1 := pl c (30 + r) 26 (by decide)
    have h2 := pl a (70 + r) 10 (by decide)
    have h3 := pl a (80 + r) 4 (by decide)
    have h4 := pl b (90 + r) 4 (by decide)
    split at e
    · cases e
    · simp only [Option.some.injEq, Prod.mk.injEq] at e
      omega
  · exact fun r o => (pl b (100 + 5 * r + o) 4 (by decide)).1
  · exact fun r o => by have := (pl b (100 + 5 * r + o) 4 (by decide)).2; show pick b (100 + 5 * r + o) 4 ≤ 3; omega
  · show 0 < 1 + d % farOf (pick d 40 6); omega
  · show 0 < 1 + (d + 1) / 2 % farOf (pick d 40 6); omega
  · show 0 < 1 + (d + 2) / 3 % farOf (pick d 40 6); omega
  · show 1 + d % farOf (pick d 40 6) ≤ _; omega
  · show 1 + (d + 1) / 2 % farOf (pick d 40 6) ≤ _; omega
  · show 1 + (d + 2) / 3 % farOf (pick d 40 6) ≤ _; omega
  · show _ ≤ d / 7 % (2 * farOf (pick d 40 6) + 1) - farOf (pick d 40 6); omega
  · show d / 7 % (2 * farOf (pick d 40 6) + 1) - farOf (pick d 40 6) ≤ _; omega
  · exact (pl a 2 5 (by decide)).1
  · have := (pl a 2 5 (by decide)).2; show pick a 2 5 ≤ 4; omega
  · exact (pl a 3 31 (by decide)).1
  · have := (pl a 3 31 (by decide)).2; show pick a 3 31 ≤ 30; omega
  · exact (pl a 4 10 (by decide)).1
  · have := (pl a 4 10 (by decide)).2; show pick a 4 10 ≤ 30; omega
theorem scale_eq (a b c d : Int) (S : Store) : f__law_scale [.int d] S = .ok (tdOf a b c d).scD [none] S := by
  have hp := pick_lt (c := d) (k := 40) (m := 6) (by decide)
  have hf := farOf_bd (pick d 40 6)
  have e := farOf_eq hp.1 hp.2
  show _ = RF.ok (D.tup [.int (1 + d % farOf (pick d 40 6)), .int (1 + (d + 1) / 2 % farOf (pick d 40 6)), .int (d / 7 % (2 * farOf (pick d 40 6) + 1) - farOf (pick d 40 6)), .int (1 + (d + 2) / 3 % farOf (pick d 40 6))]) [none] S
  unfold f__law_scale m__law_scale
  walk_at "go"
  rw [hPow_4, hPow_9]
  walk_at "go"
  rw [e]
  generalize farOf (pick d 40 6) = far at hf e ⊢
  walk_at "go"
  rw [eLc_range (m := 3) (S1 := S) (fun k => .int (1 + (d + (k : Int)) / ((k : Int) + 1) % far)) (by walk_at "go") (by decide) (fun j hj => by
    simp only [u_e__law_scale_1, wipeE]
    walk_at "go")]
  rw [show (tbl 3 fun k => D.int (1 + (d + (k : Int)) / ((k : Int) + 1) % far)) = [.int (1 + (d + ((0 : Nat) : Int)) / (((0 : Nat) : Int) + 1) % far), .int (1 + (d + ((1 : Nat) : Int)) / (((1 : Nat) : Int) + 1) % far), .int (1 + (d + ((2 : Nat) : Int)) / (((2 : Nat) : Int) + 1) % far)] from rfl]
  walk_at "go"
  simp
theorem stove_by_eq (a b c d : Int) {r : Nat} (hr : r ≤ 1000) (S : Store) : f__law_stove_by [.int a, .int b, .int c, .int r] S = .ok (stv4 ((tdOf a b c d).stove r)) [none, none, none, none] S := by
  show _ = RF.ok (stv4 (if pick b (60 + r) 4 = 0 then none else some (pick c (30 + r) 26, pick a (70 + r) 10, pick a (80 + r) 4, pick b (90 + r) 4))) [none, none, none, none] S
  unfold f__law_stove_by m__law_stove_by
  walk_at "go"
  by_cases h : pick b (60 + r) 4 = 0
  · rw [if_pos h]
    walk_at "go"
    rfl
  · rw [if_neg h]
    walk_at "go"
    rfl
local macro_rules | `(tactic| walk_at "gs") => `(tactic| simp -implicitDefEqProofs (disch := first | omega | (exact rfl) | assumption) only [hTru_of, ev_meth, ev_fldV, rfe_ok, tbl_len, hIx_rD0, hIx_rD1, ev_body, outsOf, ΓS, List.replicate, List.map_cons, List.map_nil, List.cons_append, List.nil_append, List.headD_cons, List.tail_cons, ev_var, ev_c, ev_op, ev_un, ev_nil, ev_cons, ev_L, ev_tup, ev_lst, ev_call, ev_and, ev_or, ev_not, ev_if, ev_seq, ev_set, ev_ret, ev_drop, ev_pass, ev_brk, ev_ct, ev_raise, ev_ifS, ev_for, ev_held, ev_tru, ev_mut, ev_mutset, mutK_lst, mutR_some, ev_flat, flatK_int, flatK_bl, flatK_str, flatK_non, ev_m1, m1K_str, hIsi_list_lst, hIsi_bool_bl, hIsi_int_bl, hEq_bl, hNe_bl, List.length_map, bind_ok, bind_exc, bindS_ok, bindS_exc, of_some, seq_nx, seq_rt, seq_exc, seq_bk, seq_ct, condS_t, condS_f, condE_t, condE_f, notD_bl, bindE_ok, bindE_exc, bindL_ok, bindL_exc, bindLL_ok, bindLL_exc, bindLS_ok, bindLS_exc, toE_ok, toE_exc, toF_nx, toF_rt, toF_exc, slotE_some, List.getElem?_cons_zero, List.getElem?_cons_succ, List.set_cons_zero, List.set_cons_succ, hNe_int, hEq_int, hAdd_int, hSub_int, hLt_int, hLe_int, hGt_int, hGe_int, hNeg_int, hAbs_int, hIsi_int_int, hIsi_bool_int, hIsi_tuple_tup, hIxT0, hIxT1, hIxT2, hIxT3, hIxT4, hIxL0, hIxL1, hIxL2, hIxL3, hLen_lst, hLen_tup, hLen_scr, ev_sl, bnd_none, bnd_some, bndK_int, hSl_scr, hSl_lst, ev_range1, ev_iseq, seqK_lst, seqK_tup, seqK_scr, Bool.not_true, Bool.not_false, List.length_cons, List.length_nil, Nat.sub_self, Nat.reduceSub, Nat.reduceAdd, Nat.reduceLeDiff, decide_true, decide_false, reduceIte, Int.reduceSub, Int.reduceAdd, Int.reduceMul, Int.reduceNeg, Int.reduceMod, Int.reduceDiv, Int.reduceBEq, Int.reduceLT, Int.reduceLE, Int.cast_ofNat_Int, BEq.rfl, Nat.reduceBEq, Nat.zero_add, hMul_sm, hDiv_sm, hMod_pos, rgK1_ok, rgK2_ok, beq_f, beq_t, decide_eq_true, decide_eq_false, hAdd_int, ev_pvar, ev_pkey, pKeyK_ok, ev_vmut, ev_vput, slotPut_ok, rv_ok, rl_bindR, lstK_lst, dctK_dct, optK_some, mAppend_ok, setAt_nil, hIxD_lst, hIxD_tup, keyF_str, keyF_pair, ev_range2, Nat.not_lt_zero, Bool.false_eq_true, slotK_ok, ev_call0', call0K_ok, call0R_ok, noObjL_nil, noObjL_cons, noObj_int, noObj_bl, noObj_str, noObj_non, noObj_tup, noObj_lst, noObj_scr, noObj_rD, noObjL_ints, noObjL_rats, Bool.and_self, Bool.and_true, Bool.true_and, ev_dct, dctR_ok, itms_nil, itms_l, itms_d, itms_s, itS_ok, Option.map_some, call0C_t, rfe_exc, List.append_nil, Bool.false_and, Bool.and_false, ev_callD, ev_make, makeR_ok, makeR_exc, ev_fld, cell_scr0, cell_scr1, cell_scr2, cell_scr3, cell_lst0, cell_lst1, cell_scr, cell_lst, pick_eq, scale_eq, stove_by_eq, P6_marks, P6_sky, P6_stoves, P6_flows, A6_marks, A6_sky, A6_stoves, A6_flows, lstK_mk, lstK_sk, lstK_st, mApp_tbl, mk_app])
local macro_rules | `(tactic| walk_at "go") => `(tactic| try simp -implicitDefEqProofs (disch := first | omega | (exact rfl) | assumption) only [hTru_of, ev_meth, ev_fldV, rfe_ok, tbl_len, hIx_rD0, hIx_rD1, ev_body, outsOf, ΓS, List.replicate, List.map_cons, List.map_nil, List.cons_append, List.nil_append, List.headD_cons, List.tail_cons, ev_var, ev_c, ev_op, ev_un, ev_nil, ev_cons, ev_L, ev_tup, ev_lst, ev_call, ev_and, ev_or, ev_not, ev_if, ev_seq, ev_set, ev_ret, ev_drop, ev_pass, ev_brk, ev_ct, ev_raise, ev_ifS, ev_for, ev_held, ev_tru, ev_mut, ev_mutset, mutK_lst, mutR_some, ev_flat, flatK_int, flatK_bl, flatK_str, flatK_non, ev_m1, m1K_str, hIsi_list_lst, hIsi_bool_bl, hIsi_int_bl, hEq_bl, hNe_bl, List.length_map, bind_ok, bind_exc, bindS_ok, bindS_exc, of_some, seq_nx, seq_rt, seq_exc, seq_bk, seq_ct, condS_t, condS_f, condE_t, condE_f, notD_bl, bindE_ok, bindE_exc, bindL_ok, bindL_exc, bindLL_ok, bindLL_exc, bindLS_ok, bindLS_exc, toE_ok, toE_exc, toF_nx, toF_rt, toF_exc, slotE_some, List.getElem?_cons_zero, List.getElem?_cons_succ, List.set_cons_zero, List.set_cons_succ, hNe_int, hEq_int, hAdd_int, hSub_int, hLt_int, hLe_int, hGt_int, hGe_int, hNeg_int, hAbs_int, hIsi_int_int, hIsi_bool_int, hIsi_tuple_tup, hIxT0, hIxT1, hIxT2, hIxT3, hIxT4, hIxL0, hIxL1, hIxL2, hIxL3, hLen_lst, hLen_tup, hLen_scr, ev_sl, bnd_none, bnd_some, bndK_int, hSl_scr, hSl_lst, ev_range1, ev_iseq, seqK_lst, seqK_tup, seqK_scr, Bool.not_true, Bool.not_false, List.length_cons, List.length_nil, Nat.sub_self, Nat.reduceSub, Nat.reduceAdd, Nat.reduceLeDiff, decide_true, decide_false, reduceIte, Int.reduceSub, Int.reduceAdd, Int.reduceMul, Int.reduceNeg, Int.reduceMod, Int.reduceDiv, Int.reduceBEq, Int.reduceLT, Int.reduceLE, Int.cast_ofNat_Int, BEq.rfl, Nat.reduceBEq, Nat.zero_add, hMul_sm, hDiv_sm, hMod_pos, rgK1_ok, rgK2_ok, beq_f, beq_t, decide_eq_true, decide_eq_false, hAdd_int, ev_pvar, ev_pkey, pKeyK_ok, ev_vmut, ev_vput, slotPut_ok, rv_ok, rl_bindR, lstK_lst, dctK_dct, optK_some, mAppend_ok, setAt_nil, hIxD_lst, hIxD_tup, keyF_str, keyF_pair, ev_range2, Nat.not_lt_zero, Bool.false_eq_true, slotK_ok, ev_call0', call0K_ok, call0R_ok, noObjL_nil, noObjL_cons, noObj_int, noObj_bl, noObj_str, noObj_non, noObj_tup, noObj_lst, noObj_scr, noObj_rD, noObjL_ints, noObjL_rats, Bool.and_self, Bool.and_true, Bool.true_and, ev_dct, dctR_ok, itms_nil, itms_l, itms_d, itms_s, itS_ok, Option.map_some, call0C_t, rfe_exc, List.append_nil, Bool.false_and, Bool.and_false, ev_callD, ev_make, makeR_ok, makeR_exc, ev_fld, cell_scr0, cell_scr1, cell_scr2, cell_scr3, cell_lst0, cell_lst1, cell_scr, cell_lst, pick_eq, scale_eq, stove_by_eq, P6_marks, P6_sky, P6_stoves, P6_flows, A6_marks, A6_sky, A6_stoves, A6_flows, lstK_mk, lstK_sk, lstK_st, mApp_tbl, mk_app])
theorem nodup5 : True ∧ [Str.ofString "marks", Str.ofString "sky", Str.ofString "stoves", Str.ofString "flows", Str.ofString "scale"].Nodup := ⟨trivial, by decide +kernel⟩
theorem drawn_eq (ns : List Int) (S : Store) : f__law_drawn [.scr (ns.map .int)] S = .ok ((tdOf (cellAt ns 0) (cellAt ns 1) (cellAt ns 2) (cellAt ns 3)).told) [none] S := by
  generalize ha : cellAt ns 0 = a
  generalize hb : cellAt ns 1 = b
  generalize hc : cellAt ns 2 = c
  generalize hd : cellAt ns 3 = d
  have ok := tdOf_ok a b c d
  generalize ht : tdOf a b c d = t at ok
  have m1 := ok.m1
  have m4 := ok.m4
  have hp := pick_lt (c := a) (k := 1) (m := 6) (by decide)
  have em := manyOf_eq hp.1 hp.2
  have etm : manyOf (pick a 1 6) = t.many := by rw [← ht]; rfl
  rw [etm] at em
  obtain ⟨ρ1, S1, e1, x6, x7, x8, x9, x10, rfl, rfl⟩ := forL_range (v := 6) (b := b__law_drawn_3) (fun r ρ S1 => ∃ x6 x7 x8 x9 x10, ρ = [some (.scr (ns.map .int)), some (.int a), some (.int b), some (.int c), some (.int t.many), some (D6 (t.mkD r) (t.skD r) (t.stD r) (.dct (flowL t.flD t.many r)) t.scD t.bD), x6, x7, x8, x9, x10] ∧ S = S1) (m := t.many)
    (ρ := [some (.scr (ns.map .int)), some (.int a), some (.int b), some (.int c), some (.int t.many), some (D6 (.lst []) (.lst []) (.lst []) (.dct []) t.scD t.bD), none, none, none, none, none]) (S := S) ⟨_, _, _, _, _, rfl, rfl⟩ (by
    rintro r hr ρ S1 ⟨x6, x7, x8, x9, x10, rfl, rfl⟩
    have hnb := ok.nb1 r
    have hn7 := ok.nb7 r
    have enb : 1 + pick a (10 + r) (nbOf t.many) = t.nb r := by
      have := nb_pos (a := a) (m := t.many) (r := r)
      have e : t.nb r = (1 + pick a (10 + r) (nbOf t.many)).toNat := by subst ht; rfl
      omega
    have eno := nbOf_eq m1 m4
    have hno : 0 < nbOf t.many := by unfold nbOf; split <;> omega
    obtain ⟨ρ2, S2, e2, y8, rfl, rfl⟩ := forL_range (v := 8) (b := b__law_drawn_1) (fun j ρ S2 => ∃ x8, ρ = [some (.scr (ns.map .int)), some (.int a), some (.int b), some (.int c), some (.int t.many), some (D6 (t.mkD r) (t.skD r) (t.stD r) (.dct (flowL t.flD t.many r)) t.scD t.bD), some (.int r), some (.lst (tbl (j + 1) fun j => .int (t.mv r j))), x8, x9, x10] ∧ S = S2) (m := t.nb r)
      (ρ := [some (.scr (ns.map .int)), some (.int a), some (.int b), some (.int c), some (.int t.many), some (D6 (t.mkD r) (t.skD r) (t.stD r) (.dct (flowL t.flD t.many r)) t.scD t.bD), some (.int r), some (.lst [.int (pick b r 61 - 30)]), x8, x9, x10]) (S := S) ⟨x8, by rw [← ht]; rfl, rfl⟩ (by
      rintro j hj ρ S2 ⟨x8, rfl, rfl⟩
      refine ⟨_, _, ?_, some (.int j), rfl, rfl⟩
      have ej : hIx (.lst (tbl (j + 1) fun j => D.int (t.mv r j))) (.int j) = some (.int (t.mv r j)) := hIx_tbl (by omega)
      simp only [u_b__law_drawn_1]
      walk_at "go"
      rw [ej]
      walk_at "go"
      rw [tbl_succ (m := j + 1)]
      have : t.mv r (j + 1) = t.mv r j + 1 + pick b (20 + 8 * r + j) 20 := by rw [← ht]; rfl
      rw [this])
    obtain ⟨ρ3, S3, e3, y10, rfl, rfl⟩ := forL_range (v := 10) (b := b__law_drawn_2) (fun o ρ S3 => ∃ x10, ρ = [some (.scr (ns.map .int)), some (.int a), some (.int b), some (.int c), some (.int t.many), some (D6 (t.mkD (r + 1)) (t.skD (r + 1)) (t.stD (r + 1)) (.dct (flowL t.flD t.many r ++ rowL t.flD r o)) t.scD t.bD), some (.int r), some (msD (t.marks r)), y8, some (.int (pick c r 61 - 30)), x10] ∧ S = S3) (m := t.many)
      (ρ := [some (.scr (ns.map .int)), some (.int a), some (.int b), some (.int c), some (.int t.many), some (D6 (t.mkD (r + 1)) (t.skD (r + 1)) (t.stD (r + 1)) (.dct (flowL t.flD t.many r)) t.scD t.bD), some (.int r), some (msD (t.marks r)), y8, some (.int (pick c r 61 - 30)), x10]) (S := S) ⟨x10, by rw [rowL, List.append_nil], rfl⟩ (by
      rintro o ho ρ S3 ⟨x10, rfl, rfl⟩
      simp only [u_b__law_drawn_2]
      by_cases e : o = r
      · subst e
        refine ⟨_, _, ?_, some (.int o), rfl, rfl⟩
        walk_at "go"
        rw [rowL, if_pos rfl]
      · refine ⟨_, _, ?_, some (.int o), rfl, rfl⟩
        have hfr : (pick b (100 + 5 * r + o) 4) = t.flow r o := by rw [← ht]; rfl
        have hl := rowL_len (f := t.flD) (r := r) o
        have hl2 := flowL_len (f := t.flD) (m := t.many) r
        have hl3 : r * t.many ≤ 4 * 4 := Nat.mul_le_mul (by omega) m4
        walk_at "go"
        rw [vputK_in keyF_pair (tupKs_app (flowL_tup r) (rowL_tup o)) (by rw [List.length_append]; omega)]
        walk_at "go"
        rw [dput_new (by
          rw [dlook_app]
          have h1 := flowL_look (f := t.flD) (m := t.many) (r := r) (o := o) r
          have h2 := rowL_look (f := t.flD) (r := r) (o := o) o
          rw [if_neg (by omega)] at h1 h2
          unfold prD at h1 h2
          rw [h1, h2]
          rfl), hfr]
        rw [rowL, if_neg e, List.append_assoc]
        rfl)
    have e7 : D.lst (tbl (t.nb r + 1) fun j => .int (t.mv r j)) = msD (t.marks r) := by
      unfold msD Td.marks
      rw [tbl_map]
    rw [e7] at e2
    have el : ∀ n, n ≤ 4 → (∀ g : Nat → D, (tbl n g).length < 1000000) := fun n hn g => by rw [tbl_len]; omega
    have hsk : D.tup [.int (pick c (10 + r) 4), .int (pick c r 61 - 30), .int (pick c r 61 - 30 + pick c (20 + r) 31)] = sky3 (t.sky r) := by rw [← ht]; rfl
    have hst := stove_by_eq a b c d (r := r) (by omega)
    rw [ht] at hst
    refine ⟨_, _, ?_, some (.int r), some (msD (t.marks r)), y8, some (.int (pick c r 61 - 30)), y10, rfl, rfl⟩
    simp only [u_b__law_drawn_3]
    (repeat (first | simp only [eno, enb, e2, hsk, hst, sk_app, st_app, e3] | walk_at "gs"))
    rfl)
  have es := scale_eq a b c d
  rw [ht] at es
  unfold f__law_drawn m__law_drawn
  have hbd : D.tup [.int (pick a 2 5), .int (pick a 3 31), .int (pick a 4 10)] = t.bD := by rw [← ht]; rfl
  (repeat (first | simp only [ha, hb, hc, hd, em, es, itS_sc, decide_eq_true nodup5, D5_put (show plainV t.bD = true from rfl), hbd, setAt, e1] | walk_at "gs"))
  rfl
theorem div_loop (a b : Int) (S : Store) : ∀ (l h : Nat) (x : Option D), ∃ y, fWhile c_divisor_1 b_divisor_2 [some (.int a), some (.int b), some (.int h), some (.int l), x] S = .nx [some (.int a), some (.int b), some (.int (Nat.gcd h l)), some (.int 0), y] S := by
  intro l
  induction l using Nat.strongRecOn with
  | ind l ih =>
    intro h x
    rw [fWhile_turn]
    simp only [u_c_divisor_1, u_b_divisor_2]
    by_cases hl : l = 0
    · subst hl
      refine ⟨x, ?_⟩
      walk_at "ev"
      simp
    · have hp : (0 : Int) < l := by omega
      have hne : ((l : Int) == 0) = false := by simp; omega
      obtain ⟨y, e⟩ := ih (h % l) (Nat.mod_lt _ (by omega)) l (some (.int (h % l : Nat)))
      refine ⟨y, ?_⟩
      walk_at "ev"
      rw [hne]
      walk_at "ev"
      rw [hMod_pos hp]
      walk_at "ev"
      rw [← Int.natCast_emod, e]
      rw [Nat.gcd_comm h l, Nat.gcd_rec l h, Nat.gcd_comm l]
theorem f_divisor_eq (a b : Int) (S : Store) : f_divisor [.int a, .int b] S = .ok (.int (Int.gcd a b)) [none, none] S := by
  obtain ⟨y, e⟩ := div_loop a b S b.natAbs a.natAbs none
  unfold f_divisor m_divisor
  walk_at "ev"
  rw [e]
  rfl
theorem f_fraction_eq {a b : Int} (hb : b ≠ 0) (h : b.natAbs < 2 ^ 8999) (S : Store) : f_fraction [.int a, .int b] S = .ok (.tup [.int (frac a b).1, .int (frac a b).2]) [none, none] S := by
  have g1 := gcd_lt (a := a) hb h
  have g0 := gcd_pos (a := a) hb
  unfold f_fraction m_fraction
  walk_at "ev"
  rw [show (b == 0) = false by simp [hb]]
  walk_at "ev"
  rw [f_divisor_eq]
  walk_at "ev"
  unfold frac
  by_cases hn : b < 0
  · rw [decide_eq_true hn, if_pos hn]
    walk_at "ev"
    rw [hDiv_bd (by omega) (by rw [Int.natAbs_neg]; exact g1), hDiv_bd (by omega) (by rw [Int.natAbs_neg]; exact g1)]
    walk_at "ev"
  · rw [decide_eq_false hn, if_neg hn]
    walk_at "ev"
    rw [hDiv_pos (by omega) g1, hDiv_pos (by omega) g1]
    walk_at "ev"
theorem fraction_r {a b : Int} (hb : b ≠ 0) (h : b.natAbs < 2 ^ 8999) (S : Store) : f_fraction [.int a, .int b] S = .ok (rD (rI a b)) [none, none] S := by
  rw [f_fraction_eq hb h, frac_rI hb]
theorem plus_r {p q : Rat} {m n : Nat} (hp : rb m p) (hq : rb n q) (hk : m + n ≤ 8900) (S : Store) : f_plus [rD p, rD q] S = .ok (rD (p + q)) [none, none] S := by
  unfold f_plus m_plus
  walk_at "ev"
  rw [hMul_bd hp.1 hq.den (by omega), hMul_bd hq.1 hp.den (by omega), hMul_bd hp.den hq.den (by omega)]
  walk_at "ev"
  rw [fraction_r (den2 p q) (bd_mono (bd_mul hp.den hq.den) (by omega)), add_rI]
  walk_at "ev"
theorem minus_r {p q : Rat} {m n : Nat} (hp : rb m p) (hq : rb n q) (hk : m + n ≤ 8900) (S : Store) : f_minus [rD p, rD q] S = .ok (rD (p - q)) [none, none] S := by
  unfold f_minus m_minus
  walk_at "ev"
  rw [hMul_bd hp.1 hq.den (by omega), hMul_bd hq.1 hp.den (by omega), hMul_bd hp.den hq.den (by omega)]
  walk_at "ev"
  rw [fraction_r (den2 p q) (bd_mono (bd_mul hp.den hq.den) (by omega)), sub_rI]
  walk_at "ev"
theorem under_r {p q : Rat} {m n : Nat} (hp : rb m p) (hq : rb n q) (hk : m + n ≤ 8900) (S : Store) : f_under [rD p, rD q] S = .ok (.bl (decide (p < q))) [none, none] S := by
  unfold f_under m_under
  walk_at "ev"
  rw [hMul_bd hp.1 hq.den (by omega), hMul_bd hq.1 hp.den (by omega)]
  walk_at "ev"
  simp only [lt_rat]
/-! the laws' own fractions -/
theorem rt_loop (a b : Int) (S : Store) : ∀ (l h : Nat) (x : Option D), ∃ y, fWhile c__law_ratio_1 b__law_ratio_2 [some (.int a), some (.int b), some (.int h), some (.int l), x] S = .nx [some (.int a), some (.int b), some (.int (Nat.gcd h l)), some (.int 0), y] S := by
  intro l
  induction l using Nat.strongRecOn with
  | ind l ih =>
    intro h x
    rw [fWhile_turn]
    simp only [u_c__law_ratio_1, u_b__law_ratio_2]
    by_cases hl : l = 0
    · subst hl
      refine ⟨x, ?_⟩
      walk_at "ev"
      simp
    · have hp : (0 : Int) < l := by omega
      obtain ⟨y, e⟩ := ih (h % l) (Nat.mod_lt _ (by omega)) l (some (.int (h % l : Nat)))
      refine ⟨y, ?_⟩
      walk_at "ev"
      rw [decide_eq_true hp]
      walk_at "ev"
      rw [hMod_pos hp]
      walk_at "ev"
      rw [← Int.natCast_emod, e]
      rw [Nat.gcd_comm h l, Nat.gcd_rec l h, Nat.gcd_comm l]
theorem ratio_eq {a b : Int} (hb : 0 < b) (h : b.natAbs < 2 ^ 8999) (S : Store) : f__law_ratio [.int a, .int b] S = .ok (rD (rI a b)) [none, none] S := by
  have g1 := gcd_lt (a := a) (b := b) (by omega) h
  have g0 := gcd_pos (a := a) (b := b) (by omega)
  obtain ⟨y, e⟩ := rt_loop a b S b.natAbs a.natAbs none
  rw [Int.natAbs_of_nonneg (show 0 ≤ b by omega)] at e
  have d1 : hDiv (.int a) (.int (Int.gcd a b)) = some (.int (a / Int.gcd a b)) := hDiv_pos (by omega) g1
  have d2 : hDiv (.int b) (.int (Int.gcd a b)) = some (.int (b / Int.gcd a b)) := hDiv_pos (by omega) g1
  unfold f__law_ratio m__law_ratio
  walk_at "ev"
  rw [e]
  walk_at "ev"
  rw [show (Nat.gcd a.natAbs b.natAbs : Nat) = Int.gcd a b from rfl, d1]
  walk_at "ev"
  rw [d2]
  walk_at "ev"
  rw [← frac_rI (show b ≠ 0 by omega)]
  unfold frac
  rw [if_neg (by omega)]
theorem ratio_sm {a b : Int} (hb : 0 < b) (h : b < 2 ^ 220) (S : Store) : f__law_ratio [.int a, .int b] S = .ok (rD (rI a b)) [none, none] S := ratio_eq hb (by
  have : (2 : Nat) ^ 220 < 2 ^ 8999 := Nat.pow_lt_pow_right (by decide) (by decide)
  omega) S
/-! ### the hold's methods -/
theorem fm_marks : fmL 0 "my_marks" = 1 := rfl
theorem fm_flows : fmL 0 "my_flows" = 2 := rfl
theorem fm_skies : fmL 0 "my_skies" = 1 := rfl
theorem fm_stoves : fmL 0 "my_stoves" = 1 := rfl
theorem ask_eq {S : Store} {n r : Nat} {h : Hs} (a : At S n 0 h) (hr : r < h.many) : f_Hold__ask_room [.obj n, .int r] S = .ok .non [none, none] S := by
  unfold f_Hold__ask_room m_Hold__ask_room
  walk_at "ev"
  rw [decide_eq_false (show ¬ (r : Int) < 0 by omega)]
  walk_at "ev"
  rw [fldV_of a.marks]
  walk_at "ev"
  rw [decide_eq_false (show ¬ (h.many : Int) ≤ r by omega)]
  walk_at "ev"
theorem many_eq {S : Store} {n : Nat} {h : Hs} (a : At S n 0 h) : f_Hold__many [.obj n] S = .ok (.int h.many) [none] S := by
  unfold f_Hold__many m_Hold__many
  walk_at "ev"
  rw [fldV_of a.marks]
  walk_at "ev"
theorem sky_eq {S : Store} {n r : Nat} {h : Hs} (a : At S n 0 h) (hr : r < h.many) : f_Hold__sky [.obj n, .int r] S = .ok (skyD (h.sky r)) [none, none] S := by
  unfold f_Hold__sky m_Hold__sky
  walk_at "ev"
  rw [methK_H a rfl rfl]
  walk_at "ev"
  rw [ask_eq a hr]
  walk_at "ev"
  rw [at1 (r := r) rfl a.skies rfl (tbl_get hr) fm_skies]
  walk_at "ev"
theorem stove_eq {S : Store} {n r : Nat} {h : Hs} (a : At S n 0 h) (hr : r < h.many) : f_Hold__stove [.obj n, .int r] S = .ok (stoveD (h.stove r)) [none, none] S := by
  unfold f_Hold__stove m_Hold__stove
  walk_at "ev"
  rw [methK_H a rfl rfl]
  walk_at "ev"
  rw [ask_eq a hr]
  walk_at "ev"
  rw [at1 (r := r) rfl a.stoves rfl (tbl_get hr) fm_stoves]
  walk_at "ev"
theorem taken_loop {S : Store} {x0 x1 : Option D} {k : Nat} : ∀ (l : List Rat) (m : Nat) (x : Rat) (y : Option D), rb m x → (∀ q ∈ l, rb k q) → m + (k + 1) * l.length + k ≤ 8900 →
    ∃ y', forC (tfName 3) b_Hold__taken_share_1 (l.map rD) [x0, x1, some (rD x), y] S = .nx [x0, x1, some (rD (l.foldl (· + ·) x)), y'] S
  | [], m, x, y, _, _, _ => ⟨y, rfl⟩
  | q :: l, m, x, y, hx, hq, hb => by
    have hb : m + (k + 1) * (l.length + 1) + k ≤ 8900 := hb
    rw [Nat.mul_add] at hb
    have h1 := hq q (List.mem_cons_self ..)
    have h2 := rb_add hx h1
    obtain ⟨y', e⟩ := taken_loop (S := S) (x0 := x0) (x1 := x1) (k := k) l (m + k + 1) (x + q) (some (rD q)) h2 (fun p hp => hq p (List.mem_cons_of_mem _ hp)) (by omega)
    refine ⟨y', ?_⟩
    rw [List.map_cons]
    simp only [forC, tfName]
    simp only [u_b_Hold__taken_share_1]
    walk_at "ev"
    rw [call0_ok (ds := [rD x, rD q]) rfl rfl (plus_r hx h1 (by omega) [])]
    walk_at "ev"
    exact e
theorem taken_eq {S : Store} {n r k : Nat} {h : Hs} (a : At S n 0 h) (w : h.Wf k) (hk : k ≤ 1000) (hr : r < h.many) : f_Hold__taken_share [.obj n, .int r] S = .ok (rD (h.taken r)) [none, none] S := by
  unfold f_Hold__taken_share m_Hold__taken_share
  walk_at "ev"
  rw [at1 (r := r) rfl a.skies rfl (tbl_get hr) fm_skies]
  walk_at "ev"
  have e1 : hIx (skyD (h.sky r)) (.int 0) = some (rD (h.sky r).1) := hIxT0
  rw [e1]
  walk_at "ev"
  rw [forp2 (r := r) rfl a.flows rfl (tbl_get hr) fm_flows]
  have m4 := w.m4
  have hl : (k + 1) * h.many ≤ (k + 1) * 4 := Nat.mul_le_mul_left _ m4
  obtain ⟨y, e⟩ := taken_loop (S := S) (x0 := some (.obj n)) (x1 := some (.int r)) (k := k) (tbl h.many (h.flow r)) k (h.sky r).1 none (w.bs r hr) (fun q hq => by
    obtain ⟨j, hj, rfl⟩ := tbl_mem.mp hq
    exact w.bf r j hr hj) (by rw [tbl_len]; omega)
  rw [tbl_map] at e
  rw [e, foldl_tbl]
  walk_at "ev"
  rfl
theorem share_eq {S : Store} {n r q k : Nat} {h : Hs} (a : At S n 0 h) (w : h.Wf k) (hk : k ≤ 1000) (hr : r < h.many) (hq : q < h.many) : f_Hold__share [.obj n, .int r, .int q] S = .ok (rD (if r = q then 1 - h.taken r else h.flow r q)) [none, none, none] S := by
  unfold f_Hold__share m_Hold__share
  walk_at "ev"
  rw [methK_H a rfl rfl]
  walk_at "ev"
  rw [ask_eq a hr]
  walk_at "ev"
  rw [methK_H a rfl rfl]
  walk_at "ev"
  rw [ask_eq a hq]
  walk_at "ev"
  by_cases e : r = q
  · subst e
    rw [if_pos rfl]
    walk_at "ev"
    rw [methK_H a rfl rfl]
    walk_at "ev"
    rw [taken_eq a w hk hr]
    walk_at "ev"
    rw [rD_1, minus_r rb_1 (taken_rb w hr) (by omega)]
    walk_at "ev"
  · rw [if_neg e, show ((r : Int) == (q : Int)) = false by simpa using (by omega : ¬ (r : Int) = q)]
    walk_at "ev"
    rw [at2 (r := r) (q := q) rfl a.flows rfl (tbl_get hr) rfl (tbl_get hq) fm_flows]
    walk_at "ev"
/-! building -/
theorem bound_eq {i m : Int} (h0 : 0 ≤ i) (h1 : i ≤ m) (S : Store) : f_is_bound [.int i, .int m] S = .ok (.bl true) [none, none] S := by
  unfold f_is_bound m_is_bound
  walk_at "ev"
  rw [ev_chain]
  walk_at "ev"
  rw [decide_eq_true h0]
  walk_at "ev"
  rw [decide_eq_true h1]
theorem new_eq {a b c : Int} (a0 : 0 ≤ a) (a1 : a ≤ 4) (b0 : 0 ≤ b) (b1 : b ≤ 30) (c0 : 0 ≤ c) (c1 : c ≤ 30) (S : Store) : f_Hold____init__ [.obj S.length, .int a, .int b, .int c] (S ++ [⟨0, []⟩]) = .ok .non [none, none, none, none] (S ++ [(Hs.none a b c).ob 0]) := by
  unfold f_Hold____init__ m_Hold____init__
  walk_at "ev"
  rw [bound_eq a0 a1]
  walk_at "ev"
  rw [bound_eq b0 b1]
  walk_at "ev"
  rw [bound_eq c0 c1]
  walk_at "ev"
  rw [fFld_at (fm := fmL) (c := 0) (k := 0) (f := "most") rfl rfl last_get rfl (of_decide_eq_true rfl), last_set]
  walk_at "ev"
  rw [fFld_at (fm := fmL) (c := 0) (k := 0) (f := "cap") rfl rfl last_get rfl (of_decide_eq_true rfl), last_set]
  walk_at "ev"
  rw [fFld_at (fm := fmL) (c := 0) (k := 0) (f := "load") rfl rfl last_get rfl (of_decide_eq_true rfl), last_set]
  walk_at "ev"
  rw [fFld_at (fm := fmL) (c := 0) (k := 1) (f := "my_marks") rfl rfl last_get rfl (of_decide_eq_true rfl), last_set]
  walk_at "ev"
  rw [fFld_at (fm := fmL) (c := 0) (k := 2) (f := "my_flows") rfl rfl last_get rfl (of_decide_eq_true rfl), last_set]
  walk_at "ev"
  rw [fFld_at (fm := fmL) (c := 0) (k := 1) (f := "my_skies") rfl rfl last_get rfl (of_decide_eq_true rfl), last_set]
  walk_at "ev"
  rw [fFld_at (fm := fmL) (c := 0) (k := 1) (f := "my_stoves") rfl rfl last_get rfl (of_decide_eq_true rfl), last_set]
  rfl
theorem put_stove_eq {S : Store} {n r k : Nat} {h : Hs} {q : Rat} {w s f : Int} (a : At S n 0 h) (hr : r < h.many) (hq : rb k q) (hk : k ≤ 1000) (q0 : ¬ q < 0) (w0 : 0 ≤ w) (w1 : w ≤ 9) (s0 : 0 ≤ s) (s1 : s ≤ 3) (f0 : 0 ≤ f) (f1 : f ≤ 3) :
    f_Hold__put_stove [.obj n, .int r, rD q, .int w, .int s, .int f] S = .ok .non [none, none, none, none, none, none] (S.set n ((h.setStove r (some (q, w, s, f))).ob 0)) := by
  unfold f_Hold__put_stove m_Hold__put_stove
  walk_at "ev"
  rw [methK_H a rfl rfl]
  walk_at "ev"
  rw [ask_eq a hr]
  walk_at "ev"
  rw [rD_0, under_r hq rb_0 (by omega), decide_eq_false q0]
  walk_at "ev"
  rw [bound_eq w0 w1]
  walk_at "ev"
  rw [bound_eq s0 s1]
  walk_at "ev"
  rw [bound_eq f0 f1]
  walk_at "ev"
  rw [pset1 (r := r) (x := stoveD (some (q, w, s, f))) rfl rfl a.stoves rfl (by rw [tbl_len]; exact hr) fm_stoves, a.put_stove]
  walk_at "ev"
theorem put_sky_eq {S : Store} {n r k : Nat} {h : Hs} {q lo hi : Rat} (a : At S n 0 h) (w : h.Wf k) (hr : r < h.many) (hq : rb k q) (hl : rb k lo) (hh : rb k hi) (hk : k ≤ 500) (q0 : ¬ q < 0) (lh : ¬ hi < lo) (t1 : ¬ 1 < h.taken r - (h.sky r).1 + q) :
    f_Hold__put_sky [.obj n, .int r, rD q, rD lo, rD hi] S = .ok .non [none, none, none, none, none] (S.set n ((h.setSky r (q, lo, hi)).ob 0)) := by
  have b1 := taken_rb w hr
  have b2 := rb_sub b1 (w.bs r hr)
  have b3 := rb_add b2 hq
  unfold f_Hold__put_sky m_Hold__put_sky
  walk_at "ev"
  rw [methK_H a rfl rfl]
  walk_at "ev"
  rw [ask_eq a hr]
  walk_at "ev"
  rw [under_r hh hl (by omega), decide_eq_false lh]
  walk_at "ev"
  rw [methK_H a rfl rfl]
  walk_at "ev"
  rw [taken_eq a w (by omega) hr]
  walk_at "ev"
  rw [at1 (r := r) rfl a.skies rfl (tbl_get hr) fm_skies]
  walk_at "ev"
  rw [show hIx (skyD (h.sky r)) (.int 0) = some (rD (h.sky r).1) from hIxT0]
  walk_at "ev"
  rw [minus_r b1 (w.bs r hr) (by omega)]
  walk_at "ev"
  rw [plus_r b2 hq (by omega)]
  walk_at "ev"
  rw [rD_0, under_r hq rb_0 (by omega), decide_eq_false q0]
  walk_at "ev"
  rw [rD_1, under_r rb_1 b3 (by omega), decide_eq_false t1]
  walk_at "ev"
  rw [pset1 (r := r) (x := skyD (q, lo, hi)) rfl rfl a.skies rfl (by rw [tbl_len]; exact hr) fm_skies, a.put_sky]
  walk_at "ev"
theorem put_flow_eq {S : Store} {n r o k : Nat} {h : Hs} {q : Rat} (a : At S n 0 h) (w : h.Wf k) (hr : r < h.many) (ho : o < h.many) (hro : r ≠ o) (hq : rb k q) (hk : k ≤ 500) (q0 : ¬ q < 0) (t1 : ¬ 1 < h.taken r - h.flow r o + q) :
    f_Hold__put_flow [.obj n, .int r, .int o, rD q] S = .ok .non [none, none, none, none] (S.set n ((h.setFlow r o q).ob 0)) := by
  have b1 := taken_rb w hr
  have b2 := rb_sub b1 (w.bf r o hr ho)
  have b3 := rb_add b2 hq
  unfold f_Hold__put_flow m_Hold__put_flow
  walk_at "ev"
  rw [methK_H a rfl rfl]
  walk_at "ev"
  rw [ask_eq a hr]
  walk_at "ev"
  rw [methK_H a rfl rfl]
  walk_at "ev"
  rw [ask_eq a ho]
  walk_at "ev"
  rw [show ((r : Int) == (o : Int)) = false by simpa using (by omega : ¬ (r : Int) = o)]
  walk_at "ev"
  rw [methK_H a rfl rfl]
  walk_at "ev"
  rw [taken_eq a w (by omega) hr]
  walk_at "ev"
  rw [at2 (r := r) (q := o) rfl a.flows rfl (tbl_get hr) rfl (tbl_get ho) fm_flows]
  walk_at "ev"
  rw [minus_r b1 (w.bf r o hr ho) (by omega)]
  walk_at "ev"
  rw [plus_r b2 hq (by omega)]
  walk_at "ev"
  rw [rD_0, under_r hq rb_0 (by omega), decide_eq_false q0]
  walk_at "ev"
  rw [rD_1, under_r rb_1 b3 (by omega), decide_eq_false t1]
  walk_at "ev"
  rw [pset2 (r := r) (q := o) rfl rfl a.flows rfl (tbl_get hr) rfl (by rw [tbl_len]; exact ho) fm_flows, a.put_flow]
  walk_at "ev"
theorem rise_eq {ms : List Rat} {k : Nat} (l2 : 2 ≤ ms.length) (l7 : ms.length ≤ 7) (hb : ∀ q ∈ ms, rb k q) (hk : k ≤ 1000) (hr : ∀ i (hi : i + 1 < ms.length), ms[i] < ms[i + 1]) (S : Store) : f_do_rise [rsD ms] S = .ok (.bl true) [none] S := by
  unfold f_do_rise m_do_rise
  walk_at "ev"
  unfold rsD
  walk_at "ev"
  rw [decide_eq_false (show ¬ (ms.length : Int) < 2 by omega)]
  walk_at "ev"
  rw [decide_eq_false (show ¬ (7 : Int) < ms.length by omega)]
  walk_at "ev"
  rw [rgK1_int (by omega)]
  walk_at "ev"
  obtain ⟨ρ', S', e, x, rfl, rfl⟩ := forL_all (tf := tfName 1) (b := b_do_rise_1) (ds := rangeL 0 ((ms.length : Int) - 1)) (fun _ ρ S' => ∃ x, ρ = [some (D.lst (ms.map rD)), x] ∧ S' = S) (ρ := [some (D.lst (ms.map rD)), none]) (S := S) ⟨_, rfl, rfl⟩ (by
    rintro i d ρ S' hd ⟨x, rfl, rfl⟩
    obtain ⟨rfl, hi⟩ := rangeL_get hd
    rw [Int.zero_add] at hi ⊢
    refine ⟨_, rfl, .inl ⟨_, _, ?_, some (.int i), rfl, rfl⟩⟩
    simp only [u_b_do_rise_1]
    walk_at "ev"
    have i1 : i + 1 < ms.length := by omega
    have e1 : hIx (.lst (ms.map rD)) (.int i) = some (rD ms[i]) := hIx_lst (by rw [List.getElem?_map, List.getElem?_eq_getElem (by omega)]; rfl)
    have e2 : hIx (.lst (ms.map rD)) (.int ((i : Int) + 1)) = some (rD ms[i + 1]) := hIx_lst (k := i + 1) (by rw [List.getElem?_map, List.getElem?_eq_getElem i1]; rfl)
    rw [e1]
    walk_at "ev"
    rw [e2]
    walk_at "ev"
    rw [under_r (hb _ (List.getElem_mem ..)) (hb _ (List.getElem_mem ..)) (by omega), decide_eq_true (hr i i1)]
    walk_at "ev")
  rw [e]
  walk_at "ev"
theorem many_loop {S : Store} {x0 x1 x4 : Option D} : ∀ (l : List (List Rat)) (m : Nat) (z : Int) (y : Option D), z.natAbs < 2 ^ m → (∀ q ∈ l, q.length ≤ 7) → m + 4 * l.length ≤ 1000 →
    ∃ y', forC (tfName 3) b_Hold__put_room_1 (l.map rsD) [x0, x1, some (.int z), y, x4] S = .nx [x0, x1, some (.int (l.foldl (fun z q => z * ((q.length : Int) - 1)) z)), y', x4] S
  | [], m, z, y, _, _, _ => ⟨y, rfl⟩
  | q :: l, m, z, y, hz, hq, hb => by
    have hb : m + 4 * (l.length + 1) ≤ 1000 := hb
    have h7 := hq q (List.mem_cons_self ..)
    have n4 : ((q.length : Int) - 1).natAbs < 2 ^ 4 := by
      have : (2 : Nat) ^ 4 = 16 := by decide
      omega
    obtain ⟨y', e⟩ := many_loop (S := S) (x0 := x0) (x1 := x1) (x4 := x4) l (m + 4) (z * ((q.length : Int) - 1)) (some (rsD q)) (bd_mul hz n4) (fun p hp => hq p (List.mem_cons_of_mem _ hp)) (by omega)
    refine ⟨y', ?_⟩
    rw [List.map_cons]
    simp only [forC, tfName]
    simp only [u_b_Hold__put_room_1]
    walk_at "ev"
    rw [show hLen [rsD q] = some (.int q.length) by unfold rsD; rw [hLen_lst, List.length_map]]
    walk_at "ev"
    rw [hMul_bd hz n4 (by omega)]
    walk_at "ev"
    exact e
/-- so many bands the rooms and the new one make -/
def bandsOf (h : Hs) (ms : List Rat) : Int := (tbl h.many h.marks).foldl (fun z q => z * ((q.length : Int) - 1)) ((ms.length : Int) - 1)
theorem put_room_eq {S : Store} {n k : Nat} {h : Hs} {ms : List Rat} (a : At S n 0 h) (m4 : h.many < 4) (l2 : 2 ≤ ms.length) (l7 : ms.length ≤ 7) (hb : ∀ q ∈ ms, rb k q) (hk : k ≤ 1000) (hr : ∀ i (hi : i + 1 < ms.length), ms[i] < ms[i + 1])
    (h7 : ∀ i, i < h.many → (h.marks i).length ≤ 7) (hm : bandsOf h ms ≤ 400) : f_Hold__put_room [.obj n, rsD ms] S = .ok (.int h.many) [none, none] (S.set n ((h.add ms).ob 0)) := by
  have a0 : S[n]? = some ⟨0, raw _ _ _ _ _ _ _⟩ := a
  unfold f_Hold__put_room m_Hold__put_room
  walk_at "ev"
  rw [fldV_of a.marks]
  walk_at "ev"
  rw [show ((h.many : Int) == 4) = false by simp; omega]
  walk_at "ev"
  rw [rise_eq l2 l7 hb hk hr]
  walk_at "ev"
  rw [show hLen [rsD ms] = some (.int ms.length) by unfold rsD; rw [hLen_lst, List.length_map]]
  walk_at "ev"
  rw [forp1 rfl a.marks fm_marks]
  have n4 : ((ms.length : Int) - 1).natAbs < 2 ^ 4 := by
    have : (2 : Nat) ^ 4 = 16 := by decide
    omega
  obtain ⟨y, e⟩ := many_loop (S := S) (x0 := some (.obj n)) (x1 := some (rsD ms)) (x4 := none) (tbl h.many h.marks) 4 ((ms.length : Int) - 1) none n4 (fun q hq => by
    obtain ⟨j, hj, rfl⟩ := tbl_mem.mp hq
    exact h7 j hj) (by rw [tbl_len]; omega)
  rw [tbl_map] at e
  rw [e]
  walk_at "ev"
  rw [decide_eq_false (show ¬ (400 : Int) < (tbl h.many h.marks).foldl (fun z q => z * ((q.length : Int) - 1)) ((ms.length : Int) - 1) by unfold bandsOf at hm; omega)]
  walk_at "ev"
  rw [rD_0, forapp rfl a.flows (by
    rw [List.all_eq_true]
    intro d hd
    obtain ⟨j, hj, rfl⟩ := tbl_mem.mp hd
    show decide ((tbl h.many _).length < 1000000) = true
    rw [tbl_len, decide_eq_true_eq]
    omega) (of_decide_eq_true rfl) fm_flows]
  simp only [List.set_cons_zero, List.set_cons_succ, ite_self]
  rw [raw_setFlows a0]
  generalize hS1 : S.set n _ = S1
  have a1 := get_of_set hS1 a0
  walk_at "ev"
  rw [pmut1 (x := rsD ms) rfl rfl (raw_marks a1) (by rw [tbl_len]; omega) fm_marks, add_marks, raw_setMarks a1]
  generalize hS2 : S1.set n _ = S2
  have a2 := get_of_set hS2 a1
  walk_at "ev"
  rw [papp (x := .lst (tbl (h.many + 1) fun _ => rD 0)) (by
    walk_at "ev"
    rw [fldV_of (raw_marks a2)]
    walk_at "ev"
    exact congrArg (RE.of S2) (hRep_one (show h.many + 1 ≤ 1000 by omega))) rfl (raw_flows a2) (by rw [List.length_map, tbl_len]; omega) fm_flows, add_flows (ms := ms), raw_setFlows a2]
  generalize hS3 : S2.set n _ = S3
  have a3 := get_of_set hS3 a2
  walk_at "ev"
  rw [pmut1 (x := skyD (0, 0, 0)) rfl rfl (raw_skies a3) (by rw [tbl_len]; omega) fm_skies, add_skies (ms := ms), raw_setSkies a3]
  generalize hS4 : S3.set n _ = S4
  have a4 := get_of_set hS4 a3
  walk_at "ev"
  rw [pmut1 (x := .non) rfl rfl (raw_stoves a4) (by rw [tbl_len]; omega) fm_stoves, add_stoves (ms := ms), raw_setStoves a4]
  generalize hS5 : S4.set n _ = S5
  have a5 := get_of_set hS5 a4
  walk_at "ev"
  rw [fldV_of (raw_marks a5)]
  walk_at "ev"
  subst hS5 hS4 hS3 hS2 hS1
  simp only [List.set_set]
  have e1 : (((h.add ms).many : Nat) : Int) - 1 = h.many := by show ((h.many + 1 : Nat) : Int) - 1 = h.many; omega
  rw [e1]
  rfl
/-! ### the hold that the law builds -/
section
variable {t : Td} (ok : t.Ok)
theorem sc_0 : hIx t.scD (.int 0) = some (.int t.s0) := hIxT0
theorem sc_1 : hIx t.scD (.int 1) = some (.int t.s1) := hIxT1
theorem sc_2 : hIx t.scD (.int 2) = some (.int t.s2) := hIxT2
theorem sc_3 : hIx t.scD (.int 3) = some (.int t.s3) := hIxT3
theorem bd_0 : hIx t.bD (.int 0) = some (.int t.b0) := hIxT0
theorem bd_1 : hIx t.bD (.int 1) = some (.int t.b1) := hIxT1
theorem bd_2 : hIx t.bD (.int 2) = some (.int t.b2) := hIxT2
theorem sky_0 {s : Int × Int × Int} : hIx (sky3 s) (.int 0) = some (.int s.1) := hIxT0
theorem sky_1 {s : Int × Int × Int} : hIx (sky3 s) (.int 1) = some (.int s.2.1) := hIxT1
theorem sky_2 {s : Int × Int × Int} : hIx (sky3 s) (.int 2) = some (.int s.2.2) := hIxT2
include ok
theorem warm_w {n p : Int} (hn : n.natAbs < 2 ^ 30) (h0 : 0 < p) (hp : p.natAbs < 2 ^ 30) (S : Store) : f__law_warm [.int n, .int p, t.scD] S = .ok (rD (t.warm n p)) [none, none, none] S := by
  obtain ⟨z0, z1, z2, z3⟩ := ok.s30
  have m1 : hMul (.int n) (.int t.s0) = some (.int (n * t.s0)) := hMul_bd hn z0 (by decide)
  have m2 : hMul (.int (n * t.s0)) (.int t.s3) = some (.int (n * t.s0 * t.s3)) := hMul_bd (bd_mul hn z0) z3 (by decide)
  have m3 : hMul (.int p) (.int t.s2) = some (.int (p * t.s2)) := hMul_bd hp z2 (by decide)
  have m4 : hMul (.int (p * t.s2)) (.int t.s1) = some (.int (p * t.s2 * t.s1)) := hMul_bd (bd_mul hp z2) z1 (by decide)
  have m5 : hMul (.int p) (.int t.s1) = some (.int (p * t.s1)) := hMul_bd hp z1 (by decide)
  have m6 : hMul (.int (p * t.s1)) (.int t.s3) = some (.int (p * t.s1 * t.s3)) := hMul_bd (bd_mul hp z1) z3 (by decide)
  have hr := ratio_eq (a := n * t.s0 * t.s3 + p * t.s2 * t.s1) (ok.den h0) (bd_mono (ok.denb hp) (by decide))
  unfold f__law_warm m__law_warm
  (repeat (first | simp only [sc_0, sc_1, sc_2, sc_3, m1, m2, m3, m4, m5, m6, hr] | walk_at "gs")) <;> exact rfl
end
section
variable {t : Td} (ok : t.Ok)
include ok
theorem mks_bands {n : Nat} (hn : n < t.many) : bandsOf (t.h0 n) (t.mks n) ≤ 400 := by
  unfold bandsOf
  rw [show (t.h0 n).many = n from rfl, tbl_congr (f := (t.h0 n).marks) (g := t.mks) (fun r hr => if_pos hr)]
  exact ok.bands hn
theorem room_step {S : Store} {n k : Nat} (a : At S n 0 (t.h0 k)) (hk : k < t.many) : f_Hold__put_room [.obj n, rsD (t.mks k)] S = .ok (.int k) [none, none] (S.set n ((t.h0 (k + 1)).ob 0)) := by
  have hl : (t.mks k).length = t.nb k + 1 := tbl_len
  have h1 := ok.nb1 k
  have h7 := ok.nb7 k
  have m4 := ok.m4
  rw [← h0_add]
  exact put_room_eq (k := 91) a (by show k < 4; omega) (by omega) (by omega) (ok.mk_rb k) (by decide) (ok.mks_rise k) (fun i hi => by
    have hi : i < k := hi
    show (if i < k then t.mks i else []).length ≤ 7
    rw [if_pos hi]
    have : (t.mks i).length = t.nb i + 1 := tbl_len
    have := ok.nb7 i
    omega) (mks_bands ok hk)
theorem sky_step {S : Store} {n k : Nat} (a : At S n 0 (t.hk k)) (hk : k < t.many) : f_Hold__put_sky [.obj n, .int k, rD (t.sk k).1, rD (t.sk k).2.1, rD (t.sk k).2.2] S = .ok .non [none, none, none, none, none] (S.set n (((t.hk k).setSky k (t.sk k)).ob 0)) :=
  put_sky_eq a (hk_part k |>.wf ok) hk (ok.sk_rb k) (ok.lo_rb k) (ok.hi_rb k) (by decide) (ok.sk_nn k) (ok.lo_hi k) (by
    have e := taken_setSky (h := t.hk k) (r := k) (s := t.sk k)
    rw [← e]
    exact (hk_sky_part k).le ok hk)
theorem flow_step {S : Store} {n k o : Nat} (a : At S n 0 (t.hj k o)) (hk : k < t.many) (ho : o < t.many) (hko : o ≠ k) : f_Hold__put_flow [.obj n, .int k, .int o, rD (t.fl k o)] S = .ok .non [none, none, none, none] (S.set n ((t.hj k (o + 1)).ob 0)) := by
  rw [← hj_flow hko]
  exact put_flow_eq a (hj_part k o |>.wf ok) hk ho (Ne.symm hko) (ok.fl_rb k o) (by decide) (ok.fl_nn k o) (by
    rw [← taken_setFlow (h := t.hj k o) ho, hj_flow hko]
    exact (hj_part k (o + 1)).le ok hk)
theorem marks_lc {S : Store} {it : FL} {ρ : Q.Env} {r : Nat} (hi : it ρ S = .ok ((t.marks r).map .int) S) (h2 : ((wipeE ρ [9]).set 9 none)[2]? = some (some t.scD)) (h9 : 9 < ρ.length) : eLc it [9] (tfName 9) (eC (.bl true)) e__law_built_1 ρ S = .ok (rsD (t.mks r)) S := by
  have hm : (t.marks r).map (fun z => rD (t.warm z 1)) = (t.mks r).map rD := by
    unfold Td.marks Td.mks
    rw [tbl_map, tbl_map]
  have hl : (t.marks r).length ≤ 1000000 := by
    have := ok.nb7 r
    rw [marks_len]
    omega
  rw [eLc_map (S1 := S) D.int (fun z => rD (t.warm z 1)) hi hl (fun z hz => by
    obtain ⟨j, hj, rfl⟩ := tbl_mem.mp hz
    have := ok.nb7 r
    simp only [u_e__law_built_1]
    have e2 : ((wipeE ρ [9]).set 9 (some (.int (t.mv r j))))[2]? = some (some t.scD) := by
      rw [List.getElem?_set_ne (by decide)] at h2 ⊢
      exact h2
    have e9 : ((wipeE ρ [9]).set 9 (some (.int (t.mv r j))))[9]? = some (some (.int (t.mv r j))) := List.getElem?_set_self (by
      unfold wipeE
      simp only [wipeE, List.length_set]
      exact h9)
    (repeat (first | simp only [e2, e9, warm_w ok (ok.mv30 (show j ≤ 6 by omega)) (show (0 : Int) < 1 by decide) (show (1 : Int).natAbs < 2 ^ 30 by decide)] | walk_at "gs")) <;> exact rfl)]
  rw [hm]
  rfl
theorem built_eq (S : Store) : f__law_built [t.told] S = .ok (.obj S.length) [none] (S ++ [t.hs.ob 0]) := by
  have m1 := ok.m1
  have m4 := ok.m4
  obtain ⟨ρ1, S1, e1, x4, x9, rfl, rfl⟩ := forL_tbl (v := 4) (b := b__law_built_2) (f := fun r => msD (t.marks r)) (fun k ρ S1 => ∃ x4 x9, ρ = [some t.told, some t.bD, some t.scD, some (.obj S.length), x4, none, none, none, none, x9] ∧ S ++ [(t.h0 k).ob 0] = S1) (m := t.many)
    (ρ := [some t.told, some t.bD, some t.scD, some (.obj S.length), none, none, none, none, none, none]) (S := S ++ [(t.h0 0).ob 0]) ⟨_, _, rfl, rfl⟩ (by
    rintro k hk ρ S1 ⟨x4, x9, rfl, rfl⟩
    have a : At (S ++ [(t.h0 k).ob 0]) S.length 0 (t.h0 k) := last_get
    have el := marks_lc ok (S := S ++ [(t.h0 k).ob 0]) (it := iSeq (eVar 4)) (r := k) (ρ := [some t.told, some t.bD, some t.scD, some (.obj S.length), some (msD (t.marks k)), none, none, none, none, x9]) rfl rfl (by show 9 < 10; decide)
    have er := room_step ok a hk
    rw [last_set] at er
    refine ⟨_, _, ?_, some (msD (t.marks k)), x9, rfl, rfl⟩
    simp only [u_b__law_built_2]
    (repeat (first | simp only [methK_o a (m := "put_room") rfl, el, er] | walk_at "gs")) <;> exact rfl)
  obtain ⟨ρ2, S2, e2, x5, x6, x7, x8, rfl, rfl⟩ := forL_range (v := 5) (b := b__law_built_4) (fun k ρ S2 => ∃ x5 x6 x7 x8, ρ = [some t.told, some t.bD, some t.scD, some (.obj S.length), x4, x5, x6, x7, x8, x9] ∧ S ++ [(t.hk k).ob 0] = S2) (m := t.many)
    (ρ := [some t.told, some t.bD, some t.scD, some (.obj S.length), x4, none, none, none, none, x9]) (S := S ++ [(t.h0 t.many).ob 0]) ⟨_, _, _, _, rfl, by rw [h0_hk]⟩ (by
    rintro k hk ρ S2 ⟨x5, x6, x7, x8, rfl, rfl⟩
    obtain ⟨ρ3, S3, e3, y8, rfl, rfl⟩ := forL_range (v := 8) (b := b__law_built_3) (fun o ρ S3 => ∃ x8, ρ = [some t.told, some t.bD, some t.scD, some (.obj S.length), x4, some (.int k), some (sky3 (t.sky k)), some (stv4 (t.stove k)), x8, x9] ∧ S ++ [(t.hj k o).ob 0] = S3) (m := t.many)
      (ρ := [some t.told, some t.bD, some t.scD, some (.obj S.length), x4, some (.int k), some (sky3 (t.sky k)), some (stv4 (t.stove k)), x8, x9]) (S := S ++ [(t.hj k 0).ob 0]) ⟨_, rfl, rfl⟩ (by
      rintro o ho ρ S3 ⟨x8, rfl, rfl⟩
      have a : At (S ++ [(t.hj k o).ob 0]) S.length 0 (t.hj k o) := last_get
      refine ⟨_, _, ?_, some (.int o), rfl, rfl⟩
      simp only [u_b__law_built_3]
      by_cases e : o = k
      · subst e
        (repeat (first | simp only [hj_same] | walk_at "gs")) <;> exact rfl
      · have ef := flow_step ok a hk ho e
        rw [last_set] at ef
        have er : ∀ S, f__law_ratio [.int (t.flow k o), .int 12] S = .ok (rD (t.fl k o)) [none, none] S := fun S => ratio_sm (by decide) (by decide) S
        (repeat (first | simp only [told_flows, ix_fl hk ho e, er, methK_o a (m := "put_flow") rfl, ef] | walk_at "gs")) <;> exact rfl)
    have a : At (S ++ [(t.hk k).ob 0]) S.length 0 (t.hk k) := last_get
    have es := sky_step ok a hk
    rw [last_set] at es
    have er : ∀ S, f__law_ratio [.int (t.sky k).1, .int 12] S = .ok (rD (t.sk k).1) [none, none] S := fun S => ratio_sm (by decide) (by decide) S
    have w1 : ∀ S, f__law_warm [.int (t.sky k).2.1, .int 1, t.scD] S = .ok (rD (t.sk k).2.1) [none, none, none] S := fun S => warm_w ok (ok.lo30 k).1 (by decide) (by decide) S
    have w2 : ∀ S, f__law_warm [.int (t.sky k).2.2, .int 1, t.scD] S = .ok (rD (t.sk k).2.2) [none, none, none] S := fun S => warm_w ok (ok.lo30 k).2 (by decide) (by decide) S
    have a2 : At (S ++ [((t.hk k).setSky k (t.sk k)).ob 0]) S.length 0 ((t.hk k).setSky k (t.sk k)) := last_get
    refine ⟨_, _, ?_, some (.int k), some (sky3 (t.sky k)), some (stv4 (t.stove k)), y8, rfl, rfl⟩
    simp only [u_b__law_built_4]
    (repeat (first | simp only [told_sky, ix_sk hk, sky_0, sky_1, sky_2, er, w1, w2, methK_o a (m := "put_sky") rfl, es, told_stoves, ix_st hk] | walk_at "gs"))
    cases hs : t.stove k with
    | none =>
      have hv : t.sv k = none := by unfold Td.sv; rw [hs]; rfl
      have e0 := hj_0 (t := t) k
      rw [← hk_stove_none (h := (t.hk k).setSky k (t.sk k)) rfl hv] at e0
      rw [hs] at e3
      rw [e0]
      (repeat (first | simp only [notN_stv0, told_marks, len_mk, e3, hj_next] | walk_at "gs")) <;> exact rfl
    | some q =>
      obtain ⟨q0, q1, q2, q3⟩ := q
      obtain ⟨⟨z0, z1⟩, ⟨z2, z3⟩, ⟨z4, z5⟩, ⟨z6, z7⟩⟩ := ok.st k q0 q1 q2 q3 hs
      obtain ⟨b1, b2, b3⟩ := ok.heat z0 z1
      have hv : some (rI (q0 * t.s0) t.s1, q1, q2, q3) = t.sv k := by unfold Td.sv; rw [hs]; rfl
      have ep := put_stove_eq (r := k) a2 hk b1 (by decide) b2 z2 z3 z4 z5 z6 z7
      rw [last_set, hk_stove (h := (t.hk k).setSky k (t.sk k)) rfl hv, hj_0] at ep
      have hm : hMul (.int q0) (.int t.s0) = some (.int (q0 * t.s0)) := hMul_bd (m := 30) (by omega) ok.s30.1 (by decide)
      have er : ∀ S, f__law_ratio [.int (q0 * t.s0), .int t.s1] S = .ok (rD (rI (q0 * t.s0) t.s1)) [none, none] S := fun S => ratio_sm ok.p1 (by have := ok.q1; omega) S
      rw [hs] at e3
      (repeat (first | simp only [notN_stv1, stv_0, stv_1, stv_2, stv_3, sc_0, sc_1, hm, er, methK_o a2 (m := "put_stove") rfl, ep, told_marks, len_mk, e3, hj_next] | walk_at "gs")) <;> exact rfl)
  have en := new_eq ok.b00 ok.b04 ok.b10 ok.b130 ok.b20 ok.b230 S
  rw [show Hs.none t.b0 t.b1 t.b2 = t.h0 0 from rfl] at en
  unfold f__law_built m__law_built
  (repeat (first | simp only [told_bounds, told_scale, bd_0, bd_1, bd_2, en, told_marks, seqK_mk, e1, len_mk, e2] | walk_at "gs")) <;> exact rfl
end
/-! ### marks, bands touched, between the bounds -/
theorem hList_rs {ms : List Rat} : hList (rsD ms) = some (rsD ms) := rfl
theorem len_rs {ms : List Rat} : hLen [rsD ms] = some (.int ms.length) := by unfold rsD; rw [hLen_lst, List.length_map]
theorem ix_rs {ms : List Rat} {b : Nat} (h : b < ms.length) : hIx (rsD ms) (.int b) = some (rD (ms.getD b 0)) := hIx_lst (by
  rw [List.getElem?_map, List.getElem?_eq_getElem h, List.getD_eq_getElem?_getD, List.getElem?_eq_getElem h]
  rfl)
theorem ix_rs_last {ms : List Rat} (h : 0 < ms.length) : hIx (rsD ms) (.int (-1)) = some (rD (ms.getD (ms.length - 1) 0)) := hIx_last (by
  intro e
  have := congrArg List.length e
  rw [List.length_map, List.length_nil] at this
  omega) (by
  rw [List.length_map, List.getElem?_map, List.getElem?_eq_getElem (by omega), List.getD_eq_getElem?_getD, List.getElem?_eq_getElem (by omega)]
  rfl)
theorem getD_mem {ms : List Rat} {b : Nat} (h : b < ms.length) : ms.getD b 0 ∈ ms := by
  rw [List.getD_eq_getElem?_getD, List.getElem?_eq_getElem h]
  exact List.getElem_mem h
theorem marks_eq {S : Store} {n r : Nat} {h : Hs} (a : At S n 0 h) (hr : r < h.many) : f_Hold__marks [.obj n, .int r] S = .ok (rsD (h.marks r)) [none, none] S := by
  have e := at1 (fm := fmL) (i := 0) (ρ := [some (.obj n), some (.int r)]) (r := r) (e := eVar 1) rfl a.marks rfl (tbl_get hr) fm_marks
  unfold f_Hold__marks m_Hold__marks
  (repeat (first | simp only [methK_o a (m := "ask_room") rfl, ask_eq a hr, e, hList_rs] | walk_at "gs")) <;> exact rfl
def nD (b : Nat) : D := .int b
def pBand (ms : List Rat) (lo hi : Rat) (b : Nat) : Bool := !decide (hi < ms.getD b 0) && !decide (ms.getD (b + 1) 0 < lo)
def touchL (ms : List Rat) (lo hi : Rat) (n : Nat) : List Nat := (List.range n).filter (pBand ms lo hi)
def inB (ms : List Rat) (lo hi : Rat) : Bool := !decide (lo < ms.getD 0 0) && !decide (ms.getD (ms.length - 1) 0 < hi)
theorem touchL_len {ms : List Rat} {lo hi : Rat} {n : Nat} : (touchL ms lo hi n).length ≤ n := by
  have := List.length_filter_le (pBand ms lo hi) (List.range n)
  rwa [List.length_range] at this
/-! ### a hold laid after another one -/
section
variable {g : Hs} {k : Nat} (G : g.Good k)
include G
theorem room_g {S : Store} {n i : Nat} (a : At S n 0 (g.st0 i)) (hi : i < g.many) : f_Hold__put_room [.obj n, rsD (g.marks i)] S = .ok (.int i) [none, none] (S.set n ((g.st0 (i + 1)).ob 0)) := by
  rw [← st0_add]
  exact put_room_eq (k := k) a (by show i < 4; have := G.m4; omega) (G.l2 i hi) (G.l7 i hi) (G.mb i hi) (by have := G.k5; omega) (G.rise i hi) (fun j hj => by
    have hj : j < i := hj
    show (if j < i then g.marks j else []).length ≤ 7
    rw [if_pos hj]
    exact G.l7 j (by omega)) (by
    unfold bandsOf
    rw [show (g.st0 i).many = i from rfl, tbl_congr (f := (g.st0 i).marks) (g := g.marks) (fun j hj => if_pos hj)]
    exact G.bands i hi)
theorem sky_g {S : Store} {n i st : Nat} (a : At S n 0 (g.stage i st i 0)) (hi : i < g.many) : f_Hold__put_sky [.obj n, .int i, rD (g.sky i).1, rD (g.sky i).2.1, rD (g.sky i).2.2] S = .ok .non [none, none, none, none, none] (S.set n ((g.stage (i + 1) st i 0).ob 0)) := by
  have k5 := G.k5
  rw [← stage_sky]
  exact put_sky_eq (k := k) a (stage_wf G (by omega)) hi (G.sb i hi) (G.lb i hi) (G.hb i hi) k5 (by have := G.s0 i hi; grind) (G.lh i hi) (by
    have e := taken_setSky (h := g.stage i st i 0) (r := i) (s := g.sky i)
    rw [← e, stage_sky]
    exact stage_taken G hi)
theorem flow_g {S : Store} {n i o sk st : Nat} (a : At S n 0 (g.stage sk st i o)) (hi : i < g.many) (ho : o < g.many) (hio : o ≠ i) : f_Hold__put_flow [.obj n, .int i, .int o, rD (g.flow i o)] S = .ok .non [none, none, none, none] (S.set n ((g.stage sk st i (o + 1)).ob 0)) := by
  have k5 := G.k5
  rw [← stage_flow hio]
  exact put_flow_eq (k := k) a (stage_wf G (by omega)) hi ho (Ne.symm hio) (G.fb i o hi ho) k5 (by have := G.f0 i o hi ho; grind) (by
    rw [← taken_setFlow (h := g.stage sk st i o) ho, stage_flow hio]
    exact stage_taken G hi)
theorem stove_g {S : Store} {n i sk a' b' : Nat} {q : Rat} {w s f : Int} (a : At S n 0 (g.stage sk i a' b')) (hi : i < g.many) (hs : g.stove i = some (q, w, s, f)) : f_Hold__put_stove [.obj n, .int i, rD q, .int w, .int s, .int f] S = .ok .non [none, none, none, none, none, none] (S.set n ((g.stage sk (i + 1) a' b').ob 0)) := by
  have k5 := G.k5
  obtain ⟨h1, h2, h3, h4, h5⟩ := G.st i q w s f hi hs
  rw [← stage_stove, hs]
  exact put_stove_eq (k := k) a hi h1 (by omega) h2 h3.1 h3.2 h4.1 h4.2 h5.1 h5.2
end
theorem isN_o : hIsN (oD none) .non = some (.bl true) := rfl
theorem isN_i {i : Int} : hIsN (.int i) .non = some (.bl false) := rfl
theorem isN_n : hIsN .non .non = some (.bl true) := rfl
theorem notN_stove0 : hNotN (stoveD none) .non = some (.bl false) := rfl
theorem notN_stove1 {q : Rat × Int × Int × Int} : hNotN (stoveD (some q)) .non = some (.bl true) := rfl
theorem sky_0s {s : Rat × Rat × Rat} : hIx (skyD s) (.int 0) = some (rD s.1) := hIxT0
theorem sto_0 {q : Rat} {w s f : Int} : hIx (stoveD (some (q, w, s, f))) (.int 0) = some (rD q) := hIxT0
theorem sto_1 {q : Rat} {w s f : Int} : hIx (stoveD (some (q, w, s, f))) (.int 1) = some (.int w) := hIxT1
theorem sto_2 {q : Rat} {w s f : Int} : hIx (stoveD (some (q, w, s, f))) (.int 2) = some (.int s) := hIxT2
theorem sto_3 {q : Rat} {w s f : Int} : hIx (stoveD (some (q, w, s, f))) (.int 3) = some (.int f) := hIxT3
theorem sky_1s {s : Rat × Rat × Rat} : hIx (skyD s) (.int 1) = some (rD s.2.1) := hIxT1
theorem sky_2s {s : Rat × Rat × Rat} : hIx (skyD s) (.int 2) = some (rD s.2.2) := hIxT2
theorem like_lay {S : Store} {n k : Nat} {h : Hs} (a : At S n 0 h) (G : h.Good k) {u v w : Int} (hu : 0 ≤ u ∧ u ≤ 4) (hv : 0 ≤ v ∧ v ≤ 30) (hw : 0 ≤ w ∧ w ≤ 30) (x4 x5 x6 x7 x8 : Option D) :
    ∃ x5 x6 x7 x8, (fSeq (fFor (iRange1 (lCons (eMeth "many" [(0, f_Hold__many)] [] (eVar 0) lNil) lNil)) (tfName 5) b_hold_like_1)
    (fSeq (fFor (iRange1 (lCons (eMeth "many" [(0, f_Hold__many)] [] (eVar 0) lNil) lNil)) (tfName 5) b_hold_like_3)
    (fRet (eVar 4)))) [some (.obj n), some (.int u), some (.int v), some (.int w), some (.obj S.length), none, none, none, none] (S ++ [((h.like u v w).st0 0).ob 0]) = .rt (.obj S.length) [some (.obj n), some (.int u), some (.int v), some (.int w), some (.obj S.length), x5, x6, x7, x8] (S ++ [(h.like u v w).ob 0]) := by
  have m4 := G.m4
  have k5 := G.k5
  have Gl := G.like hu hv hw
  have wf := stage_wf (sk := 0) (st := 0) (b := 0) G (Nat.zero_le _)
  have wfh : h.Wf k := ⟨G.m4, G.fb, G.sb⟩
  obtain ⟨ρ1, S1, e1, x5, rfl, rfl⟩ := forL_range (v := 5) (b := b_hold_like_1) (fun i ρ S1 => ∃ x5, ρ = [some (.obj n), some (.int u), some (.int v), some (.int w), some (.obj S.length), x5, none, none, none] ∧ S ++ [((h.like u v w).st0 i).ob 0] = S1) (m := h.many)
    (ρ := [some (.obj n), some (.int u), some (.int v), some (.int w), some (.obj S.length), none, none, none, none]) (S := S ++ [((h.like u v w).st0 0).ob 0]) ⟨_, rfl, rfl⟩ (by
    rintro i hi ρ S1 ⟨x5, rfl, rfl⟩
    have a1 : At (S ++ [((h.like u v w).st0 i).ob 0]) S.length 0 ((h.like u v w).st0 i) := last_get
    have a0 := a.app [((h.like u v w).st0 i).ob 0]
    have em := marks_eq a0 hi
    have er := room_g Gl a1 hi
    rw [last_set, show (h.like u v w).marks i = h.marks i from rfl] at er
    refine ⟨_, _, ?_, some (.int i), rfl, rfl⟩
    simp only [u_b_hold_like_1]
    (repeat (first | simp only [methK_o a0 (m := "marks") rfl, em, methK_o a1 (m := "put_room") rfl, er] | walk_at "gs")) <;> exact rfl)
  obtain ⟨ρ2, S2, e2, y5, y6, y7, y8, rfl, rfl⟩ := forL_range (v := 5) (b := b_hold_like_3) (fun i ρ S2 => ∃ x5 x6 x7 x8, ρ = [some (.obj n), some (.int u), some (.int v), some (.int w), some (.obj S.length), x5, x6, x7, x8] ∧ S ++ [((h.like u v w).stage i i i 0).ob 0] = S2) (m := h.many)
    (ρ := [some (.obj n), some (.int u), some (.int v), some (.int w), some (.obj S.length), x5, none, none, none]) (S := S ++ [((h.like u v w).st0 h.many).ob 0]) ⟨_, _, _, _, rfl, by rw [show h.many = (h.like u v w).many from rfl, st0_stage]⟩ (by
    rintro i hi ρ S2 ⟨x5, x6, x7, x8, rfl, rfl⟩
    obtain ⟨ρ3, S3, e3, y7, rfl, rfl⟩ := forL_range (v := 7) (b := b_hold_like_2) (fun o ρ S3 => ∃ x7, ρ = [some (.obj n), some (.int u), some (.int v), some (.int w), some (.obj S.length), some (.int i), some (skyD (h.sky i)), x7, x8] ∧ S ++ [((h.like u v w).stage (i + 1) i i o).ob 0] = S3) (m := h.many)
      (ρ := [some (.obj n), some (.int u), some (.int v), some (.int w), some (.obj S.length), some (.int i), some (skyD (h.sky i)), x7, x8]) (S := S ++ [((h.like u v w).stage (i + 1) i i 0).ob 0]) ⟨_, rfl, rfl⟩ (by
      rintro o ho ρ S3 ⟨x7, rfl, rfl⟩
      have a1 : At (S ++ [((h.like u v w).stage (i + 1) i i o).ob 0]) S.length 0 ((h.like u v w).stage (i + 1) i i o) := last_get
      have a0 := a.app [((h.like u v w).stage (i + 1) i i o).ob 0]
      refine ⟨_, _, ?_, some (.int o), rfl, rfl⟩
      simp only [u_b_hold_like_2]
      by_cases e : o = i
      · subst e
        (repeat (first | simp only [stage_same] | walk_at "gs")) <;> exact rfl
      · have es := share_eq a0 wfh (by omega) hi ho
        rw [if_neg (Ne.symm e)] at es
        have ef := flow_g Gl a1 hi ho e
        rw [last_set, show (h.like u v w).flow i o = h.flow i o from rfl] at ef
        (repeat (first | simp only [methK_o a0 (m := "share") rfl, es, methK_o a1 (m := "put_flow") rfl, ef] | walk_at "gs")) <;> exact rfl)
    have a1 : At (S ++ [((h.like u v w).stage i i i 0).ob 0]) S.length 0 ((h.like u v w).stage i i i 0) := last_get
    have a0 := a.app [((h.like u v w).stage i i i 0).ob 0]
    have a2 := a.app [((h.like u v w).stage (i + 1) i i 0).ob 0]
    have a3 := a.app [((h.like u v w).stage (i + 1) i i h.many).ob 0]
    have a4 : At (S ++ [((h.like u v w).stage (i + 1) i (i + 1) 0).ob 0]) S.length 0 ((h.like u v w).stage (i + 1) i (i + 1) 0) := last_get
    have a5 := a.app [((h.like u v w).stage (i + 1) i (i + 1) 0).ob 0]
    have ek := sky_eq a0 hi
    have es := sky_g Gl a1 hi
    rw [last_set, show (h.like u v w).sky i = h.sky i from rfl] at es
    have em := many_eq a2
    have et := stove_eq a5 hi
    have en := stage_next (g := h.like u v w) (sk := i + 1) (st := i) (k := i)
    rw [show (h.like u v w).many = h.many from rfl] at en
    refine ⟨_, _, ?_, some (.int i), some (skyD (h.sky i)), y7, some (stoveD (h.stove i)), rfl, rfl⟩
    simp only [u_b_hold_like_3]
    cases hs : h.stove i with
    | none =>
      rw [hs] at et
      have e0 := stage_stove0 (g := h.like u v w) (sk := i + 1) (k := i) (a := i + 1) (b := 0) hs
      rw [← e0]
      (repeat (first | simp only [methK_o a0 (m := "sky") rfl, ek, sky_0s, sky_1s, sky_2s, methK_o a1 (m := "put_sky") rfl, es, methK_o a2 (m := "many") rfl, em, e3, en, methK_o a5 (m := "stove") rfl, et, notN_stove0] | walk_at "gs")) <;> exact rfl
    | some q =>
      obtain ⟨q, z0, z1, z2⟩ := q
      rw [hs] at et
      have ep := stove_g Gl a4 hi hs
      rw [last_set] at ep
      (repeat (first | simp only [methK_o a0 (m := "sky") rfl, ek, sky_0s, sky_1s, sky_2s, methK_o a1 (m := "put_sky") rfl, es, methK_o a2 (m := "many") rfl, em, e3, en, methK_o a5 (m := "stove") rfl, et, notN_stove1, sto_0, sto_1, sto_2, sto_3, methK_o a4 (m := "put_stove") rfl, ep] | walk_at "gs")) <;> exact rfl)
  have b0 := a.app [((h.like u v w).st0 0).ob 0]
  have b1 := a.app [((h.like u v w).st0 h.many).ob 0]
  have em0 := many_eq b0
  have em1 := many_eq b1
  have ee := stage_end Gl (c := 0)
  rw [show (h.like u v w).many = h.many from rfl] at ee
  refine ⟨y5, y6, y7, y8, ?_⟩
  (repeat (first | simp only [methK_o b0 (m := "many") rfl, em0, e1, methK_o b1 (m := "many") rfl, em1, e2, ee] | walk_at "gs")) <;> exact rfl
theorem like_eq {S : Store} {n k : Nat} {h : Hs} (a : At S n 0 h) (G : h.Good k) (u v w : Option Int) (hu : ∀ i ∈ u, 0 ≤ i ∧ i ≤ 4) (hv : ∀ i ∈ v, 0 ≤ i ∧ i ≤ 30) (hw : ∀ i ∈ w, 0 ≤ i ∧ i ≤ 30) :
    f_hold_like [.obj n, oD u, oD v, oD w] S = .ok (.obj S.length) [none, none, none, none] (S ++ [(h.like (u.getD h.most) (v.getD h.cap) (w.getD h.load)).ob 0]) := by
  have f0 : fldK fmL [0] "most" (.obj n) S = .ok (.int h.most) S := fldK_of a.most rfl
  have f1 : fldK fmL [0] "cap" (.obj n) S = .ok (.int h.cap) S := fldK_of a.cap rfl
  have f2 : fldK fmL [0] "load" (.obj n) S = .ok (.int h.load) S := fldK_of a.load rfl
  have bu : 0 ≤ u.getD h.most ∧ u.getD h.most ≤ 4 := by cases u with | none => exact G.b0 | some i => exact hu i rfl
  have bv : 0 ≤ v.getD h.cap ∧ v.getD h.cap ≤ 30 := by cases v with | none => exact G.b1 | some i => exact hv i rfl
  have bw : 0 ≤ w.getD h.load ∧ w.getD h.load ≤ 30 := by cases w with | none => exact G.b2 | some i => exact hw i rfl
  have en := new_eq bu.1 bu.2 bv.1 bv.2 bw.1 bw.2 S
  obtain ⟨x5, x6, x7, x8, el⟩ := like_lay a G bu bv bw none none none none none
  rw [show Hs.none (u.getD h.most) (v.getD h.cap) (w.getD h.load) = (h.like (u.getD h.most) (v.getD h.cap) (w.getD h.load)).st0 0 from rfl] at en
  unfold f_hold_like m_hold_like
  generalize hR : (fSeq (fFor _ (tfName 5) b_hold_like_1) _) = R at el ⊢
  generalize h.like (u.getD h.most) (v.getD h.cap) (w.getD h.load) = h' at en el
  cases u <;> cases v <;> cases w <;> simp only [oD, Option.getD_none, Option.getD_some] at en el ⊢ <;> (repeat (first | simp only [f0, f1, f2, isN_i, isN_n, en, el] | walk_at "gs")) <;> exact rfl
/-! ### the law -/
theorem tbl3 {α : Type} {f : Nat → α} : tbl 3 f = [f 0, f 1, f 2] := rfl
theorem seen_eq {S : Store} {n k : Nat} {h : Hs} (a : At S n 0 h) (wf : h.Wf k) (hk : k ≤ 1000) : f__law_seen [.obj n] S = .ok (.lst (h.seenL h.many)) [none] S := by
  have m4 := wf.m4
  have em := many_eq a
  obtain ⟨ρ1, S1, e1, x2, x3, rfl, rfl⟩ := forL_range (v := 2) (b := b__law_seen_2) (fun i ρ S1 => ∃ x2 x3, ρ = [some (.obj n), some (.lst (h.seenL i)), x2, x3] ∧ S = S1) (m := h.many)
    (ρ := [some (.obj n), some (.lst [.int h.many]), none, none]) (S := S) ⟨_, _, rfl, rfl⟩ (by
    rintro i hi ρ S1 ⟨x2, x3, rfl, rfl⟩
    have e1 := marks_eq a hi
    have e2 := sky_eq a hi
    have e3 := stove_eq a hi
    have es : ∀ x1, eLc (iRange1 (lCons (eMeth "many" [(0, f_Hold__many)] [] (eVar 0) lNil) lNil)) [3] (tfName 3) (eC (.bl true)) e__law_seen_1 [some (.obj n), x1, some (.int i), x3] S = .ok (h.sharesD i) S := fun x1 => eLc_range (m := h.many) _ (by
      (repeat (first | simp only [methK_o a (m := "many") rfl, em] | walk_at "gs")) <;> exact rfl) (by omega) (fun j hj => by
      have e := share_eq a wf hk hi hj
      rw [show (if i = j then 1 - h.taken i else h.flow i j) = h.part i j from rfl] at e
      simp only [u_e__law_seen_1, wipeE]
      (repeat (first | simp only [methK_o a (m := "share") rfl, e] | walk_at "gs")) <;> exact rfl)
    have l1 := seenL_len (h := h) i
    refine ⟨_, _, ?_, some (.int i), x3, rfl, rfl⟩
    simp only [u_b__law_seen_2]
    (repeat (first | simp only [methK_o a (m := "marks") rfl, e1, methK_o a (m := "sky") rfl, e2, methK_o a (m := "stove") rfl, e3, mAppend_lt (l := h.seenL i) (by omega), es, mAppend_lt (l := h.seenL i ++ [h.roomD i]) (d := h.sharesD i) (by rw [List.length_append, List.length_singleton]; omega), show D.tup [rsD (h.marks i), skyD (h.sky i), stoveD (h.stove i)] = h.roomD i from rfl] | walk_at "gs")) <;> exact rfl)
  unfold f__law_seen m__law_seen
  (repeat (first | simp only [methK_o a (m := "many") rfl, em, e1] | walk_at "gs")) <;> exact rfl
theorem bounds_eq {S : Store} {n : Nat} {h : Hs} (a : At S n 0 h) : f__law_bounds [.obj n] S = .ok (.tup [.int h.most, .int h.cap, .int h.load]) [none] S := by
  have f0 : fldK fmL [0] "most" (.obj n) S = .ok (.int h.most) S := fldK_of a.most rfl
  have f1 : fldK fmL [0] "cap" (.obj n) S = .ok (.int h.cap) S := fldK_of a.cap rfl
  have f2 : fldK fmL [0] "load" (.obj n) S = .ok (.int h.load) S := fldK_of a.load rfl
  unfold f__law_bounds m__law_bounds
  (repeat (first | simp only [f0, f1, f2] | walk_at "gs")) <;> exact rfl
theorem rb30 {a : Int} (h : a.natAbs < 2 ^ 30) : rb 91 (rI a 1) := rb_rI (by decide) (bd_mono h (by decide)) (by decide)
theorem changed_eq {S : Store} {n : Nat} {h : Hs} (a : At S n 0 h) (G : h.Good 91) (m1 : 1 ≤ h.many) (qf : ∀ i j, i < h.many → j < h.many → h.flow i j ≤ rI 1 4) (hb : h.many < 4 → bandsOf h [0, 1] ≤ 400) (c : Int) :
    ∃ h' : Hs, f__law_changed [.obj n, .int c] S = .ok .non [none, none] (S.set n (h'.ob 0)) ∧ h'.most = h.most ∧ h'.cap = h.cap ∧ h'.load = h.load := by
  have m4 := G.m4
  have em := many_eq a
  have w := pick_lt (c := c) (k := 3) (m := 4) (by decide)
  have hp := pick_lt (c := c) (k := 4) (m := (h.many : Int)) (by omega)
  obtain ⟨r, er⟩ := Int.eq_ofNat_of_zero_le hp.1
  have er : pick c 4 (h.many : Int) = (r : Int) := er
  have hr : r < h.many := by omega
  have wf : h.Wf 91 := ⟨m4, G.fb, G.sb⟩
  by_cases c0 : pick c 3 4 = 0 ∧ h.many < 4
  · have ep := put_room_eq (k := 1) (ms := [0, 1]) a c0.2 (by decide) (by decide) (fun q hq => by
      rcases List.mem_cons.mp hq with e | e
      · rw [e]; exact rb_0
      · rw [List.mem_singleton.mp e]; exact rb_1) (by decide) lt01 G.l7 (hb c0.2)
    refine ⟨h.add [0, 1], ?_, rfl, rfl, rfl⟩
    unfold f__law_changed m__law_changed
    (repeat (first | simp only [methK_o a (m := "many") rfl, em, er, c0.1, two_marks, methK_o a (m := "put_room") rfl, ep] | walk_at "gs")) <;> exact rfl
  · by_cases c1 : pick c 3 4 = 1 ∧ 1 < h.many
    · obtain ⟨o, eo, ho, hro⟩ : ∃ o : Nat, ((r : Int) + 1) % h.many = (o : Int) ∧ o < h.many ∧ r ≠ o := by
        refine ⟨(r + 1) % h.many, by rw [Int.natCast_emod]; rfl, Nat.mod_lt _ (by omega), ?_⟩
        by_cases e : r + 1 = h.many
        · rw [e, Nat.mod_self]; omega
        · rw [Nat.mod_eq_of_lt (by omega)]; omega
      have ef := put_flow_eq (k := 91) (q := 0) a wf hr ho hro (rb_mono rb_0 (by decide)) (by decide) (by decide) (by
        have h1 := G.t1 r hr
        have h2 := G.f0 r o hr ho
        grind)
      have a2 : At (S.set n ((h.setFlow r o 0).ob 0)) n 0 (h.setFlow r o 0) := a.set
      have wf2 : (h.setFlow r o 0).Wf 91 := ⟨m4, fun i j hi hj => by
        show rb 91 (if i = r then (if j = o then 0 else h.flow i j) else h.flow i j)
        split
        · split
          · exact rb_mono rb_0 (by decide)
          · exact G.fb i j hi hj
        · exact G.fb i j hi hj, G.sb⟩
      have es := put_sky_eq (r := r) (k := 91) (q := rI 1 4) (lo := rI 7 3) (hi := rI 8 3) a2 wf2 hr (rb_rI (by decide) (by decide) (by decide)) (rb_rI (by decide) (by decide) (by decide)) (rb_rI (by decide) (by decide) (by decide)) (by decide) (by have := rI_nonneg (a := 1) (w := 4) (by decide) (by decide); grind) (by
        have := rI_le (a := 7) (w := 3) (c := 8) (d := 3) (by decide) (by decide) (by decide)
        grind) (by
        have e := taken_setSky (h := h.setFlow r o 0) (r := r) (s := (rI 1 4, rI 7 3, rI 8 3))
        rw [← e]
        refine taken_le m4 hr ?_ (fun j hj => ?_) ?_
        · show (if r = r then (rI 1 4, rI 7 3, rI 8 3) else h.sky r).1 ≤ _
          rw [if_pos rfl]
          exact Rat.le_refl
        · show (if r = r then (if j = o then 0 else h.flow r j) else h.flow r j) ≤ _
          rw [if_pos rfl]
          split
          · exact rI_nonneg (by decide) (by decide)
          · exact qf r j hr hj
        · show (if r = r then (if r = o then 0 else h.flow r r) else h.flow r r) = 0
          rw [if_pos rfl, if_neg hro]
          exact G.fs r hr)
      rw [List.set_set] at es
      have em2 := em
      refine ⟨(h.setFlow r o 0).setSky r (rI 1 4, rI 7 3, rI 8 3), ?_, rfl, rfl, rfl⟩
      have d14 : D.tup [.int 1, .int 4] = rD (rI 1 4) := rD_lit (by decide) (by decide)
      have d73 : D.tup [.int 7, .int 3] = rD (rI 7 3) := rD_lit (by decide) (by decide)
      have d83 : D.tup [.int 8, .int 3] = rD (rI 8 3) := rD_lit (by decide) (by decide)
      unfold f__law_changed m__law_changed
      (repeat (first | simp only [methK_o a (m := "many") rfl, em, er, c1.1, eo, rD_0, d14, d73, d83, methK_o a (m := "put_flow") rfl, ef, methK_o a2 (m := "put_sky") rfl, es] | walk_at "gs")) <;> exact rfl
    · by_cases c2 : pick c 3 4 = 2
      · have hc0 := Int.emod_nonneg c (show (100 : Int) ≠ 0 by decide)
        have hc1 := Int.emod_lt_of_pos c (show (0 : Int) < 100 by decide)
        have es := put_sky_eq (r := r) (k := 91) (q := 0) (lo := rI (c % 100) 1) (hi := rI (c % 100 + 1) 1) a wf hr (rb_mono rb_0 (by decide)) (rb30 (by omega)) (rb30 (by omega)) (by decide) (by decide) (rI_lt1 (by omega)) (by
          have h1 := G.t1 r hr
          have h2 := G.s0 r hr
          grind)
        refine ⟨h.setSky r (0, rI (c % 100) 1, rI (c % 100 + 1) 1), ?_, rfl, rfl, rfl⟩
        unfold f__law_changed m__law_changed
        (repeat (first | simp only [methK_o a (m := "many") rfl, em, er, c2, rD_one, rI_zero, methK_o a (m := "put_sky") rfl, es] | walk_at "gs")) <;> exact rfl
      · have hc0 := Int.emod_nonneg c (show (1000000000 : Int) ≠ 0 by decide)
        have hc1 := Int.emod_lt_of_pos c (show (0 : Int) < 1000000000 by decide)
        have es := put_stove_eq (r := r) (k := 91) (q := rI (1 + c % 1000000000) 1) (w := 3) (s := 0) (f := 0) a hr (rb30 (by omega)) (by decide) (by have := rI_nonneg (a := 1 + c % 1000000000) (w := 1) (by omega) (by decide); grind) (by decide) (by decide) (by decide) (by decide) (by decide) (by decide)
        refine ⟨h.setStove r (some (rI (1 + c % 1000000000) 1, 3, 0, 0)), ?_, rfl, rfl, rfl⟩
        have c3 : pick c 3 4 = 3 ∨ (pick c 3 4 = 0 ∧ ¬ h.many < 4) ∨ (pick c 3 4 = 1 ∧ ¬ 1 < h.many) := by omega
        unfold f__law_changed m__law_changed
        rcases c3 with c3 | ⟨c3, c4⟩ | ⟨c3, c4⟩ <;> (repeat (first | simp only [methK_o a (m := "many") rfl, em, er, c3, hPow_9, rD_one, methK_o a (m := "put_stove") rfl, es] | walk_at "gs")) <;> exact rfl
theorem bands_all {t : Td} (ok : t.Ok) (h4 : t.many < 4) : (tbl t.many t.mks).foldl (fun z q => z * ((q.length : Int) - 1)) ((([0, 1] : List Rat).length : Int) - 1) ≤ 400 := by
  have e : ∀ r, (((t.mks r).length : Nat) : Int) - 1 = t.nb r := fun r => by
    have : (t.mks r).length = t.nb r + 1 := tbl_len
    omega
  have m1 := ok.m1
  have h1 : ∀ r, (1 : Int) ≤ t.nb r := fun r => by have := ok.nb1 r; omega
  have h6 : ∀ r, (t.nb r : Int) ≤ (if t.many ≤ 2 then 6 else 4) := fun r => by
    have := ok.nb6 r
    split at this <;> rename_i h <;> simp only [h, if_true, if_false] <;> omega
  have mm : ∀ a b c d : Int, 0 ≤ a → 0 ≤ b → a ≤ c → b ≤ d → a * b ≤ c * d ∧ 0 ≤ a * b := fun a b c d ha hb hc hd => ⟨Int.mul_le_mul hc hd hb (by omega), Int.mul_nonneg ha hb⟩
  have a0 := h1 0; have a1 := h1 1; have a2 := h1 2
  have b0 := h6 0; have b1 := h6 1; have b2 := h6 2
  have hn4 : t.many = 1 ∨ t.many = 2 ∨ t.many = 3 := by omega
  rcases hn4 with h | h | h <;> rw [h] <;> simp only [h] at b0 b1 b2
  · show (((([0, 1] : List Rat).length : Int) - 1) * (((t.mks 0).length : Int) - 1)) ≤ 400
    rw [e]
    show ((2 : Int) - 1) * t.nb 0 ≤ 400
    simp at b0
    omega
  · show (((([0, 1] : List Rat).length : Int) - 1) * (((t.mks 0).length : Int) - 1) * (((t.mks 1).length : Int) - 1)) ≤ 400
    rw [e, e]
    show ((2 : Int) - 1) * t.nb 0 * t.nb 1 ≤ 400
    simp at b0 b1
    have := mm _ _ _ _ (by omega) (by omega) b0 b1
    rw [show ((2 : Int) - 1) * t.nb 0 = t.nb 0 by omega]
    omega
  · show (((([0, 1] : List Rat).length : Int) - 1) * (((t.mks 0).length : Int) - 1) * (((t.mks 1).length : Int) - 1) * (((t.mks 2).length : Int) - 1)) ≤ 400
    rw [e, e, e]
    show ((2 : Int) - 1) * t.nb 0 * t.nb 1 * t.nb 2 ≤ 400
    simp at b0 b1 b2
    have u := mm _ _ _ _ (by omega) (by omega) b0 b1
    have := mm _ _ _ _ (by omega) (by omega) u.1 b2
    rw [show ((2 : Int) - 1) * t.nb 0 = t.nb 0 by omega]
    omega
theorem law_eq (ns : List Int) (hl : ns.length ≤ 63) (hz : ∀ z ∈ ns, Builtin.Int.intBits z ≤ 1048576) : ∃ outs S', f_law [.scr (ns.map .int)] [] = .ok (.bl true) outs S' := by
  have ok := tdOf_ok (cellAt ns 0) (cellAt ns 1) (cellAt ns 2) (cellAt ns 3)
  have ed := drawn_eq ns []
  generalize tdOf (cellAt ns 0) (cellAt ns 1) (cellAt ns 2) (cellAt ns 3) = t at ok ed
  have eb := built_eq ok []
  have eb : ∀ S, S = [] → f__law_built [t.told] S = .ok (.obj 0) [none] [t.hs.ob 0] := fun S e => by subst e; exact eb
  have e4 : ∀ S, f__law_cell_at [.scr (ns.map .int), .int 4] S = .ok (.int (cellAt ns 4)) [none, none] S := fun S => cell_scr ns 4 S
  have e5 : ∀ S, f__law_cell_at [.scr (ns.map .int), .int 5] S = .ok (.int (cellAt ns 5)) [none, none] S := fun S => cell_scr ns 5 S
  generalize cellAt ns 4 = c4 at e4
  generalize cellAt ns 5 = c5 at e5
  have px := pick_lt (c := c4) (k := 5) (m := 5) (by decide)
  have py := pick_lt (c := c4) (k := 6) (m := 31) (by decide)
  have pz := pick_lt (c := c4) (k := 7) (m := 31) (by decide)
  have pa := pick_lt (c := c4) (k := 12) (m := 3) (by decide)
  generalize hx : pick c4 5 5 = x at px
  generalize hy : pick c4 6 31 = y' at py
  generalize hzz : pick c4 7 31 = z at pz
  obtain ⟨at', ea⟩ := Int.eq_ofNat_of_zero_le pa.1
  have ea : pick c4 12 3 = (at' : Int) := ea
  have hat : at' < 3 := by omega
  have G := ok.good
  have wf : t.hs.Wf 91 := ⟨G.m4, G.fb, G.sb⟩
  obtain ⟨u, hu⟩ : ∃ u : Option Int, u = if (pick c4 8 2 == 0) = true then none else some x := ⟨_, rfl⟩
  obtain ⟨v, hv⟩ : ∃ v : Option Int, v = if (pick c4 9 2 == 0) = true then none else some y' := ⟨_, rfl⟩
  obtain ⟨w, hw⟩ : ∃ w : Option Int, w = if (pick c4 10 2 == 0) = true then none else some z := ⟨_, rfl⟩
  have el : eLc (iRange1 (lCons (eC (.int 3)) lNil)) [14] (tfName 14) (eC (.bl true)) e_law_1 [some (.scr (ns.map .int)), some t.told, some (.int c4), some (.obj 0), some (.lst [.int x, .int y', .int z]), none, none, none, none, none, none, none, none, none, none] [t.hs.ob 0] = .ok (.lst [.bl (pick c4 8 2 == 0), .bl (pick c4 9 2 == 0), .bl (pick c4 10 2 == 0)]) [t.hs.ob 0] := by
    rw [eLc_range (m := 3) (S1 := [t.hs.ob 0]) (fun j => .bl (pick c4 (8 + (j : Nat)) 2 == 0)) (by (repeat (walk_at "gs")) <;> exact rfl) (by decide) (fun j hj => by
      simp only [u_e_law_1, wipeE]
      (repeat (walk_at "gs")) <;> exact rfl), tbl3]
    rfl
  have eh : eLc (iRange1 (lCons (eC (.int 3)) lNil)) [14] (tfName 14) (eC (.bl true)) e_law_2 [some (.scr (ns.map .int)), some t.told, some (.int c4), some (.obj 0), some (.lst [.int x, .int y', .int z]), some (.lst [.bl (pick c4 8 2 == 0), .bl (pick c4 9 2 == 0), .bl (pick c4 10 2 == 0)]), none, none, none, none, none, none, none, none, none] [t.hs.ob 0] = .ok (.lst [oD u, oD v, oD w]) [t.hs.ob 0] := by
    rw [eLc_range (m := 3) (S1 := [t.hs.ob 0]) (fun j => if j = 0 then oD u else if j = 1 then oD v else oD w) (by (repeat (walk_at "gs")) <;> exact rfl) (by decide) (fun j hj => by
      have : j = 0 ∨ j = 1 ∨ j = 2 := by omega
      simp only [u_e_law_2, wipeE]
      rcases this with e | e | e <;> subst e
      · rw [hu]; cases (pick c4 8 2 == 0) <;> (repeat (walk_at "gs")) <;> exact rfl
      · rw [hv]; cases (pick c4 9 2 == 0) <;> (repeat (walk_at "gs")) <;> exact rfl
      · rw [hw]; cases (pick c4 10 2 == 0) <;> (repeat (walk_at "gs")) <;> exact rfl), tbl3]
    rfl
  have edu : eLc (iRange1 (lCons (eC (.int 3)) lNil)) [14] (tfName 14) (eC (.bl true)) e_law_3 [some (.scr (ns.map .int)), some t.told, some (.int c4), some (.obj 0), some (.lst [.int x, .int y', .int z]), some (.lst [.bl (pick c4 8 2 == 0), .bl (pick c4 9 2 == 0), .bl (pick c4 10 2 == 0)]), some (.lst [oD u, oD v, oD w]), none, none, none, none, none, none, none, none] [t.hs.ob 0] = .ok (.lst [.int (u.getD t.b0), .int (v.getD t.b1), .int (w.getD t.b2)]) [t.hs.ob 0] := by
    rw [eLc_range (m := 3) (S1 := [t.hs.ob 0]) (fun j => if j = 0 then .int (u.getD t.b0) else if j = 1 then .int (v.getD t.b1) else .int (w.getD t.b2)) (by (repeat (walk_at "gs")) <;> exact rfl) (by decide) (fun j hj => by
      have : j = 0 ∨ j = 1 ∨ j = 2 := by omega
      simp only [u_e_law_3, wipeE]
      rcases this with e | e | e <;> subst e
      · rw [hu]; cases (pick c4 8 2 == 0) <;> (repeat (first | simp only [told_bounds, bd_0] | walk_at "gs")) <;> exact rfl
      · rw [hv]; cases (pick c4 9 2 == 0) <;> (repeat (first | simp only [told_bounds, bd_1] | walk_at "gs")) <;> exact rfl
      · rw [hw]; cases (pick c4 10 2 == 0) <;> (repeat (first | simp only [told_bounds, bd_2] | walk_at "gs")) <;> exact rfl), tbl3]
    rfl
  have bu : ∀ i ∈ u, 0 ≤ i ∧ i ≤ 4 := fun i hi => by
    rw [hu] at hi
    split at hi
    · cases hi
    · cases hi; omega
  have bv : ∀ i ∈ v, 0 ≤ i ∧ i ≤ 30 := fun i hi => by
    rw [hv] at hi
    split at hi
    · cases hi
    · cases hi; omega
  have bw : ∀ i ∈ w, 0 ≤ i ∧ i ≤ 30 := fun i hi => by
    rw [hw] at hi
    split at hi
    · cases hi
    · cases hi; omega
  have a0 : At [t.hs.ob 0] 0 0 t.hs := rfl
  have l1 := like_eq a0 G u v w bu bv bw
  have bu' : 0 ≤ u.getD t.hs.most ∧ u.getD t.hs.most ≤ 4 := by cases u with | none => exact G.b0 | some i => exact bu i rfl
  have bv' : 0 ≤ v.getD t.hs.cap ∧ v.getD t.hs.cap ≤ 30 := by cases v with | none => exact G.b1 | some i => exact bv i rfl
  have bw' : 0 ≤ w.getD t.hs.load ∧ w.getD t.hs.load ≤ 30 := by cases w with | none => exact G.b2 | some i => exact bw i rfl
  have G1 := G.like bu' bv' bw'
  generalize hh1 : t.hs.like (u.getD t.hs.most) (v.getD t.hs.cap) (w.getD t.hs.load) = h1 at l1 G1
  have q1 : h1.most = u.getD t.b0 ∧ h1.cap = v.getD t.b1 ∧ h1.load = w.getD t.b2 := by subst hh1; exact ⟨rfl, rfl, rfl⟩
  have s1 : h1.seenL h1.many = t.hs.seenL t.hs.many := by subst hh1; exact seenL_like _
  have m1 : h1.many = t.many := by subst hh1; rfl
  have a1 : At [t.hs.ob 0, h1.ob 0] 1 0 h1 := rfl
  have l2 := like_eq a1 G1 none none none (fun _ h => by cases h) (fun _ h => by cases h) (fun _ h => by cases h)
  have a2 : At [t.hs.ob 0, h1.ob 0, h1.ob 0] 0 0 t.hs := rfl
  have l3 := like_eq a2 G (some x) none none (fun i h => by cases h; omega) (fun _ h => by cases h) (fun _ h => by cases h)
  simp only [Option.getD_none, Option.getD_some] at l3
  generalize hh3 : t.hs.like x t.hs.cap t.hs.load = h3 at l3
  have q3 : h3.most = x ∧ h3.cap = t.b1 ∧ h3.load = t.b2 := by subst hh3; exact ⟨rfl, rfl, rfl⟩
  have s3 : h3.seenL h3.many = t.hs.seenL t.hs.many := by subst hh3; exact seenL_like _
  have wf3 : h3.Wf 91 := by subst hh3; exact ⟨wf.m4, wf.bf, wf.bs⟩
  have wf1 : h1.Wf 91 := ⟨G1.m4, G1.fb, G1.sb⟩
  have l1 : f_hold_like [.obj 0, oD u, oD v, oD w] [t.hs.ob 0] = .ok (.obj 1) [none, none, none, none] [t.hs.ob 0, h1.ob 0] := l1
  have l2 : f_hold_like [.obj 1, .non, .non, .non] [t.hs.ob 0, h1.ob 0] = .ok (.obj 2) [none, none, none, none] [t.hs.ob 0, h1.ob 0, h1.ob 0] := l2
  have l3 : f_hold_like [.obj 0, .int x, .non, .non] [t.hs.ob 0, h1.ob 0, h1.ob 0] = .ok (.obj 3) [none, none, none, none] [t.hs.ob 0, h1.ob 0, h1.ob 0, h3.ob 0] := l3
  generalize hS : [t.hs.ob 0, h1.ob 0, h1.ob 0, h3.ob 0] = S at l3
  have A0 : At S 0 0 t.hs := by subst hS; rfl
  have A1 : At S 1 0 h1 := by subst hS; rfl
  have A2 : At S 2 0 h1 := by subst hS; rfl
  have A3 : At S 3 0 h3 := by subst hS; rfl
  have e0 := seen_eq a0 wf (by decide)
  have z0 := fun T (B : At T 0 0 t.hs) => seen_eq B wf (by decide)
  have z1 := seen_eq A1 wf1 (by decide)
  have z2 := seen_eq A2 wf1 (by decide)
  have z3 := seen_eq A3 wf3 (by decide)
  rw [s1] at z1 z2
  rw [s3] at z3
  have b0 := bounds_eq A0
  have b1 := bounds_eq A1
  have b2 := bounds_eq A2
  have b3 := bounds_eq A3
  rw [q1.1, q1.2.1, q1.2.2] at b1 b2
  rw [q3.1, q3.2.1, q3.2.2] at b3
  have nbd : ∀ a b c : Int, hNe (.tup [.int a, .int b, .int c]) (.tup [.int a, .int b, .int c]) = some (.bl false) := fun a b c => hNe_t (plD_tup fun d hd => by
    simp only [List.mem_cons, List.not_mem_nil, or_false] at hd
    rcases hd with e | e | e <;> rw [e] <;> exact plD_int)
  have ebd : ∀ a b c : Int, hEq (.tup [.int a, .int b, .int c]) (.tup [.int a, .int b, .int c]) = some (.bl true) := fun a b c => hEq_t (plD_tup fun d hd => by
    simp only [List.mem_cons, List.not_mem_nil, or_false] at hd
    rcases hd with e | e | e <;> rw [e] <;> exact plD_int)
  have bDe : t.bD = D.tup [.int t.b0, .int t.b1, .int t.b2] := rfl
  have hmst : t.hs.most = t.b0 := rfl
  have hcap : t.hs.cap = t.b1 := rfl
  have hlod : t.hs.load = t.b2 := rfl
  rw [hmst, hcap, hlod] at b0
  have hbd : t.hs.many < 4 → bandsOf t.hs [0, 1] ≤ 400 := fun h => by
    unfold bandsOf
    rw [show t.hs.many = t.many from rfl, tbl_congr (f := t.hs.marks) (g := t.mks) (fun r hr => hs_marks hr)]
    exact bands_all ok h
  have hqf : ∀ i j, i < t.hs.many → j < t.hs.many → t.hs.flow i j ≤ rI 1 4 := fun i j hi hj => by
    rw [hs_flow hi hj]
    exact ok.share_le (ok.off3 i j)
  have htup : ∀ l, hTuple (.lst l) = some (.tup l) := fun _ => rfl
  have hidx : ∀ k : Nat, k < 3 → hIx (.lst [.obj 0, .obj 1, .obj 2]) (.int k) = some (.obj k) := fun k hk => by
    have : k = 0 ∨ k = 1 ∨ k = 2 := by omega
    rcases this with e | e | e <;> subst e
    · exact hIxL0
    · exact hIxL1
    · exact hIxL2
  obtain ⟨Ha, ha1, ha2, ha3, ha4, ha5, ha6⟩ : ∃ Ha : Hs, At S at' 0 Ha ∧ Ha.Good 91 ∧ 1 ≤ Ha.many ∧ (∀ i j, i < Ha.many → j < Ha.many → Ha.flow i j ≤ rI 1 4) ∧ (Ha.many < 4 → bandsOf Ha [0, 1] ≤ 400) ∧ hIx (.lst [.tup [.int t.b0, .int t.b1, .int t.b2], .tup [.int (u.getD t.b0), .int (v.getD t.b1), .int (w.getD t.b2)], .tup [.int (u.getD t.b0), .int (v.getD t.b1), .int (w.getD t.b2)]]) (.int at') = some (.tup [.int Ha.most, .int Ha.cap, .int Ha.load]) := by
    have : at' = 0 ∨ at' = 1 ∨ at' = 2 := by omega
    rcases this with e | e | e <;> subst e
    · exact ⟨t.hs, A0, G, ok.m1, hqf, hbd, hIxL0⟩
    · refine ⟨h1, A1, G1, by rw [m1]; exact ok.m1, ?_, ?_, by rw [q1.1, q1.2.1, q1.2.2]; exact hIxL1⟩
      · subst hh1; exact hqf
      · subst hh1; exact hbd
    · refine ⟨h1, A2, G1, by rw [m1]; exact ok.m1, ?_, ?_, by rw [q1.1, q1.2.1, q1.2.2]; exact hIxL2⟩
      · subst hh1; exact hqf
      · subst hh1; exact hbd
  obtain ⟨h', ec, c1, c2, c3⟩ := changed_eq ha1 ha2 ha3 ha4 ha5 c5
  have oth : ∀ k, k < 3 → ∃ Hk : Hs, At S k 0 Hk ∧ Hk.Wf 91 ∧ Hk.seenL Hk.many = t.hs.seenL t.hs.many := fun k hk => by
    have : k = 0 ∨ k = 1 ∨ k = 2 := by omega
    rcases this with e | e | e <;> subst e
    · exact ⟨_, A0, wf, rfl⟩
    · exact ⟨_, A1, wf1, s1⟩
    · exact ⟨_, A2, wf1, s1⟩
  have aa : At (S.set at' (h'.ob 0)) at' 0 h' := ha1.set
  have ef := bounds_eq aa
  rw [c1, c2, c3] at ef
  obtain ⟨ρ1, S1, e1, y, rfl, rfl⟩ := forL_range (v := 14) (b := b_law_4) (fun i ρ S1 => ∃ y, ρ = [some (.scr (ns.map .int)), some t.told, some (.int c4), some (.obj 0), some (.lst [.int x, .int y', .int z]), some (.lst [.bl (pick c4 8 2 == 0), .bl (pick c4 9 2 == 0), .bl (pick c4 10 2 == 0)]), some (.lst [oD u, oD v, oD w]), some (.tup [.int (u.getD t.b0), .int (v.getD t.b1), .int (w.getD t.b2)]), some (.lst (t.hs.seenL t.hs.many)), some (.obj 1), some (.obj 2), some (.obj 3), some (.lst [.obj 0, .obj 1, .obj 2]), some (.int at'), y] ∧ S.set at' (h'.ob 0) = S1) (m := 3)
    (ρ := [some (.scr (ns.map .int)), some t.told, some (.int c4), some (.obj 0), some (.lst [.int x, .int y', .int z]), some (.lst [.bl (pick c4 8 2 == 0), .bl (pick c4 9 2 == 0), .bl (pick c4 10 2 == 0)]), some (.lst [oD u, oD v, oD w]), some (.tup [.int (u.getD t.b0), .int (v.getD t.b1), .int (w.getD t.b2)]), some (.lst (t.hs.seenL t.hs.many)), some (.obj 1), some (.obj 2), some (.obj 3), some (.lst [.obj 0, .obj 1, .obj 2]), some (.int at'), none]) (S := S.set at' (h'.ob 0)) ⟨_, rfl, rfl⟩ (by
    rintro k hk ρ S1 ⟨y, rfl, rfl⟩
    refine ⟨_, _, ?_, some (.int k), rfl, rfl⟩
    simp only [u_b_law_4]
    by_cases e : k = at'
    · subst e
      (repeat (walk_at "gs")) <;> exact rfl
    · obtain ⟨Hk, k1, k2, k3⟩ := oth k hk
      have es := seen_eq (k1.setNe (o := h'.ob 0) (Ne.symm e)) k2 (by decide)
      rw [k3] at es
      (repeat (first | simp only [hidx k hk, es, seen_ne] | walk_at "gs")) <;> exact rfl)
  have r3 : ∀ S, rgK1 [.int 3] S = .ok (rangeL 0 ((3 : Nat) : Int)) S := fun S => rgK1_int (by decide)
  have e1 : forL (tfName 14) b_law_4 (rangeL 0 3) _ _ = _ := e1
  unfold f_law m_law
  (repeat (first | simp only [ed, eb _ rfl, e4, hx, hy, hzz, el, eh, edu, htup, e0, l1, l2, l3, b1, b2, b3, nbd, told_bounds, bDe, b0, z1, z2, z3, seen_ne, ea, e5, hidx at' hat, ec, e1, ef, ha6, ebd] | walk_at "gs"))
  exact ⟨_, _, rfl⟩
end K07

namespace K07
open PySem PySem.Spec PyProof.Rows L2 Q
theorem law_mk {l : PySem.W.OpenLaw} {w : World} {K : PySem.W.Frag} {h : Heap} {mg : Str → Option Value} {fa : Addr} (X : K.In h) (G : h.Ns mainGlobals mg) (hfa : mg "law" = some (.ref fa))
    {c_Hold : Addr} (ac_Hold : PySem.W.nsIn K mainGlobals "Hold" = some (some (.ref c_Hold)))
    {f1 : Addr} {od1 an1 : Option Addr} {sl1 : Array (Option Value)} {oc1 kV1 dc1 pm1 cd1 ct1 : Value}
    (a1 : PySem.W.nsIn K mainGlobals "_law_cell_at" = some (some (.ref f1)))
    (l1 : K.lookup f1 = some ⟨oc1, od1, .func (PySem.W.fnOf "_law_cell_at" "_law_cell_at" (defArgs s__law_cell_at) (defBody s__law_cell_at) (defScope s__law_cell_at) .none kV1 dc1 pm1 an1 cd1 ct1), sl1⟩) (e1 : PySem.W.codeIn K cd1 "_law_cell_at" = true) (k1 : PySem.W.keepIn K (.ref f1) = true)
    {f2 : Addr} {od2 an2 : Option Addr} {sl2 : Array (Option Value)} {oc2 kV2 dc2 pm2 cd2 ct2 : Value}
    (a2 : PySem.W.nsIn K mainGlobals "_law_pick" = some (some (.ref f2)))
    (l2 : K.lookup f2 = some ⟨oc2, od2, .func (PySem.W.fnOf "_law_pick" "_law_pick" (defArgs s__law_pick) (defBody s__law_pick) (defScope s__law_pick) .none kV2 dc2 pm2 an2 cd2 ct2), sl2⟩) (e2 : PySem.W.codeIn K cd2 "_law_pick" = true) (k2 : PySem.W.keepIn K (.ref f2) = true)
    {f3 : Addr} {od3 an3 : Option Addr} {sl3 : Array (Option Value)} {oc3 kV3 dc3 pm3 cd3 ct3 : Value}
    (a3 : PySem.W.nsIn K mainGlobals "_law_scale" = some (some (.ref f3)))
    (l3 : K.lookup f3 = some ⟨oc3, od3, .func (PySem.W.fnOf "_law_scale" "_law_scale" (defArgs s__law_scale) (defBody s__law_scale) (defScope s__law_scale) .none kV3 dc3 pm3 an3 cd3 ct3), sl3⟩) (e3 : PySem.W.codeIn K cd3 "_law_scale" = true) (k3 : PySem.W.keepIn K (.ref f3) = true)
    {f4 : Addr} {od4 an4 : Option Addr} {sl4 : Array (Option Value)} {oc4 kV4 dc4 pm4 cd4 ct4 : Value}
    (a4 : PySem.W.nsIn K mainGlobals "_law_stove_by" = some (some (.ref f4)))
    (l4 : K.lookup f4 = some ⟨oc4, od4, .func (PySem.W.fnOf "_law_stove_by" "_law_stove_by" (defArgs s__law_stove_by) (defBody s__law_stove_by) (defScope s__law_stove_by) .none kV4 dc4 pm4 an4 cd4 ct4), sl4⟩) (e4 : PySem.W.codeIn K cd4 "_law_stove_by" = true) (k4 : PySem.W.keepIn K (.ref f4) = true)
    {f5 : Addr} {od5 an5 : Option Addr} {sl5 : Array (Option Value)} {oc5 kV5 dc5 pm5 cd5 ct5 : Value}
    (a5 : PySem.W.nsIn K mainGlobals "_law_drawn" = some (some (.ref f5)))
    (l5 : K.lookup f5 = some ⟨oc5, od5, .func (PySem.W.fnOf "_law_drawn" "_law_drawn" (defArgs s__law_drawn) (defBody s__law_drawn) (defScope s__law_drawn) .none kV5 dc5 pm5 an5 cd5 ct5), sl5⟩) (e5 : PySem.W.codeIn K cd5 "_law_drawn" = true) (k5 : PySem.W.keepIn K (.ref f5) = true)
    {f6 : Addr} {od6 an6 : Option Addr} {sl6 : Array (Option Value)} {oc6 kV6 dc6 pm6 cd6 ct6 : Value}
    (a6 : PySem.W.nsIn K mainGlobals "is_bound" = some (some (.ref f6)))
    (l6 : K.lookup f6 = some ⟨oc6, od6, .func (PySem.W.fnOf "is_bound" "is_bound" (defArgs s_is_bound) (defBody s_is_bound) (defScope s_is_bound) .none kV6 dc6 pm6 an6 cd6 ct6), sl6⟩) (e6 : PySem.W.codeIn K cd6 "is_bound" = true) (k6 : PySem.W.keepIn K (.ref f6) = true)
    {f7 : Addr} {od7 an7 : Option Addr} {sl7 : Array (Option Value)} {oc7 kV7 dc7 pm7 cd7 ct7 : Value}
    (at_Hold___init__ : PySem.W.findIn K (.ref c_Hold) "__init__" = some (some (.ref f7)))
    (if7 : PySem.W.isFn K (.ref f7) = true)
    {T7 : Addr} {odT7 : Option Addr} {cT7 : Value} {slT7 : Array (Option Value)} {nT7 : Nat} {tj7_0 tj7_1 tj7_2 : Tok}
    (l7 : K.lookup f7 = some ⟨oc7, od7, .func (PySem.W.fnOf "__init__" "Hold.__init__" (defArgs s_Hold____init__) (defBody s_Hold____init__) (defScope s_Hold____init__) (.ref T7) kV7 dc7 pm7 an7 cd7 ct7), sl7⟩) (e7 : PySem.W.codeIn K cd7 "Hold.__init__" = true) (k7 : PySem.W.keepIn K (.ref f7) = true)
    (lT7 : K.lookup T7 = some ⟨cT7, odT7, .seq #[.int 4 tj7_0, .int 0 tj7_1, .int 0 tj7_2] nT7, slT7⟩)
    {f8 : Addr} {od8 an8 : Option Addr} {sl8 : Array (Option Value)} {oc8 kV8 dc8 pm8 cd8 ct8 : Value}
    (a8 : PySem.W.nsIn K mainGlobals "under" = some (some (.ref f8)))
    (l8 : K.lookup f8 = some ⟨oc8, od8, .func (PySem.W.fnOf "under" "under" (defArgs s_under) (defBody s_under) (defScope s_under) .none kV8 dc8 pm8 an8 cd8 ct8), sl8⟩) (e8 : PySem.W.codeIn K cd8 "under" = true) (k8 : PySem.W.keepIn K (.ref f8) = true)
    {f9 : Addr} {od9 an9 : Option Addr} {sl9 : Array (Option Value)} {oc9 kV9 dc9 pm9 cd9 ct9 : Value}
    (a9 : PySem.W.nsIn K mainGlobals "do_rise" = some (some (.ref f9)))
    (l9 : K.lookup f9 = some ⟨oc9, od9, .func (PySem.W.fnOf "do_rise" "do_rise" (defArgs s_do_rise) (defBody s_do_rise) (defScope s_do_rise) .none kV9 dc9 pm9 an9 cd9 ct9), sl9⟩) (e9 : PySem.W.codeIn K cd9 "do_rise" = true) (k9 : PySem.W.keepIn K (.ref f9) = true)
    {f10 : Addr} {od10 an10 : Option Addr} {sl10 : Array (Option Value)} {oc10 kV10 dc10 pm10 cd10 ct10 : Value}
    (at_Hold_put_room : PySem.W.findIn K (.ref c_Hold) "put_room" = some (some (.ref f10)))
    (if10 : PySem.W.isFn K (.ref f10) = true)
    (l10 : K.lookup f10 = some ⟨oc10, od10, .func (PySem.W.fnOf "put_room" "Hold.put_room" (defArgs s_Hold__put_room) (defBody s_Hold__put_room) (defScope s_Hold__put_room) .none kV10 dc10 pm10 an10 cd10 ct10), sl10⟩) (e10 : PySem.W.codeIn K cd10 "Hold.put_room" = true) (k10 : PySem.W.keepIn K (.ref f10) = true)
    {f11 : Addr} {od11 an11 : Option Addr} {sl11 : Array (Option Value)} {oc11 kV11 dc11 pm11 cd11 ct11 : Value}
    (at_Hold_ask_room : PySem.W.findIn K (.ref c_Hold) "ask_room" = some (some (.ref f11)))
    (if11 : PySem.W.isFn K (.ref f11) = true)
    (l11 : K.lookup f11 = some ⟨oc11, od11, .func (PySem.W.fnOf "ask_room" "Hold.ask_room" (defArgs s_Hold__ask_room) (defBody s_Hold__ask_room) (defScope s_Hold__ask_room) .none kV11 dc11 pm11 an11 cd11 ct11), sl11⟩) (e11 : PySem.W.codeIn K cd11 "Hold.ask_room" = true) (k11 : PySem.W.keepIn K (.ref f11) = true)
    {f12 : Addr} {od12 an12 : Option Addr} {sl12 : Array (Option Value)} {oc12 kV12 dc12 pm12 cd12 ct12 : Value}
    (a12 : PySem.W.nsIn K mainGlobals "divisor" = some (some (.ref f12)))
    (l12 : K.lookup f12 = some ⟨oc12, od12, .func (PySem.W.fnOf "divisor" "divisor" (defArgs s_divisor) (defBody s_divisor) (defScope s_divisor) .none kV12 dc12 pm12 an12 cd12 ct12), sl12⟩) (e12 : PySem.W.codeIn K cd12 "divisor" = true) (k12 : PySem.W.keepIn K (.ref f12) = true)
    {f13 : Addr} {od13 an13 : Option Addr} {sl13 : Array (Option Value)} {oc13 kV13 dc13 pm13 cd13 ct13 : Value}
    (a13 : PySem.W.nsIn K mainGlobals "fraction" = some (some (.ref f13)))
    (l13 : K.lookup f13 = some ⟨oc13, od13, .func (PySem.W.fnOf "fraction" "fraction" (defArgs s_fraction) (defBody s_fraction) (defScope s_fraction) .none kV13 dc13 pm13 an13 cd13 ct13), sl13⟩) (e13 : PySem.W.codeIn K cd13 "fraction" = true) (k13 : PySem.W.keepIn K (.ref f13) = true)
    {f14 : Addr} {od14 an14 : Option Addr} {sl14 : Array (Option Value)} {oc14 kV14 dc14 pm14 cd14 ct14 : Value}
    (a14 : PySem.W.nsIn K mainGlobals "plus" = some (some (.ref f14)))
    (l14 : K.lookup f14 = some ⟨oc14, od14, .func (PySem.W.fnOf "plus" "plus" (defArgs s_plus) (defBody s_plus) (defScope s_plus) .none kV14 dc14 pm14 an14 cd14 ct14), sl14⟩) (e14 : PySem.W.codeIn K cd14 "plus" = true) (k14 : PySem.W.keepIn K (.ref f14) = true)
    {f15 : Addr} {od15 an15 : Option Addr} {sl15 : Array (Option Value)} {oc15 kV15 dc15 pm15 cd15 ct15 : Value}
    (a15 : PySem.W.nsIn K mainGlobals "minus" = some (some (.ref f15)))
    (l15 : K.lookup f15 = some ⟨oc15, od15, .func (PySem.W.fnOf "minus" "minus" (defArgs s_minus) (defBody s_minus) (defScope s_minus) .none kV15 dc15 pm15 an15 cd15 ct15), sl15⟩) (e15 : PySem.W.codeIn K cd15 "minus" = true) (k15 : PySem.W.keepIn K (.ref f15) = true)
    {f16 : Addr} {od16 an16 : Option Addr} {sl16 : Array (Option Value)} {oc16 kV16 dc16 pm16 cd16 ct16 : Value}
    (at_Hold_taken_share : PySem.W.findIn K (.ref c_Hold) "taken_share" = some (some (.ref f16)))
    (if16 : PySem.W.isFn K (.ref f16) = true)
    (l16 : K.lookup f16 = some ⟨oc16, od16, .func (PySem.W.fnOf "taken_share" "Hold.taken_share" (defArgs s_Hold__taken_share) (defBody s_Hold__taken_share) (defScope s_Hold__taken_share) .none kV16 dc16 pm16 an16 cd16 ct16), sl16⟩) (e16 : PySem.W.codeIn K cd16 "Hold.taken_share" = true) (k16 : PySem.W.keepIn K (.ref f16) = true)
    {f17 : Addr} {od17 an17 : Option Addr} {sl17 : Array (Option Value)} {oc17 kV17 dc17 pm17 cd17 ct17 : Value}
    (at_Hold_put_sky : PySem.W.findIn K (.ref c_Hold) "put_sky" = some (some (.ref f17)))
    (if17 : PySem.W.isFn K (.ref f17) = true)
    (l17 : K.lookup f17 = some ⟨oc17, od17, .func (PySem.W.fnOf "put_sky" "Hold.put_sky" (defArgs s_Hold__put_sky) (defBody s_Hold__put_sky) (defScope s_Hold__put_sky) .none kV17 dc17 pm17 an17 cd17 ct17), sl17⟩) (e17 : PySem.W.codeIn K cd17 "Hold.put_sky" = true) (k17 : PySem.W.keepIn K (.ref f17) = true)
    {f18 : Addr} {od18 an18 : Option Addr} {sl18 : Array (Option Value)} {oc18 kV18 dc18 pm18 cd18 ct18 : Value}
    (a18 : PySem.W.nsIn K mainGlobals "_law_ratio" = some (some (.ref f18)))
    (l18 : K.lookup f18 = some ⟨oc18, od18, .func (PySem.W.fnOf "_law_ratio" "_law_ratio" (defArgs s__law_ratio) (defBody s__law_ratio) (defScope s__law_ratio) .none kV18 dc18 pm18 an18 cd18 ct18), sl18⟩) (e18 : PySem.W.codeIn K cd18 "_law_ratio" = true) (k18 : PySem.W.keepIn K (.ref f18) = true)
    {f19 : Addr} {od19 an19 : Option Addr} {sl19 : Array (Option Value)} {oc19 kV19 dc19 pm19 cd19 ct19 : Value}
    (a19 : PySem.W.nsIn K mainGlobals "_law_warm" = some (some (.ref f19)))
    (l19 : K.lookup f19 = some ⟨oc19, od19, .func (PySem.W.fnOf "_law_warm" "_law_warm" (defArgs s__law_warm) (defBody s__law_warm) (defScope s__law_warm) .none kV19 dc19 pm19 an19 cd19 ct19), sl19⟩) (e19 : PySem.W.codeIn K cd19 "_law_warm" = true) (k19 : PySem.W.keepIn K (.ref f19) = true)
    {f20 : Addr} {od20 an20 : Option Addr} {sl20 : Array (Option Value)} {oc20 kV20 dc20 pm20 cd20 ct20 : Value}
    (at_Hold_put_stove : PySem.W.findIn K (.ref c_Hold) "put_stove" = some (some (.ref f20)))
    (if20 : PySem.W.isFn K (.ref f20) = true)
    {T20 : Addr} {odT20 : Option Addr} {cT20 : Value} {slT20 : Array (Option Value)} {nT20 : Nat} {tj20_0 tj20_1 tj20_2 : Tok}
    (l20 : K.lookup f20 = some ⟨oc20, od20, .func (PySem.W.fnOf "put_stove" "Hold.put_stove" (defArgs s_Hold__put_stove) (defBody s_Hold__put_stove) (defScope s_Hold__put_stove) (.ref T20) kV20 dc20 pm20 an20 cd20 ct20), sl20⟩) (e20 : PySem.W.codeIn K cd20 "Hold.put_stove" = true) (k20 : PySem.W.keepIn K (.ref f20) = true)
    (lT20 : K.lookup T20 = some ⟨cT20, odT20, .seq #[.int 0 tj20_0, .int 0 tj20_1, .int 0 tj20_2] nT20, slT20⟩)
    {f21 : Addr} {od21 an21 : Option Addr} {sl21 : Array (Option Value)} {oc21 kV21 dc21 pm21 cd21 ct21 : Value}
    (at_Hold_put_flow : PySem.W.findIn K (.ref c_Hold) "put_flow" = some (some (.ref f21)))
    (if21 : PySem.W.isFn K (.ref f21) = true)
    (l21 : K.lookup f21 = some ⟨oc21, od21, .func (PySem.W.fnOf "put_flow" "Hold.put_flow" (defArgs s_Hold__put_flow) (defBody s_Hold__put_flow) (defScope s_Hold__put_flow) .none kV21 dc21 pm21 an21 cd21 ct21), sl21⟩) (e21 : PySem.W.codeIn K cd21 "Hold.put_flow" = true) (k21 : PySem.W.keepIn K (.ref f21) = true)
    {f22 : Addr} {od22 an22 : Option Addr} {sl22 : Array (Option Value)} {oc22 kV22 dc22 pm22 cd22 ct22 : Value}
    (a22 : PySem.W.nsIn K mainGlobals "_law_built" = some (some (.ref f22)))
    (l22 : K.lookup f22 = some ⟨oc22, od22, .func (PySem.W.fnOf "_law_built" "_law_built" (defArgs s__law_built) (defBody s__law_built) (defScope s__law_built) .none kV22 dc22 pm22 an22 cd22 ct22), sl22⟩) (e22 : PySem.W.codeIn K cd22 "_law_built" = true) (k22 : PySem.W.keepIn K (.ref f22) = true)
    {f23 : Addr} {od23 an23 : Option Addr} {sl23 : Array (Option Value)} {oc23 kV23 dc23 pm23 cd23 ct23 : Value}
    (at_Hold_many : PySem.W.findIn K (.ref c_Hold) "many" = some (some (.ref f23)))
    (if23 : PySem.W.isFn K (.ref f23) = true)
    (l23 : K.lookup f23 = some ⟨oc23, od23, .func (PySem.W.fnOf "many" "Hold.many" (defArgs s_Hold__many) (defBody s_Hold__many) (defScope s_Hold__many) .none kV23 dc23 pm23 an23 cd23 ct23), sl23⟩) (e23 : PySem.W.codeIn K cd23 "Hold.many" = true) (k23 : PySem.W.keepIn K (.ref f23) = true)
    {f24 : Addr} {od24 an24 : Option Addr} {sl24 : Array (Option Value)} {oc24 kV24 dc24 pm24 cd24 ct24 : Value}
    (at_Hold_marks : PySem.W.findIn K (.ref c_Hold) "marks" = some (some (.ref f24)))
    (if24 : PySem.W.isFn K (.ref f24) = true)
    (l24 : K.lookup f24 = some ⟨oc24, od24, .func (PySem.W.fnOf "marks" "Hold.marks" (defArgs s_Hold__marks) (defBody s_Hold__marks) (defScope s_Hold__marks) .none kV24 dc24 pm24 an24 cd24 ct24), sl24⟩) (e24 : PySem.W.codeIn K cd24 "Hold.marks" = true) (k24 : PySem.W.keepIn K (.ref f24) = true)
    {f25 : Addr} {od25 an25 : Option Addr} {sl25 : Array (Option Value)} {oc25 kV25 dc25 pm25 cd25 ct25 : Value}
    (at_Hold_sky : PySem.W.findIn K (.ref c_Hold) "sky" = some (some (.ref f25)))
    (if25 : PySem.W.isFn K (.ref f25) = true)
    (l25 : K.lookup f25 = some ⟨oc25, od25, .func (PySem.W.fnOf "sky" "Hold.sky" (defArgs s_Hold__sky) (defBody s_Hold__sky) (defScope s_Hold__sky) .none kV25 dc25 pm25 an25 cd25 ct25), sl25⟩) (e25 : PySem.W.codeIn K cd25 "Hold.sky" = true) (k25 : PySem.W.keepIn K (.ref f25) = true)
    {f26 : Addr} {od26 an26 : Option Addr} {sl26 : Array (Option Value)} {oc26 kV26 dc26 pm26 cd26 ct26 : Value}
    (at_Hold_stove : PySem.W.findIn K (.ref c_Hold) "stove" = some (some (.ref f26)))
    (if26 : PySem.W.isFn K (.ref f26) = true)
    (l26 : K.lookup f26 = some ⟨oc26, od26, .func (PySem.W.fnOf "stove" "Hold.stove" (defArgs s_Hold__stove) (defBody s_Hold__stove) (defScope s_Hold__stove) .none kV26 dc26 pm26 an26 cd26 ct26), sl26⟩) (e26 : PySem.W.codeIn K cd26 "Hold.stove" = true) (k26 : PySem.W.keepIn K (.ref f26) = true)
    {f27 : Addr} {od27 an27 : Option Addr} {sl27 : Array (Option Value)} {oc27 kV27 dc27 pm27 cd27 ct27 : Value}
    (at_Hold_share : PySem.W.findIn K (.ref c_Hold) "share" = some (some (.ref f27)))
    (if27 : PySem.W.isFn K (.ref f27) = true)
    (l27 : K.lookup f27 = some ⟨oc27, od27, .func (PySem.W.fnOf "share" "Hold.share" (defArgs s_Hold__share) (defBody s_Hold__share) (defScope s_Hold__share) .none kV27 dc27 pm27 an27 cd27 ct27), sl27⟩) (e27 : PySem.W.codeIn K cd27 "Hold.share" = true) (k27 : PySem.W.keepIn K (.ref f27) = true)
    {f28 : Addr} {od28 an28 : Option Addr} {sl28 : Array (Option Value)} {oc28 kV28 dc28 pm28 cd28 ct28 : Value}
    (a28 : PySem.W.nsIn K mainGlobals "_law_seen" = some (some (.ref f28)))
    (l28 : K.lookup f28 = some ⟨oc28, od28, .func (PySem.W.fnOf "_law_seen" "_law_seen" (defArgs s__law_seen) (defBody s__law_seen) (defScope s__law_seen) .none kV28 dc28 pm28 an28 cd28 ct28), sl28⟩) (e28 : PySem.W.codeIn K cd28 "_law_seen" = true) (k28 : PySem.W.keepIn K (.ref f28) = true)
    {f29 : Addr} {od29 an29 : Option Addr} {sl29 : Array (Option Value)} {oc29 kV29 dc29 pm29 cd29 ct29 : Value}
    (a29 : PySem.W.nsIn K mainGlobals "hold_like" = some (some (.ref f29)))
    {T29 : Addr} {odT29 : Option Addr} {cT29 : Value} {slT29 : Array (Option Value)} {nT29 : Nat}
    (l29 : K.lookup f29 = some ⟨oc29, od29, .func (PySem.W.fnOf "hold_like" "hold_like" (defArgs s_hold_like) (defBody s_hold_like) (defScope s_hold_like) (.ref T29) kV29 dc29 pm29 an29 cd29 ct29), sl29⟩) (e29 : PySem.W.codeIn K cd29 "hold_like" = true) (k29 : PySem.W.keepIn K (.ref f29) = true)
    (lT29 : K.lookup T29 = some ⟨cT29, odT29, .seq #[.none, .none, .none] nT29, slT29⟩)
    {f30 : Addr} {od30 an30 : Option Addr} {sl30 : Array (Option Value)} {oc30 kV30 dc30 pm30 cd30 ct30 : Value}
    (a30 : PySem.W.nsIn K mainGlobals "_law_changed" = some (some (.ref f30)))
    (l30 : K.lookup f30 = some ⟨oc30, od30, .func (PySem.W.fnOf "_law_changed" "_law_changed" (defArgs s__law_changed) (defBody s__law_changed) (defScope s__law_changed) .none kV30 dc30 pm30 an30 cd30 ct30), sl30⟩) (e30 : PySem.W.codeIn K cd30 "_law_changed" = true) (k30 : PySem.W.keepIn K (.ref f30) = true)
    {f31 : Addr} {od31 an31 : Option Addr} {sl31 : Array (Option Value)} {oc31 kV31 dc31 pm31 cd31 ct31 : Value}
    (a31 : PySem.W.nsIn K mainGlobals "_law_bounds" = some (some (.ref f31)))
    (l31 : K.lookup f31 = some ⟨oc31, od31, .func (PySem.W.fnOf "_law_bounds" "_law_bounds" (defArgs s__law_bounds) (defBody s__law_bounds) (defScope s__law_bounds) .none kV31 dc31 pm31 an31 cd31 ct31), sl31⟩) (e31 : PySem.W.codeIn K cd31 "_law_bounds" = true) (k31 : PySem.W.keepIn K (.ref f31) = true)
    {f32 : Addr} {od32 an32 : Option Addr} {sl32 : Array (Option Value)} {oc32 kV32 dc32 pm32 cd32 ct32 : Value}
    (a32 : PySem.W.nsIn K mainGlobals "law" = some (some (.ref f32)))
    (l32 : K.lookup f32 = some ⟨oc32, od32, .func (PySem.W.fnOf "law" "law" (defArgs s_law) (defBody s_law) (defScope s_law) .none kV32 dc32 pm32 an32 cd32 ct32), sl32⟩) (e32 : PySem.W.codeIn K cd32 "law" = true) (k32 : PySem.W.keepIn K (.ref f32) = true)
    {av_NOUGHT : Addr} {odv_NOUGHT : Option Addr} {slv_NOUGHT : Array (Option Value)} {nnv_NOUGHT : Nat} {tiNOUGHT_0 tiNOUGHT_1 : Tok} (nv_NOUGHT : PySem.W.nsIn K mainGlobals "NOUGHT" = some (some (.ref av_NOUGHT))) (lv_NOUGHT : K.lookup av_NOUGHT = some ⟨.type "tuple", odv_NOUGHT, .seq #[.int 0 tiNOUGHT_0, .int 1 tiNOUGHT_1] nnv_NOUGHT, slv_NOUGHT⟩)
    {av_ONE : Addr} {odv_ONE : Option Addr} {slv_ONE : Array (Option Value)} {nnv_ONE : Nat} {tiONE_0 tiONE_1 : Tok} (nv_ONE : PySem.W.nsIn K mainGlobals "ONE" = some (some (.ref av_ONE))) (lv_ONE : K.lookup av_ONE = some ⟨.type "tuple", odv_ONE, .seq #[.int 1 tiONE_0, .int 1 tiONE_1] nnv_ONE, slv_ONE⟩)
    (z_abs : PySem.W.nsIn K mainGlobals "abs" = some none)
    (z_bool : PySem.W.nsIn K mainGlobals "bool" = some none)
    (z_int : PySem.W.nsIn K mainGlobals "int" = some none)
    (z_isinstance : PySem.W.nsIn K mainGlobals "isinstance" = some none)
    (z_len : PySem.W.nsIn K mainGlobals "len" = some none)
    (z_list : PySem.W.nsIn K mainGlobals "list" = some none)
    (z_range : PySem.W.nsIn K mainGlobals "range" = some none)
    (z_tuple : PySem.W.nsIn K mainGlobals "tuple" = some none)
    (pg_Hold : PySem.W.plainGet K c_Hold Str.empty = true) (hd_Hold : PySem.W.hasDictIn K c_Hold = true) (po_Hold : PySem.W.plainOver K c_Hold = true) (sa_Hold : PySem.W.findIn K (.ref c_Hold) "__setattr__" = some (some (.builtin "object.__setattr__")))
    (mm_Hold : PySem.W.makesIn K c_Hold = true) (kc_Hold : PySem.W.keepIn K (.ref c_Hold) = true)
    (n_Hold_cap : PySem.W.findIn K (.ref c_Hold) "cap" = some none)
    (n_Hold_load : PySem.W.findIn K (.ref c_Hold) "load" = some none)
    (n_Hold_most : PySem.W.findIn K (.ref c_Hold) "most" = some none)
    (n_Hold_my_flows : PySem.W.findIn K (.ref c_Hold) "my_flows" = some none)
    (n_Hold_my_marks : PySem.W.findIn K (.ref c_Hold) "my_marks" = some none)
    (n_Hold_my_skies : PySem.W.findIn K (.ref c_Hold) "my_skies" = some none)
    (n_Hold_my_stoves : PySem.W.findIn K (.ref c_Hold) "my_stoves" = some none)
    : ∃ fd : FuncData, (∀ (s : Shared) (v : Value), BindsTo s fd ⟨[v], []⟩ [("_law_script", v)]) ∧ ∀ base : Heap, K.In base → base.Ns mainGlobals mg → FnOk l.prog w K mg base (L2.CX l.prog w) 10 fa fd ["_law_script"] (spLaw K) := by
  obtain ⟨Fx, hb⟩ := facts_mk X G ac_Hold a1 l1 e1 k1 a2 l2 e2 k2 a3 l3 e3 k3 a4 l4 e4 k4 a5 l5 e5 k5 a6 l6 e6 k6 at_Hold___init__ if7 l7 e7 k7 lT7 a8 l8 e8 k8 a9 l9 e9 k9 at_Hold_put_room if10 l10 e10 k10 at_Hold_ask_room if11 l11 e11 k11 a12 l12 e12 k12 a13 l13 e13 k13 a14 l14 e14 k14 a15 l15 e15 k15 at_Hold_taken_share if16 l16 e16 k16 at_Hold_put_sky if17 l17 e17 k17 a18 l18 e18 k18 a19 l19 e19 k19 at_Hold_put_stove if20 l20 e20 k20 lT20 at_Hold_put_flow if21 l21 e21 k21 a22 l22 e22 k22 at_Hold_many if23 l23 e23 k23 at_Hold_marks if24 l24 e24 k24 at_Hold_sky if25 l25 e25 k25 at_Hold_stove if26 l26 e26 k26 at_Hold_share if27 l27 e27 k27 a28 l28 e28 k28 a29 l29 e29 k29 lT29 a30 l30 e30 k30 a31 l31 e31 k31 a32 l32 e32 k32 nv_NOUGHT lv_NOUGHT nv_ONE lv_ONE z_abs z_bool z_int z_isinstance z_len z_list z_range z_tuple pg_Hold hd_Hold po_Hold sa_Hold mm_Hold kc_Hold n_Hold_cap n_Hold_load n_Hold_most n_Hold_my_flows n_Hold_my_marks n_Hold_my_skies n_Hold_my_stoves
  have e := hfa.symm.trans Fx.g_law
  cases e
  exact ⟨Fx.d_law, hb, fun base _ _ => law_ok (T := th l.prog w Fx) (ok_law Fx) law_eq⟩
end K07
open PySem PySem.W PyProof.Rows
set_option maxRecDepth 100000 in
set_option maxHeartbeats 0 in
theorem PySem.Challenge.cw_stoke_k07_a_hold_like_another_holds : PySem.Challenge.rw_stoke_k07_a_hold_like_another.Holds := by
  w_on; o_law; k_head; (case hw => w_witness2)
  k_fill
  refine L2.walk_ofB (l := PySem.Challenge.rw_stoke_k07_a_hold_like_another) (n := 63) (k := 10) (x := "_law_script") (CX := fun w => L2.CX PySem.Challenge.rw_stoke_k07_a_hold_like_another.prog w) (sp := fun w => Q.spLaw _) rfl (by decide) rfl ⟨rfl, by decide, by decide⟩ (fun w h Y => PySem.W.kIn_of Y) ?F (fun w H a ns h1 h2 _ h3 => Q.law_sp _ H a ns h1 h2 h3) (fun w H s e s' h => Q.law_cx PySem.Challenge.rw_stoke_k07_a_hold_like_another.prog w H s e s' h)
  case F =>
    intro w mg fa h KX G hmg
    refine' K07.law_mk KX G hmg ?ac_Hold ?a1 ?l1 ?e1 ?k1 ?a2 ?l2 ?e2 ?k2 ?a3 ?l3 ?e3 ?k3 ?a4 ?l4 ?e4 ?k4 ?a5 ?l5 ?e5 ?k5 ?a6 ?l6 ?e6 ?k6 ?at_Hold___init__ ?if7 ?l7 ?e7 ?k7 ?lT7 ?a8 ?l8 ?e8 ?k8 ?a9 ?l9 ?e9 ?k9 ?at_Hold_put_room ?if10 ?l10 ?e10 ?k10 ?at_Hold_ask_room ?if11 ?l11 ?e11 ?k11 ?a12 ?l12 ?e12 ?k12 ?a13 ?l13 ?e13 ?k13 ?a14 ?l14 ?e14 ?k14 ?a15 ?l15 ?e15 ?k15 ?at_Hold_taken_share ?if16 ?l16 ?e16 ?k16 ?at_Hold_put_sky ?if17 ?l17 ?e17 ?k17 ?a18 ?l18 ?e18 ?k18 ?a19 ?l19 ?e19 ?k19 ?at_Hold_put_stove ?if20 ?l20 ?e20 ?k20 ?lT20 ?at_Hold_put_flow ?if21 ?l21 ?e21 ?k21 ?a22 ?l22 ?e22 ?k22 ?at_Hold_many ?if23 ?l23 ?e23 ?k23 ?at_Hold_marks ?if24 ?l24 ?e24 ?k24 ?at_Hold_sky ?if25 ?l25 ?e25 ?k25 ?at_Hold_stove ?if26 ?l26 ?e26 ?k26 ?at_Hold_share ?if27 ?l27 ?e27 ?k27 ?a28 ?l28 ?e28 ?k28 ?a29 ?l29 ?e29 ?k29 ?lT29 ?a30 ?l30 ?e30 ?k30 ?a31 ?l31 ?e31 ?k31 ?a32 ?l32 ?e32 ?k32 ?nv_NOUGHT ?lv_NOUGHT ?nv_ONE ?lv_ONE ?z_abs ?z_bool ?z_int ?z_isinstance ?z_len ?z_list ?z_range ?z_tuple ?pg_Hold ?hd_Hold ?po_Hold ?sa_Hold ?mm_Hold ?kc_Hold ?n_Hold_cap ?n_Hold_load ?n_Hold_most ?n_Hold_my_flows ?n_Hold_my_marks ?n_Hold_my_skies ?n_Hold_my_stoves
    (case ac_Hold => k_is)
    (case a1 => k_is)
    (case l1 => k_is)
    (case e1 => k_is)
    (case k1 => k_is)
    (case a2 => k_is)
    (case l2 => k_is)
    (case e2 => k_is)
    (case k2 => k_is)
    (case a3 => k_is)
    (case l3 => k_is)
    (case e3 => k_is)
    (case k3 => k_is)
    (case a4 => k_is)
    (case l4 => k_is)
    (case e4 => k_is)
    (case k4 => k_is)
    (case a5 => k_is)
    (case l5 => k_is)
    (case e5 => k_is)
    (case k5 => k_is)
    (case a6 => k_is)
    (case l6 => k_is)
    (case e6 => k_is)
    (case k6 => k_is)
    (case at_Hold___init__ => k_is)
    (case if7 => k_is)
    (case l7 => k_is)
    (case e7 => k_is)
    (case k7 => k_is)
    (case lT7 => k_is)
    (case a8 => k_is)
    (case l8 => k_is)
    (case e8 => k_is)
    (case k8 => k_is)
    (case a9 => k_is)
    (case l9 => k_is)
    (case e9 => k_is)
    (case k9 => k_is)
    (case at_Hold_put_room => k_is)
    (case if10 => k_is)
    (case l10 => k_is)
    (case e10 => k_is)
    (case k10 => k_is)
    (case at_Hold_ask_room => k_is)
    (case if11 => k_is)
    (case l11 => k_is)
    (case e11 => k_is)
    (case k11 => k_is)
    (case a12 => k_is)
    (case l12 => k_is)
    (case e12 => k_is)
    (case k12 => k_is)
    (case a13 => k_is)
    (case l13 => k_is)
    (case e13 => k_is)
    (case k13 => k_is)
    (case a14 => k_is)
    (case l14 => k_is)
    (case e14 => k_is)
    (case k14 => k_is)
    (case a15 => k_is)
    (case l15 => k_is)
    (case e15 => k_is)
    (case k15 => k_is)
    (case at_Hold_taken_share => k_is)
    (case if16 => k_is)
    (case l16 => k_is)
    (case e16 => k_is)
    (case k16 => k_is)
    (case at_Hold_put_sky => k_is)
    (case if17 => k_is)
    (case l17 => k_is)
    (case e17 => k_is)
    (case k17 => k_is)
    (case a18 => k_is)
    (case l18 => k_is)
    (case e18 => k_is)
    (case k18 => k_is)
    (case a19 => k_is)
    (case l19 => k_is)
    (case e19 => k_is)
    (case k19 => k_is)
    (case at_Hold_put_stove => k_is)
    (case if20 => k_is)
    (case l20 => k_is)
    (case e20 => k_is)
    (case k20 => k_is)
    (case lT20 => k_is)
    (case at_Hold_put_flow => k_is)
    (case if21 => k_is)
    (case l21 => k_is)
    (case e21 => k_is)
    (case k21 => k_is)
    (case a22 => k_is)
    (case l22 => k_is)
    (case e22 => k_is)
    (case k22 => k_is)
    (case at_Hold_many => k_is)
    (case if23 => k_is)
    (case l23 => k_is)
    (case e23 => k_is)
    (case k23 => k_is)
    (case at_Hold_marks => k_is)
    (case if24 => k_is)
    (case l24 => k_is)
    (case e24 => k_is)
    (case k24 => k_is)
    (case at_Hold_sky => k_is)
    (case if25 => k_is)
    (case l25 => k_is)
    (case e25 => k_is)
    (case k25 => k_is)
    (case at_Hold_stove => k_is)
    (case if26 => k_is)
    (case l26 => k_is)
    (case e26 => k_is)
    (case k26 => k_is)
    (case at_Hold_share => k_is)
    (case if27 => k_is)
    (case l27 => k_is)
    (case e27 => k_is)
    (case k27 => k_is)
    (case a28 => k_is)
    (case l28 => k_is)
    (case e28 => k_is)
    (case k28 => k_is)
    (case a29 => k_is)
    (case l29 => k_is)
    (case e29 => k_is)
    (case k29 => k_is)
    (case lT29 => k_is)
    (case a30 => k_is)
    (case l30 => k_is)
    (case e30 => k_is)
    (case k30 => k_is)
    (case a31 => k_is)
    (case l31 => k_is)
    (case e31 => k_is)
    (case k31 => k_is)
    (case a32 => k_is)
    (case l32 => k_is)
    (case e32 => k_is)
    (case k32 => k_is)
    (case nv_NOUGHT => k_is)
    (case lv_NOUGHT => k_is)
    (case nv_ONE => k_is)
    (case lv_ONE => k_is)
    (case z_abs => k_is)
    (case z_bool => k_is)
    (case z_int => k_is)
    (case z_isinstance => k_is)
    (case z_len => k_is)
    (case z_list => k_is)
    (case z_range => k_is)
    (case z_tuple => k_is)
    (case pg_Hold => k_is)
    (case hd_Hold => k_is)
    (case po_Hold => k_is)
    (case sa_Hold => k_is)
    (case mm_Hold => k_is)
    (case kc_Hold => k_is)
    (case n_Hold_cap => k_is)
    (case n_Hold_load => k_is)
    (case n_Hold_most => k_is)
    (case n_Hold_my_flows => k_is)
    (case n_Hold_my_marks => k_is)
    (case n_Hold_my_skies => k_is)
    (case n_Hold_my_stoves => k_is)
