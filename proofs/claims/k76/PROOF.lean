import PyProof.Rows.All
import Wide.All
import OpenK.AllK
import Wide.FinOn
import HandS.ForMost
import HandS.ForExc
import HandS.Wide
import HandS.Text
import KE.IntBitsLaws
import HandS.IsInst
import HandS.ExcIs
import HandS.EndBits
import HandS.SetFor
import HandS.SortInts
import HandS.Replace
import HandS.StrMore
import HandS.WideBits
import Wide.Txt
import KE.IntTextLaws
import PySem.Challenge.RW_stoke_k76_wholes_read
set_option Elab.async false
set_option linter.all false
set_option maxRecDepth 100000
/-! The value layer: data by value, what stands for them on the heap, who may write where. -/
namespace Q
open PySem PySem.Spec PyProof.Rows L2
/-- data by value -/
inductive D where
  | non | bl (b : Bool) | int (i : Int) | str (x : Str)
  | tup (l : List D) | lst (l : List D) | scr (l : List D) | dct (l : List (Key × D))
  | obj (n : Nat) | fn (k : Nat) (l : List D)
/-- an own object: its class's number, its fields -/
structure Ob where
  cls : Nat
  fs : List (Str × D)
abbrev Store := List Ob
abbrev Env := List (Option D)
/-- an exception: its class's number, what its fields hold -/
structure Exc where
  cls : Nat
  args : List (Str × D)
/-- what an expression comes to -/
inductive RE where
  | ok (d : D) (S : Store)
  | exc (x : Exc) (S : Store)
  | no
inductive RL where
  | ok (ds : List D) (S : Store)
  | exc (x : Exc) (S : Store)
  | no
/-- what a statement comes to -/
inductive RS where
  | nx (ρ : Env) (S : Store)
  | bk (ρ : Env) (S : Store)
  | ct (ρ : Env) (S : Store)
  | rt (d : D) (ρ : Env) (S : Store)
  | exc (x : Exc) (ρ : Env) (S : Store)
  | no
abbrev FE := Env → Store → RE
abbrev FL := Env → Store → RL
abbrev FS := Env → Store → RS
/-- the fixed part of a program: the written part, the classes' places, how deep a class's field is owned -/
structure Th where
  K : PySem.W.Frag
  cA : Nat → Addr
  /-- so many classes of exceptions -/
  nc : Nat
  fm : Nat → Str → Nat
/-- who may write where, and where the objects stand -/
structure G where
  N : Nat
  μ : Nat → Addr
  /-- others' (callers', pending values') -/
  O : Addr → Prop
  /-- slot i's -/
  F : Nat → Addr → Prop
  /-- the objects' -/
  B : Addr → Prop
  BF : Nat → Str → Addr → Prop
  /-- where a pinned parameter stands -/
  P : Nat → V
def G.U (g : G) (a : Addr) : Prop := g.O a ∨ (∃ i, g.F i a) ∨ g.B a
def WrL (K : PySem.W.Frag) (a : Addr) (xs : List V) : Prop := ∃ (o : Obj) (its : Array Value) (n : Nat), K.lookup a = some o ∧ o.cls = .type "list" ∧ o.dict = none ∧ o.data = .seq its n ∧ its.size ≤ sizeLine ∧ Vals xs its.toList
def WrT (K : PySem.W.Frag) (a : Addr) (xs : List V) : Prop := ∃ (o : Obj) (its : Array Value) (n : Nat), K.lookup a = some o ∧ o.cls = .type "tuple" ∧ o.data = .seq its n ∧ its.size ≤ sizeLine ∧ Vals xs its.toList
def LkL (K : PySem.W.Frag) (U : Addr → Prop) (H : Hp) (a : Addr) (xs : List V) : Prop := (Rd H a (.lst xs) ∧ ¬ U a) ∨ WrL K a xs
def LkT (K : PySem.W.Frag) (U : Addr → Prop) (H : Hp) (a : Addr) (xs : List V) : Prop := (Rd H a (.tup xs) ∧ ¬ U a) ∨ WrT K a xs
theorem LkL.sq {K : PySem.W.Frag} {U : Addr → Prop} {H : Hp} {a : Addr} {xs : List V} (h : LkL K U H a xs) : SqL K H a xs := h.imp (·.1) id
theorem LkT.sq {K : PySem.W.Frag} {U : Addr → Prop} {H : Hp} {a : Addr} {xs : List V} (h : LkT K U H a xs) : SqT K H a xs := h.imp (·.1) id


mutual
def Shr (T : Th) (g : G) (H : Hp) : D → V → Prop
  | .non, v => v = .non
  | .bl b, v => v = .bl b
  | .int i, v => v = .int i
  | .str x, v => v = .str x
  | .tup l, v => ∃ a vs, v = .ref a ∧ LkT T.K g.U H a vs ∧ ShrL T g H l vs
  | .lst l, v => ∃ a vs, v = .ref a ∧ (H a = some (.lst vs) ∧ ¬ g.U a) ∧ ShrL T g H l vs
  | .scr l, v => ∃ a vs, v = .ref a ∧ LkL T.K g.U H a vs ∧ ShrL T g H l vs
  | .dct l, v => ∃ a kvs, v = .ref a ∧ (H a = some (.dK kvs) ∧ ¬ g.U a) ∧ ShrK T g H l kvs
  | .obj n, v => n < g.N ∧ v = .ref (g.μ n)
  | .fn _ _, _ => False
def ShrL (T : Th) (g : G) (H : Hp) : List D → List V → Prop
  | [], vs => vs = []
  | d :: ds, vs => ∃ v ws, vs = v :: ws ∧ Shr T g H d v ∧ ShrL T g H ds ws
def ShrK (T : Th) (g : G) (H : Hp) : List (Key × D) → List (Key × V) → Prop
  | [], vs => vs = []
  | (k, d) :: ds, vs => ∃ v ws, vs = (k, v) :: ws ∧ Shr T g H d v ∧ ShrK T g H ds ws
end

/-- what was shared stays so -/
structure Stay (g : G) (H : Hp) (g' : G) (H' : Hp) : Prop where
  keep : ∀ a o, H a = some o → ¬ g.U a → H' a = some o
  own : ∀ a, g'.U a → g.U a ∨ H a = none
  N : g.N ≤ g'.N
  μ : ∀ n, n < g.N → g'.μ n = g.μ n
theorem Stay.refl (g : G) (H : Hp) : Stay g H g H := ⟨fun _ _ h _ => h, fun _ h => .inl h, Nat.le_refl _, fun _ _ => rfl⟩
theorem Stay.off {g : G} {H : Hp} {g' : G} {H' : Hp} (s : Stay g H g' H') {a : Addr} {o : HO} (h : H a = some o) (hu : ¬ g.U a) : ¬ g'.U a := fun z => by
  rcases s.own a z with z | z
  · exact hu z
  · rw [h] at z; cases z
theorem Stay.rd {g : G} {H : Hp} {g' : G} {H' : Hp} (s : Stay g H g' H') {a : Addr} {u : HO} (h : Rd H a u) (hu : ¬ g.U a) : Rd H' a u ∧ ¬ g'.U a := by
  rcases h with h | ⟨o, h⟩
  · exact ⟨.inl (s.keep a _ h hu), s.off h hu⟩
  · exact ⟨.inr ⟨o, s.keep a _ h hu⟩, s.off h hu⟩
theorem Stay.trans {g g1 g2 : G} {H H1 H2 : Hp} (a : Stay g H g1 H1) (b : Stay g1 H1 g2 H2) : Stay g H g2 H2 where
  keep := fun x o h hu => b.keep x o (a.keep x o h hu) (a.off h hu)
  own := fun x h => by
    rcases b.own x h with h | h
    · exact a.own x h
    · cases e : H x with
      | none => exact .inr rfl
      | some o =>
        by_cases hu : g.U x
        · exact .inl hu
        · have := a.keep x o e hu
          rw [h] at this; cases this
  N := Nat.le_trans a.N b.N
  μ := fun n h => (b.μ n (Nat.lt_of_lt_of_le h a.N)).trans (a.μ n h)
section
variable {T : Th} {g g' : G} {H H' : Hp}
mutual
theorem Shr.stay (s : Stay g H g' H') : ∀ (d : D) (v : V), Shr T g H d v → Shr T g' H' d v
  | .non, _, h => by simpa only [Shr] using h
  | .bl _, _, h => by simpa only [Shr] using h
  | .int _, _, h => by simpa only [Shr] using h
  | .str _, _, h => by simpa only [Shr] using h
  | .tup l, v, h => by
    simp only [Shr] at h ⊢
    obtain ⟨a, vs, e, q, r⟩ := h
    exact ⟨a, vs, e, q.imp (fun z => s.rd z.1 z.2) id, ShrL.stay s l vs r⟩
  | .lst l, v, h => by
    simp only [Shr] at h ⊢
    obtain ⟨a, vs, e, q, r⟩ := h
    exact ⟨a, vs, e, ⟨s.keep _ _ q.1 q.2, s.off q.1 q.2⟩, ShrL.stay s l vs r⟩
  | .scr l, v, h => by
    simp only [Shr] at h ⊢
    obtain ⟨a, vs, e, q, r⟩ := h
    exact ⟨a, vs, e, q.imp (fun z => s.rd z.1 z.2) id, ShrL.stay s l vs r⟩
  | .dct l, v, h => by
    simp only [Shr] at h ⊢
    obtain ⟨a, vs, e, q, r⟩ := h
    exact ⟨a, vs, e, ⟨s.keep _ _ q.1 q.2, s.off q.1 q.2⟩, ShrK.stay s l vs r⟩
  | .obj n, v, h => by
    simp only [Shr] at h ⊢
    exact ⟨Nat.lt_of_lt_of_le h.1 s.N, by rw [s.μ n h.1]; exact h.2⟩
  | .fn _ _, v, h => by simp only [Shr] at h
theorem ShrL.stay (s : Stay g H g' H') : ∀ (ds : List D) (vs : List V), ShrL T g H ds vs → ShrL T g' H' ds vs
  | [], _, h => by simpa only [ShrL] using h
  | d :: ds, vs, h => by
    simp only [ShrL] at h ⊢
    obtain ⟨v, ws, e, q, r⟩ := h
    exact ⟨v, ws, e, Shr.stay s d v q, ShrL.stay s ds ws r⟩
theorem ShrK.stay (s : Stay g H g' H') : ∀ (ds : List (Key × D)) (vs : List (Key × V)), ShrK T g H ds vs → ShrK T g' H' ds vs
  | [], _, h => by simpa only [ShrK] using h
  | (k, d) :: ds, vs, h => by
    simp only [ShrK] at h ⊢
    obtain ⟨v, ws, e, q, r⟩ := h
    exact ⟨v, ws, e, Shr.stay s d v q, ShrK.stay s ds ws r⟩
end
end
section
variable {T : Th} {g : G} {H : Hp}
theorem ShrL.length : ∀ {ds : List D} {vs : List V}, ShrL T g H ds vs → ds.length = vs.length
  | [], _, h => by simp only [ShrL] at h; subst h; rfl
  | d :: ds, vs, h => by
    simp only [ShrL] at h
    obtain ⟨v, ws, rfl, _, r⟩ := h
    simp only [List.length_cons, ShrL.length r]
theorem ShrL.get : ∀ {ds : List D} {vs : List V} {i : Nat} {d : D}, ShrL T g H ds vs → ds[i]? = some d → ∃ v, vs[i]? = some v ∧ Shr T g H d v
  | [], _, _, _, _, e => by simp at e
  | d :: ds, vs, i, d', h, e => by
    simp only [ShrL] at h
    obtain ⟨v, ws, rfl, q, r⟩ := h
    cases i with
    | zero => simp at e; subst e; exact ⟨v, rfl, q⟩
    | succ i =>
      obtain ⟨w, h1, h2⟩ := ShrL.get (i := i) r (by simpa using e)
      exact ⟨w, by simpa using h1, h2⟩
theorem ShrL.of {ds : List D} {vs : List V} (hl : ds.length = vs.length) (h : ∀ (i : Nat) d v, ds[i]? = some d → vs[i]? = some v → Shr T g H d v) : ShrL T g H ds vs := by
  induction ds generalizing vs with
  | nil =>
    simp only [ShrL]
    cases vs with
    | nil => rfl
    | cons _ _ => simp at hl
  | cons d ds ih =>
    cases vs with
    | nil => simp at hl
    | cons v vs =>
      simp only [ShrL]
      exact ⟨v, vs, rfl, h 0 d v rfl rfl, ih (by simpa using hl) fun i a b p q => h (i + 1) a b (by simpa using p) (by simpa using q)⟩
theorem ShrL.append {ds es : List D} {vs ws : List V} (h : ShrL T g H ds vs) (h' : ShrL T g H es ws) : ShrL T g H (ds ++ es) (vs ++ ws) := by
  induction ds generalizing vs with
  | nil => simp only [ShrL] at h; subst h; exact h'
  | cons d ds ih =>
    simp only [ShrL] at h
    obtain ⟨v, us, rfl, q, r⟩ := h
    show ShrL T g H (d :: (ds ++ es)) (v :: (us ++ ws))
    simp only [ShrL]
    exact ⟨v, _, rfl, q, ih r⟩
theorem ShrL.nil : ShrL T g H [] [] := by simp only [ShrL]
theorem ShrL.cons {d : D} {v : V} {ds : List D} {vs : List V} (h : Shr T g H d v) (r : ShrL T g H ds vs) : ShrL T g H (d :: ds) (v :: vs) := by
  simp only [ShrL]; exact ⟨v, vs, rfl, h, r⟩
theorem ShrL.take {ds : List D} {vs : List V} (n : Nat) (h : ShrL T g H ds vs) : ShrL T g H (ds.take n) (vs.take n) := by
  refine .of (by rw [List.length_take, List.length_take, h.length]) fun i d v e1 e2 => ?_
  rw [List.getElem?_take] at e1 e2
  split at e1
  · rename_i hi
    rw [if_pos hi] at e2
    obtain ⟨w, h1, h2⟩ := h.get e1
    rw [e2] at h1; cases h1
    exact h2
  · cases e1
theorem ShrL.drop {ds : List D} {vs : List V} (n : Nat) (h : ShrL T g H ds vs) : ShrL T g H (ds.drop n) (vs.drop n) := by
  refine .of (by rw [List.length_drop, List.length_drop, h.length]) fun i d v e1 e2 => ?_
  rw [List.getElem?_drop] at e1 e2
  obtain ⟨w, h1, h2⟩ := h.get e1
  rw [e2] at h1; cases h1
  exact h2
end
/-- the owned form, k levels of it: F's to write -/
def Own (T : Th) (g : G) (H : Hp) : Nat → (Addr → Prop) → D → V → Prop
  | k + 1, F, .lst l, v => ∃ p vs, v = .ref p ∧ F p ∧ H p = some (.lst vs) ∧ l.length = vs.length ∧ ∃ Gs : Nat → Addr → Prop, (∀ j q, Gs j q → F q ∧ q ≠ p) ∧ (∀ i j q, Gs i q → Gs j q → i = j) ∧ ∀ (j : Nat) d w, l[j]? = some d → vs[j]? = some w → Own T g H k (Gs j) d w
  | k + 1, F, .dct l, v => ∃ p vs, v = .ref p ∧ F p ∧ H p = some (.dK vs) ∧ l.length = vs.length ∧ ∃ Gs : Nat → Addr → Prop, (∀ j q, Gs j q → F q ∧ q ≠ p) ∧ (∀ i j q, Gs i q → Gs j q → i = j) ∧ ∀ (j : Nat) (d : Key × D) (w : Key × V), l[j]? = some d → vs[j]? = some w → d.1 = w.1 ∧ Own T g H k (Gs j) d.2 w.2
  | _, _, d, v => Shr T g H d v
inductive Md where

  | s | o (k : Nat) | r (k : Nat) | p (k : Nat) | e (v : V) | l
/-- .. but for what others may write -/
def G.bare (g : G) : G := { g with O := fun _ => False }
def RepM (T : Th) (g : G) (H : Hp) (i : Nat) : Md → D → V → Prop
  | .s, d, v => Shr T g H d v
  | .o k, d, v => Own T g H k (g.F i) d v
  | .r k, d, v => Own T g H k g.O d v
  | .p k, d, v => v = g.P i ∧ Own T g H k (g.F i) d v
  | .e w, _, v => v = w
  | .l, d, v => Shr T g.bare H d v
/-- the objects -/
structure SR (T : Th) (g : G) (S : Store) (H : Hp) : Prop where
  N : g.N = S.length
  inj : ∀ m n, m < g.N → n < g.N → g.μ m = g.μ n → m = n
  mB : ∀ n, n < g.N → g.B (g.μ n)
  bB : ∀ n f a, g.BF n f a → g.B a ∧ ∀ m, m < g.N → a ≠ g.μ m
  bd : ∀ n f m e a, g.BF n f a → g.BF m e a → n = m ∧ f = e
  ob : ∀ n o, S[n]? = some o → ∃ dx fs, H (g.μ n) = some (.ins (T.cA o.cls) dx fs) ∧ fs.map (·.1) = o.fs.map (·.1) ∧ ∀ (j : Nat) (d : Str × D) (w : Str × V), o.fs[j]? = some d → fs[j]? = some w → Own T g H (T.fm o.cls d.1) (g.BF n d.1) d.2 w.2
structure Rel (T : Th) (g : G) (Γ : List Md) (ρ : Env) (S : Store) (σ : L2.St) (H : Hp) : Prop where
  len : ρ.length = σ.length
  slot : ∀ (i : Nat) d, ρ[i]? = some (some d) → ∃ v, σ[i]? = some (some v) ∧ RepM T g H i (Γ.getD i .s) d v
  dF : ∀ i j a, g.F i a → g.F j a → i = j
  dFO : ∀ i a, g.F i a → ¬ g.O a
  dFB : ∀ i a, g.F i a → ¬ g.B a
  dOB : ∀ a, g.O a → ¬ g.B a
  dom : ∀ a, g.U a → ∃ o, H a = some o
  st : SR T g S H
  /-- what may be written is no tuple -/
  nt : ∀ a, g.U a → ∀ u, ¬ Rd H a (.tup u)
end Q

/-! What expressions come to. -/
namespace Q
open PySem PySem.Spec PyProof.Rows L2
abbrev Exx (H H' : Hp) : Prop := ∀ a o, H a = some o → H' a = some o
theorem Exx.nt {H H' : Hp} {U : Addr → Prop} (dm : ∀ a, U a → ∃ o, H a = some o) (nt : ∀ a, U a → ∀ u, ¬ Rd H a (.tup u)) (e : Exx H H') : ∀ a, U a → ∀ u, ¬ Rd H' a (.tup u) := fun a h u r => by
  obtain ⟨o, q⟩ := dm a h
  have q' := e a o q
  refine nt a h u (r.imp (fun z => ?_) fun ⟨b, z⟩ => ⟨b, ?_⟩)
  · rw [q'] at z; cases z; exact q
  · rw [q'] at z; cases z; exact q
theorem Exx.refl (H : Hp) : Exx H H := fun _ _ h => h
theorem Exx.new {H : Hp} {p : Addr} {o : HO} (h : H p = none) : Exx H (upd H p o) := fun a u e => by
  rw [upd_ne (ne_of_none e h)]; exact e
theorem Exx.trans {H H1 H2 : Hp} (a : Exx H H1) (b : Exx H1 H2) : Exx H H2 := fun x o h => b x o (a x o h)
section
variable {T : Th} {g g' : G} {H H' : Hp}
theorem Stay.ex (e : Exx H H') : Stay g H g H' := ⟨fun a o h _ => e a o h, fun _ h => .inl h, Nat.le_refl _, fun _ _ => rfl⟩
/-- the owned form stands where all that was tracked stands -/
theorem Own.keep (st : Stay g H g' H') (ke : ∀ (F : Addr → Prop) a o, F a → H a = some o → H' a = some o) : ∀ (k : Nat) (F : Addr → Prop) (d : D) (v : V), Own T g H k F d v → Own T g' H' k F d v := by
  intro k
  induction k with
  | zero =>
    intro F d v h
    simp only [Own] at h ⊢
    exact h.stay st
  | succ k ih =>
    intro F d v h
    cases d with
    | lst l =>
      simp only [Own] at h ⊢
      obtain ⟨p, vs, e, hF, hH, hl, Gs, h1, h2, h3⟩ := h
      exact ⟨p, vs, e, hF, ke F p _ hF hH, hl, Gs, h1, h2, fun j d w a b => ih (Gs j) d w (h3 j d w a b)⟩
    | dct l =>
      simp only [Own] at h ⊢
      obtain ⟨p, vs, e, hF, hH, hl, Gs, h1, h2, h3⟩ := h
      exact ⟨p, vs, e, hF, ke F p _ hF hH, hl, Gs, h1, h2, fun j d w a b => ⟨(h3 j d w a b).1, ih (Gs j) d.2 w.2 (h3 j d w a b).2⟩⟩
    | _ => simp only [Own] at h ⊢; exact h.stay st
/-- .. where what F may write stands -/
theorem Own.keepF (st : Stay g H g' H') : ∀ (k : Nat) (F : Addr → Prop) (d : D) (v : V), (∀ a o, F a → H a = some o → H' a = some o) → Own T g H k F d v → Own T g' H' k F d v := by
  intro k
  induction k with
  | zero =>
    intro F d v ke h
    simp only [Own] at h ⊢
    exact h.stay st
  | succ k ih =>
    intro F d v ke h
    cases d with
    | lst l =>
      simp only [Own] at h ⊢
      obtain ⟨p, vs, e, hF, hH, hl, Gs, h1, h2, h3⟩ := h
      exact ⟨p, vs, e, hF, ke p _ hF hH, hl, Gs, h1, h2, fun j d w a b => ih (Gs j) d w (fun a o z q => ke a o (h1 j a z).1 q) (h3 j d w a b)⟩
    | dct l =>
      simp only [Own] at h ⊢
      obtain ⟨p, vs, e, hF, hH, hl, Gs, h1, h2, h3⟩ := h
      exact ⟨p, vs, e, hF, ke p _ hF hH, hl, Gs, h1, h2, fun j d w a b => ⟨(h3 j d w a b).1, ih (Gs j) d.2 w.2 (fun a o z q => ke a o (h1 j a z).1 q) (h3 j d w a b).2⟩⟩
    | _ => simp only [Own] at h ⊢; exact h.stay st
/-- the same at a larger ground -/
theorem Own.wide : ∀ (k : Nat) (F F' : Addr → Prop) (d : D) (v : V), (∀ a, F a → F' a) → Own T g H k F d v → Own T g H k F' d v := by
  intro k F F' d v hf h
  cases k with
  | zero => simpa only [Own] using h
  | succ k =>
    cases d with
    | lst l =>
      simp only [Own] at h ⊢
      obtain ⟨p, vs, e, hF, hH, hl, Gs, h1, h2, h3⟩ := h
      exact ⟨p, vs, e, hf _ hF, hH, hl, Gs, fun j q z => ⟨hf _ (h1 j q z).1, (h1 j q z).2⟩, h2, h3⟩
    | dct l =>
      simp only [Own] at h ⊢
      obtain ⟨p, vs, e, hF, hH, hl, Gs, h1, h2, h3⟩ := h
      exact ⟨p, vs, e, hf _ hF, hH, hl, Gs, fun j q z => ⟨hf _ (h1 j q z).1, (h1 j q z).2⟩, h2, h3⟩
    | _ => simpa only [Own] using h
theorem SR.keep {S : Store} (r : SR T g S H) (st : Stay g H g' H') (ke : ∀ a o, g.B a → H a = some o → H' a = some o) (hN : g'.N = g.N) (hB : g'.B = g.B) (hBF : g'.BF = g.BF) (hμ : ∀ n, n < g.N → g'.μ n = g.μ n) : SR T g' S H' where
  N := hN.trans r.N
  inj := fun m n hm hn e => by
    rw [hN] at hm hn
    rw [hμ m hm, hμ n hn] at e
    exact r.inj m n hm hn e
  mB := fun n hn => by rw [hN] at hn; rw [hμ n hn, hB]; exact r.mB n hn
  bB := fun n f a h => by
    rw [hBF] at h
    rw [hB]
    exact ⟨(r.bB n f a h).1, fun m hm => by rw [hN] at hm; rw [hμ m hm]; exact (r.bB n f a h).2 m hm⟩
  bd := fun n f m e a h h' => by rw [hBF] at h h'; exact r.bd n f m e a h h'
  ob := fun n o e => by
    have hn : n < g.N := by rw [r.N]; exact (List.getElem?_eq_some_iff.mp e).1
    obtain ⟨dx, fs, h1, h2, h3⟩ := r.ob n o e
    refine ⟨dx, fs, ?_, h2, fun j d w a b => ?_⟩
    · rw [hμ n hn]; exact ke _ _ (r.mB n hn) h1
    · rw [hBF]
      exact Own.keepF st _ _ _ _ (fun a o z q => ke a o (r.bB n _ a z).1 q) (h3 j d w a b)
theorem Rel.ex {Γ : List Md} {ρ : Env} {S : Store} {σ : L2.St} (r : Rel T g Γ ρ S σ H) (e : Exx H H') : Rel T g Γ ρ S σ H' where
  len := r.len
  slot := fun i d h => by
    obtain ⟨v, h1, h2⟩ := r.slot i d h
    refine ⟨v, h1, ?_⟩
    cases hm : Γ.getD i .s <;> rw [hm] at h2 <;> simp only [RepM] at h2 ⊢
    · exact h2.stay (.ex e)
    · exact Own.keepF (.ex e) _ _ _ _ (fun a o _ q => e a o q) h2
    · exact Own.keepF (.ex e) _ _ _ _ (fun a o _ q => e a o q) h2
    · exact ⟨h2.1, Own.keepF (.ex e) _ _ _ _ (fun a o _ q => e a o q) h2.2⟩
    · exact h2
    · exact h2.stay (.ex e)
  dF := r.dF
  dFO := r.dFO
  dFB := r.dFB
  dOB := r.dOB
  dom := fun a h => by obtain ⟨o, q⟩ := r.dom a h; exact ⟨o, e a o q⟩
  st := r.st.keep (.ex e) (fun a o _ q => e a o q) rfl rfl rfl fun _ _ => rfl
  nt := e.nt r.dom r.nt
end
theorem G.bare_U {g : G} {a : Addr} (h : g.bare.U a) : g.U a := by
  rcases h with h | h | h
  · exact h.elim
  · exact .inr (.inl h)
  · exact .inr (.inr h)
theorem bare_sub {g g2 : G} {H : Hp} (hN : g.N = g2.N) (hμ : g2.μ = g.μ) (hF : ∀ i a, g2.F i a → ∃ j, g.F j a) (hB : ∀ a, g2.B a → g.B a) : Stay g.bare H g2.bare H := ⟨fun _ _ h _ => h, fun a h => .inl (by
  rcases h with h | ⟨i, h⟩ | h
  · exact h.elim
  · exact .inr (.inl (hF i a h))
  · exact .inr (.inr (hB a h))), by show g.N ≤ g2.N; rw [hN]; exact Nat.le_refl _, fun n _ => by show g2.μ n = g.μ n; rw [hμ]⟩
/-- behind an expression -/
structure FrE (g : G) (H : Hp) (g' : G) (H' : Hp) : Prop where
  keep : ∀ a o, H a = some o → ¬ g.B a → H' a = some o
  B : ∀ a, g'.B a → g.B a ∨ H a = none
  F : g'.F = g.F
  O : g'.O = g.O
  P : g'.P = g.P
  N : g.N ≤ g'.N
  μ : ∀ n, n < g.N → g'.μ n = g.μ n
  dom : ∀ a o, H a = some o → ∃ o', H' a = some o'
section
variable {T : Th} {g g1 g2 : G} {H H1 H2 : Hp}
theorem FrE.refl (g : G) (H : Hp) : FrE g H g H := ⟨fun _ _ h _ => h, fun _ h => .inl h, rfl, rfl, rfl, Nat.le_refl _, fun _ _ => rfl, fun _ o h => ⟨o, h⟩⟩
theorem FrE.ex (e : Exx H H1) : FrE g H g H1 := ⟨fun a o h _ => e a o h, fun _ h => .inl h, rfl, rfl, rfl, Nat.le_refl _, fun _ _ => rfl, fun a o h => ⟨o, e a o h⟩⟩
theorem FrE.stay (f : FrE g H g1 H1) : Stay g H g1 H1 where
  keep := fun a o h hu => f.keep a o h fun z => hu (.inr (.inr z))
  own := fun a h => by
    rcases h with h | h | h
    · rw [f.O] at h; exact .inl (.inl h)
    · rw [f.F] at h; exact .inl (.inr (.inl h))
    · exact (f.B a h).imp (fun z => .inr (.inr z)) id
  N := f.N
  μ := f.μ
theorem FrE.bare (f : FrE g H g1 H1) : Stay g.bare H g1.bare H1 where
  keep := fun a o h hu => f.keep a o h fun z => hu (.inr (.inr z))
  own := fun a h => by
    rcases h with h | h | h
    · exact h.elim
    · have h : ∃ i, g1.F i a := h
      rw [f.F] at h; exact .inl (.inr (.inl h))
    · exact (f.B a h).imp (fun z => .inr (.inr z)) id
  N := f.N
  μ := f.μ
theorem FrE.trans (a : FrE g H g1 H1) (b : FrE g1 H1 g2 H2) : FrE g H g2 H2 where
  keep := fun x o h hb => b.keep x o (a.keep x o h hb) fun z => by
    rcases a.B x z with z | z
    · exact hb z
    · rw [h] at z; cases z
  B := fun x h => by
    rcases b.B x h with h | h
    · exact a.B x h
    · cases e : H x with
      | none => exact .inr rfl
      | some o =>
        by_cases hb : g.B x
        · exact .inl hb
        · have := a.keep x o e hb
          rw [h] at this; cases this
  F := b.F.trans a.F
  O := b.O.trans a.O
  P := b.P.trans a.P
  N := Nat.le_trans a.N b.N
  μ := fun n h => (b.μ n (Nat.lt_of_lt_of_le h a.N)).trans (a.μ n h)
  dom := fun x o h => by
    obtain ⟨o', h'⟩ := a.dom x o h
    exact b.dom x o' h'
end
/-- an exception's class and own dict -/
def ExcR (T : Th) (g : G) (H : Hp) (x : Exc) (c : Value) (dd : Option Addr) : Prop :=
  x.cls < T.nc ∧ c = .ref (T.cA x.cls) ∧ ((x.args = [] ∧ dd = none) ∨ ∃ d fs, x.args ≠ [] ∧ dd = some d ∧ H d = some (.xd fs) ∧ fs.map (·.1) = x.args.map (·.1) ∧ ShrL T g H (x.args.map (·.2)) (fs.map (·.2)))
def GoodE (T : Th) (W : WX) (Γ : List Md) (ρ : Env) (σ : L2.St) (g : G) (H : Hp) : RE → VK → Prop
  | .ok d S', Q => ∀ v g' H', Rel T g' Γ ρ S' σ H' → FrE g H g' H' → Shr T g' H' d v → Q v H'
  | .exc x S', _ => ∀ c dd g' H', Rel T g' Γ ρ S' σ H' → FrE g H g' H' → ExcR T g' H' x c dd → W c dd σ H'
  | .no, _ => False
def GoodL (T : Th) (W : WX) (Γ : List Md) (ρ : Env) (σ : L2.St) (g : G) (H : Hp) : RL → (List V → Hp → Prop) → Prop
  | .ok d S', Q => ∀ v g' H', Rel T g' Γ ρ S' σ H' → FrE g H g' H' → ShrL T g' H' d v → Q v H'
  | .exc x S', _ => ∀ c dd g' H', Rel T g' Γ ρ S' σ H' → FrE g H g' H' → ExcR T g' H' x c dd → W c dd σ H'
  | .no, _ => False
def GoodT (T : Th) (W : WX) (Γ : List Md) (ρ : Env) (σ : L2.St) (g : G) (H : Hp) : RE → (Bool → Hp → Prop) → Prop
  | .ok d S', Q => ∃ b, d = .bl b ∧ ∀ g' H', Rel T g' Γ ρ S' σ H' → FrE g H g' H' → Q b H'
  | .exc x S', _ => ∀ c dd g' H', Rel T g' Γ ρ S' σ H' → FrE g H g' H' → ExcR T g' H' x c dd → W c dd σ H'
  | .no, _ => False
def tX (T : Th) (W : WX) (Γ : List Md) (F : FE) : TE := fun σ H Q => ∃ g ρ S, Rel T g Γ ρ S σ H ∧ GoodE T W Γ ρ σ g H (F ρ S) Q
def tXL (T : Th) (W : WX) (Γ : List Md) (F : FL) : TA := fun σ H Q => ∃ g ρ S, Rel T g Γ ρ S σ H ∧ GoodL T W Γ ρ σ g H (F ρ S) Q
def tXT (T : Th) (W : WX) (Γ : List Md) (F : FE) : TT := fun σ H Q => ∃ g ρ S, Rel T g Γ ρ S σ H ∧ GoodT T W Γ ρ σ g H (F ρ S) Q
abbrev XE (X : Cx) (T : Th) (W : WX) (Γ : List Md) (e : Expr) (F : FE) : Prop := PE X e (tX T W Γ F)
abbrev XL (X : Cx) (T : Th) (W : WX) (Γ : List Md) (es : List Expr) (F : FL) : Prop := PA X es (tXL T W Γ F)
abbrev XT (X : Cx) (T : Th) (W : WX) (Γ : List Md) (e : Expr) (F : FE) : Prop := PT X e (tXT T W Γ F)
theorem pe_imp {X : Cx} {e : Expr} {t t' : TE} (h : PE X e t) (i : ∀ σ H Q, t' σ H Q → t σ H Q) : PE X e t' := ⟨fun pins s σ H Q I q => h.run pins s σ H Q I (i σ H Q q)⟩
theorem pt_imp {X : Cx} {e : Expr} {t t' : TT} (h : PT X e t) (i : ∀ σ H Q, t' σ H Q → t σ H Q) : PT X e t' := ⟨fun pins s σ H Q I q => h.run pins s σ H Q I (i σ H Q q)⟩
theorem pw_imp {X : Cx} {e : Expr} {t t' : TT} (h : PW X e t) (i : ∀ σ H Q, t' σ H Q → t σ H Q) : PW X e t' := ⟨fun w pins s σ H Q I q => h.run w pins s σ H Q I (i σ H Q q)⟩
theorem pa_imp {X : Cx} {e : List Expr} {t t' : TA} (h : PA X e t) (i : ∀ σ H Q, t' σ H Q → t σ H Q) : PA X e t' := ⟨fun pos pins s σ H Q I q => h.run pos pins s σ H Q I (i σ H Q q)⟩
/-! ### what the readings are, over the data -/
def RE.bind : RE → (D → Store → RE) → RE
  | .ok d S, k => k d S
  | .exc x S, _ => .exc x S
  | .no, _ => .no
def RE.of (S : Store) : Option D → RE
  | some d => .ok d S
  | none => .no
def eC (d : D) : FE := fun _ S => .ok d S
def eVar (i : Nat) : FE := fun ρ S => match ρ[i]? with
  | some (some d) => .ok d S
  | _ => .no
def eOp (h : D → D → Option D) (a b : FE) : FE := fun ρ S => (a ρ S).bind fun x S1 => (b ρ S1).bind fun y S2 => .of S2 (h x y)
def eUn (h : D → Option D) (a : FE) : FE := fun ρ S => (a ρ S).bind fun x S1 => .of S1 (h x)
def lNil : FL := fun _ S => .ok [] S
def lCons (a : FE) (r : FL) : FL := fun ρ S => match a ρ S with
  | .ok x S1 => (match r ρ S1 with
    | .ok xs S2 => .ok (x :: xs) S2
    | .exc x S2 => .exc x S2
    | .no => .no)
  | .exc x S1 => .exc x S1
  | .no => .no
def eL (h : List D → Option D) (a : FL) : FE := fun ρ S => match a ρ S with
  | .ok xs S1 => .of S1 (h xs)
  | .exc x S1 => .exc x S1
  | .no => .no
def eTup (a : FL) : FE := eL (fun ds => if ds.length ≤ 1000000 then some (.tup ds) else none) a
def eLst (a : FL) : FE := eL (fun ds => if ds.length ≤ 1000000 then some (.lst ds) else none) a
def eAnd (a b : FE) : FE := fun ρ S => (a ρ S).bind fun x S1 => match x with
  | .bl true => b ρ S1
  | .bl false => .ok (.bl false) S1
  | _ => .no
def eOr (a b : FE) : FE := fun ρ S => (a ρ S).bind fun x S1 => match x with
  | .bl true => .ok (.bl true) S1
  | .bl false => b ρ S1
  | _ => .no
def eNot (a : FE) : FE := fun ρ S => (a ρ S).bind fun x S1 => match x with
  | .bl b => .ok (.bl (!b)) S1
  | _ => .no
def eIf (c a b : FE) : FE := fun ρ S => (c ρ S).bind fun x S1 => match x with
  | .bl true => a ρ S1
  | .bl false => b ρ S1
  | _ => .no
section
variable {X : Cx} {T : Th} {W : WX} {Γ : List Md}
/-- from a part's reading to the whole's -/
theorem good_bind {ρ : Env} {σ : L2.St} {g : G} {H : Hp} {r : RE} {k : D → Store → RE} {Q Q' : VK} (h : GoodE T W Γ ρ σ g H (r.bind k) Q)
    (hk : ∀ d S v g' H', r = .ok d S → Rel T g' Γ ρ S σ H' → FrE g H g' H' → Shr T g' H' d v → GoodE T W Γ ρ σ g' H' (k d S) Q → Q' v H') : GoodE T W Γ ρ σ g H r Q' := by
  cases r with
  | ok d S =>
    intro v g' H' R f s
    refine hk d S v g' H' rfl R f s ?_
    have h' : GoodE T W Γ ρ σ g H (k d S) Q := h
    cases e : k d S with
    | ok d2 S2 =>
      rw [e] at h'
      exact fun v2 g2 H2 R2 f2 s2 => h' v2 g2 H2 R2 (f.trans f2) s2
    | exc x S2 =>
      rw [e] at h'
      exact fun c dd g2 H2 R2 f2 s2 => h' c dd g2 H2 R2 (f.trans f2) s2
    | no => rw [e] at h'; exact h'
  | exc x S => exact h
  | no => exact h
theorem good_of {ρ : Env} {σ : L2.St} {g : G} {H : Hp} {S : Store} {o : Option D} {Q : VK} (h : GoodE T W Γ ρ σ g H (.of S o) Q) : ∃ d, o = some d ∧ GoodE T W Γ ρ σ g H (.ok d S) Q := by
  cases o with
  | none => exact h.elim
  | some d => exact ⟨d, rfl, h⟩
theorem xe_c {d : D} {v : V} {e : Expr} (he : PE X e (tC v)) (hs : ∀ g H, Shr T g H d v) : XE X T W Γ e (eC d) := pe_imp he fun σ H Q ⟨g, ρ, S, R, h⟩ => h v g H R (.refl g H) (hs g H)
theorem xe_int {i : Int} {j : Nat} {pos : Pos} : XE X T W Γ (.Constant (.int i) j pos) (eC (.int i)) := xe_c pe_int fun _ _ => by simp only [Shr]
theorem xe_str {x : Str} {j : Nat} {pos : Pos} : XE X T W Γ (.Constant (.str x) j pos) (eC (.str x)) := xe_c pe_str fun _ _ => by simp only [Shr]
theorem xe_bl {b : Bool} {j : Nat} {pos : Pos} : XE X T W Γ (.Constant (.bool b) j pos) (eC (.bl b)) := xe_c pe_bl fun _ _ => by simp only [Shr]
theorem xe_non {j : Nat} {pos : Pos} : XE X T W Γ (.Constant .none j pos) (eC .non) := xe_c pe_non fun _ _ => by simp only [Shr]
/-- a name whose value is shared -/
theorem xe_var {i : Nat} {e : Expr} (he : PE X e (tVar i)) (hm : Γ.getD i .s = .s) : XE X T W Γ e (eVar i) := pe_imp he fun σ H Q ⟨g, ρ, S, R, h⟩ => by
  have h : GoodE T W Γ ρ σ g H (match ρ[i]? with | some (some d) => RE.ok d S | _ => .no) Q := h
  split at h
  · rename_i d e
    obtain ⟨v, h1, h2⟩ := R.slot i d e
    rw [hm] at h2
    exact ⟨v, h1, h v g H R (.refl g H) h2⟩
  · exact h.elim
/-- an operation on values, by its rule -/
def OpOk (T : Th) (r : R2) (h : D → D → Option D) : Prop := ∀ (g : G) (H : Hp) (x y z : D) (v w : V), Shr T g H x v → Shr T g H y w → h x y = some z → (∀ a, g.U a → ∃ o, H a = some o) → ∀ Q : VK, (∀ u H', Exx H H' → Shr T g H' z u → Q u H') → r v w H Q
def UnOk (T : Th) (r : V → Hp → VK → Prop) (h : D → Option D) : Prop := ∀ (g : G) (H : Hp) (x z : D) (v : V), Shr T g H x v → h x = some z → (∀ a, g.U a → ∃ o, H a = some o) → ∀ Q : VK, (∀ u H', Exx H H' → Shr T g H' z u → Q u H') → r v H Q
def LsOk (T : Th) (r : List V → Hp → VK → Prop) (h : List D → Option D) : Prop := ∀ (g : G) (H : Hp) (xs : List D) (z : D) (vs : List V), ShrL T g H xs vs → h xs = some z → (∀ a, g.U a → ∃ o, H a = some o) → ∀ Q : VK, (∀ u H', Exx H H' → Shr T g H' z u → Q u H') → r vs H Q
theorem xe_op {e : Expr} {r : R2} {h : D → D → Option D} {a b : Expr} {A B : FE} (ok : OpOk T r h) (ha : XE X T W Γ a A) (hb : XE X T W Γ b B)
    (he : PE X a (tX T W Γ A) → PE X b (tX T W Γ B) → PE X e (tOp r (tX T W Γ A) (tX T W Γ B))) : XE X T W Γ e (eOp h A B) := pe_imp (he ha hb) fun σ H Q ⟨g, ρ, S, R, hg⟩ =>
  ⟨g, ρ, S, R, good_bind hg fun x S1 v g1 H1 _ R1 f1 s1 hg1 => ⟨g1, ρ, S1, R1, good_bind hg1 fun y S2 w g2 H2 _ R2 f2 s2 hg2 => by
    obtain ⟨z, ez, hg3⟩ := good_of hg2
    exact ok g2 H2 x y z v w (s1.stay f2.stay) s2 ez R2.dom Q fun u H' ex su => hg3 u g2 H' (R2.ex ex) (.ex ex) su⟩⟩
theorem xe_un {e : Expr} {r : V → Hp → VK → Prop} {h : D → Option D} {a : Expr} {A : FE} (ok : UnOk T r h) (ha : XE X T W Γ a A) (he : PE X a (tX T W Γ A) → PE X e (tUn r (tX T W Γ A))) : XE X T W Γ e (eUn h A) := pe_imp (he ha) fun σ H Q ⟨g, ρ, S, R, hg⟩ =>
  ⟨g, ρ, S, R, good_bind hg fun x S1 v g1 H1 _ R1 f1 s1 hg1 => by
    obtain ⟨z, ez, hg3⟩ := good_of hg1
    exact ok g1 H1 x z v s1 ez R1.dom Q fun u H' ex su => hg3 u g1 H' (R1.ex ex) (.ex ex) su⟩
theorem goodL_then {ρ : Env} {σ : L2.St} {g : G} {H : Hp} {A : FL} {h : List D → Option D} {S : Store} {Q : VK} {Q' : List V → Hp → Prop} (hg : GoodE T W Γ ρ σ g H (eL h A ρ S) Q)
    (hk : ∀ ds S' z vs g' H', h ds = some z → Rel T g' Γ ρ S' σ H' → FrE g H g' H' → ShrL T g' H' ds vs → GoodE T W Γ ρ σ g' H' (.ok z S') Q → Q' vs H') : GoodL T W Γ ρ σ g H (A ρ S) Q' := by
  unfold eL at hg
  cases e : A ρ S with
  | ok ds S' =>
    rw [e] at hg
    intro vs g' H' R f s
    obtain ⟨z, ez, hg⟩ := good_of hg
    exact hk ds S' z vs g' H' ez R f s fun v2 g2 H2 R2 f2 s2 => hg v2 g2 H2 R2 (f.trans f2) s2
  | exc x S' => rw [e] at hg; exact hg
  | no => rw [e] at hg; exact hg
theorem xe_L {e : Expr} {r : List V → Hp → VK → Prop} {h : List D → Option D} {as : List Expr} {A : FL} (ok : LsOk T r h) (ha : XL X T W Γ as A) (he : PA X as (tXL T W Γ A) → PE X e (tCB r (tXL T W Γ A))) : XE X T W Γ e (eL h A) := pe_imp (he ha) fun σ H Q ⟨g, ρ, S, R, hg⟩ =>
  ⟨g, ρ, S, R, goodL_then hg fun ds S1 z vs g1 H1 ez R1 f1 s1 hg1 => ok g1 H1 ds z vs s1 ez R1.dom Q fun u H' ex su => hg1 u g1 H' (R1.ex ex) (.ex ex) su⟩
theorem xl_nil : XL X T W Γ [] lNil := pa_imp pa_nil fun σ H Q ⟨g, ρ, S, R, hg⟩ => hg [] g H R (.refl g H) .nil
theorem xl_cons {e : Expr} {es : List Expr} {A : FE} {B : FL} (ha : XE X T W Γ e A) (hb : XL X T W Γ es B) (hx : PE X e (tX T W Γ A) → PA X es (tXL T W Γ B) → PA X (e :: es) (tCons (tX T W Γ A) (tXL T W Γ B))) : XL X T W Γ (e :: es) (lCons A B) := pa_imp (hx ha hb) fun σ H Q ⟨g, ρ, S, R, hg⟩ => by
  refine ⟨g, ρ, S, R, ?_⟩
  unfold lCons at hg
  cases e : A ρ S with
  | ok x S1 =>
    rw [e] at hg
    intro v g1 H1 R1 f1 s1
    refine ⟨g1, ρ, S1, R1, ?_⟩
    cases e2 : B ρ S1 with
    | ok xs S2 =>
      have hg : GoodL T W Γ ρ σ g H (match B ρ S1 with | .ok xs S2 => .ok (x :: xs) S2 | .exc x S2 => .exc x S2 | .no => .no) Q := hg
      rw [e2] at hg
      exact fun vs g2 H2 R2 f2 s2 => hg (v :: vs) g2 H2 R2 (f1.trans f2) (.cons (s1.stay f2.stay) s2)
    | exc y S2 =>
      have hg : GoodL T W Γ ρ σ g H (match B ρ S1 with | .ok xs S2 => .ok (x :: xs) S2 | .exc x S2 => .exc x S2 | .no => .no) Q := hg
      rw [e2] at hg
      exact fun c dd g2 H2 R2 f2 s2 => hg c dd g2 H2 R2 (f1.trans f2) s2
    | no =>
      have hg : GoodL T W Γ ρ σ g H (match B ρ S1 with | .ok xs S2 => .ok (x :: xs) S2 | .exc x S2 => .exc x S2 | .no => .no) Q := hg
      rw [e2] at hg
      exact hg
  | exc y S1 => rw [e] at hg; exact hg
  | no => rw [e] at hg; exact hg
end
end Q

/-! Operations on values. -/
namespace Q
open PySem PySem.Spec PyProof.Rows L2
theorem opr_or {X : Cx} {f : Value → Value → Sem Value} {r1 r2 : R2} (a : OpR X f r1) (b : OpR X f r2) : OpR X f (fun x y H Q => r1 x y H Q ∨ r2 x y H Q) := fun pins s σ H x y v u Q I rx ry h =>
  h.elim (a pins s σ H x y v u Q I rx ry) (b pins s σ H x y v u Q I rx ry)
theorem callr_or {X : Cx} {f : Value} {r1 r2 : List V → Hp → VK → Prop} (a : CallR X f r1) (b : CallR X f r2) : CallR X f (fun x H Q => r1 x H Q ∨ r2 x H Q) := fun pins s σ H xs us Q I r h =>
  h.elim (a pins s σ H xs us Q I r) (b pins s σ H xs us Q I r)
theorem ixr_or {X : Cx} {r1 r2 : R2} (a : IxR X r1) (b : IxR X r2) : IxR X (fun x y H Q => r1 x y H Q ∨ r2 x y H Q) := fun value slice pins s σ H x y v u Q I rx ry h =>
  h.elim (a value slice pins s σ H x y v u Q I rx ry) (b value slice pins s σ H x y v u Q I rx ry)
section
variable {T : Th} {g : G} {H : Hp}
theorem shr_int {i : Int} {v : V} : Shr T g H (.int i) v ↔ v = .int i := by simp only [Shr]
theorem shr_bl {i : Bool} {v : V} : Shr T g H (.bl i) v ↔ v = .bl i := by simp only [Shr]
theorem shr_str {i : Str} {v : V} : Shr T g H (.str i) v ↔ v = .str i := by simp only [Shr]
theorem shr_non {v : V} : Shr T g H .non v ↔ v = .non := by simp only [Shr]
theorem shr_tup {l : List D} {v : V} : Shr T g H (.tup l) v ↔ ∃ a vs, v = .ref a ∧ LkT T.K g.U H a vs ∧ ShrL T g H l vs := by simp only [Shr]
theorem shr_lst {l : List D} {v : V} : Shr T g H (.lst l) v ↔ ∃ a vs, v = .ref a ∧ (H a = some (.lst vs) ∧ ¬ g.U a) ∧ ShrL T g H l vs := by simp only [Shr]
theorem shr_scr {l : List D} {v : V} : Shr T g H (.scr l) v ↔ ∃ a vs, v = .ref a ∧ LkL T.K g.U H a vs ∧ ShrL T g H l vs := by simp only [Shr]
/-- a new tuple, a new list -/
theorem shr_newT {l : List D} {vs : List V} {p : Addr} (h : ShrL T g H l vs) (hp : H p = none) (hd : ∀ a, g.U a → ∃ o, H a = some o) : Shr T g (upd H p (.tup vs)) (.tup l) (.ref p) := shr_tup.mpr
  ⟨p, vs, rfl, .inl ⟨.inl upd_same, fun u => by obtain ⟨o, e⟩ := hd p u; rw [hp] at e; cases e⟩, h.stay (.ex (Exx.new hp)) _ _⟩
theorem shr_newL {l : List D} {vs : List V} {p : Addr} (h : ShrL T g H l vs) (hp : H p = none) (hd : ∀ a, g.U a → ∃ o, H a = some o) : Shr T g (upd H p (.lst vs)) (.lst l) (.ref p) := shr_lst.mpr
  ⟨p, vs, rfl, ⟨upd_same, fun u => by obtain ⟨o, e⟩ := hd p u; rw [hp] at e; cases e⟩, h.stay (.ex (Exx.new hp)) _ _⟩
end
/-! ### ints -/
def oI (f : Int → Int → Option D) : D → D → Option D
  | .int a, .int b => f a b
  | _, _ => none
theorem oI_ok {T : Th} {C : Int → Int → Prop} {g : Int → Int → V} {f : Int → Int → Option D} (h : ∀ a b z, f a b = some z → C a b ∧ ∀ (g' : G) (H : Hp), Shr T g' H z (g a b)) : OpOk T (rI C g) (oI f) := by
  intro g' H x y z v w sx sy e hd Q q
  cases x <;> cases y <;> simp only [oI] at e <;> first | cases e | skip
  obtain ⟨c, s⟩ := h _ _ _ e
  exact ⟨_, _, shr_int.mp sx, shr_int.mp sy, c, q _ H (.refl H) (s g' H)⟩
theorem oI0_ok {T : Th} {g : Int → Int → V} {f : Int → Int → Option D} (h : ∀ a b z, f a b = some z → ∀ (g' : G) (H : Hp), Shr T g' H z (g a b)) : OpOk T (rI0 g) (oI f) := by
  intro g' H x y z v w sx sy e hd Q q
  cases x <;> cases y <;> simp only [oI] at e <;> first | cases e | skip
  exact ⟨_, _, shr_int.mp sx, shr_int.mp sy, q _ H (.refl H) (h _ _ _ e g' H)⟩
/-- // by a divisor that is not nought, below 2 ^ 9000 in size -/
theorem op_fdivA {X : Cx} : OpR X (binaryOp .FloorDiv) (rI (fun _ j => j ≠ 0 ∧ j.natAbs.log2 < 9000) fun i j => .int (i.fdiv j)) := opI fun i j _ _ _ _ _ hc q => floordiv_int hc.1 q (.inl (PyProof.noPylong_of_log2 hc.2))
def hSub := oI fun a b => some (.int (a - b))
def hMod := oI fun a b => if 0 < b then some (.int (a % b)) else none
def hDiv := oI fun a b => if b = 0 ∨ 9000 ≤ b.natAbs.log2 then none else some (.int (a.fdiv b))
def hPow := oI fun a b => if 0 ≤ b ∧ b ≤ 1000000 ∧ a.natAbs < 2 ^ 64 then some (.int (a ^ b.toNat)) else none
def hShl := oI fun a b => if 0 ≤ b ∧ b ≤ 1000000 ∧ a.natAbs < 2 ^ 64 then some (.int (a * 2 ^ b.toNat)) else none
def hShr := oI fun a b => if 0 ≤ b then some (.int (a / 2 ^ b.toNat)) else none
def hAnd := oI fun a b => some (.int (Builtin.bitAnd a b))
def hOr := oI fun a b => some (.int (Builtin.bitOr a b))
def hLt := oI fun a b => some (.bl (decide (a < b)))
def hLe := oI fun a b => some (.bl (decide (a ≤ b)))
def hGt := oI fun a b => some (.bl (decide (b < a)))
def hGe := oI fun a b => some (.bl (decide (b ≤ a)))
def hMulI (a b : Int) : Option D := if a.natAbs.log2 + b.natAbs.log2 < 1000000 then some (.int (a * b)) else none
section
variable {T : Th}
theorem ok_sub : OpOk T (rI0 fun i j => .int (i - j)) hSub := oI0_ok fun _ _ _ e _ _ => by cases e; exact shr_int.mpr rfl
theorem ok_mod : OpOk T (rI (fun _ j => 0 < j) fun i j => .int (i % j)) hMod := oI_ok fun _ _ _ e => by
  split at e
  · cases e; exact ⟨by assumption, fun _ _ => shr_int.mpr rfl⟩
  · cases e
theorem ok_div : OpOk T (rI (fun _ j => j ≠ 0 ∧ j.natAbs.log2 < 9000) fun i j => .int (i.fdiv j)) hDiv := oI_ok fun _ _ _ e => by
  split at e
  · cases e
  · rename_i h
    cases e
    exact ⟨⟨fun z => h (.inl z), Nat.lt_of_not_le fun z => h (.inr z)⟩, fun _ _ => shr_int.mpr rfl⟩
theorem ok_pow : OpOk T (rI CPow fun i j => .int (i ^ j.toNat)) hPow := oI_ok fun _ _ _ e => by
  split at e
  · cases e; exact ⟨by assumption, fun _ _ => shr_int.mpr rfl⟩
  · cases e
theorem ok_shl : OpOk T (rI CPow fun i j => .int (i * 2 ^ j.toNat)) hShl := oI_ok fun _ _ _ e => by
  split at e
  · cases e; exact ⟨by assumption, fun _ _ => shr_int.mpr rfl⟩
  · cases e
theorem ok_shr : OpOk T (rI (fun _ j => 0 ≤ j) fun i j => .int (i / 2 ^ j.toNat)) hShr := oI_ok fun _ _ _ e => by
  split at e
  · cases e; exact ⟨by assumption, fun _ _ => shr_int.mpr rfl⟩
  · cases e
theorem ok_and : OpOk T (rI0 fun i j => .int (Builtin.bitAnd i j)) hAnd := oI0_ok fun _ _ _ e _ _ => by cases e; exact shr_int.mpr rfl
theorem ok_or : OpOk T (rI0 fun i j => .int (Builtin.bitOr i j)) hOr := oI0_ok fun _ _ _ e _ _ => by cases e; exact shr_int.mpr rfl
theorem ok_lt : OpOk T (rI0 fun i j => .bl (decide (i < j))) hLt := oI0_ok fun _ _ _ e _ _ => by cases e; exact shr_bl.mpr rfl
theorem ok_le : OpOk T (rI0 fun i j => .bl (decide (i ≤ j))) hLe := oI0_ok fun _ _ _ e _ _ => by cases e; exact shr_bl.mpr rfl
theorem ok_gt : OpOk T (rI0 fun i j => .bl (decide (j < i))) hGt := oI0_ok fun _ _ _ e _ _ => by cases e; exact shr_bl.mpr rfl
theorem ok_ge : OpOk T (rI0 fun i j => .bl (decide (j ≤ i))) hGe := oI0_ok fun _ _ _ e _ _ => by cases e; exact shr_bl.mpr rfl
end
/-! ### + and *, over ints, texts, tuples, lists -/
def hAdd : D → D → Option D
  | .int a, .int b => some (.int (a + b))
  | .str a, .str b => if a.length + b.length ≤ 1000000 then some (.str (a ++ b)) else none
  | .tup a, .tup b => if 0 < a.length ∧ a.length + b.length ≤ 1000000 then (if b.length = 0 then some (.tup a) else some (.tup (a ++ b))) else none
  | .lst a, .lst b => if a.length + b.length ≤ 1000000 then some (.lst (a ++ b)) else none
  | _, _ => none
theorem sz6 {n : Nat} (h : n ≤ 1000000) : n ≤ sizeLine := by rw [sizeLine_eq]; omega
/-- one of several rules -/
theorem hAdd_int (a b : Int) : hAdd (.int a) (.int b) = some (.int (a + b)) := rfl
abbrev rAddA (K : PySem.W.Frag) : R2 := fun x y H Q => rI0 (fun i j => .int (i + j)) x y H Q ∨ (∃ a b, x = .str a ∧ y = .str b ∧ a.length + b.length ≤ sizeLine ∧ Q (.str (a ++ b)) H) ∨ rCatT K x y H Q ∨ rCat x y H Q
theorem op_addA {X : Cx} : OpR X (binaryOp .Add) (rAddA X.K) := opr_or op_add (opr_or op_add_str (opr_or op_catT op_cat))
theorem ok_add {T : Th} : OpOk T (rAddA T.K) hAdd := by
  intro g H x y z v w sx sy e hd Q q
  cases x <;> cases y <;> simp only [hAdd] at e <;> first | cases e | skip
  · exact .inl ⟨_, _, shr_int.mp sx, shr_int.mp sy, q _ H (.refl H) (shr_int.mpr rfl)⟩
  · split at e
    · rename_i hl
      cases e
      exact .inr (.inl ⟨_, _, shr_str.mp sx, shr_str.mp sy, sz6 hl, q _ H (.refl H) (shr_str.mpr rfl)⟩)
    · cases e
  · split at e
    · rename_i hl
      obtain ⟨a, vs, rfl, la, ra⟩ := shr_tup.mp sx
      obtain ⟨b, ws, rfl, lb, rb⟩ := shr_tup.mp sy
      have l1 := ra.length
      have l2 := rb.length
      refine .inr (.inr (.inl ⟨a, b, vs, ws, rfl, rfl, la.sq, lb.sq, ?_, by rw [← l1, ← l2]; exact sz6 hl.2, ?_, ?_⟩))
      · rintro rfl
        have := hl.1
        rw [l1] at this
        exact Nat.lt_irrefl _ this
      · intro hw
        rw [if_pos (by rw [l2, hw]; rfl)] at e
        cases e
        exact q _ H (.refl H) sx
      · intro hw p hp
        rw [if_neg (by rw [l2]; exact fun z => hw (List.length_eq_zero_iff.mp z))] at e
        cases e
        exact q _ _ (Exx.new hp) (shr_newT (ra.append rb) hp hd)
    · cases e
  · split at e
    · rename_i hl
      cases e
      obtain ⟨a, vs, rfl, la, ra⟩ := shr_lst.mp sx
      obtain ⟨b, ws, rfl, lb, rb⟩ := shr_lst.mp sy
      have l1 := ra.length
      have l2 := rb.length
      exact .inr (.inr (.inr ⟨a, b, vs, ws, rfl, rfl, la.1, lb.1, by rw [← l1, ← l2]; exact sz6 hl, fun p hp => q _ _ (Exx.new hp) (shr_newL (ra.append rb) hp hd)⟩))
    · cases e
end Q

/-! More operations; tests. -/
namespace Q
open PySem PySem.Spec PyProof.Rows L2
section
variable {T : Th} {g : G} {H : Hp}
/-! ### subscripts -/
abbrev rIxA (K : PySem.W.Frag) : R2 := fun x y H Q => rIxL K x y H Q ∨ rIxT K x y H Q ∨ rIxS x y H Q
theorem ix_A {X : Cx} : IxR X (rIxA X.K) := ixr_or ix_list (ixr_or ix_tup ix_str)
def hIx : D → D → Option D
  | .lst l, .int i => atI l i
  | .scr l, .int i => atI l i
  | .tup l, .int i => atI l i
  | .str z, .int i => if z.length ≤ 1000000 then (atI z.cps.toList i).map fun c => .str ⟨#[c]⟩ else none
  | _, _ => none
theorem atI_shr {l : List D} {vs : List V} {i : Int} {d : D} (h : ShrL T g H l vs) (e : atI l i = some d) : ∃ v, atI vs i = some v ∧ Shr T g H d v := by
  unfold atI at e ⊢
  rw [← h.length]
  cases q : ixN l.length i with
  | none => rw [q] at e; cases e
  | some j =>
    rw [q] at e
    exact h.get e
theorem ok_ix : OpOk T (rIxA T.K) hIx := by
  intro g H x y z v w sx sy e hd Q q
  cases x <;> cases y <;> simp only [hIx] at e <;> first | cases e | skip
  · split at e
    · rename_i hl
      obtain ⟨c, e1, e2⟩ := Option.map_eq_some_iff.mp e
      subst e2
      exact .inr (.inr ⟨_, _, c, shr_str.mp sx, shr_int.mp sy, sz6 hl, e1, q _ H (.refl H) (shr_str.mpr rfl)⟩)
    · cases e
  · obtain ⟨a, vs, rfl, la, ra⟩ := shr_tup.mp sx
    obtain ⟨u, h1, h2⟩ := atI_shr ra e
    exact .inr (.inl ⟨a, vs, _, u, rfl, shr_int.mp sy, la.sq, h1, q u H (.refl H) h2⟩)
  · obtain ⟨a, vs, rfl, la, ra⟩ := shr_lst.mp sx
    obtain ⟨u, h1, h2⟩ := atI_shr ra e
    exact .inl ⟨a, vs, _, u, rfl, shr_int.mp sy, .of la.1, h1, q u H (.refl H) h2⟩
  · obtain ⟨a, vs, rfl, la, ra⟩ := shr_scr.mp sx
    obtain ⟨u, h1, h2⟩ := atI_shr ra e
    exact .inl ⟨a, vs, _, u, rfl, shr_int.mp sy, la.sq, h1, q u H (.refl H) h2⟩
/-! ### * -/
/-- * of two factors of together less than 134 millions of bits -/
def CMulB (i j : Int) : Prop := i.natAbs.log2 + j.natAbs.log2 < 134000000
theorem CMulB.ok {i j : Int} (h : CMulB i j) : IntMulOk i j := by
  have b : ∀ x : Int, Builtin.Int.intBits x ≤ x.natAbs.log2 + 1 := fun x => by
    unfold Builtin.Int.intBits
    split <;> omega
  have h3 : i.natAbs.log2 + j.natAbs.log2 < 134000000 := h
  exact PySem.IntMulOk.of_le (b i) (b j) (by omega)
theorem op_mulB {X : Cx} : OpR X (binaryOp .Mult) (rI CMulB fun i j => .int (i * j)) := opI fun _ _ _ _ _ _ _ hc q => mul_int q hc.ok
abbrev rMulA : R2 := fun x y H Q => rI CMulB (fun i j => .int (i * j)) x y H Q ∨ rRep x y H Q
theorem op_mulA {X : Cx} : OpR X (binaryOp .Mult) rMulA := opr_or op_mulB op_rep
def rep (l : List D) (k : Nat) : List D := (List.replicate k l).flatten
def hMul : D → D → Option D
  | .int a, .int b => if a.natAbs.log2 + b.natAbs.log2 < 134000000 then some (.int (a * b)) else none
  | .lst l, .int k => if 0 ≤ k ∧ k ≤ 1000000 ∧ l.length * k.toNat ≤ 1000000 then some (.lst (rep l k.toNat)) else none
  | _, _ => none
theorem shrL_rep {l : List D} {vs : List V} (h : ShrL T g H l vs) : ∀ k : Nat, ShrL T g H (rep l k) (List.replicate k vs).flatten
  | 0 => .nil
  | k + 1 => by
    unfold rep
    rw [List.replicate_succ, List.replicate_succ, List.flatten_cons, List.flatten_cons]
    exact h.append (shrL_rep h k)
theorem ok_mul : OpOk T rMulA hMul := by
  intro g H x y z v w sx sy e hd Q q
  cases x <;> cases y <;> simp only [hMul] at e <;> first | cases e | skip
  · split at e
    · rename_i hl
      cases e
      exact .inl ⟨_, _, shr_int.mp sx, shr_int.mp sy, hl, q _ H (.refl H) (shr_int.mpr rfl)⟩
    · cases e
  · split at e
    · rename_i hl
      cases e
      obtain ⟨a, vs, rfl, la, ra⟩ := shr_lst.mp sx
      refine .inr ⟨a, _, vs, rfl, shr_int.mp sy, la.1, by omega, by omega, by rw [← ra.length]; exact sz6 hl.2.2, fun p hp => ?_⟩
      exact q _ _ (Exx.new hp) (shr_newL (shrL_rep ra _) hp hd)
    · cases e
/-! ### unary minus, len, abs, truth -/
def hNeg : D → Option D
  | .int a => some (.int (-a))
  | _ => none
theorem ok_neg : UnOk T (rU fun i => .int (-i)) hNeg := by
  intro g H x z v sx e hd Q q
  cases x <;> simp only [hNeg] at e <;> first | cases e | skip
  exact ⟨_, shr_int.mp sx, q _ H (.refl H) (shr_int.mpr rfl)⟩
abbrev rLenA (K : PySem.W.Frag) : List V → Hp → VK → Prop := fun xs H Q => (∃ p ys, xs = [.ref p] ∧ (SqL K H p ys ∨ SqT K H p ys) ∧ Q (.int ys.length) H) ∨ (∃ z, xs = [.str z] ∧ z.length ≤ sizeLine ∧ Q (.int z.length) H)
theorem call_lenA {X : Cx} : CallR X (.builtin "len") (rLenA X.K) := callr_or call_len_seq call_len_str
def hLen : List D → Option D
  | [.lst l] => some (.int l.length)
  | [.scr l] => some (.int l.length)
  | [.tup l] => some (.int l.length)
  | [.str z] => if z.length ≤ 1000000 then some (.int z.length) else none
  | _ => none
theorem shrL1 {x : D} {vs : List V} (h : ShrL T g H [x] vs) : ∃ v, vs = [v] ∧ Shr T g H x v := by
  simp only [ShrL] at h
  obtain ⟨v, ws, rfl, s, rfl⟩ := h
  exact ⟨v, rfl, s⟩
theorem shrL2 {x y : D} {vs : List V} (h : ShrL T g H [x, y] vs) : ∃ v w, vs = [v, w] ∧ Shr T g H x v ∧ Shr T g H y w := by
  simp only [ShrL] at h
  obtain ⟨v, ws, rfl, s, w, _, rfl, s2, rfl⟩ := h
  exact ⟨v, w, rfl, s, s2⟩
theorem ok_len : LsOk T (rLenA T.K) hLen := by
  intro g H xs z vs sx e hd Q q
  unfold hLen at e
  split at e <;> first | cases e | skip
  · obtain ⟨v, rfl, s⟩ := shrL1 sx
    obtain ⟨a, us, rfl, la, ra⟩ := shr_lst.mp s
    exact .inl ⟨a, us, rfl, .inl (.of la.1), by rw [← ra.length]; exact q _ H (.refl H) (shr_int.mpr rfl)⟩
  · obtain ⟨v, rfl, s⟩ := shrL1 sx
    obtain ⟨a, us, rfl, la, ra⟩ := shr_scr.mp s
    exact .inl ⟨a, us, rfl, .inl la.sq, by rw [← ra.length]; exact q _ H (.refl H) (shr_int.mpr rfl)⟩
  · obtain ⟨v, rfl, s⟩ := shrL1 sx
    obtain ⟨a, us, rfl, la, ra⟩ := shr_tup.mp s
    exact .inl ⟨a, us, rfl, .inr la.sq, by rw [← ra.length]; exact q _ H (.refl H) (shr_int.mpr rfl)⟩
  · split at e
    · rename_i hl
      cases e
      obtain ⟨v, rfl, s⟩ := shrL1 sx
      rw [shr_str.mp s]
      exact .inr ⟨_, rfl, sz6 hl, q _ H (.refl H) (shr_int.mpr rfl)⟩
    · cases e
def hAbs : List D → Option D
  | [.int a] => some (.int (if a < 0 then -a else a))
  | _ => none
theorem ok_abs : LsOk T (fun xs H Q => ∃ i, xs = [.int i] ∧ Q (.int (if i < 0 then -i else i)) H) hAbs := by
  intro g H xs z vs sx e hd Q q
  unfold hAbs at e
  split at e <;> first | cases e | skip
  obtain ⟨v, rfl, s⟩ := shrL1 sx
  rw [shr_int.mp s]
  exact ⟨_, rfl, q _ H (.refl H) (shr_int.mpr rfl)⟩
def hTru : D → Option D
  | .non => some (.bl false)
  | .bl b => some (.bl b)
  | .int i => some (.bl (i != 0))
  | .str z => if z.length ≤ 1000000 then some (.bl ((z.length : Int) != 0)) else none
  | .lst l => some (.bl !l.isEmpty)
  | .scr l => some (.bl !l.isEmpty)
  | .tup l => some (.bl !l.isEmpty)
  | _ => none
theorem isEmpty_len {α β : Type} {l : List α} {vs : List β} (h : l.length = vs.length) : l.isEmpty = vs.isEmpty := by
  cases l <;> cases vs <;> simp_all
theorem tru_shr {d z : D} {v : V} (s : Shr T g H d v) (e : hTru d = some z) : ∃ b, z = .bl b ∧ TruV T.K v H b := by
  cases d <;> simp only [hTru] at e <;> first | cases e | skip
  · rw [shr_non.mp s]; exact ⟨_, rfl, rfl⟩
  · rw [shr_bl.mp s]; exact ⟨_, rfl, rfl⟩
  · rw [shr_int.mp s]; exact ⟨_, rfl, rfl⟩
  · split at e
    · rename_i hl
      cases e
      rw [shr_str.mp s]; exact ⟨_, rfl, sz6 hl, rfl⟩
    · cases e
  · obtain ⟨a, us, rfl, la, ra⟩ := shr_tup.mp s
    exact ⟨_, rfl, .inr (.inl ⟨us, la.sq, by rw [isEmpty_len ra.length]⟩)⟩
  · obtain ⟨a, us, rfl, la, ra⟩ := shr_lst.mp s
    exact ⟨_, rfl, .inl ⟨us, .of la.1, by rw [isEmpty_len ra.length]⟩⟩
  · obtain ⟨a, us, rfl, la, ra⟩ := shr_scr.mp s
    exact ⟨_, rfl, .inl ⟨us, la.sq, by rw [isEmpty_len ra.length]⟩⟩
/-! ### == of data -/
mutual
def toPy : D → Option PyData
  | .non => some .none
  | .bl b => some (.bool b)
  | .int i => some (.int i)
  | .str x => some (.str x)
  | .tup l => (toPyL l).map .tuple
  | .lst l => (toPyL l).map .list
  | _ => none
def toPyL : List D → Option (List PyData)
  | [] => some []
  | d :: ds => match toPy d, toPyL ds with
    | some p, some ps => some (p :: ps)
    | _, _ => none
end
mutual
theorem Shr.dp : ∀ (d : D) (v : V) (p : PyData), Shr T g H d v → toPy d = some p → Dp T.K H v p
  | .non, v, p, s, e => by simp only [toPy] at e; cases e; rw [shr_non.mp s]; exact .non
  | .bl b, v, p, s, e => by simp only [toPy] at e; cases e; rw [shr_bl.mp s]; exact .bl b
  | .int i, v, p, s, e => by simp only [toPy] at e; cases e; rw [shr_int.mp s]; exact .int i
  | .str i, v, p, s, e => by simp only [toPy] at e; cases e; rw [shr_str.mp s]; exact .str i
  | .tup l, v, p, s, e => by
    simp only [toPy] at e
    obtain ⟨ps, e1, e2⟩ := Option.map_eq_some_iff.mp e
    subst e2
    obtain ⟨a, us, rfl, la, ra⟩ := shr_tup.mp s
    exact .tup la.sq (ShrL.dp l us ps ra e1)
  | .lst l, v, p, s, e => by
    simp only [toPy] at e
    obtain ⟨ps, e1, e2⟩ := Option.map_eq_some_iff.mp e
    subst e2
    obtain ⟨a, us, rfl, la, ra⟩ := shr_lst.mp s
    exact .lst (.of la.1) (ShrL.dp l us ps ra e1)
  | .scr l, v, p, s, e => by simp [toPy] at e
  | .dct l, v, p, s, e => by simp [toPy] at e
  | .obj l, v, p, s, e => by simp [toPy] at e
  | .fn k l, v, p, s, e => by simp [toPy] at e
theorem ShrL.dp : ∀ (ds : List D) (vs : List V) (ps : List PyData), ShrL T g H ds vs → toPyL ds = some ps → DpAll T.K H vs ps
  | [], vs, ps, s, e => by
    simp only [toPyL] at e; cases e
    simp only [ShrL] at s; subst s
    exact .nil
  | d :: ds, vs, ps, s, e => by
    simp only [toPyL] at e
    simp only [ShrL] at s
    obtain ⟨v, ws, rfl, s1, s2⟩ := s
    split at e
    · rename_i p ps' e1 e2
      cases e
      exact .cons (Shr.dp d v p s1 e1) (ShrL.dp ds ws ps' s2 e2)
    · cases e
end
def hEq (x y : D) : Option D := match toPy x, toPy y with
  | some p, some q => if SeqAt.shaped p = true ∧ SeqAt.shaped q = true then some (.bl (PyData.eqv p q)) else none
  | _, _ => none
def hNe (x y : D) : Option D := match toPy x, toPy y with
  | some p, some q => if SeqAt.shaped p = true ∧ SeqAt.shaped q = true then some (.bl (!PyData.eqv p q)) else none
  | _, _ => none
theorem ok_eq : OpOk T (rEqD T.K) hEq := by
  intro g H x y z v w sx sy e hd Q q
  unfold hEq at e
  split at e
  · rename_i p p' e1 e2
    split at e
    · rename_i h
      cases e
      exact ⟨p, p', sx.dp _ _ _ e1, sy.dp _ _ _ e2, h.1, h.2, q _ H (.refl H) (shr_bl.mpr rfl)⟩
    · cases e
  · cases e
theorem ok_ne : OpOk T (rNeD T.K) hNe := by
  intro g H x y z v w sx sy e hd Q q
  unfold hNe at e
  split at e
  · rename_i p p' e1 e2
    split at e
    · rename_i h
      cases e
      exact ⟨p, p', sx.dp _ _ _ e1, sy.dp _ _ _ e2, h.1, h.2, q _ H (.refl H) (shr_bl.mpr rfl)⟩
    · cases e
  · cases e
def hIsN : D → D → Option D
  | .non, .non => some (.bl true)
  | .fn _ _, _ => none
  | _, .non => some (.bl false)
  | _, _ => none
def hNotN : D → D → Option D
  | .non, .non => some (.bl false)
  | .fn _ _, _ => none
  | _, .non => some (.bl true)
  | _, _ => none
theorem shr_ne_non {d : D} {v : V} (s : Shr T g H d v) (h : d ≠ .non) : v ≠ .non := by
  cases d <;> simp only [Shr] at s <;> first | exact absurd rfl h | skip
  all_goals first
    | (rw [s]; intro z; cases z)
    | (obtain ⟨a, vs, rfl, _⟩ := s; intro z; cases z)
    | (rw [s.2]; intro z; cases z)
    | exact s.elim
/-! ### in, over lists and tuples of flat data -/
def flatD : D → Bool
  | .non => true
  | .bl _ => true
  | .int _ => true
  | .str _ => true
  | _ => false
def eqD : D → D → Bool
  | .non, .non => true
  | .bl a, .bl b => a == b
  | .bl a, .int b => (if a then 1 else 0) == b
  | .int a, .bl b => a == (if b then 1 else 0)
  | .int a, .int b => a == b
  | .str a, .str b => a == b
  | _, _ => false
theorem flat_shr {d : D} {v : V} (s : Shr T g H d v) (h : flatD d = true) : flatV v = true := by
  cases d <;> simp only [flatD] at h <;> first | cases h | skip
  · rw [shr_non.mp s]; rfl
  · rw [shr_bl.mp s]; rfl
  · rw [shr_int.mp s]; rfl
  · rw [shr_str.mp s]; rfl
theorem eqD_shr {d e : D} {v w : V} (s : Shr T g H d v) (t : Shr T g H e w) (h : flatD d = true) (h' : flatD e = true) : eqV v w = eqD d e := by
  cases d <;> simp only [flatD] at h <;> first | cases h | skip
  all_goals (cases e <;> simp only [flatD] at h' <;> first | cases h' | skip)
  all_goals (simp only [Shr] at s t; subst s; subst t; rfl)
theorem allFlat {ds : List D} {vs : List V} (s : ShrL T g H ds vs) (h : ds.all flatD = true) : vs.all flatV = true := by
  induction ds generalizing vs with
  | nil => simp only [ShrL] at s; subst s; rfl
  | cons d ds ih =>
    simp only [ShrL] at s
    obtain ⟨v, ws, rfl, s1, s2⟩ := s
    rw [List.all_cons, Bool.and_eq_true] at h ⊢
    exact ⟨flat_shr s1 h.1, ih s2 h.2⟩
theorem anyEq {x : D} {v : V} (sx : Shr T g H x v) (hx : flatD x = true) {ds : List D} {vs : List V} (s : ShrL T g H ds vs) (h : ds.all flatD = true) : inV v vs = ds.any fun y => eqD y x := by
  unfold inV
  induction ds generalizing vs with
  | nil => simp only [ShrL] at s; subst s; rfl
  | cons d ds ih =>
    simp only [ShrL] at s
    obtain ⟨v', ws, rfl, s1, s2⟩ := s
    rw [List.all_cons, Bool.and_eq_true] at h
    rw [List.any_cons, List.any_cons, ih s2 h.2, eqD_shr s1 sx h.1 hx]
def inL (neg : Bool) (x : D) (l : List D) : Option D := if flatD x = true ∧ l.all flatD = true then some (.bl (if neg then !(l.any fun y => eqD y x) else l.any fun y => eqD y x)) else none
def hIn (neg : Bool) : D → D → Option D
  | x, .lst l => inL neg x l
  | x, .scr l => inL neg x l
  | x, .tup l => inL neg x l
  | .str a, .str b => if neg then some (.bl !!(Builtin.Str.occurrences b a 0 b.length 1).isEmpty) else some (.bl !(Builtin.Str.occurrences b a 0 b.length 1).isEmpty)
  | _, _ => none
theorem ok_inL {neg : Bool} {x z : D} {l : List D} {a : Addr} {vs : List V} {v : V} (sx : Shr T g H x v) (h : SqL T.K H a vs ∨ SqT T.K H a vs) (s : ShrL T g H l vs) (e : inL neg x l = some z) {Q : VK} (q : ∀ u H', Exx H H' → Shr T g H' z u → Q u H') : rIn T.K neg v (.ref a) H Q := by
  unfold inL at e
  split at e
  · rename_i c
    cases e
    refine ⟨a, vs, rfl, h, flat_shr sx c.1, allFlat s c.2, ?_⟩
    rw [anyEq sx c.1 s c.2]
    exact q _ H (.refl H) (by cases neg <;> exact shr_bl.mpr rfl)
  · cases e
end
end Q

/-! Tests, and, or, not, if. -/
namespace Q
open PySem PySem.Spec PyProof.Rows L2
section
variable {X : Cx} {T : Th} {W : WX} {Γ : List Md}
/-- the same for tests -/
theorem goodT_bind {ρ : Env} {σ : L2.St} {g : G} {H : Hp} {r : RE} {k : D → Store → RE} {Q : Bool → Hp → Prop} {Q' : VK} (h : GoodT T W Γ ρ σ g H (r.bind k) Q)
    (hk : ∀ d S v g' H', r = .ok d S → Rel T g' Γ ρ S σ H' → FrE g H g' H' → Shr T g' H' d v → GoodT T W Γ ρ σ g' H' (k d S) Q → Q' v H') : GoodE T W Γ ρ σ g H r Q' := by
  cases r with
  | ok d S =>
    intro v g' H' R f s
    refine hk d S v g' H' rfl R f s ?_
    have h' : GoodT T W Γ ρ σ g H (k d S) Q := h
    cases e : k d S with
    | ok d2 S2 =>
      rw [e] at h'
      obtain ⟨b, e2, h'⟩ := h'
      exact ⟨b, e2, fun g2 H2 R2 f2 => h' g2 H2 R2 (f.trans f2)⟩
    | exc x S2 =>
      rw [e] at h'
      exact fun c dd g2 H2 R2 f2 s2 => h' c dd g2 H2 R2 (f.trans f2) s2
    | no => rw [e] at h'; exact h'
  | exc x S => exact h
  | no => exact h
theorem goodTT_bind {ρ : Env} {σ : L2.St} {g : G} {H : Hp} {r : RE} {k : D → Store → RE} {Q : Bool → Hp → Prop} {Q' : Bool → Hp → Prop} (h : GoodT T W Γ ρ σ g H (r.bind k) Q) (hb : ∀ d S, r = .ok d S → k d S ≠ .no → ∃ b, d = .bl b)
    (hk : ∀ b S g' H', r = .ok (.bl b) S → Rel T g' Γ ρ S σ H' → FrE g H g' H' → GoodT T W Γ ρ σ g' H' (k (.bl b) S) Q → Q' b H') : GoodT T W Γ ρ σ g H r Q' := by
  cases r with
  | ok d S =>
    have h' : GoodT T W Γ ρ σ g H (k d S) Q := h
    obtain ⟨b, rfl⟩ := hb d S rfl (fun z => by rw [z] at h'; exact h')
    refine ⟨b, rfl, fun g' H' R f => hk b S g' H' rfl R f ?_⟩
    cases e : k (.bl b) S with
    | ok d2 S2 =>
      rw [e] at h'
      obtain ⟨b, e2, h'⟩ := h'
      exact ⟨b, e2, fun g2 H2 R2 f2 => h' g2 H2 R2 (f.trans f2)⟩
    | exc x S2 =>
      rw [e] at h'
      exact fun c dd g2 H2 R2 f2 s2 => h' c dd g2 H2 R2 (f.trans f2) s2
    | no => rw [e] at h'; exact h'
  | exc x S => exact h
  | no => exact h
theorem goodTE_bind {ρ : Env} {σ : L2.St} {g : G} {H : Hp} {r : RE} {k : D → Store → RE} {Q : VK} {Q' : Bool → Hp → Prop} (h : GoodE T W Γ ρ σ g H (r.bind k) Q) (hb : ∀ d S, r = .ok d S → k d S ≠ .no → ∃ b, d = .bl b)
    (hk : ∀ b S g' H', r = .ok (.bl b) S → Rel T g' Γ ρ S σ H' → FrE g H g' H' → GoodE T W Γ ρ σ g' H' (k (.bl b) S) Q → Q' b H') : GoodT T W Γ ρ σ g H r Q' := by
  cases r with
  | ok d S =>
    have h' : GoodE T W Γ ρ σ g H (k d S) Q := h
    obtain ⟨b, rfl⟩ := hb d S rfl (fun z => by rw [z] at h'; exact h')
    refine ⟨b, rfl, fun g' H' R f => hk b S g' H' rfl R f ?_⟩
    cases e : k (.bl b) S with
    | ok d2 S2 =>
      rw [e] at h'
      exact fun v2 g2 H2 R2 f2 s2 => h' v2 g2 H2 R2 (f.trans f2) s2
    | exc x S2 =>
      rw [e] at h'
      exact fun c dd g2 H2 R2 f2 s2 => h' c dd g2 H2 R2 (f.trans f2) s2
    | no => rw [e] at h'; exact h'
  | exc x S => exact h
  | no => exact h
/-- a value that is a truth, as a test -/
theorem xt_val {e : Expr} {A : FE} (ha : XE X T W Γ e A) (he : PE X e (tX T W Γ A) → PT X e (tB (tX T W Γ A)) ∨ PT X e (tTest (tX T W Γ A))) : XT X T W Γ e A := by
  have key : ∀ σ H Q, tXT T W Γ A σ H Q → tX T W Γ A σ H fun x H1 => ∃ c, x = .bl c ∧ Q c H1 := fun σ H Q ⟨g, ρ, S, R, h⟩ => by
    refine ⟨g, ρ, S, R, ?_⟩
    cases r : A ρ S with
    | ok d S1 =>
      rw [r] at h
      obtain ⟨b, rfl, h⟩ := h
      exact fun v g' H' R' f' s => ⟨b, shr_bl.mp s, h g' H' R' f'⟩
    | exc x S1 => rw [r] at h; exact h
    | no => rw [r] at h; exact h
  rcases he ha with h | h
  · exact pt_imp h key
  · exact pt_imp h key
def eTru (a : FE) : FE := eUn hTru a
theorem xt_tru {e : Expr} {A : FE} (ha : XE X T W Γ e A) (hK : X.K = T.K) (he : ∀ whole, isTrue e X.env whole = (do let v ← whole; standAt e.pos; holding [v] (truthy v)) := by intro _; rfl) : XT X T W Γ e (eTru A) := pt_imp (pt_truth ha he) fun σ H Q ⟨g, ρ, S, R, h⟩ =>
  ⟨g, ρ, S, R, goodT_bind h fun d S1 v g1 H1 _ R1 f1 s1 h1 => by
    cases e : hTru d with
    | none => rw [e] at h1; exact h1.elim
    | some z =>
      rw [e] at h1
      obtain ⟨b, rfl, tv⟩ := tru_shr s1 e
      obtain ⟨b', e2, h1⟩ := h1
      cases e2
      exact ⟨b, by rw [hK]; exact tv, h1 g1 H1 R1 (.refl _ _)⟩⟩
theorem bl_and {d : D} {S : Store} {b : FE} {ρ : Env} (h : (match d with | .bl true => b ρ S | .bl false => RE.ok (.bl false) S | _ => .no) ≠ .no) : ∃ b, d = .bl b := by
  split at h
  · exact ⟨_, rfl⟩
  · exact ⟨_, rfl⟩
  · exact absurd rfl h
theorem bl_or {d : D} {S : Store} {b : FE} {ρ : Env} (h : (match d with | .bl true => RE.ok (.bl true) S | .bl false => b ρ S | _ => .no) ≠ .no) : ∃ b, d = .bl b := by
  split at h
  · exact ⟨_, rfl⟩
  · exact ⟨_, rfl⟩
  · exact absurd rfl h
theorem bl_if {d : D} {S : Store} {a b : FE} {ρ : Env} (h : (match d with | .bl true => a ρ S | .bl false => b ρ S | _ => RE.no) ≠ .no) : ∃ b, d = .bl b := by
  split at h
  · exact ⟨_, rfl⟩
  · exact ⟨_, rfl⟩
  · exact absurd rfl h
theorem bl_not {d : D} {S : Store} (h : (match d with | .bl b => RE.ok (.bl (!b)) S | _ => .no) ≠ .no) : ∃ b, d = .bl b := by
  split at h
  · exact ⟨_, rfl⟩
  · exact absurd rfl h
variable {a b c : Expr} {A B C : FE} {pos : Pos} {rest : List Expr}
abbrev XW (X : Cx) (T : Th) (W : WX) (Γ : List Md) (e : Expr) (F : FE) : Prop := PW X e (tXT T W Γ F)
theorem xw_and (ha : XT X T W Γ a A) (hb : XW X T W Γ (.BoolOp .And (b :: rest) pos) B) : XW X T W Γ (.BoolOp .And (a :: b :: rest) pos) (eAnd A B) := pw_imp (pw_and ha hb) fun σ H Q ⟨g, ρ, S, R, h⟩ =>
  ⟨g, ρ, S, R, goodTT_bind h (fun d S1 _ hn => bl_and hn) fun t S1 g1 H1 _ R1 f1 h1 => by
    cases t with
    | true => exact ⟨g1, ρ, S1, R1, h1⟩
    | false =>
      obtain ⟨b', e2, h1⟩ := h1
      cases e2
      exact h1 g1 H1 R1 (.refl _ _)⟩
theorem xw_or (ha : XT X T W Γ a A) (hb : XW X T W Γ (.BoolOp .Or (b :: rest) pos) B) : XW X T W Γ (.BoolOp .Or (a :: b :: rest) pos) (eOr A B) := pw_imp (pw_or ha hb) fun σ H Q ⟨g, ρ, S, R, h⟩ =>
  ⟨g, ρ, S, R, goodTT_bind h (fun d S1 _ hn => bl_or hn) fun t S1 g1 H1 _ R1 f1 h1 => by
    cases t with
    | false => exact ⟨g1, ρ, S1, R1, h1⟩
    | true =>
      obtain ⟨b', e2, h1⟩ := h1
      cases e2
      exact h1 g1 H1 R1 (.refl _ _)⟩
theorem xw_and1 (ha : XT X T W Γ a A) : XW X T W Γ (.BoolOp .And [a] pos) A := pw_and1 ha
theorem xw_or1 (ha : XT X T W Γ a A) : XW X T W Γ (.BoolOp .Or [a] pos) A := pw_or1 ha
theorem xt_not (ha : XT X T W Γ a A) : XT X T W Γ (.UnaryOp .Not a pos) (eNot A) := pt_imp (pt_not ha) fun σ H Q ⟨g, ρ, S, R, h⟩ =>
  ⟨g, ρ, S, R, goodTT_bind h (fun d S1 _ hn => bl_not hn) fun t S1 g1 H1 _ R1 f1 h1 => by
    obtain ⟨b', e2, h1⟩ := h1
    cases e2
    exact h1 g1 H1 R1 (.refl _ _)⟩
theorem xe_and1 {op} (ha : XE X T W Γ a A) : XE X T W Γ (.BoolOp op [a] pos) A := pe_one ha
theorem xe_and (ha : XE X T W Γ a A) (hb : XE X T W Γ (.BoolOp .And (b :: rest) pos) B) : XE X T W Γ (.BoolOp .And (a :: b :: rest) pos) (eAnd A B) := pe_imp (pe_and ha hb) fun σ H Q ⟨g, ρ, S, R, h⟩ =>
  ⟨g, ρ, S, R, good_bind h fun d S1 v g1 H1 _ R1 f1 s1 h1 => by
    obtain ⟨t, rfl⟩ : ∃ t, d = .bl t := by
      have h0 := h1
      split at h0 <;> first | exact ⟨_, rfl⟩ | exact h0.elim
    refine ⟨t, shr_bl.mp s1, ?_⟩
    cases t with
    | true => exact ⟨g1, ρ, S1, R1, h1⟩
    | false => exact h1 (.bl false) g1 H1 R1 (.refl _ _) (shr_bl.mpr rfl)⟩
theorem xe_or (ha : XE X T W Γ a A) (hb : XE X T W Γ (.BoolOp .Or (b :: rest) pos) B) : XE X T W Γ (.BoolOp .Or (a :: b :: rest) pos) (eOr A B) := pe_imp (pe_or ha hb) fun σ H Q ⟨g, ρ, S, R, h⟩ =>
  ⟨g, ρ, S, R, good_bind h fun d S1 v g1 H1 _ R1 f1 s1 h1 => by
    obtain ⟨t, rfl⟩ : ∃ t, d = .bl t := by
      have h0 := h1
      split at h0 <;> first | exact ⟨_, rfl⟩ | exact h0.elim
    refine ⟨t, shr_bl.mp s1, ?_⟩
    cases t with
    | false => exact ⟨g1, ρ, S1, R1, h1⟩
    | true => exact h1 (.bl true) g1 H1 R1 (.refl _ _) (shr_bl.mpr rfl)⟩
theorem xe_not (ha : XE X T W Γ a A) : XE X T W Γ (.UnaryOp .Not a pos) (eNot A) := pe_imp (pe_not ha) fun σ H Q ⟨g, ρ, S, R, h⟩ =>
  ⟨g, ρ, S, R, good_bind h fun d S1 v g1 H1 _ R1 f1 s1 h1 => by
    obtain ⟨t, rfl⟩ : ∃ t, d = .bl t := by
      have h0 := h1
      split at h0 <;> first | exact ⟨_, rfl⟩ | exact h0.elim
    exact ⟨t, shr_bl.mp s1, h1 (.bl (!t)) g1 H1 R1 (.refl _ _) (shr_bl.mpr rfl)⟩⟩
theorem xe_if (hc : XT X T W Γ c C) (ha : XE X T W Γ a A) (hb : XE X T W Γ b B) : XE X T W Γ (.IfExp c a b pos) (eIf C A B) := pe_imp (pe_ifExp hc ha hb) fun σ H Q ⟨g, ρ, S, R, h⟩ =>
  ⟨g, ρ, S, R, goodTE_bind h (fun d S1 _ hn => bl_if hn) fun t S1 g1 H1 _ R1 f1 h1 => by
    cases t with
    | true => exact ⟨g1, ρ, S1, R1, h1⟩
    | false => exact ⟨g1, ρ, S1, R1, h1⟩⟩
/-- a op b op' c -/
def eChain (h h' : D → D → Option D) (a b c : FE) : FE := fun ρ S => (a ρ S).bind fun x S1 => (b ρ S1).bind fun y S2 => (RE.of S2 (h x y)).bind fun z S3 => match z with
  | .bl true => (c ρ S3).bind fun w S4 => .of S4 (h' y w)
  | .bl false => .ok (.bl false) S3
  | _ => .no
theorem xe_chain {e : Expr} {r r' : R2} {h h' : D → D → Option D} (ok : OpOk T r h) (ok' : OpOk T r' h') (ha : XE X T W Γ a A) (hb : XE X T W Γ b B) (hc : XE X T W Γ c C)
    (he : PE X a (tX T W Γ A) → PE X b (tX T W Γ B) → PE X c (tX T W Γ C) → PE X e (tChain r r' (tX T W Γ A) (tX T W Γ B) (tX T W Γ C))) : XE X T W Γ e (eChain h h' A B C) := pe_imp (he ha hb hc) fun σ H Q ⟨g, ρ, S, R, hg⟩ =>
  ⟨g, ρ, S, R, good_bind hg fun x S1 v g1 H1 _ R1 f1 s1 hg1 => ⟨g1, ρ, S1, R1, good_bind hg1 fun y S2 w g2 H2 _ R2 f2 s2 hg2 => by
    cases ez : h x y with
    | none => rw [ez] at hg2; exact hg2.elim
    | some z =>
      rw [ez] at hg2
      refine ok g2 H2 x y z v w (s1.stay f2.stay) s2 ez R2.dom _ fun u H3 ex su => ?_
      obtain ⟨t, rfl⟩ : ∃ t, z = .bl t := by
        have h0 := hg2
        unfold RE.of RE.bind at h0
        dsimp only at h0
        split at h0 <;> first | exact ⟨_, rfl⟩ | exact h0.elim
      refine ⟨t, shr_bl.mp su, ?_⟩
      have R3 := R2.ex ex
      cases t with
      | true =>
        rw [if_pos rfl]
        refine ⟨g2, ρ, S2, R3, ?_⟩
        have h0 : GoodE T W Γ ρ σ g2 H3 ((C ρ S2).bind fun w S4 => .of S4 (h' y w)) Q := by
          have h1 : GoodE T W Γ ρ σ g2 H2 ((C ρ S2).bind fun w S4 => .of S4 (h' y w)) Q := hg2
          cases q : (C ρ S2).bind fun w S4 => .of S4 (h' y w) with
          | ok d S4 => rw [q] at h1; exact fun v g' H' R' f' s' => h1 v g' H' R' ((FrE.ex ex).trans f') s'
          | exc d S4 => rw [q] at h1; exact fun v dd g' H' R' f' s' => h1 v dd g' H' R' ((FrE.ex ex).trans f') s'
          | no => rw [q] at h1; exact h1
        refine good_bind h0 fun w4 S4 v4 g4 H4 _ R4 f4 s4 hg4 => ?_
        obtain ⟨z4, e4, hg5⟩ := good_of hg4
        exact ok' g4 H4 y w4 z4 w v4 ((s2.stay (Stay.ex ex)).stay f4.stay) s4 e4 R4.dom Q fun u5 H5 ex5 su5 => hg5 u5 g4 H5 (R4.ex ex5) (.ex ex5) su5
      | false =>
        rw [if_neg Bool.false_ne_true]
        exact hg2 (.bl false) g2 H3 R3 (.ex ex) (shr_bl.mpr rfl)⟩⟩
end
/-! ### displays, slices -/
section
variable {X : Cx} {T : Th} {W : WX} {Γ : List Md} {es : List Expr} {A : FL} {e : Expr}
theorem xe_tup (ha : XL X T W Γ es A) {x1} {pos : Pos} : XE X T W Γ (.Tuple es x1 pos) (eTup A) := pe_imp (pe_tup ha) fun σ H Q ⟨g, ρ, S, R, hg⟩ =>
  ⟨g, ρ, S, R, goodL_then hg fun ds S1 z vs g1 H1 ez R1 f1 s1 hg1 => by
    split at ez
    · rename_i hl
      cases ez
      exact ⟨by rw [← s1.length]; exact sz6 hl, fun p hp => hg1 _ g1 _ (R1.ex (Exx.new hp)) (.ex (Exx.new hp)) (shr_newT s1 hp R1.dom)⟩
    · cases ez⟩
theorem xe_lst (ha : XL X T W Γ es A) {pos : Pos} : XE X T W Γ (.List es pos) (eLst A) := pe_imp (pe_lst ha) fun σ H Q ⟨g, ρ, S, R, hg⟩ =>
  ⟨g, ρ, S, R, goodL_then hg fun ds S1 z vs g1 H1 ez R1 f1 s1 hg1 => by
    split at ez
    · rename_i hl
      cases ez
      exact ⟨by rw [← s1.length]; exact sz6 hl, fun p hp => hg1 _ g1 _ (R1.ex (Exx.new hp)) (.ex (Exx.new hp)) (shr_newL s1 hp R1.dom)⟩
    · cases ez⟩
end
end Q

/-! Statements. -/
namespace Q
open PySem PySem.Spec PyProof.Rows L2
/-- behind a statement -/
structure FrS (g : G) (H : Hp) (g' : G) (H' : Hp) : Prop where
  keep : ∀ a o, H a = some o → (¬ g.U a ∨ g.O a) → H' a = some o
  own : ∀ a, g'.U a → g.U a ∨ H a = none
  O : g'.O = g.O
  P : g'.P = g.P
  N : g.N ≤ g'.N
  μ : ∀ n, n < g.N → g'.μ n = g.μ n
  dom : ∀ a o, H a = some o → ∃ o', H' a = some o'
section
variable {T : Th} {g g1 g2 : G} {H H1 H2 : Hp} {Γ : List Md} {ρ : Env} {S : Store} {σ : L2.St}
theorem FrS.refl (g : G) (H : Hp) : FrS g H g H := ⟨fun _ _ h _ => h, fun _ h => .inl h, rfl, rfl, Nat.le_refl _, fun _ _ => rfl, fun _ o h => ⟨o, h⟩⟩
theorem FrS.stay (f : FrS g H g1 H1) : Stay g H g1 H1 := ⟨fun a o h hu => f.keep a o h (.inl hu), f.own, f.N, f.μ⟩
theorem FrE.frs (f : FrE g H g1 H1) (hd : ∀ a, g.O a → ¬ g.B a) : FrS g H g1 H1 where
  keep := fun a o h hu => f.keep a o h fun z => hu.elim (fun w => w (.inr (.inr z))) (fun w => hd a w z)
  own := f.stay.own
  O := f.O
  P := f.P
  N := f.N
  μ := f.μ
  dom := f.dom
theorem FrS.trans (a : FrS g H g1 H1) (b : FrS g1 H1 g2 H2) : FrS g H g2 H2 where
  keep := fun x o h hu => b.keep x o (a.keep x o h hu) (hu.elim (fun w => .inl (a.stay.off h w)) fun w => .inr (by rw [a.O]; exact w))
  own := (a.stay.trans b.stay).own
  O := b.O.trans a.O
  P := b.P.trans a.P
  N := Nat.le_trans a.N b.N
  μ := (a.stay.trans b.stay).μ
  dom := fun x o h => by
    obtain ⟨o', h'⟩ := a.dom x o h
    exact b.dom x o' h'
end
/-- g, with F's places given to others -/
def G.plus (g : G) (Fo : Addr → Prop) : G := { g with O := fun a => g.O a ∨ Fo a }
/-- how a block is left -/
structure Jd where
  W : WX
  ΓX : List Md → Prop
  ΓR : List Md → Prop
  kr : Nat
  Γl : List Md
def GoodS (T : Th) (J : Jd) (Γ' : List Md) (g : G) (H : Hp) : RS → Ends → Prop
  | .nx ρ' S', D => ∀ σ' g' H', Rel T g' Γ' ρ' S' σ' H' → FrS g H g' H' → D.nx σ' H'
  | .bk ρ' S', D => ∀ σ' g' H', Rel T g' J.Γl ρ' S' σ' H' → FrS g H g' H' → D.bk σ' H'
  | .ct ρ' S', D => ∀ σ' g' H', Rel T g' J.Γl ρ' S' σ' H' → FrS g H g' H' → D.ct σ' H'
  | .rt d ρ' S', D => ∀ Γ'' v σ' g' H' Fo, J.ΓR Γ'' → Rel T (g'.plus Fo) Γ'' ρ' S' σ' H' → FrS g H g' H' → (∀ a, Fo a → ¬ g.O a ∧ (g.U a ∨ H a = none)) → Own T (g'.plus Fo) H' J.kr Fo d v → D.rt v H'
  | .exc x ρ' S', _ => ∀ Γ'' c dd σ' g' H', J.ΓX Γ'' → Rel T g' Γ'' ρ' S' σ' H' → FrS g H g' H' → ExcR T g' H' x c dd → J.W c dd σ' H'
  | .no, _ => False
def tS (T : Th) (J : Jd) (Γ Γ' : List Md) (F : FS) : TS := fun D σ H => ∃ g ρ S, Rel T g Γ ρ S σ H ∧ GoodS T J Γ' g H (F ρ S) D
abbrev XS (X : Cx) (T : Th) (J : Jd) (Γ Γ' : List Md) (st : Stmt) (F : FS) : Prop := PS X st (tS T J Γ Γ' F)
abbrev XB (X : Cx) (T : Th) (J : Jd) (Γ Γ' : List Md) (st : List Stmt) (F : FS) : Prop := PSs X st (tS T J Γ Γ' F)
theorem ps_imp {X : Cx} {e : Stmt} {t t' : TS} (h : PS X e t) (i : ∀ D σ H, t' D σ H → t D σ H) : PS X e t' := ⟨fun pins s σ H D I q => h.run pins s σ H D I (i D σ H q)⟩
theorem pss_imp {X : Cx} {e : List Stmt} {t t' : TS} (h : PSs X e t) (i : ∀ D σ H, t' D σ H → t D σ H) : PSs X e t' := ⟨fun pins s σ H D I q => h.run pins s σ H D I (i D σ H q)⟩
/-! ### what the readings are -/
def RE.bindS (ρ : Env) : RE → (D → Store → RS) → RS
  | .ok d S, k => k d S
  | .exc x S, _ => .exc x ρ S
  | .no, _ => .no
def fPass : FS := fun ρ S => .nx ρ S
def fBrk : FS := fun ρ S => .bk ρ S
def fCt : FS := fun ρ S => .ct ρ S
def fSet (i : Nat) (a : FE) : FS := fun ρ S => (a ρ S).bindS ρ fun d S1 => .nx (ρ.set i (some d)) S1
def fDrop (a : FE) : FS := fun ρ S => (a ρ S).bindS ρ fun _ S1 => .nx ρ S1
def fRet (a : FE) : FS := fun ρ S => (a ρ S).bindS ρ fun d S1 => .rt d ρ S1
def fSeq (f h : FS) : FS := fun ρ S => match f ρ S with
  | .nx ρ1 S1 => h ρ1 S1
  | r => r
def fIf (c : FE) (f h : FS) : FS := fun ρ S => (c ρ S).bindS ρ fun d S1 => match d with
  | .bl true => f ρ S1
  | .bl false => h ρ S1
  | _ => .no
/-- at most n turns -/
def loopN (c : FE) (b : FS) : Nat → Env → Store → Option RS
  | 0, _, _ => none
  | n + 1, ρ, S => match c ρ S with
    | .ok (.bl true) S1 => (match b ρ S1 with
      | .nx ρ2 S2 => loopN c b n ρ2 S2
      | .ct ρ2 S2 => loopN c b n ρ2 S2
      | .bk ρ2 S2 => some (.nx ρ2 S2)
      | r => some r)
    | .ok (.bl false) S1 => some (.nx ρ S1)
    | .exc x S1 => some (.exc x ρ S1)
    | _ => some .no
open Classical in
noncomputable def fWhile (c : FE) (b : FS) : FS := fun ρ S => if h : ∃ n r, loopN c b n ρ S = some r then Classical.choose (Classical.choose_spec h) else .no
theorem loopN_more {c : FE} {b : FS} : ∀ (n : Nat) (ρ : Env) (S : Store) (r : RS), loopN c b n ρ S = some r → loopN c b (n + 1) ρ S = some r
  | 0, _, _, _, h => by cases h
  | n + 1, ρ, S, r, h => by
    rw [loopN] at h ⊢
    split at h
    · split at h
      · exact loopN_more n _ _ _ h
      · exact loopN_more n _ _ _ h
      · exact h
      · exact h
    · exact h
    · exact h
    · exact h
theorem loopN_le {c : FE} {b : FS} {n m : Nat} {ρ : Env} {S : Store} {r : RS} (h : loopN c b n ρ S = some r) (l : n ≤ m) : loopN c b m ρ S = some r := by
  induction l with
  | refl => exact h
  | step _ ih => exact loopN_more _ _ _ _ ih
theorem loopN_uniq {c : FE} {b : FS} {n m : Nat} {ρ : Env} {S : Store} {r r' : RS} (h : loopN c b n ρ S = some r) (h' : loopN c b m ρ S = some r') : r = r' := by
  have a := loopN_le h (Nat.le_max_left n m)
  have a' := loopN_le h' (Nat.le_max_right n m)
  rw [a] at a'
  exact Option.some.inj a'
theorem fWhile_eq {c : FE} {b : FS} {n : Nat} {ρ : Env} {S : Store} {r : RS} (h : loopN c b n ρ S = some r) : fWhile c b ρ S = r := by
  have hx : ∃ n r, loopN c b n ρ S = some r := ⟨n, r, h⟩
  unfold fWhile
  rw [dif_pos hx]
  exact loopN_uniq (Classical.choose_spec (Classical.choose_spec hx)) h
theorem fWhile_get {c : FE} {b : FS} {ρ : Env} {S : Store} (h : fWhile c b ρ S ≠ .no) : ∃ n, loopN c b n ρ S = some (fWhile c b ρ S) := by
  by_cases hx : ∃ n r, loopN c b n ρ S = some r
  · obtain ⟨n, r, e⟩ := hx
    exact ⟨n, by rw [fWhile_eq e]; exact e⟩
  · unfold fWhile at h
    rw [dif_neg hx] at h
    exact absurd rfl h
/-- one turn -/
theorem fWhile_turn {c : FE} {b : FS} {ρ : Env} {S : Store} : fWhile c b ρ S = (c ρ S).bindS ρ fun d S1 => match d with
    | .bl true => (match b ρ S1 with
      | .nx ρ2 S2 => fWhile c b ρ2 S2
      | .ct ρ2 S2 => fWhile c b ρ2 S2
      | .bk ρ2 S2 => .nx ρ2 S2
      | r => r)
    | .bl false => .nx ρ S1
    | _ => .no := by
  have fin : ∀ r, loopN c b 1 ρ S = some r → fWhile c b ρ S = r := fun r h => fWhile_eq h
  have rec' : ∀ ρ2 S2, (∀ n, loopN c b (n + 1) ρ S = loopN c b n ρ2 S2) → fWhile c b ρ S = fWhile c b ρ2 S2 := fun ρ2 S2 h => by
    by_cases hx : ∃ n r, loopN c b n ρ2 S2 = some r
    · obtain ⟨n, r, e⟩ := hx
      rw [fWhile_eq e, fWhile_eq ((h n).trans e)]
    · have hy : ¬ ∃ n r, loopN c b n ρ S = some r := fun ⟨n, r, e⟩ => by
        cases n with
        | zero => cases e
        | succ n => exact hx ⟨n, r, (h n).symm.trans e⟩
      unfold fWhile
      rw [dif_neg hx, dif_neg hy]
  cases e : c ρ S with
  | ok d S1 =>
    show _ = (match d with
      | .bl true => (match b ρ S1 with
        | .nx ρ2 S2 => fWhile c b ρ2 S2
        | .ct ρ2 S2 => fWhile c b ρ2 S2
        | .bk ρ2 S2 => .nx ρ2 S2
        | r => r)
      | .bl false => RS.nx ρ S1
      | _ => .no)
    split
    · split
      · rename_i eb; exact rec' _ _ fun n => by rw [loopN, e]; simp only [eb]
      · rename_i eb; exact rec' _ _ fun n => by rw [loopN, e]; simp only [eb]
      · rename_i eb; exact fin _ (by rw [loopN, e]; simp only [eb])
      · rename_i h1 h2 h3
        refine fin _ ?_
        rw [loopN, e]
        dsimp only
        split
        · rename_i q; exact absurd q (h1 _ _)
        · rename_i q; exact absurd q (h2 _ _)
        · rename_i q; exact absurd q (h3 _ _)
        · rfl
    · exact fin _ (by rw [loopN, e])
    · rename_i h1 h2
      refine fin _ ?_
      rw [loopN, e]
      split
      · rename_i q; cases q; exact absurd rfl h1
      · rename_i q; cases q; exact absurd rfl h2
      · rename_i q; cases q
      · rfl
  | exc x S1 => exact fin _ (by rw [loopN, e]; rfl)
  | no => exact fin _ (by rw [loopN, e]; rfl)
def forL (tf : D → Env → Option Env) (b : FS) : List D → Env → Store → RS
  | [], ρ, S => .nx ρ S
  | d :: ds, ρ, S => match tf d ρ with
    | none => .no
    | some ρ1 => match b ρ1 S with
      | .nx ρ2 S2 => forL tf b ds ρ2 S2
      | .ct ρ2 S2 => forL tf b ds ρ2 S2
      | .bk ρ2 S2 => .nx ρ2 S2
      | r => r
def fFor (it : FL) (tf : D → Env → Option Env) (b : FS) : FS := fun ρ S => match it ρ S with
  | .ok ds S1 => forL tf b ds ρ S1
  | .exc x S1 => .exc x ρ S1
  | .no => .no
section
variable {X : Cx} {T : Th} {J : Jd} {Γ Γ' Γ1 : List Md}
theorem GoodS.after {g g1 : G} {H H1 : Hp} {r : RS} {D : Ends} (h : GoodS T J Γ' g H r D) (f : FrS g H g1 H1) (fo : ∀ a, g1.O a ↔ g.O a) (hu : ∀ a, g1.U a ∨ H1 a = none → g.U a ∨ H a = none) : GoodS T J Γ' g1 H1 r D := by
  cases r with
  | nx ρ' S' => exact fun σ' g' H' R f' => h σ' g' H' R (f.trans f')
  | bk ρ' S' => exact fun σ' g' H' R f' => h σ' g' H' R (f.trans f')
  | ct ρ' S' => exact fun σ' g' H' R f' => h σ' g' H' R (f.trans f')
  | rt d ρ' S' => exact fun Γ'' v σ' g' H' Fo a R f' b c => h Γ'' v σ' g' H' Fo a R (f.trans f') (fun x q => ⟨fun z => (b x q).1 ((fo x).mpr z), hu x (b x q).2⟩) c
  | exc x ρ' S' => exact fun Γ'' c dd σ' g' H' a R f' e => h Γ'' c dd σ' g' H' a R (f.trans f') e
  | no => exact h
theorem FrS.back {g g1 : G} {H H1 : Hp} (f : FrS g H g1 H1) : ∀ a, g1.U a ∨ H1 a = none → g.U a ∨ H a = none := fun a h => by
  rcases h with h | h
  · exact f.own a h
  · cases e : H a with
    | none => exact .inr rfl
    | some o =>
      by_cases hu : g.U a
      · exact .inl hu
      · have := f.keep a o e (.inl hu)
        rw [h] at this; cases this
theorem GoodS.then {g g1 : G} {H H1 : Hp} {r : RS} {D : Ends} (h : GoodS T J Γ' g H r D) (f : FrS g H g1 H1) : GoodS T J Γ' g1 H1 r D := h.after f (fun a => by rw [f.O]) f.back
/-- an expression ahead of what follows -/
theorem good_bindS {ρ : Env} {σ : L2.St} {S : Store} {g : G} {H : Hp} {r : RE} {k : D → Store → RS} {D : Ends} {Q' : VK} (R : Rel T g Γ ρ S σ H) (hx : J.ΓX Γ) (h : GoodS T J Γ' g H (r.bindS ρ k) D)
    (hk : ∀ d S v g' H', r = .ok d S → Rel T g' Γ ρ S σ H' → FrS g H g' H' → Shr T g' H' d v → GoodS T J Γ' g' H' (k d S) D → Q' v H') : GoodE T J.W Γ ρ σ g H r Q' := by
  cases r with
  | ok d S1 =>
    intro v g' H' R' f s
    have f' := f.frs R.dOB
    exact hk d S1 v g' H' rfl R' f' s (GoodS.then h f')
  | exc x S1 =>
    intro c dd g' H' R' f e
    exact h Γ c dd σ g' H' hx R' (f.frs R.dOB) e
  | no => exact h
theorem good_bindT {ρ : Env} {σ : L2.St} {S : Store} {g : G} {H : Hp} {r : RE} {k : D → Store → RS} {D : Ends} {Q' : Bool → Hp → Prop} (R : Rel T g Γ ρ S σ H) (hx : J.ΓX Γ) (h : GoodS T J Γ' g H (r.bindS ρ k) D) (hb : ∀ d S, k d S ≠ .no → ∃ b, d = .bl b)
    (hk : ∀ b S g' H', r = .ok (.bl b) S → Rel T g' Γ ρ S σ H' → FrS g H g' H' → GoodS T J Γ' g' H' (k (.bl b) S) D → Q' b H') : GoodT T J.W Γ ρ σ g H r Q' := by
  cases r with
  | ok d S1 =>
    have h' : GoodS T J Γ' g H (k d S1) D := h
    obtain ⟨b, rfl⟩ := hb d S1 (fun z => by rw [z] at h'; exact h')
    exact ⟨b, rfl, fun g' H' R' f => hk b S1 g' H' rfl R' (f.frs R.dOB) (GoodS.then h' (f.frs R.dOB))⟩
  | exc x S1 =>
    intro c dd g' H' R' f e
    exact h Γ c dd σ g' H' hx R' (f.frs R.dOB) e
  | no => exact h
theorem xs_drop {e : Expr} {A : FE} {st : Stmt} (hx : J.ΓX Γ) (ha : XE X T J.W Γ e A) (he : PE X e (tX T J.W Γ A) → PS X st (tDrop (tX T J.W Γ A))) : XS X T J Γ Γ st (fDrop A) := ps_imp (he ha) fun D σ H ⟨g, ρ, S, R, h⟩ =>
  ⟨g, ρ, S, R, good_bindS R hx h fun d S1 v g1 H1 _ R1 f1 s1 h1 => h1 σ g1 H1 R1 (.refl _ _)⟩
theorem xs_pass {st : Stmt} (h : PS X st tNext) : XS X T J Γ Γ st fPass := ps_imp h fun D σ H ⟨g, ρ, S, R, h⟩ => h σ g H R (.refl _ _)
theorem xs_brk {st : Stmt} (h : PS X st tBreak) (hl : J.Γl = Γ) : XS X T J Γ Γ' st fBrk := ps_imp h fun D σ H ⟨g, ρ, S, R, h⟩ => h σ g H (by rw [hl]; exact R) (.refl _ _)
theorem xs_ct {st : Stmt} (h : PS X st tCont) (hl : J.Γl = Γ) : XS X T J Γ Γ' st fCt := ps_imp h fun D σ H ⟨g, ρ, S, R, h⟩ => h σ g H (by rw [hl]; exact R) (.refl _ _)
theorem xb_nil : XB X T J Γ Γ [] fPass := pss_imp pss_nil fun D σ H ⟨g, ρ, S, R, h⟩ => h σ g H R (.refl _ _)
theorem xb_one {st : Stmt} {A : FS} (ha : XS X T J Γ Γ' st A) : XB X T J Γ Γ' [st] A := pss_one ha
theorem xb_cons {st : Stmt} {rest : List Stmt} {A B : FS} (ha : XS X T J Γ Γ1 st A) (hb : XB X T J Γ1 Γ' rest B) : XB X T J Γ Γ' (st :: rest) (fSeq A B) := pss_imp (pss_cons ha hb) fun D σ H ⟨g, ρ, S, R, h⟩ => by
  refine ⟨g, ρ, S, R, ?_⟩
  unfold fSeq at h
  cases e : A ρ S with
  | nx ρ' S' =>
    rw [e] at h
    exact fun σ' g' H' R' f' => ⟨g', ρ', S', R', GoodS.then h f'⟩
  | bk ρ' S' => rw [e] at h; exact h
  | ct ρ' S' => rw [e] at h; exact h
  | rt d ρ' S' => rw [e] at h; exact h
  | exc x ρ' S' => rw [e] at h; exact h
  | no => rw [e] at h; exact h
theorem xs_if {c : Expr} {a b : List Stmt} {C : FE} {A B : FS} {pos : Pos} (hx : J.ΓX Γ) (hc : XT X T J.W Γ c C) (ha : XB X T J Γ Γ' a A) (hb : XB X T J Γ Γ' b B) : XS X T J Γ Γ' (.If c a b pos) (fIf C A B) := ps_imp (ps_if hc ha hb) fun D σ H ⟨g, ρ, S, R, h⟩ =>
  ⟨g, ρ, S, R, good_bindT R hx h (fun d S1 hn => by
    split at hn
    · exact ⟨_, rfl⟩
    · exact ⟨_, rfl⟩
    · exact absurd rfl hn) fun t S1 g1 H1 _ R1 f1 h1 => by
    cases t with
    | true => exact ⟨g1, ρ, S1, R1, h1⟩
    | false => exact ⟨g1, ρ, S1, R1, h1⟩⟩
/-- the ownership changes, the values stand -/
theorem Rel.shift {g g2 : G} {Γ Γ2 : List Md} {ρ ρ2 : Env} {S : Store} {σ σ2 : L2.St} {H : Hp} (R : Rel T g Γ ρ S σ H) (hN : g2.N = g.N) (hμ : g2.μ = g.μ) (hB : g2.B = g.B) (hBF : g2.BF = g.BF) (hU : ∀ a, g2.U a → g.U a)
    (dF : ∀ i j a, g2.F i a → g2.F j a → i = j) (dFO : ∀ i a, g2.F i a → ¬ g2.O a) (hO : ∀ a, g2.O a → g.O a ∨ ∃ i, g.F i a) (hF : ∀ i a, g2.F i a → (∃ j, g.F j a) ∨ g.O a) (hl : ρ2.length = σ2.length)
    (slot : Stay g H g2 H → ∀ (i : Nat) d, ρ2[i]? = some (some d) → ∃ v, σ2[i]? = some (some v) ∧ RepM T g2 H i (Γ2.getD i .s) d v) : Rel T g2 Γ2 ρ2 S σ2 H := by
  have st : Stay g H g2 H := ⟨fun _ _ h _ => h, fun a h => .inl (hU a h), by rw [hN]; exact Nat.le_refl _, fun n _ => by rw [hμ]⟩
  refine ⟨hl, slot st, dF, dFO, fun i a h => ?_, fun a h => ?_, fun a h => R.dom a (hU a h), R.st.keep st (fun _ _ _ h => h) hN hB hBF fun n _ => by rw [hμ], fun a h => R.nt a (hU a h)⟩
  · rw [hB]
    rcases hF i a h with ⟨j, z⟩ | z
    · exact R.dFB j a z
    · exact R.dOB a z
  · rw [hB]
    rcases hO a h with z | ⟨i, z⟩
    · exact R.dOB a z
    · exact R.dFB i a z
/-- slot i loses what it owned -/
def G.drop (g : G) (i : Nat) : G := { g with F := fun j a => j ≠ i ∧ g.F j a }
theorem G.drop_U {g : G} {i : Nat} {a : Addr} (h : (g.drop i).U a) : g.U a := by
  rcases h with h | ⟨j, _, h⟩ | h
  · exact .inl h
  · exact .inr (.inl ⟨j, h⟩)
  · exact .inr (.inr h)
theorem RepM.stay {g g2 : G} {H : Hp} {i : Nat} {m : Md} {d : D} {v : V} (h : RepM T g H i m d v) (st : Stay g H g2 H) (hF : ∀ a, g.F i a → g2.F i a) (hO : ∀ a, g.O a → g2.O a) (hP : g2.P i = g.P i) (hb : Stay g.bare H g2.bare H) : RepM T g2 H i m d v := by
  cases m with
  | s => exact Shr.stay st _ _ h
  | o k => exact (Own.wide k _ _ d v hF (Own.keepF st k _ d v (fun _ _ _ q => q) h) : Own T g2 H k (g2.F i) d v)
  | r k => exact (Own.wide k _ _ d v hO (Own.keepF st k _ d v (fun _ _ _ q => q) h) : Own T g2 H k g2.O d v)
  | p k => exact ⟨by rw [hP]; exact h.1, (Own.wide k _ _ d v hF (Own.keepF st k _ d v (fun _ _ _ q => q) h.2) : Own T g2 H k (g2.F i) d v)⟩
  | e w => exact h
  | l => exact Shr.stay hb _ _ h
theorem getD_set_self {Γ : List Md} {i : Nat} {m : Md} (h : i < Γ.length) : (Γ.set i m).getD i .s = m := by
  simp [List.getD, h]
theorem getD_set_ne {Γ : List Md} {i j : Nat} {m : Md} (h : i ≠ j) : (Γ.set i m).getD j .s = Γ.getD j .s := by
  simp [List.getD, List.getElem?_set_ne h]
/-- Γ is known where i is: shared slots need no row -/
theorem getD_set_s {Γ : List Md} {i : Nat} : (Γ.set i .s).getD i .s = .s := by
  by_cases h : i < Γ.length
  · exact getD_set_self h
  · rw [List.set_eq_of_length_le (Nat.le_of_not_lt h)]
    simp [List.getD, List.getElem?_eq_none (Nat.le_of_not_lt h)]
/-- a slot takes a shared value -/
theorem Rel.set {g : G} {ρ : Env} {S : Store} {σ : L2.St} {H : Hp} {d : D} {v : V} {i : Nat} (R : Rel T g Γ ρ S σ H) (s : Shr T g H d v) : Rel T (g.drop i) (Γ.set i .s) (ρ.set i (some d)) S (σ.set i (some v)) H := by
  refine R.shift rfl rfl rfl rfl (fun a h => G.drop_U h) (fun j k a h h' => R.dF j k a h.2 h'.2) (fun j a h => R.dFO j a h.2) (fun a h => .inl h) (fun j a h => .inl ⟨j, h.2⟩) (by simp [R.len]) fun st j d' e => ?_
  by_cases hj : i = j
  · subst hj
    by_cases hlt : i < ρ.length
    · rw [List.getElem?_set_self hlt] at e
      cases e
      refine ⟨v, by rw [List.getElem?_set_self (by rw [← R.len]; exact hlt)], ?_⟩
      rw [getD_set_s]
      exact s.stay st
    · rw [List.getElem?_eq_none (by simpa using hlt)] at e
      cases e
  · rw [List.getElem?_set_ne hj] at e
    obtain ⟨w, h1, h2⟩ := R.slot j d' e
    refine ⟨w, by rw [List.getElem?_set_ne hj]; exact h1, ?_⟩
    rw [getD_set_ne hj]
    exact h2.stay st (fun a z => ⟨fun q => hj q.symm, z⟩) (fun a z => z) rfl (bare_sub rfl rfl (fun i a z => ⟨i, z.2⟩) fun _ z => z)
theorem FrS.drop {g : G} {H : Hp} {i : Nat} : FrS g H (g.drop i) H := ⟨fun _ _ h _ => h, fun a h => .inl (G.drop_U h), rfl, rfl, Nat.le_refl _, fun _ _ => rfl, fun _ o h => ⟨o, h⟩⟩
theorem xs_set {i : Nat} {e : Expr} {A : FE} {st : Stmt} (hx : J.ΓX Γ) (ha : XE X T J.W Γ e A) (he : PE X e (tX T J.W Γ A) → PS X st (tAsg (tX T J.W Γ A) (gName i))) (hΓ : Γ.set i .s = Γ') : XS X T J Γ Γ' st (fSet i A) := ps_imp (he ha) fun D σ H ⟨g, ρ, S, R, h⟩ =>
  ⟨g, ρ, S, R, good_bindS R hx h fun d S1 v g1 H1 _ R1 f1 s1 h1 => h1 _ (g1.drop i) H1 (by rw [← hΓ]; exact R1.set s1) .drop⟩
theorem plus_none {g : G} {ρ : Env} {S : Store} {σ : L2.St} {H : Hp} (R : Rel T g Γ ρ S σ H) : Rel T (g.plus fun _ => False) Γ ρ S σ H := by
  have hU : ∀ a, (g.plus fun _ => False).U a → g.U a := fun a h => by
    rcases h with (h | h) | h | h
    · exact .inl h
    · exact h.elim
    · exact .inr (.inl h)
    · exact .inr (.inr h)
  exact R.shift rfl rfl rfl rfl hU R.dF (fun i a h z => z.elim (R.dFO i a h) id) (fun a h => h.elim .inl False.elim) (fun i a h => .inl ⟨i, h⟩) R.len fun st i d e => by
    obtain ⟨v, h1, h2⟩ := R.slot i d e
    exact ⟨v, h1, h2.stay st (fun _ z => z) (fun _ z => .inl z) rfl (bare_sub rfl rfl (fun i a z => ⟨i, z⟩) fun _ z => z)⟩
theorem stay_plus {g : G} {H : Hp} : Stay g H (g.plus fun _ => False) H := ⟨fun _ _ h _ => h, fun a h => by
    rcases h with (h | h) | h | h
    · exact .inl (.inl h)
    · exact h.elim
    · exact .inl (.inr (.inl h))
    · exact .inl (.inr (.inr h)), Nat.le_refl _, fun _ _ => rfl⟩
theorem shr_plus {g : G} {H : Hp} {d : D} {v : V} (s : Shr T g H d v) : Shr T (g.plus fun _ => False) H d v := s.stay stay_plus
theorem own_shr {g : G} {H : Hp} {d : D} {v : V} {F : Addr → Prop} (s : Shr T g H d v) : Own T g H 0 F d v := by simpa only [Own] using s
theorem xs_ret {e : Expr} {A : FE} {st : Stmt} (hx : J.ΓX Γ) (hr : J.ΓR Γ) (hk : J.kr = 0) (ha : XE X T J.W Γ e A) (he : PE X e (tX T J.W Γ A) → PS X st (tRet (tX T J.W Γ A))) : XS X T J Γ Γ' st (fRet A) := ps_imp (he ha) fun D σ H ⟨g, ρ, S, R, h⟩ =>
  ⟨g, ρ, S, R, good_bindS R hx h fun d S1 v g1 H1 _ R1 f1 s1 h1 => h1 Γ v σ g1 H1 (fun _ => False) hr (plus_none R1) (.refl _ _) (fun _ z => z.elim) (by rw [hk]; exact own_shr (shr_plus s1))⟩
theorem xs_retN {st : Stmt} (hr : J.ΓR Γ) (hk : J.kr = 0) (he : PS X st tRetN) : XS X T J Γ Γ' st (fRet (eC .non)) := ps_imp he fun D σ H ⟨g, ρ, S, R, h⟩ =>
  h Γ .non σ g H (fun _ => False) hr (plus_none R) (.refl _ _) (fun _ z => z.elim) (by rw [hk]; exact own_shr (shr_non.mpr rfl))
end
end Q

/-! Loops. -/
namespace Q
open PySem PySem.Spec PyProof.Rows L2
section
variable {X : Cx} {T : Th} {J : Jd} {Γ Γ' Γ1 : List Md}
theorem xs_while {c : Expr} {body : List Stmt} {C : FE} {B : FS} {pos : Pos} (hx : J.ΓX Γ) (hp : PassesOwn (model X.prog X.w) X.A X.env X.xe) (hc : XT X T J.W Γ c C) (hb : XB X T { J with Γl := Γ } Γ Γ body B) : XS X T J Γ Γ (.While c body [] pos) (fWhile C B) := ps_imp (ps_while hp hc hb) fun D σ H ⟨g, ρ, S, R, h⟩ => by
  have hne : fWhile C B ρ S ≠ .no := fun z => by rw [z] at h; exact h
  obtain ⟨n, hn⟩ := fWhile_get hne
  generalize fWhile C B ρ S = r at h hn
  refine ⟨fun m σ' H' => ∃ g' ρ' S', Rel T g' Γ ρ' S' σ' H' ∧ FrS g H g' H' ∧ loopN C B m ρ' S' = some r, ⟨n, g, ρ, S, R, .refl _ _, hn⟩, fun m σ' H' ⟨g', ρ', S', R', f', hm⟩ => ?_⟩
  have h' := GoodS.then h f'
  refine ⟨g', ρ', S', R', ?_⟩
  cases m with
  | zero => cases hm
  | succ m =>
    rw [loopN] at hm
    split at hm
    · rename_i S1 e
      rw [e]
      refine ⟨true, rfl, fun g1 H1 R1 f1 => ?_⟩
      have f1' := f1.frs R'.dOB
      have h1 := GoodS.then h' f1'
      refine iteT ⟨fun σ2 H2 => ∃ m', m' < m + 1 ∧ ∃ g' ρ' S', Rel T g' Γ ρ' S' σ2 H2 ∧ FrS g H g' H2 ∧ loopN C B m' ρ' S' = some r, fun σ2 H2 ⟨m', l, w⟩ => ⟨m', l, w⟩, g1, ρ', S1, R1, ?_⟩
      split at hm
      · rename_i eb
        rw [eb]
        exact fun σ2 g2 H2 R2 f2 => ⟨m, Nat.lt_succ_self _, g2, _, _, R2, (f'.trans f1').trans f2, hm⟩
      · rename_i eb
        rw [eb]
        exact fun σ2 g2 H2 R2 f2 => ⟨m, Nat.lt_succ_self _, g2, _, _, R2, (f'.trans f1').trans f2, hm⟩
      · rename_i eb
        rw [eb]
        cases hm
        exact fun σ2 g2 H2 R2 f2 => h1 σ2 g2 H2 R2 f2
      · rename_i h3 h4 h5
        cases hm
        cases eb : B ρ' S1 with
        | nx a b => exact absurd eb (h3 a b)
        | ct a b => exact absurd eb (h4 a b)
        | bk a b => exact absurd eb (h5 a b)
        | rt d a b => rw [eb] at h1; exact h1
        | exc x a b => rw [eb] at h1; exact h1
        | no => rw [eb] at h1; exact h1
    · rename_i S1 e
      rw [e]
      cases hm
      refine ⟨false, rfl, fun g1 H1 R1 f1 => ?_⟩
      exact iteF (h' σ' g1 H1 R1 (f1.frs R'.dOB))
    · rename_i x S1 e
      rw [e]
      cases hm
      exact fun c dd g1 H1 R1 f1 ex => h' Γ c dd σ' g1 H1 hx R1 (f1.frs R'.dOB) ex
    · cases hm
      exact h'.elim
/-! ### what a for walks -/
def ItOk (T : Th) (g : G) (H : Hp) (It1 : It) (ds : List D) : Prop := ∀ g' H' (i : Nat), Stay g H g' H' → (ds.length ≤ i → It1.stop i H') ∧ ∀ d, ds[i]? = some d → It1.go i H' ∧ ∀ x H'', It1.yld i H' x H'' → Exx H' H'' ∧ Shr T g' H'' d x
def GoodI (T : Th) (W : WX) (Γ : List Md) (ρ : Env) (σ : L2.St) (g : G) (H : Hp) : RL → (It → Hp → Prop) → Prop
  | .ok ds S', R => ∀ It1 g' H', Rel T g' Γ ρ S' σ H' → FrE g H g' H' → ItOk T g' H' It1 ds → R It1 H'
  | .exc x S', _ => ∀ c dd g' H', Rel T g' Γ ρ S' σ H' → FrE g H g' H' → ExcR T g' H' x c dd → W c dd σ H'
  | .no, _ => False
def tI (T : Th) (W : WX) (Γ : List Md) (F : FL) : TI := fun σ H Q => ∃ g ρ S, Rel T g Γ ρ S σ H ∧ GoodI T W Γ ρ σ g H (F ρ S) Q
abbrev XI (X : Cx) (T : Th) (W : WX) (Γ : List Md) (tg it : Expr) (F : FL) : Prop := PI X tg it (tI T W Γ F)
theorem pi_imp {X : Cx} {tg e : Expr} {t t' : TI} (h : PI X tg e t) (i : ∀ σ H Q, t' σ H Q → t σ H Q) : PI X tg e t' := ⟨fun pins s σ H Q I q => h.run pins s σ H Q I (i σ H Q q)⟩
/-- a value is walked -/
def ItR (X : Cx) (tg : Expr) (r : V → Hp → (It → Hp → Prop) → Prop) : Prop := ∀ (pins : List (Addr × Obj)) (s : Shared) (σ : L2.St) (H : Hp) (x : V) (v : Value) (R : It → Hp → Prop), Inv X pins σ H s → RelV x v → r x H R →
  wpAny (model X.prog X.w) X.A (pyIter v) (PIE X pins σ tg R) X.xe s
theorem itr_or {tg : Expr} {r1 r2 : V → Hp → (It → Hp → Prop) → Prop} (a : ItR X tg r1) (b : ItR X tg r2) : ItR X tg (fun x H R => r1 x H R ∨ r2 x H R) := fun pins s σ H x v R I rx h =>
  h.elim (a pins s σ H x v R I rx) (b pins s σ H x v R I rx)
theorem pi_of {tg l : Expr} {tl : TE} {r : V → Hp → (It → Hp → Prop) → Prop} (hl : PE X l tl) (hr : ItR X tg r) : PI X tg l (fun σ H R => tl σ H fun x H1 => r x H1 R) := by
  refine ⟨fun pins s σ H R I h => ?_⟩
  refine thn (hl.run pins s σ H _ I h) fun v s1 ⟨x, H1, I1, r1, q1⟩ => ?_
  exact hr pins s1 σ H1 x v R I1 r1 q1
theorem itr_list {tg : Expr} : ItR X tg (fun x H R => ∃ a, x = .ref a ∧ (∃ xs, SqL X.K H a xs) ∧ R (Itl X.K a) H) := by
  intro pins s1 σ H1 x v R I1 r1 h
  obtain ⟨a, e, ⟨xs, hq⟩, q⟩ := h
  subst e
  cases r1
  obtain ⟨its, rv, p, hz⟩ := I1.list hq
  refine wpAny_pyIter_list p.isList ?_
  refine ⟨s1.heap.objs.size, [s1.heap.objs.size], _, _, H1, rfl, I1.kept (t' := s1.toks) fun b o e => Heap.get?_push_of_some _ e, turn_list a _, ⟨_, Heap.get?_push_size _ rfl, rfl, rfl⟩, fun b hb => ?_, q⟩
  have e : b = s1.heap.objs.size := by simpa using hb
  subst e
  exact I1.fpOk (Nat.le_refl _) (I1.hok.fresh (Nat.le_refl _))
theorem itr_tup {tg : Expr} : ItR X tg (fun x H R => ∃ a, x = .ref a ∧ (∃ xs, SqT X.K H a xs) ∧ R (Itt X.K a) H) := by
  intro pins s1 σ H1 x v R I1 r1 h
  obtain ⟨a, e, ⟨xs, hq⟩, q⟩ := h
  subst e
  cases r1
  obtain ⟨its, rv, p, hz⟩ := I1.tuple hq
  refine wpAny_pyIter_tuple (show s1.heap.IsTuple a its.toArray from p) ?_
  refine ⟨s1.heap.objs.size, [s1.heap.objs.size], _, _, H1, rfl, I1.kept (t' := s1.toks) fun b o e => Heap.get?_push_of_some _ e, turn_tuple a _, ⟨_, Heap.get?_push_size _ rfl, rfl, rfl⟩, fun b hb => ?_, q⟩
  have e : b = s1.heap.objs.size := by simpa using hb
  subst e
  exact I1.fpOk (Nat.le_refl _) (I1.hok.fresh (Nat.le_refl _))
def hSeq : D → Option (List D)
  | .lst l => some l
  | .scr l => some l
  | .tup l => some l
  | _ => none
def iSeq (a : FE) : FL := fun ρ S => match a ρ S with
  | .ok d S1 => (match hSeq d with
    | some l => .ok l S1
    | none => .no)
  | .exc x S1 => .exc x S1
  | .no => .no
theorem itOk_list {g : G} {H : Hp} {a : Addr} {l : List D} {vs : List V} (st : ∀ g' H', Stay g H g' H' → SqL T.K H' a vs) (s : ShrL T g H l vs) : ItOk T g H (Itl T.K a) l := fun g' H' i y => by
  refine ⟨fun h => ⟨vs, st g' H' y, by rw [← s.length]; exact h⟩, fun d e => ?_⟩
  obtain ⟨v, h1, h2⟩ := (s.stay y l vs).get e
  exact ⟨⟨vs, v, st g' H' y, h1⟩, fun x H'' ⟨e1, e2⟩ => by subst e1; have := e2 vs (st g' _ y); rw [h1] at this; cases this; exact ⟨.refl _, h2⟩⟩
theorem itOk_tup {g : G} {H : Hp} {a : Addr} {l : List D} {vs : List V} (st : ∀ g' H', Stay g H g' H' → SqT T.K H' a vs) (s : ShrL T g H l vs) : ItOk T g H (Itt T.K a) l := fun g' H' i y => by
  refine ⟨fun h => ⟨vs, st g' H' y, by rw [← s.length]; exact h⟩, fun d e => ?_⟩
  obtain ⟨v, h1, h2⟩ := (s.stay y l vs).get e
  exact ⟨⟨vs, v, st g' H' y, h1⟩, fun x H'' ⟨e1, e2⟩ => by subst e1; have := e2 vs (st g' _ y); rw [h1] at this; cases this; exact ⟨.refl _, h2⟩⟩
theorem xi_seq {W : WX} {tg e : Expr} {A : FE} (hK : X.K = T.K) (ha : XE X T W Γ e A) : XI X T W Γ tg e (iSeq A) := pi_imp (pi_of ha (itr_or itr_list itr_tup)) fun σ H Q ⟨g, ρ, S, R, h⟩ => by
  refine ⟨g, ρ, S, R, ?_⟩
  unfold iSeq at h
  cases e : A ρ S with
  | ok d S1 =>
    rw [e] at h
    intro v g' H' R' f' s
    rw [hK]
    have h : GoodI T W Γ ρ σ g H (match hSeq d with | some l => RL.ok l S1 | none => .no) Q := h
    cases d <;> simp only [hSeq] at h <;> first | exact h.elim | skip
    · obtain ⟨a, vs, rfl, la, ra⟩ := shr_tup.mp s
      exact .inr ⟨a, rfl, ⟨vs, la.sq⟩, h _ g' H' R' f' (itOk_tup (fun g2 H2 y => by
        rcases la with z | z
        · exact .inl (y.rd z.1 z.2).1
        · exact .inr z) ra)⟩
    · obtain ⟨a, vs, rfl, la, ra⟩ := shr_lst.mp s
      exact .inl ⟨a, rfl, ⟨vs, .of la.1⟩, h _ g' H' R' f' (itOk_list (fun g2 H2 y => .of (y.keep _ _ la.1 la.2)) ra)⟩
    · obtain ⟨a, vs, rfl, la, ra⟩ := shr_scr.mp s
      exact .inl ⟨a, rfl, ⟨vs, la.sq⟩, h _ g' H' R' f' (itOk_list (fun g2 H2 y => by
        rcases la with z | z
        · exact .inl (y.rd z.1 z.2).1
        · exact .inr z) ra)⟩
  | exc x S1 => rw [e] at h; exact h
  | no => rw [e] at h; exact h
/-- range(n), range(a, b) -/
def rangeL (lo hi : Int) : List D := (List.range (hi - lo).toNat).map fun (k : Nat) => D.int (lo + k)
def rgK1 (ds : List D) (S : Store) : RL := match ds with
  | [.int n] => if -1000000000000 ≤ n ∧ n ≤ 1000000000000 then .ok (rangeL 0 n) S else .no
  | _ => .no
def rgK2 (ds : List D) (S : Store) : RL := match ds with
  | [.int lo, .int hi] => if (-1000000000000 ≤ lo ∧ lo ≤ 1000000000000) ∧ -1000000000000 ≤ hi ∧ hi ≤ 1000000000000 then .ok (rangeL lo hi) S else .no
  | _ => .no
def iRange1 (a : FL) : FL := fun ρ S => match a ρ S with
  | .ok ds S1 => rgK1 ds S1
  | .exc x S1 => .exc x S1
  | .no => .no
def iRange2 (a : FL) : FL := fun ρ S => match a ρ S with
  | .ok ds S1 => rgK2 ds S1
  | .exc x S1 => .exc x S1
  | .no => .no
theorem itOk_range {g : G} {H : Hp} {lo hi : Int} : ItOk T g H (Itr lo (hi - lo).toNat) (rangeL lo hi) := fun g' H' i y => by
  refine ⟨fun h => ?_, fun d e => ?_⟩
  · show (hi - lo).toNat ≤ i
    simpa [rangeL] using h
  · unfold rangeL at e
    rw [List.getElem?_map] at e
    obtain ⟨k, e1, e2⟩ := Option.map_eq_some_iff.mp e
    obtain ⟨hk, e3⟩ := List.getElem?_eq_some_iff.mp e1
    rw [List.getElem_range] at e3
    subst e3
    subst e2
    rw [List.length_range] at hk
    exact ⟨hk, fun x H'' ⟨e1, e2⟩ => by subst e1; subst e2; exact ⟨.refl _, shr_int.mpr rfl⟩⟩
theorem xi_range1 {W : WX} {tg e a : Expr} {A : FL} (ha : XL X T W Γ [a] A) (he : PA X [a] (tXL T W Γ A) → PI X tg e (iRng1 (tXL T W Γ A))) : XI X T W Γ tg e (iRange1 A) := pi_imp (he ha) fun σ H Q ⟨g, ρ, S, R, h⟩ => by
  refine ⟨g, ρ, S, R, ?_⟩
  unfold iRange1 at h
  cases e : A ρ S with
  | exc x S1 => rw [e] at h; exact h
  | no => rw [e] at h; exact h
  | ok ds S1 =>
    rw [e] at h
    replace h : GoodI T W Γ ρ σ g H (rgK1 ds S1) Q := h
    unfold rgK1 at h
    split at h
    · rename_i n
      split at h
      · rename_i hl
        intro v g' H' R' f' s
        obtain ⟨v, rfl, s1⟩ := shrL1 s
        rw [shr_int.mp s1]
        refine ⟨n, rfl, by omega, by omega, h _ g' H' R' f' ?_⟩
        have := itOk_range (T := T) (g := g') (H := H') (lo := 0) (hi := n)
        rw [Int.sub_zero] at this
        exact this
      · exact h.elim
    · exact h.elim
theorem xi_range2 {W : WX} {tg e a b : Expr} {A : FL} (ha : XL X T W Γ [a, b] A) (he : PA X [a, b] (tXL T W Γ A) → PI X tg e (iRng2 (tXL T W Γ A))) : XI X T W Γ tg e (iRange2 A) := pi_imp (he ha) fun σ H Q ⟨g, ρ, S, R, h⟩ => by
  refine ⟨g, ρ, S, R, ?_⟩
  unfold iRange2 at h
  cases e : A ρ S with
  | exc x S1 => rw [e] at h; exact h
  | no => rw [e] at h; exact h
  | ok ds S1 =>
    rw [e] at h
    replace h : GoodI T W Γ ρ σ g H (rgK2 ds S1) Q := h
    unfold rgK2 at h
    split at h
    · rename_i lo hi
      split at h
      · rename_i hl
        intro v g' H' R' f' s
        obtain ⟨v, w, rfl, s1, s2⟩ := shrL2 s
        rw [shr_int.mp s1, shr_int.mp s2]
        exact ⟨lo, hi, rfl, ⟨by omega, by omega, by omega, by omega⟩, h _ g' H' R' f' itOk_range⟩
      · exact h.elim
    · exact h.elim
/-- a text, sign by sign -/
def iStrD (a : FE) : FL := fun ρ S => match a ρ S with
  | .ok (.str x) S1 => .ok (x.cps.toList.map fun c => D.str ⟨#[c]⟩) S1
  | .exc x S1 => .exc x S1
  | _ => .no
theorem xi_str {W : WX} {tg e : Expr} {A : FE} (ha : XE X T W Γ e A) : XI X T W Γ tg e (iStrD A) := pi_imp (pi_str ha) fun σ H Q ⟨g, ρ, S, R, h⟩ => by
  refine ⟨g, ρ, S, R, ?_⟩
  unfold iStrD at h
  split at h
  · rename_i x S1 e
    rw [e]
    intro v g' H' R' f' s
    refine ⟨x, shr_str.mp s, h _ g' H' R' f' fun g2 H2 i y => ?_⟩
    refine ⟨fun hl => ?_, fun d e => ?_⟩
    · show x.cps.size ≤ i
      simpa using hl
    · rw [List.getElem?_map] at e
      obtain ⟨c, e1, e2⟩ := Option.map_eq_some_iff.mp e
      subst e2
      have e3 : x.cps[i]? = some c := by simpa using e1
      refine ⟨?_, fun z H3 ⟨z1, c', z2, z3⟩ => ?_⟩
      · show i < x.cps.size
        exact (Array.getElem?_eq_some_iff.mp e3).1
      · subst z1
        rw [e3] at z2
        cases z2
        exact ⟨.refl _, shr_str.mpr z3⟩
  · rename_i e
    rw [e]
    exact h
  · exact h.elim
/-! ### targets -/
def G.drops (g : G) (is : List Nat) : G := { g with F := fun j a => j ∉ is ∧ g.F j a }
theorem G.drops_U {g : G} {is : List Nat} {a : Addr} (h : (g.drops is).U a) : g.U a := by
  rcases h with h | ⟨j, _, h⟩ | h
  · exact .inl h
  · exact .inr (.inl ⟨j, h⟩)
  · exact .inr (.inr h)
theorem FrS.drops {g : G} {H : Hp} {is : List Nat} : FrS g H (g.drops is) H := ⟨fun _ _ h _ => h, fun a h => .inl (G.drops_U h), rfl, rfl, Nat.le_refl _, fun _ _ => rfl, fun _ o h => ⟨o, h⟩⟩
theorem G.drops_one {g : G} {i : Nat} : g.drop i = g.drops [i] := by
  unfold G.drop G.drops
  congr 1
  funext j a
  simp
theorem G.drops_nil {g : G} : g.drops [] = g := by
  unfold G.drops
  congr 1
  funext j a
  simp
theorem G.drops_app {g : G} {is js : List Nat} : (g.drops is).drops js = g.drops (is ++ js) := by
  unfold G.drops
  congr 1
  funext j a
  simp only [List.mem_append, not_or, eq_iff_iff]
  exact ⟨fun h => ⟨⟨h.2.1, h.1⟩, h.2.2⟩, fun h => ⟨h.1.2, h.1.1, h.2⟩⟩
def TgOk (T : Th) (Γ Γ' : List Md) (is : List Nat) (t : TG) (tf : D → Env → Option Env) : Prop := ∀ (g : G) (ρ ρ' : Env) (S : Store) (σ : L2.St) (H : Hp) (d : D) (v : V) (Q : L2.St → Hp → Prop), Rel T g Γ ρ S σ H → Shr T g H d v → tf d ρ = some ρ' →
  (∀ σ', Rel T (g.drops is) Γ' ρ' S σ' H → σ'.length = σ.length → (∀ j, j ∉ is → σ'[j]? = σ[j]?) → Q σ' H) → t v σ H Q
def tfName (i : Nat) : D → Env → Option Env := fun d ρ => some (ρ.set i (some d))
theorem tg_name {i : Nat} (h : Γ.set i .s = Γ') : TgOk T Γ Γ' [i] (gName i) (tfName i) := fun g ρ ρ' S σ H d v Q R s e k => by
  cases e
  subst h
  refine k _ ?_ (by simp) fun j hj => List.getElem?_set_ne (fun z => hj (by simp [z]))
  rw [← G.drops_one]
  exact R.set s
def TgsOk (T : Th) (Γ Γ' : List Md) (is : List Nat) (t : TGs) (tf : List D → Env → Option Env) : Prop := ∀ (g : G) (ρ ρ' : Env) (S : Store) (σ : L2.St) (H : Hp) (d : List D) (v : List V) (Q : L2.St → Hp → Prop), Rel T g Γ ρ S σ H → ShrL T g H d v → tf d ρ = some ρ' →
  (∀ σ', Rel T (g.drops is) Γ' ρ' S σ' H → σ'.length = σ.length → (∀ j, j ∉ is → σ'[j]? = σ[j]?) → Q σ' H) → t v σ H Q
def tfNil : List D → Env → Option Env := fun ds ρ => match ds with
  | [] => some ρ
  | _ => none
def tfCons (t : D → Env → Option Env) (u : List D → Env → Option Env) : List D → Env → Option Env := fun ds ρ => match ds with
  | d :: r => (t d ρ).bind (u r)
  | _ => none
theorem tgs_nil : TgsOk T Γ Γ [] gNil tfNil := fun g ρ ρ' S σ H d v Q R s e k => by
  unfold tfNil at e
  split at e
  · cases e
    simp only [ShrL] at s
    exact ⟨s, k σ (by rw [G.drops_nil]; exact R) rfl fun _ _ => rfl⟩
  · cases e
theorem tgs_cons {is js : List Nat} {t : TG} {u : TGs} {tf : D → Env → Option Env} {uf : List D → Env → Option Env} (h : TgOk T Γ Γ1 is t tf) (h' : TgsOk T Γ1 Γ' js u uf) : TgsOk T Γ Γ' (is ++ js) (gCons t u) (tfCons tf uf) := fun g ρ ρ' S σ H d v Q R s e k => by
  unfold tfCons at e
  split at e
  · rename_i d' r
    simp only [ShrL] at s
    obtain ⟨v', ws, rfl, s1, s2⟩ := s
    obtain ⟨ρ1, e1, e2⟩ := Option.bind_eq_some_iff.mp e
    refine ⟨v', ws, rfl, h g ρ ρ1 S σ H d' v' _ R s1 e1 fun σ1 R1 l1 k1 => ?_⟩
    exact h' _ ρ1 ρ' S σ1 H r ws Q R1 (ShrL.stay FrS.drops.stay _ _ s2) e2 fun σ2 R2 l2 k2 => k σ2 (by rw [G.drops_app] at R2; exact R2) (l2.trans l1) fun j hj => by
      rw [List.mem_append, not_or] at hj
      rw [k2 j hj.2, k1 j hj.1]
  · cases e
def tfTup (n : Nat) (u : List D → Env → Option Env) : D → Env → Option Env := fun d ρ => match d with
  | .tup l => if l.length = n then u l ρ else none
  | _ => none
theorem tg_tup {n : Nat} {is : List Nat} {u : TGs} {uf : List D → Env → Option Env} (h : TgsOk T Γ Γ' is u uf) : TgOk T Γ Γ' is (gTup T.K n u) (tfTup n uf) := fun g ρ ρ' S σ H d v Q R s e k => by
  unfold tfTup at e
  split at e
  · rename_i l
    split at e
    · rename_i hl
      obtain ⟨a, vs, rfl, la, ra⟩ := shr_tup.mp s
      exact ⟨a, vs, rfl, la.sq, by rw [← ra.length]; exact hl, h g ρ ρ' S σ H l vs Q R ra e k⟩
    · cases e
  · cases e
/-- a target takes a value -/
def fAsg (a : FE) (tf : D → Env → Option Env) : FS := fun ρ S => (a ρ S).bindS ρ fun d S1 => match tf d ρ with
  | some ρ1 => .nx ρ1 S1
  | none => .no
theorem xs_asg {e : Expr} {A : FE} {st : Stmt} {t : TG} {tf : D → Env → Option Env} {is : List Nat} (hx : J.ΓX Γ) (ht : TgOk T Γ Γ' is t tf) (ha : XE X T J.W Γ e A) (he : PE X e (tX T J.W Γ A) → PS X st (tAsg (tX T J.W Γ A) t)) : XS X T J Γ Γ' st (fAsg A tf) := ps_imp (he ha) fun D σ H ⟨g, ρ, S, R, h⟩ =>
  ⟨g, ρ, S, R, good_bindS R hx h fun d S1 v g1 H1 _ R1 f1 s1 h1 => by
    cases e : tf d ρ with
    | none => rw [e] at h1; exact h1.elim
    | some ρ1 =>
      rw [e] at h1
      exact ht g1 ρ ρ1 S1 σ H1 d v D.nx R1 s1 e fun σ' R' _ _ => h1 σ' _ H1 R' .drops⟩
theorem xs_for {tg it : Expr} {body : List Stmt} {F : FL} {B : FS} {tf : D → Env → Option Env} {t : TG} {is : List Nat} {pos : Pos} (hx : J.ΓX Γ) (hp : PassesOwn (model X.prog X.w) X.A X.env X.xe) (hc : X.calm = true) (hi : XI X T J.W Γ tg it F) (hg : PG X tg t) (ht : TgOk T Γ Γ is t tf)
    (hb : XB X T { J with Γl := Γ } Γ Γ body B) (hs : ∀ x, foldedSetIterable it X.env x = pure x := by intro _; rfl) : XS X T J Γ Γ (.For tg it body [] pos) (fFor F tf B) := ps_imp (ps_for hp hc hi hg hb hs) fun D σ H ⟨g, ρ, S, R, h⟩ => by
  refine ⟨g, ρ, S, R, ?_⟩
  unfold fFor at h
  cases e : F ρ S with
  | exc x S1 => rw [e] at h; exact fun c dd g' H' R' f' s => h Γ c dd σ g' H' hx R' (f'.frs R.dOB) s
  | no => rw [e] at h; exact h
  | ok ds S1 =>
    rw [e] at h
    intro It1 g1 H1 R1 f1 io
    have h : GoodS T J Γ g H (forL tf B ds ρ S1) D := h
    have f1' := f1.frs R.dOB
    have h0 := GoodS.then h f1'
    generalize hr : forL tf B ds ρ S1 = r at h0
    clear h
    refine ⟨fun i m σ' H' => ∃ g' ρ' S', Rel T g' Γ ρ' S' σ' H' ∧ FrS g1 H1 g' H' ∧ m = ds.length - i ∧ i ≤ ds.length ∧ forL tf B (ds.drop i) ρ' S' = r, ⟨ds.length, g1, ρ, S1, R1, .refl _ _, by simp, Nat.zero_le _, by rw [List.drop_zero]; exact hr⟩, fun i m σ' H' ⟨g', ρ', S', R', f', em, hi', er⟩ => ?_⟩
    obtain ⟨i1, i2⟩ := io g' H' i f'.stay
    have h2 := GoodS.then h0 f'
    by_cases hlt : i < ds.length
    · obtain ⟨d, hd⟩ : ∃ d, ds[i]? = some d := ⟨ds[i], List.getElem?_eq_getElem hlt⟩
      obtain ⟨go, yl⟩ := i2 d hd
      refine .inr ⟨go, fun σ2 H2 => ∃ m', m' < m ∧ ∃ g' ρ' S', Rel T g' Γ ρ' S' σ2 H2 ∧ FrS g1 H1 g' H2 ∧ m' = ds.length - (i + 1) ∧ i + 1 ≤ ds.length ∧ forL tf B (ds.drop (i + 1)) ρ' S' = r, fun σ2 H2 ⟨m', l, w⟩ => ⟨m', l, w⟩, fun x H2 y => ?_⟩
      obtain ⟨ex, sx⟩ := yl x H2 y
      have R2 := R'.ex ex
      have f2 : FrS g1 H1 g' H2 := f'.trans ((FrE.ex ex).frs R'.dOB)
      have ed : ds.drop i = d :: ds.drop (i + 1) := by
        rw [List.drop_eq_getElem_cons hlt]
        rw [List.getElem?_eq_getElem hlt] at hd
        rw [Option.some.inj hd]
      rw [ed] at er
      rw [forL] at er
      split at er
      · rename_i e1
        rw [← er] at h2
        exact h2.elim
      · rename_i ρ1 e1
        refine ht g' ρ' ρ1 S' σ' H2 d x _ R2 sx e1 fun σ3 R3 _ _ => ⟨g'.drops is, ρ1, S', R3, ?_⟩
        have f3 : FrS g' H2 (g'.drops is) H2 := .drops
        have h3 := GoodS.then h2 (((FrE.ex ex).frs R'.dOB).trans f3)
        have nxt : ∀ {ρ2 : Env} {S2 : Store}, forL tf B (ds.drop (i + 1)) ρ2 S2 = r → ∀ σ4 g4 H4, Rel T g4 Γ ρ2 S2 σ4 H4 → FrS (g'.drops is) H2 g4 H4 → ∃ m', m' < m ∧ ∃ g' ρ' S', Rel T g' Γ ρ' S' σ4 H4 ∧ FrS g1 H1 g' H4 ∧ m' = ds.length - (i + 1) ∧ i + 1 ≤ ds.length ∧ forL tf B (ds.drop (i + 1)) ρ' S' = r :=
          fun {ρ2 S2} e2 σ4 g4 H4 R4 f4 => ⟨ds.length - (i + 1), by omega, g4, ρ2, S2, R4, (f2.trans f3).trans f4, rfl, hlt, e2⟩
        split at er
        · rename_i eb; rw [eb]; exact nxt er
        · rename_i eb; rw [eb]; exact nxt er
        · rename_i eb
          rw [eb]
          rw [← er] at h3
          exact h3
        · rename_i n1 n2 n3
          rw [← er] at h3
          cases eb : B ρ1 S' with
          | nx a b => exact absurd eb (n1 a b)
          | ct a b => exact absurd eb (n2 a b)
          | bk a b => exact absurd eb (n3 a b)
          | rt d a b => rw [eb] at h3; exact h3
          | exc x a b => rw [eb] at h3; exact h3
          | no => rw [eb] at h3; exact h3
    · have e1 : i = ds.length := by omega
      subst e1
      refine .inl ⟨i1 (Nat.le_refl _), ?_⟩
      rw [List.drop_length] at er
      rw [← er] at h2
      exact h2 σ' g' H' R' (.refl _ _)
end
end Q

/-! Defs and calls. -/
namespace Q
open PySem PySem.Spec PyProof.Rows L2
/-- what a call comes to; outs: what its pinned parameters hold at its end -/
inductive RF where
  | ok (d : D) (outs : Env) (S : Store)
  | exc (x : Exc) (outs : Env) (S : Store)
  | no
abbrev FF := List D → Store → RF
structure Sig where
  ms : List Md
  kr : Nat
def GoodF (T : Th) (sg : Sig) (g : G) (vs : List V) (H : Hp) : RF → VK → XK → Prop
  | .ok d outs S', Q, _ => ∀ v g' H' Fo, Rel T (g'.plus Fo) sg.ms outs S' (vs.map some) H' → FrS g H g' H' → (∀ i a, g'.F i a → ∃ k, sg.ms.getD i .s = .p k) → (∀ a, Fo a → ¬ g.O a ∧ (g.U a ∨ H a = none)) → Own T (g'.plus Fo) H' sg.kr Fo d v → Q v H'
  | .exc x outs S', _, E => ∀ c dd g' H', Rel T g' sg.ms outs S' (vs.map some) H' → FrS g H g' H' → (∀ i a, g'.F i a → ∃ k, sg.ms.getD i .s = .p k) → ExcR T g' H' x c dd → E c dd H'
  | .no, _, _ => False
/-- what a def promises: on data it comes to Φ -/
def spD (T : Th) (n : Nat) (sg : Sig) (Φ : FF) : Sp := fun vs H Q E => vs.length = n ∧ ∃ g ds S, Rel T g sg.ms (ds.map some) S (vs.map some) H ∧ GoodF T sg g vs H (Φ ds S) Q E
/-- what the pinned parameters hold -/
def outsOf : List Md → Nat → Env → Env
  | _, 0, _ => []
  | ms, n + 1, ρ => (match ms.headD .s with
    | .p _ => ρ.headD none
    | _ => none) :: outsOf ms.tail n ρ.tail
def fBody (N n : Nat) (ms : List Md) (b : FS) : FF := fun ds S => match b (ds.map some ++ List.replicate (N - n) none) S with
  | .nx ρ S' => .ok .non (outsOf ms n ρ) S'
  | .rt d ρ S' => .ok d (outsOf ms n ρ) S'
  | .exc x ρ S' => .exc x (outsOf ms n ρ) S'
  | _ => .no
theorem outsOf_length : ∀ (ms : List Md) (n : Nat) (ρ : Env), (outsOf ms n ρ).length = n
  | _, 0, _ => rfl
  | ms, n + 1, ρ => by rw [outsOf, List.length_cons, outsOf_length]
theorem outsOf_get : ∀ (ms : List Md) (n : Nat) (ρ : Env) (i : Nat) (d : D), (outsOf ms n ρ)[i]? = some (some d) → i < n ∧ (∃ k, ms.getD i .s = .p k) ∧ ρ[i]? = some (some d)
  | _, 0, _, i, d, h => by simp [outsOf] at h
  | ms, n + 1, ρ, 0, d, h => by
    rw [outsOf, List.getElem?_cons_zero] at h
    have h := Option.some.inj h
    split at h
    · rename_i k e
      refine ⟨Nat.succ_pos _, ⟨k, ?_⟩, ?_⟩
      · cases ms with
        | nil => cases e
        | cons m r => exact e
      · cases ρ with
        | nil => cases h
        | cons x r => simp at h; simp [h]
    · cases h
  | ms, n + 1, ρ, i + 1, d, h => by
    rw [outsOf, List.getElem?_cons_succ] at h
    obtain ⟨h1, ⟨k, h2⟩, h3⟩ := outsOf_get ms.tail n ρ.tail i d h
    refine ⟨by omega, ⟨k, ?_⟩, ?_⟩
    · cases ms with
      | nil => simp at h2
      | cons m r => simpa using h2
    · cases ρ with
      | nil => simp at h3
      | cons x r => simpa using h3
/-- a pinned parameter is pinned still -/
def ΓP (ms : List Md) : List Md → Prop := fun Γ => ∀ i k, ms.getD i .s = .p k → Γ.getD i .s = .p k
section
variable {T : Th}
/-- the slots go, but the pinned parameters -/
def G.only (g : G) (ms : List Md) : G := { g with F := fun i a => (∃ k, ms.getD i .s = .p k) ∧ g.F i a }
theorem G.only_U {g : G} {ms : List Md} {a : Addr} (h : (g.only ms).U a) : g.U a := by
  rcases h with h | ⟨j, _, h⟩ | h
  · exact .inl h
  · exact .inr (.inl ⟨j, h⟩)
  · exact .inr (.inr h)
theorem Rel.outs {g g0 : G} {Γ ms : List Md} {ρ : Env} {S : Store} {σ : L2.St} {H : Hp} {vs : List V} {n : Nat} (R : Rel T g Γ ρ S σ H) (hΓ : ΓP ms Γ) (hn : vs.length = n) (hP : g.P = g0.P) (h0 : ∀ i k, ms.getD i .s = .p k → i < n → vs[i]? = some (g0.P i)) :
    Rel T (g.only ms) ms (outsOf ms n ρ) S (vs.map some) H := by
  refine R.shift rfl rfl rfl rfl (fun a h => G.only_U h) (fun i j a h h' => R.dF i j a h.2 h'.2) (fun i a h => R.dFO i a h.2) (fun a h => .inl h) (fun i a h => .inl ⟨i, h.2⟩) (by rw [outsOf_length, List.length_map, hn]) fun st i d e => ?_
  obtain ⟨hi, ⟨k, hk⟩, e2⟩ := outsOf_get ms n ρ i d e
  obtain ⟨v, h1, h2⟩ := R.slot i d e2
  rw [hΓ i k hk] at h2
  have h3 := h2.stay (g2 := g.only ms) st (fun a z => ⟨⟨k, hk⟩, z⟩) (fun a z => z) rfl (bare_sub rfl rfl (fun i a z => ⟨i, z.2⟩) fun _ z => z)
  refine ⟨v, ?_, by rw [hk]; exact h3⟩
  have ev : v = g0.P i := by rw [← hP]; exact h2.1
  rw [List.getElem?_map, h0 i k hk hi, ev]
  rfl
theorem own_non {g : G} {H : Hp} {k : Nat} {F : Addr → Prop} : Own T g H k F .non .non := by
  cases k <;> simp [Own, Shr]
theorem FrS.only {g g1 : G} {H H1 : Hp} {ms : List Md} (f : FrS g H g1 H1) : FrS g H (g1.only ms) H1 := ⟨f.keep, fun a h => f.own a (G.only_U h), f.O, f.P, f.N, f.μ, f.dom⟩
end
section
variable {P : Program} {w : World} {K : PySem.W.Frag} {mg : Str → Option Value} {base : Heap} {T : Th}
/-- how a def's body is left -/
def jdF (ms : List Md) (kr : Nat) (E : XK) : Jd := ⟨fun c dd _ H => E c dd H, ΓP ms, ΓP ms, kr, []⟩
theorem start_eq {N : List Str} {vs : List V} {n : Nat} (h : vs.length = n) : L2.start N vs = vs.map some ++ List.replicate (N.length - n) none := by
  unfold L2.start
  rw [h]
/-- THE RULE of a def: its body's derivation for every entry -/
theorem fn_ok {x qual : Str} {st : Stmt} {f : Addr} {fd : FuncData} {N ps : List Str} {k n : Nat} {sg : Sig} {B : FS} {Γ' : List Md} (F : Fun K x qual st f fd) (Sc : FnScope N ps (defScope st)) (hn : ps.length = n) (hN : n ≤ N.length)
    (hbody : ∀ (cdv : Value) (A : Around) (outer : List PySem.Env) (s : Shared) (H : Hp) (E : XK), Room k (A.deeper (envOfC qual (defScope st) s.heap.objs.size f cdv)) →
      XB (cxOf (L2.CX P w) P w K mg base N qual (defScope st) f cdv A outer s H E) T (jdF sg.ms sg.kr E) (sg.ms ++ List.replicate (N.length - sg.ms.length) .s) Γ' (defBody st) B) (hl : ΓP sg.ms Γ') :
    FnOk P w K mg base (L2.CX P w) (k + 1) f fd ps (spD T n sg (fBody N.length n sg.ms B)) := by
  refine F.okX Sc (fun vs H Q E h => by rw [hn]; exact h.1) (fun cdv A outer s H vs Q E hr h => ⟨_, hbody cdv A outer s H E hr, ?_⟩)
  obtain ⟨hvn, g, ds, S, R, hg⟩ := h
  have hdn : ds.length = n := by
    have := R.len
    rw [List.length_map, List.length_map] at this
    omega
  have gd : ∀ i, (sg.ms ++ List.replicate (N.length - sg.ms.length) Md.s).getD i .s = sg.ms.getD i .s := fun i => by
    by_cases hi : i < sg.ms.length
    · simp [List.getD, List.getElem?_append_left hi]
    · simp only [List.getD]
      rw [List.getElem?_append_right (by omega), List.getElem?_eq_none (l := sg.ms) (by omega), List.getElem?_replicate]
      split <;> rfl
  have R0 : Rel T g (sg.ms ++ List.replicate (N.length - sg.ms.length) .s) (ds.map some ++ List.replicate (N.length - n) none) S (L2.start N vs) H := by
    rw [start_eq hvn]
    refine ⟨by rw [List.length_append, List.length_append, R.len]; simp, fun i d e => ?_, R.dF, R.dFO, R.dFB, R.dOB, R.dom, R.st, R.nt⟩
    by_cases hi : i < ds.length
    · rw [List.getElem?_append_left (by simpa using hi)] at e
      obtain ⟨v, h1, h2⟩ := R.slot i d e
      refine ⟨v, ?_, by rw [gd]; exact h2⟩
      rw [List.getElem?_append_left (by simp; omega)]
      exact h1
    · rw [List.getElem?_append_right (by simpa using hi), List.getElem?_replicate] at e
      split at e <;> cases e
  have pin : ∀ i k, sg.ms.getD i .s = .p k → i < n → vs[i]? = some (g.P i) := fun i k hk hi => by
    obtain ⟨v, h1, h2⟩ := R.slot i ds[i] (by rw [List.getElem?_map, List.getElem?_eq_getElem (by omega)]; rfl)
    rw [hk] at h2
    rw [List.getElem?_map] at h1
    cases e : vs[i]? with
    | none => rw [e] at h1; cases h1
    | some u =>
      rw [e] at h1
      cases h1
      rw [h2.1]
  refine ⟨g, _, S, R0, ?_⟩
  unfold fBody at hg
  cases e : B (ds.map some ++ List.replicate (N.length - n) none) S with
  | nx ρ S' =>
    rw [e] at hg
    intro σ' g' H' R' f'
    refine hg .non (g'.only sg.ms) H' (fun _ => False) ?_ f'.only (fun i a z => z.1) (fun _ z => z.elim) own_non
    exact plus_none (R'.outs hl hvn f'.P pin)
  | rt d ρ S' =>
    rw [e] at hg
    intro Γ'' v σ' g' H' Fo hr' R' f' ho hw
    have R2 := R'.outs hr' hvn (show (g'.plus Fo).P = g.P from f'.P) pin
    have st2 : Stay (g'.plus Fo) H' ((g'.only sg.ms).plus Fo) H' := ⟨fun _ _ h _ => h, fun a h => .inl (by
      rcases h with h | ⟨j, _, h⟩ | h
      · exact .inl h
      · exact .inr (.inl ⟨j, h⟩)
      · exact .inr (.inr h)), Nat.le_refl _, fun _ _ => rfl⟩
    have hw' : Own T ((g'.only sg.ms).plus Fo) H' sg.kr Fo d v := Own.keepF st2 _ _ _ _ (fun _ _ _ q => q) hw
    exact hg v (g'.only sg.ms) H' Fo R2 f'.only (fun i a z => z.1) ho hw'
  | exc x ρ S' =>
    rw [e] at hg
    intro Γ'' c dd σ' g' H' hx' R' f' ex
    refine hg c dd (g'.only sg.ms) H' (R'.outs hx' hvn f'.P pin) f'.only (fun i a z => z.1) ?_
    obtain ⟨e0, e1, e2⟩ := ex
    refine ⟨e0, e1, e2.imp id fun ⟨d, fs, h1, h2, h3, h4, h5⟩ => ⟨d, fs, h1, h2, h3, h4, ?_⟩⟩
    exact ShrL.stay ⟨fun _ _ h _ => h, fun a h => .inl (G.only_U h), Nat.le_refl _, fun _ _ => rfl⟩ _ _ h5
  | bk ρ S' => rw [e] at hg; exact hg.elim
  | ct ρ S' => rw [e] at hg; exact hg.elim
  | no => rw [e] at hg; exact hg.elim
end
/-! ### calls whose arguments are shared -/
def eCall (Φ : FF) (as : FL) : FE := fun ρ S => match as ρ S with
  | .ok ds S1 => (match Φ ds S1 with
    | .ok d _ S2 => .ok d S2
    | .exc x _ S2 => .exc x S2
    | .no => .no)
  | .exc x S1 => .exc x S1
  | .no => .no
/-- the callee's ghost: all slots are others' -/
def G.callee (g : G) : G := { g with O := fun a => g.O a ∨ ∃ i, g.F i a, F := fun _ _ => False }
theorem G.callee_U {g : G} {a : Addr} : (g.callee).U a ↔ g.U a := by
  constructor
  · rintro ((h | h) | ⟨i, h⟩ | h)
    · exact .inl h
    · exact .inr (.inl h)
    · exact h.elim
    · exact .inr (.inr h)
  · rintro (h | h | h)
    · exact .inl (.inl h)
    · exact .inl (.inr h)
    · exact .inr (.inr h)
theorem stay_iff {g g2 : G} {H : Hp} (hU : ∀ a, g2.U a → g.U a) (hN : g.N = g2.N) (hμ : g2.μ = g.μ) : Stay g H g2 H := ⟨fun _ _ h _ => h, fun a h => .inl (hU a h), by rw [hN]; exact Nat.le_refl _, fun n _ => by rw [hμ]⟩
section
variable {X : Cx} {T : Th} {W : WX} {Γ : List Md}
/-- behind a call: the caller's ghost -/
def G.back (g1 g' : G) : G := { g' with O := g1.O, F := g1.F }
theorem call_back {g1 g' : G} {ρ : Env} {S1 S2 : Store} {σ : L2.St} {H1 H' : Hp} {Fo : Addr → Prop} {outs : Env} {ms : List Md} {vs : List V} (R1 : Rel T g1 Γ ρ S1 σ H1) (R' : Rel T (g'.plus Fo) ms outs S2 (vs.map some) H') (f' : FrS g1.callee H1 g' H') (nf : ∀ i a, ¬ g'.F i a) :
    Rel T (g1.back g') Γ ρ S2 σ H' ∧ FrE g1 H1 (g1.back g') H' ∧ (∀ a, (g1.back g').U a → (g'.plus Fo).U a) := by
  have eO : ∀ a, g'.O a ↔ (g1.O a ∨ ∃ i, g1.F i a) := fun a => by rw [f'.O]; exact Iff.rfl
  have bB : ∀ a, g'.B a → g1.B a ∨ H1 a = none := fun a h => by
    rcases f'.own a (.inr (.inr h)) with z | z
    · rcases G.callee_U.mp z with z | z | z
      · exact absurd h (R'.dOB a (.inl ((eO a).mpr (.inl z))))
      · exact absurd h (R'.dOB a (.inl ((eO a).mpr (.inr z))))
      · exact .inl z
    · exact .inr z
  have hU : ∀ a, (g1.back g').U a → (g'.plus Fo).U a := fun a h => by
    rcases h with h | h | h
    · exact .inl (.inl ((eO a).mpr (.inl h)))
    · exact .inl (.inl ((eO a).mpr (.inr h)))
    · exact .inr (.inr h)
  have kp : ∀ a o, H1 a = some o → ¬ g1.B a → H' a = some o := fun a o e hb => f'.keep a o e (by
    by_cases ho : g1.O a ∨ ∃ i, g1.F i a
    · exact .inr ho
    · exact .inl fun z => by
        rcases G.callee_U.mp z with z | z | z
        · exact ho (.inl z)
        · exact ho (.inr z)
        · exact hb z)
  have fe : FrE g1 H1 (g1.back g') H' := ⟨kp, bB, rfl, rfl, f'.P, f'.N, f'.μ, f'.dom⟩
  refine ⟨⟨R1.len, fun i d e => ?_, R1.dF, R1.dFO, fun i a h => ?_, fun a h => ?_, fun a h => ?_, ?_, fun a h => R'.nt a (hU a h)⟩, fe, hU⟩
  · obtain ⟨v, h1, h2⟩ := R1.slot i d e
    refine ⟨v, h1, ?_⟩
    have st := fe.stay
    cases hm : Γ.getD i .s <;> rw [hm] at h2 <;> simp only [RepM] at h2 ⊢
    · exact h2.stay st
    · exact Own.keepF st _ _ _ _ (fun a o z q => kp a o q (R1.dFB i a z)) h2
    · exact Own.keepF st _ _ _ _ (fun a o z q => kp a o q (R1.dOB a z)) h2
    · exact ⟨h2.1.trans (by show g1.P i = g'.P i; rw [f'.P]; rfl), Own.keepF st _ _ _ _ (fun a o z q => kp a o q (R1.dFB i a z)) h2.2⟩
    · exact h2
    · exact h2.stay fe.bare
  · exact R'.dOB a (.inl ((eO a).mpr (.inr ⟨i, h⟩)))
  · exact R'.dOB a (.inl ((eO a).mpr (.inl h)))
  · exact R'.dom a (hU a h)
  · exact R'.st.keep (stay_iff hU rfl rfl) (fun _ _ _ h => h) rfl rfl rfl fun _ _ => rfl
theorem rel_args {g1 : G} {ρ : Env} {S1 : Store} {σ : L2.St} {H1 : Hp} {ds : List D} {vs : List V} {ms : List Md} (R1 : Rel T g1 Γ ρ S1 σ H1) (s : ShrL T g1 H1 ds vs) (hm : ∀ i, ms.getD i .s = .s) : Rel T g1.callee ms (ds.map some) S1 (vs.map some) H1 := by
  refine R1.shift rfl rfl rfl rfl (fun a h => G.callee_U.mp h) (fun i j a h => h.elim) (fun i a h => h.elim) (fun a h => h) (fun i a h => h.elim) (by simp [s.length]) fun st i d e => ?_
  rw [List.getElem?_map] at e
  cases q : ds[i]? with
  | none => rw [q] at e; cases e
  | some d' =>
    rw [q] at e
    cases e
    obtain ⟨v, h1, h2⟩ := s.get q
    refine ⟨v, by rw [List.getElem?_map, h1]; rfl, ?_⟩
    rw [hm]
    exact h2.stay st
theorem shr_of_own {g : G} {H : Hp} : ∀ (k : Nat) (Fo : Addr → Prop) (d : D) (v : V), (∀ a, Fo a → ¬ g.U a) → (∀ a, Fo a → ∃ o, H a = some o) → Own T (g.plus Fo) H k Fo d v → Shr T g H d v := by
  intro k
  have base : ∀ (Fo : Addr → Prop), Stay (g.plus Fo) H g H := fun Fo => ⟨fun _ _ h _ => h, fun a h => .inl (by
    rcases h with h | h | h
    · exact .inl (.inl h)
    · exact .inr (.inl h)
    · exact .inr (.inr h)), Nat.le_refl _, fun _ _ => rfl⟩
  suffices hs : ∀ (k : Nat) (Fo F : Addr → Prop) (d : D) (v : V), (∀ a, F a → Fo a) → (∀ a, Fo a → ¬ g.U a) → Own T (g.plus Fo) H k F d v → Shr T g H d v from fun Fo d v h1 _ h => hs k Fo Fo d v (fun _ z => z) h1 h
  intro k
  induction k with
  | zero => intro Fo F d v hf hu h; simp only [Own] at h; exact h.stay (base Fo)
  | succ k ih =>
    intro Fo F d v hf hu h
    cases d with
    | lst l =>
      simp only [Own] at h
      obtain ⟨p, vs, e, hF, hH, hl, Gs, h1, h2, h3⟩ := h
      exact shr_lst.mpr ⟨p, vs, e, ⟨hH, hu p (hf p hF)⟩, .of hl fun i d w a b => ih Fo (Gs i) d w (fun a z => hf a (h1 i a z).1) hu (h3 i d w a b)⟩
    | dct l =>
      simp only [Own] at h
      obtain ⟨p, vs, e, hF, hH, hl, Gs, h1, h2, h3⟩ := h
      simp only [Shr]
      refine ⟨p, vs, e, ⟨hH, hu p (hf p hF)⟩, ?_⟩
      clear hH e
      revert vs
      intro vs hl h3
      suffices hk : ∀ (n : Nat) (l' : List (Key × D)) (vs' : List (Key × V)), l = l.take n ++ l' → vs = vs.take n ++ vs' → l'.length = vs'.length → n ≤ l.length → ShrK T g H l' vs' from hk 0 l vs (by simp) (by simp) hl (Nat.zero_le _)
      intro n l'
      induction l' generalizing n with
      | nil =>
        intro vs' _ _ hl' _
        have : vs' = [] := List.length_eq_zero_iff.mp hl'.symm
        subst this
        simp only [ShrK]
      | cons kd r ihl =>
        intro vs' e1 e2 hl' hn
        cases vs' with
        | nil => simp at hl'
        | cons kw ws =>
          have n1 : n < l.length := by
            have := congrArg List.length e1
            rw [List.length_append, List.length_take, List.length_cons] at this
            omega
          have g1 : l[n]? = some kd := by
            rw [e1, List.getElem?_append_right (by rw [List.length_take]; omega), List.length_take, Nat.min_eq_left hn]
            simp
          have g2 : vs[n]? = some kw := by
            rw [e2, List.getElem?_append_right (by rw [List.length_take]; omega), List.length_take, Nat.min_eq_left (by omega)]
            simp
          obtain ⟨ek, so⟩ := h3 n kd kw g1 g2
          obtain ⟨k1, d1⟩ := kd
          obtain ⟨k2, w2⟩ := kw
          simp only at ek so
          subst ek
          simp only [ShrK]
          refine ⟨w2, ws, rfl, ih Fo (Gs n) d1 w2 (fun a z => hf a (h1 n a z).1) hu so, ?_⟩
          refine ihl (n + 1) ws ?_ ?_ (by simpa using hl') (by omega)
          · rw [List.take_add_one, g1]
            have e3 : l = l.take n ++ (k1, d1) :: r := e1
            simp only [Option.toList_some, List.append_assoc, List.singleton_append]
            exact e3
          · rw [List.take_add_one, g2]
            have e3 : vs = vs.take n ++ (k1, w2) :: ws := e2
            simp only [Option.toList_some, List.append_assoc, List.singleton_append]
            exact e3
    | _ => simp only [Own] at h; exact h.stay (base Fo)
theorem xe_call {k n : Nat} {f : Addr} {fd : FuncData} {ps : List Str} {sg : Sig} {Φ : FF} {e : Expr} {es : List Expr} {A : FL} (F : FnOk X.prog X.w X.K X.mg X.base (L2.CX X.prog X.w) k f fd ps (spD T n sg Φ)) (hm : ∀ i, sg.ms.getD i .s = .s) (hn : es.length = n) (hA : ∀ ρ S ds S1, A ρ S = .ok ds S1 → ds.length = n)
    (ha : XL X T W Γ es A) (he : PA X es (tXL T W Γ A) → PE X e (tCallS (spD T n sg Φ) (WE W) (tXL T W Γ A))) : XE X T W Γ e (eCall Φ A) := pe_imp (he ha) fun σ H Q ⟨g, ρ, S, R, hg⟩ => by
  refine ⟨g, ρ, S, R, ?_⟩
  unfold eCall at hg
  cases ea : A ρ S with
  | exc x S1 => rw [ea] at hg; exact hg
  | no => rw [ea] at hg; exact hg
  | ok ds S1 =>
    rw [ea] at hg
    intro vs g1 H1 R1 f1 s1
    have hg : GoodE T W Γ ρ σ g H (match Φ ds S1 with | .ok d _ S2 => .ok d S2 | .exc x _ S2 => .exc x S2 | .no => .no) Q := hg
    refine ⟨by rw [← s1.length]; exact hA ρ S ds S1 ea, g1.callee, ds, S1, rel_args R1 s1 hm, ?_⟩
    cases ef : Φ ds S1 with
    | no => rw [ef] at hg; exact hg
    | ok d outs S2 =>
      rw [ef] at hg
      intro v g' H' Fo R' f' nf ho hw
      have nf' : ∀ i a, ¬ g'.F i a := fun i a z => by
        obtain ⟨k, e⟩ := nf i a z
        rw [hm] at e; cases e
      obtain ⟨R2, f2, hU⟩ := call_back R1 R' f' nf'
      refine hg v (g1.back g') H' R2 (f1.trans f2) ?_
      have st : Stay (g'.plus Fo) H' ((g1.back g').plus Fo) H' := ⟨fun _ _ h _ => h, fun a h => .inl (by
        rcases h with (h | h) | h | h
        · exact hU a (.inl h)
        · exact .inl (.inr h)
        · exact hU a (.inr (.inl h))
        · exact .inr (.inr h)), Nat.le_refl _, fun _ _ => rfl⟩
      refine shr_of_own sg.kr Fo d v (fun a z u => ?_) (fun a z => R'.dom a (.inl (.inr z))) (Own.keepF st _ _ _ _ (fun _ _ _ q => q) hw)
      have ho' := (ho a z).1
      rcases u with u | u | u
      · exact ho' (.inl u)
      · exact ho' (.inr u)
      · exact R'.dOB a (.inr z) u
    | exc x outs S2 =>
      rw [ef] at hg
      intro c dd g' H' R' f' nf ex
      have nf' : ∀ i a, ¬ g'.F i a := fun i a z => by
        obtain ⟨k, e⟩ := nf i a z
        rw [hm] at e; cases e
      obtain ⟨R2, f2, hU⟩ := call_back R1 (plus_none R') f' nf'
      refine hg c dd (g1.back g') H' R2 (f1.trans f2) ?_
      obtain ⟨e0, e1, e2⟩ := ex
      refine ⟨e0, e1, e2.imp id fun ⟨d, fs, h1, h2, h3, h4, h5⟩ => ⟨d, fs, h1, h2, h3, h4, ?_⟩⟩
      have st : Stay g' H' (g1.back g') H' := ⟨fun _ _ h _ => h, fun a h => .inl (by
        rcases hU a h with (h | h) | h | h
        · exact .inl h
        · exact h.elim
        · exact .inr (.inl h)
        · exact .inr (.inr h)), Nat.le_refl _, fun _ _ => rfl⟩
      exact ShrL.stay st _ _ h5
theorem lNil_len {ρ : Env} {S : Store} {ds : List D} {S1 : Store} (h : lNil ρ S = .ok ds S1) : ds.length = 0 := by cases h; rfl
theorem lCons_len {A : FE} {B : FL} {n : Nat} (hB : ∀ ρ S ds S1, B ρ S = .ok ds S1 → ds.length = n) (ρ : Env) (S : Store) (ds : List D) (S1 : Store) (h : lCons A B ρ S = .ok ds S1) : ds.length = n + 1 := by
  unfold lCons at h
  split at h
  · split at h
    · rename_i e2
      cases h
      rw [List.length_cons, hB _ _ _ _ e2]
    · cases h
    · cases h
  · cases h
  · cases h
/-! ### raise -/
def fRaise (k : Nat) : FS := fun ρ S => .exc ⟨k, []⟩ ρ S
theorem xs_raise {J : Jd} {Γ Γ' : List Md} {k : Nat} {st : Stmt} (hk : k < T.nc) (hx : J.ΓX Γ) (he : PS X st (fun D σ H => J.W (.ref (T.cA k)) none σ H)) : XS X T J Γ Γ' st (fRaise k) := ps_imp he fun D σ H ⟨g, ρ, S, R, h⟩ =>
  h Γ _ none σ g H hx R (.refl _ _) ⟨hk, rfl, .inl ⟨rfl, rfl⟩⟩
end
end Q

/-! isinstance; try. -/
namespace Q
open PySem PySem.Spec PyProof.Rows L2
/-- a built-in type's name -/
def tyD : D → Option String
  | .non => some "NoneType"
  | .bl _ => some "bool"
  | .int _ => some "int"
  | .str _ => some "str"
  | .tup _ => some "tuple"
  | .lst _ => some "list"
  | .dct _ => some "dict"
  | _ => none
def hIsi (T : String) (d : D) : Option D := (tyD d).bind fun n => (kitB n T).map .bl
section
variable {T : Th} {g : G} {H : Hp}
theorem ty_shr {d : D} {v : V} {n : String} (s : Shr T g H d v) (e : tyD d = some n) : TyX T.K H v (.type n) := by
  cases d <;> simp only [tyD] at e <;> first | cases e | skip
  · rw [shr_non.mp s]; exact .base .non
  · rw [shr_bl.mp s]; exact .base (.bl _)
  · rw [shr_int.mp s]; exact .base (.int _)
  · rw [shr_str.mp s]; exact .base (.str _)
  · obtain ⟨a, vs, rfl, la, ra⟩ := shr_tup.mp s
    rcases la with ⟨z | ⟨o, z⟩, _⟩ | ⟨o, its, n, z, zc, _⟩
    · exact .base (.tup z)
    · exact .fTuple z
    · exact .kTuple z zc
  · obtain ⟨a, vs, rfl, la, ra⟩ := shr_lst.mp s
    exact .base (.lst la.1)
  · simp only [Shr] at s
    obtain ⟨a, vs, rfl, la, ra⟩ := s
    exact .base (.dK la.1)
end
section
variable {X : Cx} {T : Th} {W : WX} {Γ : List Md}
/-- isinstance(x, T), T a built-in type -/
theorem xe_isi {e a : Expr} {A : FE} {n : String} (hK : X.K = T.K) (ha : XE X T W Γ a A) (he : PE X a (tX T W Γ A) → PE X e (tCB (rIsi X.K) (tCons (tX T W Γ A) (tCons (tC (.ty n)) tNil)))) : XE X T W Γ e (eUn (hIsi n) A) := pe_imp (he ha) fun σ H Q ⟨g, ρ, S, R, hg⟩ =>
  ⟨g, ρ, S, R, good_bind hg fun x S1 v g1 H1 _ R1 f1 s1 hg1 => by
    obtain ⟨z, ez, hg3⟩ := good_of hg1
    obtain ⟨m, e1, e2⟩ := Option.bind_eq_some_iff.mp ez
    obtain ⟨b, e3, e4⟩ := Option.map_eq_some_iff.mp e2
    subst e4
    refine ⟨v, .ty n, .type m, .type n, b, rfl, .ty n, by rw [hK]; exact ty_shr s1 e1, kit_ty e3, hg3 _ g1 H1 R1 (.refl _ _) (shr_bl.mpr rfl)⟩⟩
/-! ### the exception that a suite holds -/
def eHeld (i : Nat) (b : Bool) : FE := fun ρ S => match ρ[i]? with
  | some (some _) => .ok (.bl b) S
  | _ => .no
theorem held_slot {g : G} {ρ : Env} {S : Store} {σ : L2.St} {H : Hp} {i : Nat} {b : Bool} {a : Addr} {Q : VK} (R : Rel T g Γ ρ S σ H) (hΓ : Γ.getD i .s = .e (.ref a)) (h : GoodE T W Γ ρ σ g H (eHeld i b ρ S) Q) : σ[i]? = some (some (.ref a)) ∧ Q (.bl b) H := by
  unfold eHeld at h
  split at h
  · rename_i d e
    obtain ⟨v, h1, h2⟩ := R.slot i d e
    rw [hΓ] at h2
    have h2 : v = .ref a := h2
    subst h2
    exact ⟨h1, h _ g H R (.refl _ _) (shr_bl.mpr rfl)⟩
  · exact h.elim
/-- isinstance(e, C) -/
theorem xe_isE {e : Expr} {i : Nat} {a Dc : Addr} {c : V} {cv : Value} {b : Bool} (hΓ : Γ.getD i .s = .e (.ref a)) (hcv : ∀ u, RelV c u → u = cv) (hk : PySem.W.kitOne X.K (.ref Dc) cv = some b) (he : PE X e (tCB (rIsE X.K Dc a) (tCons (tVar i) (tCons (tC c) tNil)))) : XE X T W Γ e (eHeld i b) :=
  pe_imp he fun σ H Q ⟨g, ρ, S, R, hg⟩ => by
    obtain ⟨h1, h2⟩ := held_slot R hΓ hg
    exact ⟨_, h1, c, cv, b, rfl, hcv, hk, h2⟩
/-- isinstance(e, (C1, C2, ..)), e the exception that the suite holds, the tuple just made -/
def rIsET (K : PySem.W.Frag) (D a : Addr) : List V → Hp → VK → Prop := fun xs H Q => ∃ (tp : Addr) (cs : List V) (us : List Value) (b : Bool), xs = [.ref a, .ref tp] ∧ H tp = some (.tup cs) ∧ Paired ClsV cs us ∧ PySem.W.kitAny K (.ref D) us = some b ∧ Q (.bl b) H
theorem call_isET {a D : Addr} {oe : Obj} {pn : List (Addr × Obj)} (C : ExcC X.K D) (hz : Zc (.ref D) none oe) (hf : ∃ vs, oe.data = .fields vs) : CallR (X.suite a ((a, oe) :: pn)) (.builtin "isinstance") (rIsET X.K D a) := by
  intro pins s σ H xs us Q I r h
  obtain ⟨tp, cs, ws, b, rfl, hT, k, e, q⟩ := h
  obtain ⟨u1, u2, rfl, r1, r2⟩ := vals2 r
  cases (show u2 = Value.ref tp from r2)
  cases (show u1 = Value.ref a from r1)
  obtain ⟨hget, _⟩ := I.pin (a, oe) (List.mem_append.mpr (.inl List.mem_cons_self))
  obtain ⟨vs, hv⟩ := hf
  have J : PySem.W.InstAt s.heap a oe D none := by
    obtain ⟨oc, od, oda, osl⟩ := oe
    obtain ⟨h1, h2⟩ := hz
    dsimp only at h1 h2 hv
    subst h1 h2 hv
    exact ⟨hget, rfl, rfl, trivial⟩
  obtain ⟨_, its, rv, o, h1, h2, n, h3⟩ := (show ObjOk X.prog X.w H s.heap tp (.tup cs) from I.hok tp _ hT)
  have e3 := ClsV.all k rv
  subst e3
  obtain ⟨oc, od, dt, sl⟩ := o
  simp only at h2 h3
  subst h2 h3
  exact PySem.W.kia_tup (PySem.W.handS_kitx_exc C.hg C.hk C.hs C.hd C.ha C.hn C.ht C.hm) I.kIn J h1 e (fun z => nomatch z) fun tk => ⟨.bl b, H, I.kept (t' := tk) fun _ _ z => z, rfl, q⟩
/-- names of classes, one after the other -/
inductive PCs (X : Cx) : List Expr → List V → Prop where
  | nil : PCs X [] []
  | cons {e : Expr} {es : List Expr} {c : V} {cs : List V} (h : PE X e (tC c)) (r : PCs X es cs) (hs : starEach (e :: es) X.env = (false, eval e X.env) :: starEach es X.env := by rfl) : PCs X (e :: es) (c :: cs)
theorem pcs_pa : ∀ {es : List Expr} {cs : List V}, PCs X es cs → PA X es (fun _ H Q => Q cs H)
  | _, _, .nil => pa_nil
  | _, _, .cons h r hs => pa_imp (pa_cons h (pcs_pa r) hs) fun _ _ _ q => q
theorem xe_isET {e : Expr} {i : Nat} {a Dc : Addr} {cs : List V} {us : List Value} {b : Bool} (hΓ : Γ.getD i .s = .e (.ref a)) (hl : cs.length ≤ 1000) (hcs : Paired ClsV cs us) (hk : PySem.W.kitAny X.K (.ref Dc) us = some b)
    (he : PE X e (tCB (rIsET X.K Dc a) (tCons (tVar i) (tCons (tTup fun _ H Q => Q cs H) tNil)))) : XE X T W Γ e (eHeld i b) :=
  pe_imp he fun σ H Q ⟨g, ρ, S, R, hg⟩ => by
    unfold eHeld at hg
    split at hg
    · rename_i d e
      obtain ⟨v, h1, h2⟩ := R.slot i d e
      rw [hΓ] at h2
      have h2 : v = .ref a := h2
      subst h2
      refine ⟨_, h1, Nat.le_of_lt (small1000 hl), fun p hp => ⟨p, cs, us, b, rfl, upd_same, hcs, hk, ?_⟩⟩
      exact hg _ g _ (R.ex (Exx.new hp)) (.ex (Exx.new hp)) (shr_bl.mpr rfl)
    · exact hg.elim
/-! ### isinstance of classes by what the written part says -/
theorem kit_t {K : PySem.W.Frag} {D C : Addr} (h1 : PySem.W.isClsIn K C = true) (h2 : PySem.W.typeIn K (.ref C) = some (.type "type")) (h3 : PySem.W.subIn K (.ref D) (.ref C) = some true) : PySem.W.kitOne K (.ref D) (.ref C) = some true := by
  unfold PySem.W.kitOne
  split
  · rfl
  · show (if ((PySem.W.clsIn K C).isSome && PySem.W.typeIn K (.ref C) == some (.type "type")) = true then PySem.W.subIn K (.ref D) (.ref C) else none) = _
    have h1' : (PySem.W.clsIn K C).isSome = true := h1
    rw [h1', h2, if_pos (by rfl)]
    exact h3
theorem kit_f {K : PySem.W.Frag} {D C : Addr} (h1 : PySem.W.isClsIn K C = true) (h2 : PySem.W.typeIn K (.ref C) = some (.type "type")) (h3 : PySem.W.subIn K (.ref D) (.ref C) = some false) (hn : (D == C) = false) : PySem.W.kitOne K (.ref D) (.ref C) = some false := by
  unfold PySem.W.kitOne
  split
  · rename_i h
    have : D = C := Value.ref.inj (beq_iff_eq.mp h)
    subst this
    rw [beq_self_eq_true] at hn
    cases hn
  · show (if ((PySem.W.clsIn K C).isSome && PySem.W.typeIn K (.ref C) == some (.type "type")) = true then PySem.W.subIn K (.ref D) (.ref C) else none) = _
    have h1' : (PySem.W.clsIn K C).isSome = true := h1
    rw [h1', h2, if_pos (by rfl)]
    exact h3
theorem kit_ve {K : PySem.W.Frag} {D : Addr} (h3 : PySem.W.subIn K (.ref D) (.type "ValueError") = some true) : PySem.W.kitOne K (.ref D) (.type "ValueError") = some true := by
  unfold PySem.W.kitOne
  split
  · rfl
  · show (if PySem.W.kitMeta "ValueError" = true then PySem.W.subIn K (.ref D) (.type "ValueError") else none) = _
    rw [if_pos (by decide +kernel)]
    exact h3
/-! ### try -/
def fTry (B : FS) (i : Nat) (caught : Nat → Bool) (Hd : Exc → FS) : FS := fun ρ S => match B ρ S with
  | .exc x ρ1 S1 => if caught x.cls = true then (if x.args = [] then (match Hd x (ρ1.set i (some .non)) S1 with
      | .nx ρ2 S2 => .nx (ρ2.set i none) S2
      | .rt d ρ2 S2 => .rt d ρ2 S2
      | _ => .no) else .no) else .exc x ρ1 S1
  | r => r
theorem Rel.setE {g : G} {ρ : Env} {S : Store} {σ : L2.St} {H : Hp} {i : Nat} {v : V} (R : Rel T g Γ ρ S σ H) (hi : i < Γ.length) : Rel T (g.drop i) (Γ.set i (.e v)) (ρ.set i (some .non)) S (σ.set i (some v)) H := by
  refine R.shift rfl rfl rfl rfl (fun a h => G.drop_U h) (fun j k a h h' => R.dF j k a h.2 h'.2) (fun j a h => R.dFO j a h.2) (fun a h => .inl h) (fun j a h => .inl ⟨j, h.2⟩) (by simp [R.len]) fun st j d' e => ?_
  by_cases hj : i = j
  · subst hj
    by_cases hlt : i < ρ.length
    · refine ⟨v, by rw [List.getElem?_set_self (by rw [← R.len]; exact hlt)], ?_⟩
      rw [getD_set_self hi]
      exact rfl
    · rw [List.getElem?_eq_none (by simpa using hlt)] at e
      cases e
  · rw [List.getElem?_set_ne hj] at e
    obtain ⟨w, h1, h2⟩ := R.slot j d' e
    refine ⟨w, by rw [List.getElem?_set_ne hj]; exact h1, ?_⟩
    rw [getD_set_ne hj]
    exact h2.stay st (fun a z => ⟨fun q => hj q.symm, z⟩) (fun a z => z) rfl (bare_sub rfl rfl (fun i a z => ⟨i, z.2⟩) fun _ z => z)
theorem Rel.clear {g : G} {ρ : Env} {S : Store} {σ : L2.St} {H : Hp} {i : Nat} {m : Md} (R : Rel T g (Γ.set i m) ρ S σ H) : Rel T (g.drop i) Γ (ρ.set i none) S (σ.set i none) H := by
  refine R.shift rfl rfl rfl rfl (fun a h => G.drop_U h) (fun j k a h h' => R.dF j k a h.2 h'.2) (fun j a h => R.dFO j a h.2) (fun a h => .inl h) (fun j a h => .inl ⟨j, h.2⟩) (by simp [R.len]) fun st j d' e => ?_
  by_cases hj : i = j
  · subst hj
    by_cases hlt : i < ρ.length
    · rw [List.getElem?_set_self hlt] at e; cases e
    · rw [List.getElem?_eq_none (by simpa using hlt)] at e
      cases e
  · rw [List.getElem?_set_ne hj] at e
    obtain ⟨w, h1, h2⟩ := R.slot j d' e
    refine ⟨w, by rw [List.getElem?_set_ne hj]; exact h1, ?_⟩
    rw [getD_set_ne hj] at h2
    exact h2.stay st (fun a z => ⟨fun q => hj q.symm, z⟩) (fun a z => z) rfl (bare_sub rfl rfl (fun i a z => ⟨i, z.2⟩) fun _ z => z)
/-- how a suite is left -/
def jdH (J : Jd) : Jd := ⟨fun _ _ _ _ => False, fun _ => True, J.ΓR, J.kr, []⟩
theorem xs_try {J : Jd} {Γ Γ' : List Md} {x n : Str} {c : Value} {i : Nat} {body suite : List Stmt} {b₀ : Stmt} {np pos pos' : Pos} {B : FS} {Hd : Exc → FS} {caught : Nat → Bool} (hx : J.ΓX Γ) (hi : i < Γ.length)
    (hs : X.stack = X.env :: X.outer) (hf : X.env.frame = some X.env.locals) (hN : X.N.Nodup) (hin : X.N[i]? = some n) (hln : X.env.kindOf n = some .local) (hc : Names X x c) (tk : Takes X J.W)
    (hex : ∀ k, k < T.nc → PySem.W.exmOne X.K (.ref (T.cA k)) c = some (caught k))
    (hb : ∀ (W : WX) (pn : List (Addr × Obj)) (xe : Value → Shared → Prop), Takes (X.tr pn xe) W → PassesOwn (model X.prog X.w) X.A X.env xe → XB (X.tr pn xe) T { J with W := W, ΓX := fun Γ'' => Γ'' = Γ } Γ Γ' body B)
    (hsu : ∀ (y : Exc) (a : Addr) (oe : Obj) (pn : List (Addr × Obj)), y.cls < T.nc → caught y.cls = true → Zc (.ref (T.cA y.cls)) none oe → (∃ vs, oe.data = .fields vs) → XB (X.suite a ((a, oe) :: pn)) T (jdH J) (Γ.set i (.e (.ref a))) (Γ'.set i (.e (.ref a))) (b₀ :: suite) (Hd y)) :
    XS X T J Γ Γ' (.Try body [.ExceptHandler (some (.Name x np)) (some n) (b₀ :: suite) pos'] [] [] pos) (fTry B i caught Hd) := by
  refine ps_imp (ps_try_as (tb := fun W => tS T { J with W := W, ΓX := fun Γ'' => Γ'' = Γ } Γ Γ' B) (ts := fun a cls d => fun D σ H => ∃ y : Exc, y.cls < T.nc ∧ caught y.cls = true ∧ cls = .ref (T.cA y.cls) ∧ d = none ∧ tS T (jdH J) (Γ.set i (.e (.ref a))) (Γ'.set i (.e (.ref a))) (Hd y) D σ H) (Wout := J.W) hs hf hN hin hln hc tk hb ?_) ?_
  · intro a oe cls d pn hz hfl
    refine ⟨fun pins s σ H D I h => ?_⟩
    obtain ⟨y, h1, h2, rfl, rfl, h3⟩ := h
    exact (hsu y a oe pn h1 h2 hz hfl).run pins s σ H D I h3
  · rintro D σ H ⟨g, ρ, S, R, h⟩
    refine ⟨g, ρ, S, R, ?_⟩
    unfold fTry at h
    cases e : B ρ S with
    | nx ρ1 S1 => rw [e] at h; exact h
    | bk ρ1 S1 => rw [e] at h; exact h
    | ct ρ1 S1 => rw [e] at h; exact h
    | rt d ρ1 S1 => rw [e] at h; exact h
    | no => rw [e] at h; exact h
    | exc y ρ1 S1 =>
      rw [e] at h
      intro Γ'' c' dd σ' g' H' eΓ R' f' ex
      have eΓ : Γ'' = Γ := eΓ
      subst eΓ
      obtain ⟨e0, e1, e2⟩ := id ex
      have h : GoodS T J Γ' g H (if caught y.cls = true then (if y.args = [] then (match Hd y (ρ1.set i (some .non)) S1 with | .nx ρ2 S2 => RS.nx (ρ2.set i none) S2 | .rt d ρ2 S2 => .rt d ρ2 S2 | _ => .no) else .no) else .exc y ρ1 S1) D := h
      refine ⟨caught y.cls, by rw [e1]; exact hex _ e0, fun hb a na => ?_, fun hb => ?_⟩
      · rw [if_pos hb] at h
        by_cases ha : y.args = []
        · rw [if_pos ha] at h
          have ed : dd = none := by
            rcases e2 with ⟨_, z⟩ | ⟨_, _, z, _⟩
            · exact z
            · exact absurd ha z
          refine ⟨y, e0, hb, e1, ed, g'.drop i, ρ1.set i (some .non), S1, R'.setE hi, ?_⟩
          have h' := GoodS.then (g1 := g'.drop i) h (f'.trans .drop)
          cases eh : Hd y (ρ1.set i (some .non)) S1 with
          | nx ρ2 S2 =>
            rw [eh] at h'
            exact fun σ2 g2 H2 R2 f2 => h' (σ2.set i none) (g2.drop i) H2 R2.clear (f2.trans .drop)
          | rt d ρ2 S2 =>
            rw [eh] at h'
            exact fun Γ3 v σ2 g2 H2 Fo r1 R2 f2 ho hw => h' Γ3 v σ2 g2 H2 Fo r1 R2 f2 ho hw
          | bk _ _ => rw [eh] at h'; exact h'.elim
          | ct _ _ => rw [eh] at h'; exact h'.elim
          | exc _ _ _ => rw [eh] at h'; exact h'.elim
          | no => rw [eh] at h'; exact h'.elim
        · rw [if_neg ha] at h; exact h.elim
      · rw [hb, if_neg Bool.false_ne_true] at h
        exact h Γ'' c' dd σ' g' H' hx R' f' ex
end
end Q

/-! Comparisons as tests, in, slices, comprehensions. -/
namespace Q
open PySem PySem.Spec PyProof.Rows L2
section
variable {X : Cx} {T : Th} {W : WX} {Γ : List Md}
/-- a comparison as a test -/
theorem xt_op {e : Expr} {r : R2} {h : D → D → Option D} {a b : Expr} {A B : FE} (ok : OpOk T r h) (ha : XE X T W Γ a A) (hb : XE X T W Γ b B)
    (he : PE X a (tX T W Γ A) → PE X b (tX T W Γ B) → PT X e (tTest (tOp r (tX T W Γ A) (tX T W Γ B)))) : XT X T W Γ e (eOp h A B) := pt_imp (he ha hb) fun σ H Q ⟨g, ρ, S, R, hg⟩ =>
  ⟨g, ρ, S, R, goodT_bind hg fun x S1 v g1 H1 _ R1 f1 s1 hg1 => ⟨g1, ρ, S1, R1, goodT_bind hg1 fun y S2 w g2 H2 _ R2 f2 s2 hg2 => by
    cases ez : h x y with
    | none => rw [ez] at hg2; exact hg2.elim
    | some z =>
      rw [ez] at hg2
      obtain ⟨b, rfl, hg3⟩ := hg2
      exact ok g2 H2 x y _ v w (s1.stay f2.stay) s2 ez R2.dom _ fun u H' ex su => ⟨b, shr_bl.mp su, hg3 g2 H' (R2.ex ex) (.ex ex)⟩⟩⟩
theorem xt_chain {e a b c : Expr} {r r' : R2} {h h' : D → D → Option D} {A B C : FE} (ok : OpOk T r h) (ok' : OpOk T r' h') (ha : XE X T W Γ a A) (hb : XE X T W Γ b B) (hc : XE X T W Γ c C)
    (he : PE X a (tX T W Γ A) → PE X b (tX T W Γ B) → PE X c (tX T W Γ C) → PT X e (tTest (tChain r r' (tX T W Γ A) (tX T W Γ B) (tX T W Γ C)))) : XT X T W Γ e (eChain h h' A B C) := pt_imp (he ha hb hc) fun σ H Q ⟨g, ρ, S, R, hg⟩ =>
  ⟨g, ρ, S, R, goodT_bind hg fun x S1 v g1 H1 _ R1 f1 s1 hg1 => ⟨g1, ρ, S1, R1, goodT_bind hg1 fun y S2 w g2 H2 _ R2 f2 s2 hg2 => by
    cases ez : h x y with
    | none => rw [ez] at hg2; exact hg2.elim
    | some z =>
      rw [ez] at hg2
      refine ok g2 H2 x y z v w (s1.stay f2.stay) s2 ez R2.dom _ fun u H3 ex su => ?_
      obtain ⟨t, rfl⟩ : ∃ t, z = .bl t := by
        have h0 := hg2
        unfold RE.of RE.bind at h0
        dsimp only at h0
        split at h0 <;> first | exact ⟨_, rfl⟩ | exact h0.elim
      refine ⟨t, shr_bl.mp su, ?_⟩
      have R3 := R2.ex ex
      cases t with
      | true =>
        refine iteT ⟨g2, ρ, S2, R3, ?_⟩
        have h0 : GoodT T W Γ ρ σ g2 H3 ((C ρ S2).bind fun w S4 => .of S4 (h' y w)) Q := by
          have h1 : GoodT T W Γ ρ σ g2 H2 ((C ρ S2).bind fun w S4 => .of S4 (h' y w)) Q := hg2
          cases q : (C ρ S2).bind fun w S4 => .of S4 (h' y w) with
          | ok d S4 => rw [q] at h1; obtain ⟨b, e2, h1⟩ := h1; exact ⟨b, e2, fun g' H' R' f' => h1 g' H' R' ((FrE.ex ex).trans f')⟩
          | exc d S4 => rw [q] at h1; exact fun v dd g' H' R' f' s' => h1 v dd g' H' R' ((FrE.ex ex).trans f') s'
          | no => rw [q] at h1; exact h1
        refine goodT_bind h0 fun w4 S4 v4 g4 H4 _ R4 f4 s4 hg4 => ?_
        cases e4 : h' y w4 with
        | none => rw [e4] at hg4; exact hg4.elim
        | some z4 =>
          rw [e4] at hg4
          obtain ⟨b, rfl, hg5⟩ := hg4
          exact ok' g4 H4 y w4 _ w v4 ((s2.stay (Stay.ex ex)).stay f4.stay) s4 e4 R4.dom _ fun u5 H5 ex5 su5 => ⟨b, shr_bl.mp su5, hg5 g4 H5 (R4.ex ex5) (.ex ex5)⟩
      | false =>
        obtain ⟨b, e2, hg3⟩ := hg2
        cases e2
        exact iteF ⟨false, rfl, hg3 g2 H3 R3 (.ex ex)⟩⟩⟩
/-! ### in -/
abbrev rInA0 (K : PySem.W.Frag) : R2 := fun x y H Q => rIn K false x y H Q ∨ (∃ i j, x = .str i ∧ y = .str j ∧ Q (.bl !(Builtin.Str.occurrences j i 0 j.length 1).isEmpty) H)
abbrev rInA1 (K : PySem.W.Frag) : R2 := fun x y H Q => rIn K true x y H Q ∨ (∃ i j, x = .str i ∧ y = .str j ∧ Q (.bl !!(Builtin.Str.occurrences j i 0 j.length 1).isEmpty) H)
theorem op_inA : OpR X (compareOp .In) (rInA0 X.K) := opr_or op_in_seq op_in_str
theorem op_notinA : OpR X (compareOp .NotIn) (rInA1 X.K) := opr_or op_notIn_seq op_notIn_str
theorem ok_in0 : OpOk T (rInA0 T.K) (hIn false) := by
  intro g H x y z v w sx sy e hd Q q
  cases y
  case lst l =>
    have e : inL false x l = some z := by cases x <;> exact e
    obtain ⟨a, vs, rfl, la, ra⟩ := shr_lst.mp sy
    exact .inl (ok_inL sx (.inl (.of la.1)) ra e q)
  case scr l =>
    have e : inL false x l = some z := by cases x <;> exact e
    obtain ⟨a, vs, rfl, la, ra⟩ := shr_scr.mp sy
    exact .inl (ok_inL sx (.inl la.sq) ra e q)
  case tup l =>
    have e : inL false x l = some z := by cases x <;> exact e
    obtain ⟨a, vs, rfl, la, ra⟩ := shr_tup.mp sy
    exact .inl (ok_inL sx (.inr la.sq) ra e q)
  case str b =>
    cases x <;> simp only [hIn] at e <;> first | cases e | skip
    exact .inr ⟨_, _, shr_str.mp sx, shr_str.mp sy, q _ H (.refl H) (shr_bl.mpr rfl)⟩
  all_goals (cases x <;> simp only [hIn] at e <;> cases e)
theorem ok_in1 : OpOk T (rInA1 T.K) (hIn true) := by
  intro g H x y z v w sx sy e hd Q q
  cases y
  case lst l =>
    have e : inL true x l = some z := by cases x <;> exact e
    obtain ⟨a, vs, rfl, la, ra⟩ := shr_lst.mp sy
    exact .inl (ok_inL sx (.inl (.of la.1)) ra e q)
  case scr l =>
    have e : inL true x l = some z := by cases x <;> exact e
    obtain ⟨a, vs, rfl, la, ra⟩ := shr_scr.mp sy
    exact .inl (ok_inL sx (.inl la.sq) ra e q)
  case tup l =>
    have e : inL true x l = some z := by cases x <;> exact e
    obtain ⟨a, vs, rfl, la, ra⟩ := shr_tup.mp sy
    exact .inl (ok_inL sx (.inr la.sq) ra e q)
  case str b =>
    cases x <;> simp only [hIn] at e <;> first | cases e | skip
    exact .inr ⟨_, _, shr_str.mp sx, shr_str.mp sy, q _ H (.refl H) (shr_bl.mpr rfl)⟩
  all_goals (cases x <;> simp only [hIn] at e <;> cases e)
/-! ### slices -/
def cutD (xs : List D) (lo hi : Option Int) : List D := (xs.drop (HT.sIx xs.length 0 lo)).take (HT.sIx xs.length xs.length hi - HT.sIx xs.length 0 lo)
theorem shrL_cut {g : G} {H : Hp} {l : List D} {vs : List V} (h : ShrL T g H l vs) (lo hi : Option Int) : ShrL T g H (cutD l lo hi) (cutV vs lo hi) := by
  unfold cutD cutV
  rw [h.length]
  exact (h.drop _).take _
def hSl (d : D) (lo hi : Option Int) : Option D := match d with
  | .lst l => some (.lst (cutD l lo hi))
  | .scr l => some (.lst (cutD l lo hi))
  | .str z => if z.length ≤ 1000000 then some (.str (cutS z lo hi)) else none
  | .tup l => if HT.sIx l.length 0 lo = 0 ∧ HT.sIx l.length l.length hi = l.length then none else some (.tup (cutD l lo hi))
  | _ => none
abbrev rSlA (K : PySem.W.Frag) : V → Option Int → Option Int → Hp → VK → Prop := fun x lo hi H Q => rSlL K x lo hi H Q ∨ (rSlT K x lo hi H Q ∨ rSlS x lo hi H Q)
theorem sl_A : SlR X (rSlA X.K) := sl_list.or (sl_tup.or sl_str)
/-- a part of a slice: an int, or left out -/
def eBnd (o : Option FE) : Env → Store → (Option Int → Store → RE) → RE := fun ρ S k => match o with
  | none => k none S
  | some a => (a ρ S).bind fun d S1 => match d with
    | .int i => k (some i) S1
    | _ => .no
def eSl (a : FE) (lo hi : Option FE) : FE := fun ρ S => (a ρ S).bind fun d S1 => eBnd lo ρ S1 fun l S2 => eBnd hi ρ S2 fun h S3 => .of S3 (hSl d l h)
/-- the readings of a slice's parts -/
inductive XBd (X : Cx) (T : Th) (W : WX) (Γ : List Md) : Option Expr → Option FE → TO → Prop where
  | none : XBd X T W Γ none none tNoPart
  | some {e : Expr} {A : FE} (h : XE X T W Γ e A) : XBd X T W Γ (some e) (some A) (tPart (tX T W Γ A))
theorem XBd.po {o : Option Expr} {A : Option FE} {t : TO} (h : XBd X T W Γ o A t) : PO X o t := by
  cases h with
  | none => exact po_none
  | some h => exact po_some h
theorem good_bnd {o : Option Expr} {A : Option FE} {t : TO} (hb : XBd X T W Γ o A t) {g : G} {ρ : Env} {S : Store} {σ : L2.St} {H : Hp} {k : Option Int → Store → RE} {Q : VK} {Q' : Option Int → Hp → Prop} (R : Rel T g Γ ρ S σ H) (h : GoodE T W Γ ρ σ g H (eBnd A ρ S k) Q)
    (hk : ∀ i S1 g1 H1, Rel T g1 Γ ρ S1 σ H1 → FrE g H g1 H1 → GoodE T W Γ ρ σ g1 H1 (k i S1) Q → Q' i H1) : t σ H Q' := by
  cases hb with
  | none => exact hk none S g H R (.refl _ _) h
  | some ha =>
    refine ⟨g, ρ, S, R, good_bind h fun d S1 v g1 H1 eR R1 f1 s1 h1 => ?_⟩
    clear eR
    split at h1
    · rename_i i
      exact ⟨i, shr_int.mp s1, hk (some i) S1 g1 H1 R1 f1 h1⟩
    · exact h1.elim
theorem xe_sl {a : Expr} {lo hi : Option Expr} {A : FE} {L U : Option FE} {tl tu : TO} {p2 pos : Pos} (hK : X.K = T.K) (ha : XE X T W Γ a A) (hl : XBd X T W Γ lo L tl) (hu : XBd X T W Γ hi U tu) : XE X T W Γ (.Subscript a (.Slice lo hi none p2) pos) (eSl A L U) :=
  pe_imp (pe_slice sl_A ha hl.po hu.po) fun σ H Q ⟨g, ρ, S, R, hg⟩ =>
    ⟨g, ρ, S, R, good_bind hg fun d S1 v g1 H1 _ R1 f1 s1 hg1 => good_bnd hl R1 hg1 fun l S2 g2 H2 R2 f2 hg2 => good_bnd hu R2 hg2 fun u S3 g3 H3 R3 f3 hg3 => by
      have s3 := (s1.stay f2.stay).stay f3.stay
      obtain ⟨z, ez, hg4⟩ := good_of hg3
      rw [hK]
      cases d <;> simp only [hSl] at ez <;> first | cases ez | skip
      · split at ez
        · rename_i hl
          cases ez
          exact .inr (.inr ⟨_, shr_str.mp s3, sz6 hl, hg4 _ g3 H3 R3 (.refl _ _) (shr_str.mpr rfl)⟩)
        · cases ez
      · split at ez
        · cases ez
        · rename_i hl
          cases ez
          obtain ⟨a, vs, rfl, la, ra⟩ := shr_tup.mp s3
          exact .inr (.inl ⟨a, vs, rfl, la.sq, by rw [← ra.length]; exact hl, fun p hp => hg4 _ g3 _ (R3.ex (Exx.new hp)) (.ex (Exx.new hp)) (shr_newT (shrL_cut ra l u) hp R3.dom)⟩)
      · obtain ⟨a, vs, rfl, la, ra⟩ := shr_lst.mp s3
        exact .inl ⟨a, vs, rfl, .of la.1, fun p hp => hg4 _ g3 _ (R3.ex (Exx.new hp)) (.ex (Exx.new hp)) (shr_newL (shrL_cut ra l u) hp R3.dom)⟩
      · obtain ⟨a, vs, rfl, la, ra⟩ := shr_scr.mp s3
        exact .inl ⟨a, vs, rfl, la.sq, fun p hp => hg4 _ g3 _ (R3.ex (Exx.new hp)) (.ex (Exx.new hp)) (shr_newL (shrL_cut ra l u) hp R3.dom)⟩⟩
/-! ### list comprehensions -/
/-- what of a state does not hang on the slots -/
structure Dj (T : Th) (g : G) (S : Store) (H : Hp) : Prop where
  dF : ∀ i j a, g.F i a → g.F j a → i = j
  dFO : ∀ i a, g.F i a → ¬ g.O a
  dFB : ∀ i a, g.F i a → ¬ g.B a
  dOB : ∀ a, g.O a → ¬ g.B a
  dom : ∀ a, g.U a → ∃ o, H a = some o
  st : SR T g S H
  nt : ∀ a, g.U a → ∀ u, ¬ Rd H a (.tup u)
theorem Rel.dj {g : G} {ρ : Env} {S : Store} {σ : L2.St} {H : Hp} (R : Rel T g Γ ρ S σ H) : Dj T g S H := ⟨R.dF, R.dFO, R.dFB, R.dOB, R.dom, R.st, R.nt⟩
theorem Rel.carry {g g' : G} {ρ : Env} {S S' : Store} {σ : L2.St} {H H' : Hp} {Fo : Addr → Prop} (R : Rel T g Γ ρ S σ H) (f : FrE g H g' H') (hf : ∀ a, Fo a → H a = none) (j : Dj T (g'.plus Fo) S' H') : Rel T (g'.plus Fo) Γ ρ S' σ H' := by
  refine ⟨R.len, fun i d e => ?_, j.dF, j.dFO, j.dFB, j.dOB, j.dom, j.st, j.nt⟩
  have st : Stay g H (g'.plus Fo) H' := ⟨fun a o h hu => f.stay.keep a o h hu, fun a h => by
    rcases h with (h | h) | h | h
    · exact f.stay.own a (.inl h)
    · exact .inr (hf a h)
    · exact f.stay.own a (.inr (.inl h))
    · exact f.stay.own a (.inr (.inr h)), f.N, f.μ⟩
  obtain ⟨v, h1, h2⟩ := R.slot i d e
  refine ⟨v, h1, ?_⟩
  cases hm : Γ.getD i .s <;> rw [hm] at h2 <;> simp only [RepM] at h2 ⊢
  · exact h2.stay st
  · have := Own.keepF st _ _ _ _ (fun a o z q => f.keep a o q (R.dFB i a z)) h2
    show Own T (g'.plus Fo) H' _ (g'.F i) d v
    rw [f.F]; exact this
  · have := Own.keepF st _ _ _ _ (fun a o z q => f.keep a o q (R.dOB a z)) h2
    exact Own.wide _ _ _ _ _ (fun a z => .inl (by rw [f.O]; exact z)) this
  · refine ⟨h2.1.trans (by show g.P i = g'.P i; rw [f.P]), ?_⟩
    have := Own.keepF st _ _ _ _ (fun a o z q => f.keep a o q (R.dFB i a z)) h2.2
    show Own T (g'.plus Fo) H' _ (g'.F i) d v
    rw [f.F]; exact this
  · exact h2
  · exact h2.stay (show Stay g.bare H (g'.plus Fo).bare H' from f.bare)
def wipeE (ρ : Env) : List Nat → Env
  | [] => ρ
  | v :: vs => (wipeE ρ vs).set v none
theorem wipeE_some {ρ : Env} {i : Nat} {d : D} : ∀ {vs : List Nat}, (wipeE ρ vs)[i]? = some (some d) → ρ[i]? = some (some d) ∧ i ∉ vs
  | [], h => ⟨h, by simp⟩
  | v :: vs, h => by
    unfold wipeE at h
    by_cases hv : v = i
    · subst hv
      by_cases hl : v < (wipeE ρ vs).length
      · rw [List.getElem?_set_self hl] at h; cases h
      · rw [List.getElem?_eq_none (by simpa using hl)] at h; cases h
    · rw [List.getElem?_set_ne hv] at h
      obtain ⟨h1, h2⟩ := wipeE_some h
      exact ⟨h1, by simp [h2, Ne.symm hv]⟩
theorem wipeE_length (ρ : Env) : ∀ vs : List Nat, (wipeE ρ vs).length = ρ.length
  | [] => rfl
  | v :: vs => by unfold wipeE; rw [List.length_set, wipeE_length ρ vs]
theorem wipe_get {σ σ' : L2.St} {is : List Nat} (hl : σ'.length = σ.length) (h : ∀ j, j ∉ is → σ'[j]? = σ[j]?) : ∀ {vs : List Nat}, (∀ j, j ∈ is → j ∈ vs) → wipe σ' vs = wipe σ vs := by
  intro vs hs
  apply List.ext_getElem?
  intro j
  by_cases hj : j ∈ vs
  · have nn : ∀ (τ : L2.St) (ws : List Nat), j ∈ ws → (wipe τ ws)[j]? = if j < τ.length then some none else none := by
      intro τ ws
      induction ws with
      | nil => intro h; cases h
      | cons w ws ih =>
        intro h
        unfold wipe
        by_cases hw : w = j
        · subst hw
          by_cases hlt : w < τ.length
          · rw [List.getElem?_set_self (by rw [wipe_length]; exact hlt), if_pos hlt]
          · rw [List.getElem?_eq_none (by simpa [wipe_length] using hlt), if_neg hlt]
        · rw [List.getElem?_set_ne hw]
          rcases List.mem_cons.mp h with h | h
          · exact absurd h.symm hw
          · exact ih h
    rw [nn _ _ hj, nn _ _ hj, hl]
  · rw [wipe_out hj, wipe_out hj]
    exact h j fun z => hj (hs j z)
/-- the wiped slots' places are lent -/
def G.lend (g : G) (vs : List Nat) : G := { g with O := fun a => g.O a ∨ ∃ j, j ∈ vs ∧ g.F j a, F := fun j a => j ∉ vs ∧ g.F j a }
theorem G.lend_U {g : G} {vs : List Nat} {a : Addr} : (g.lend vs).U a ↔ g.U a := by
  constructor
  · rintro ((h | ⟨j, _, h⟩) | ⟨j, _, h⟩ | h)
    · exact .inl h
    · exact .inr (.inl ⟨j, h⟩)
    · exact .inr (.inl ⟨j, h⟩)
    · exact .inr (.inr h)
  · rintro (h | ⟨j, h⟩ | h)
    · exact .inl (.inl h)
    · by_cases hj : j ∈ vs
      · exact .inl (.inr ⟨j, hj, h⟩)
      · exact .inr (.inl ⟨j, hj, h⟩)
    · exact .inr (.inr h)
theorem Rel.lend {g : G} {ρ : Env} {S : Store} {σ : L2.St} {H : Hp} (R : Rel T g Γ ρ S σ H) (vs : List Nat) : Rel T (g.lend vs) Γ (wipeE ρ vs) S (wipe σ vs) H := by
  refine R.shift rfl rfl rfl rfl (fun a h => G.lend_U.mp h) (fun i j a h h' => R.dF i j a h.2 h'.2) (fun i a h z => ?_) (fun a h => ?_) (fun i a h => .inl ⟨i, h.2⟩) (by rw [wipeE_length, wipe_length, R.len]) fun st i d e => ?_
  · rcases z with z | ⟨j, hj, z⟩
    · exact R.dFO i a h.2 z
    · have := R.dF i j a h.2 z
      subst this
      exact h.1 hj
  · rcases h with h | ⟨j, _, h⟩
    · exact .inl h
    · exact .inr ⟨j, h⟩
  · obtain ⟨e1, hi⟩ := wipeE_some e
    obtain ⟨v, h1, h2⟩ := R.slot i d e1
    exact ⟨v, by rw [wipe_out hi]; exact h1, h2.stay st (fun a z => ⟨hi, z⟩) (fun a z => .inl z) rfl (bare_sub rfl rfl (fun i a z => ⟨i, z.2⟩) fun _ z => z)⟩
/-- the items that a comprehension makes -/
def lcL (tf : D → Env → Option Env) (c E : FE) : List D → Env → Store → RL
  | [], _, S => .ok [] S
  | d :: r, ρ, S => match tf d ρ with
    | none => .no
    | some ρ1 => match c ρ1 S with
      | .ok (.bl true) S1 => (match E ρ1 S1 with
        | .ok y S2 => (match lcL tf c E r ρ S2 with
          | .ok ys S3 => .ok (y :: ys) S3
          | _ => .no)
        | _ => .no)
      | .ok (.bl false) S1 => lcL tf c E r ρ S1
      | _ => .no
def eLc (it : FL) (vs : List Nat) (tf : D → Env → Option Env) (c E : FE) : FE := fun ρ S => match it ρ S with
  | .ok ds S1 => (match lcL tf c E ds (wipeE ρ vs) S1 with
    | .ok ys S2 => if ds.length ≤ 1000000 then .ok (.lst ys) S2 else .no
    | _ => .no)
  | .exc x S1 => .exc x S1
  | .no => .no

/-- tests of a comprehension's clause -/
abbrev XTs (X : Cx) (T : Th) (W : WX) (Γ : List Md) (es : List Expr) (F : FE) : Prop := PTs X es (tXT T W Γ F)
theorem xts_nil : XTs X T W Γ [] (eC (.bl true)) := ⟨fun pins s σ H Q I ⟨g, ρ, S, R, h⟩ => by
  obtain ⟨b, e, h⟩ := h
  cases e
  exact pts_nil.run pins s σ H Q I (h g H R (.refl _ _))⟩
theorem xts_one {c : Expr} {C : FE} (h : XT X T W Γ c C) : XTs X T W Γ [c] C := pts_one h
theorem Dj.ex {g : G} {S : Store} {H H' : Hp} (j : Dj T g S H) (e : Exx H H') : Dj T g S H' := ⟨j.dF, j.dFO, j.dFB, j.dOB, fun a h => by obtain ⟨o, q⟩ := j.dom a h; exact ⟨o, e a o q⟩, j.st.keep (.ex e) (fun a o _ q => e a o q) rfl rfl rfl fun _ _ => rfl, e.nt j.dom j.nt⟩
theorem nt_upd {H : Hp} {p : Addr} {o : HO} {U : Addr → Prop} (nt : ∀ a, U a → ∀ u, ¬ Rd H a (.tup u)) (ho : ∀ u, o ≠ .tup u ∧ ∀ b, o ≠ .frz b (.tup u)) : ∀ a, U a → ∀ u, ¬ Rd (upd H p o) a (.tup u) := fun a h u r => by
  by_cases ha : a = p
  · subst ha
    rcases r with r | ⟨b, r⟩
    · rw [upd_same] at r; cases r; exact (ho u).1 rfl
    · rw [upd_same] at r; cases r; exact (ho u).2 b rfl
  · refine nt a h u (r.imp (fun z => ?_) fun ⟨b, z⟩ => ⟨b, ?_⟩)
    · rwa [upd_ne ha] at z
    · rwa [upd_ne ha] at z
/-- .. an others' list written -/
theorem Dj.write {g : G} {S : Store} {H : Hp} {p : Addr} {o : HO} (ho : ∀ u, o ≠ .tup u ∧ ∀ b, o ≠ .frz b (.tup u)) (j : Dj T g S H) (hp : g.O p) : Dj T g S (upd H p o) := by
  have st : Stay g H g (upd H p o) := ⟨fun a u h hu => by rw [upd_ne (fun z => hu (.inl (by rw [z]; exact hp)))]; exact h, fun _ h => .inl h, Nat.le_refl _, fun _ _ => rfl⟩
  refine ⟨j.dF, j.dFO, j.dFB, j.dOB, fun a h => ?_, j.st.keep st (fun a u hb h => by rw [upd_ne (fun z => j.dOB p hp (by rw [← z]; exact hb))]; exact h) rfl rfl rfl fun _ _ => rfl, nt_upd j.nt ho⟩
  by_cases ha : a = p
  · subst ha; exact ⟨o, upd_same⟩
  · rw [upd_ne ha]; exact j.dom a h
theorem Rel.carry0 {g g' : G} {ρ : Env} {S S' : Store} {σ : L2.St} {H H' : Hp} (R : Rel T g Γ ρ S σ H) (f : FrE g H g' H') (j : Dj T g' S' H') : Rel T g' Γ ρ S' σ H' := by
  refine ⟨R.len, fun i d e => ?_, j.dF, j.dFO, j.dFB, j.dOB, j.dom, j.st, j.nt⟩
  have st := f.stay
  obtain ⟨v, h1, h2⟩ := R.slot i d e
  refine ⟨v, h1, ?_⟩
  cases hm : Γ.getD i .s <;> rw [hm] at h2 <;> simp only [RepM] at h2 ⊢
  · exact h2.stay st
  · rw [f.F]; exact Own.keepF st _ _ _ _ (fun a o z q => f.keep a o q (R.dFB i a z)) h2
  · rw [f.O]; exact Own.keepF st _ _ _ _ (fun a o z q => f.keep a o q (R.dOB a z)) h2
  · rw [f.F, f.P]; exact ⟨h2.1, Own.keepF st _ _ _ _ (fun a o z q => f.keep a o q (R.dFB i a z)) h2.2⟩
  · exact h2
  · exact h2.stay f.bare
theorem FrE.swap {g g' g2 : G} {H H' : Hp} (f : FrE g H g' H') (hB : g2.B = g.B) (hN : g2.N = g.N) (hμ : g2.μ = g.μ) (hP : g2.P = g.P) : FrE g2 H { g' with O := g2.O, F := g2.F } H' :=
  ⟨fun a o h hb => f.keep a o h (by rw [← hB]; exact hb), fun a h => by rw [hB]; exact f.B a h, rfl, rfl, f.P.trans hP.symm, by rw [hN]; exact f.N, fun n hn => by rw [hμ]; exact f.μ n (by rw [← hN]; exact hn), f.dom⟩
theorem FrE.upd {g g' : G} {H H' : Hp} {p : Addr} {o : HO} (f : FrE g H g' H') (hp : H p = none) : FrE g H g' (upd H' p o) :=
  ⟨fun a u h hb => by rw [upd_ne (ne_of_none h hp)]; exact f.keep a u h hb, f.B, f.F, f.O, f.P, f.N, f.μ, fun a u h => by rw [upd_ne (ne_of_none h hp)]; exact f.dom a u h⟩
theorem wipe_wipe {σ : L2.St} {vs : List Nat} : wipe (wipe σ vs) vs = wipe σ vs := wipe_get (is := vs) (wipe_length σ vs) (fun j hj => wipe_out hj) fun _ h => h
theorem sz_lt6 {n : Nat} (h : n < 1000000) : n < sizeLine := by rw [sizeLine_eq]; omega
/-- the invariant of a comprehension's turns -/
structure LcW (T : Th) (Γ : List Md) (vs : List Nat) (tf : D → Env → Option Env) (c E : FE) (g1 : G) (H1 : Hp) (ρ : Env) (σ : L2.St) (ds ys : List D) (Sf : Store) (p : Addr) (i m : Nat) (H' : Hp) : Prop where
  all : ∃ (g0 : G) (Si : Store) (vacc : List V) (acc rest : List D), FrE (g1.lend vs) H1 g0 H' ∧ Dj T (g0.plus (· = p)) Si H' ∧ H' p = some (.lst vacc) ∧ ShrL T (g0.plus (· = p)) H' acc vacc ∧ m = ds.length - i ∧ i ≤ ds.length ∧ acc.length ≤ i ∧ lcL tf c E (ds.drop i) (wipeE ρ vs) Si = .ok rest Sf ∧ ys = acc ++ rest
theorem xe_lc {elt tg iter : Expr} {ifs : List Expr} {scope : Scope} {own : List (Str × Nat)} {pos : Pos} {Γb : List Md} {is : List Nat} {t : TG} {tf : D → Env → Option Env} {FI : FL} {C E : FE} (hc : X.calm = true) (hN : X.N.Nodup) (hi : XI X T W Γ tg iter FI)
    (ok : BlkOk X.N X.env.scope scope own) (his : ∀ j, j ∈ is → j ∈ own.map (·.2))
    (hg : ∀ (s : Shared) (H : Hp) (C : Addr) (cl : List (Str × Addr)) (fp : List Addr), PG (X.blk s H scope (compEnvC scope cl C X.env) fp) tg t) (ht : TgOk T Γ Γb is t tf)
    (hts : ∀ (s : Shared) (H : Hp) (D : Addr) (cl : List (Str × Addr)) (fp : List Addr), XTs (X.blk s H scope (compEnvC scope cl D X.env) fp) T (fun _ _ _ _ => False) Γb ifs C)
    (he : ∀ (s : Shared) (H : Hp) (D : Addr) (cl : List (Str × Addr)) (fp : List Addr), XE (X.blk s H scope (compEnvC scope cl D X.env) fp) T (fun _ _ _ _ => False) Γb elt E) (hs : ∀ x, foldedSetIterable iter X.env x = pure x := by intro _; rfl) :
    XE X T W Γ (.ListComp elt [⟨tg, iter, ifs, 0⟩] scope pos) (eLc FI (own.map (·.2)) tf C E) := pe_imp (pe_lc hc hN hi ok hg hts he hs) fun σ H Q ⟨g, ρ, S, R, h⟩ => by
  generalize own.map (·.2) = vs at his h
  refine ⟨g, ρ, S, R, ?_⟩
  unfold eLc at h
  cases e : FI ρ S with
  | exc x S1 => rw [e] at h; exact h
  | no => rw [e] at h; exact h
  | ok ds S1 =>
    rw [e] at h
    intro It1 g1 H1 R1 f1 io p hp
    have h : GoodE T W Γ ρ σ g H (match lcL tf C E ds (wipeE ρ vs) S1 with | .ok ys S2 => if ds.length ≤ 1000000 then RE.ok (.lst ys) S2 else .no | _ => .no) Q := h
    split at h
    · rename_i ys Sf el
      split at h
      · rename_i hlen
        have Rl := R1.lend vs
        have hpO : ∀ a, a = p → (g1.lend vs).U a → False := fun a ha u => by
          obtain ⟨o, q⟩ := Rl.dom a u
          rw [ha, hp] at q; cases q
        have Dp : Dj T ((g1.lend vs).plus (· = p)) S1 (upd H1 p (.lst [])) := by
          have st : Stay (g1.lend vs) (upd H1 p (.lst [])) ((g1.lend vs).plus (· = p)) (upd H1 p (.lst [])) → True := fun _ => trivial
          have e1 := Rl.ex (Exx.new (o := HO.lst []) hp)
          refine ⟨e1.dF, fun i a z w => w.elim (e1.dFO i a z) fun w => hpO a w (.inr (.inl ⟨i, z⟩)), e1.dFB, fun a w z => w.elim (fun w => e1.dOB a w z) fun w => hpO a w (.inr (.inr z)), fun a u => ?_, ?_, fun a u w r => ?_⟩
          · rcases u with (u | u) | u | u
            · exact e1.dom a (.inl u)
            · exact ⟨_, by rw [u]; exact upd_same⟩
            · exact e1.dom a (.inr (.inl u))
            · exact e1.dom a (.inr (.inr u))
          · refine Rl.st.keep (g' := (g1.lend vs).plus (· = p)) ⟨fun a o q _ => Exx.new hp a o q, fun a u => ?_, Nat.le_refl _, fun _ _ => rfl⟩ (fun a o _ q => Exx.new hp a o q) rfl rfl rfl fun _ _ => rfl
            rcases u with (u | u) | u | u
            · exact .inl (.inl u)
            · exact .inr (by rw [u]; exact hp)
            · exact .inl (.inr (.inl u))
            · exact .inl (.inr (.inr u))
          · by_cases ha : a = p
            · subst ha
              rcases r with r | ⟨b, r⟩
              · rw [upd_same] at r; cases r
              · rw [upd_same] at r; cases r
            · refine e1.nt a ?_ w r
              rcases u with (u | u) | u | u
              · exact .inl u
              · exact absurd u ha
              · exact .inr (.inl u)
              · exact .inr (.inr u)
        refine ⟨LcW T Γ vs tf C E g1 H1 ρ σ ds ys Sf p, ⟨ds.length, ⟨g1.lend vs, S1, [], [], ys, .ex (Exx.new hp), Dp, upd_same, .nil, by simp, Nat.zero_le _, Nat.zero_le _, by rw [List.drop_zero]; exact el, rfl⟩⟩, ?_⟩
        rintro i m H' ⟨g0, Si, vacc, acc, rest, fr, dj, hacc, sacc, em, hi', ha, hl, hy⟩
        have fO : ∀ a, a = p → H1 a = none := fun a z => by rw [z]; exact hp
        have Rw : Rel T (g0.plus (· = p)) Γ (wipeE ρ vs) Si (wipe σ vs) H' := Rl.carry fr fO dj
        have st0 : Stay g1 H1 g0 H' := ⟨fun a o q hu => fr.stay.keep a o q fun z => hu (G.lend_U.mp z), fun a u => (fr.stay.own a u).imp G.lend_U.mp id, fr.N, fr.μ⟩
        obtain ⟨i1, i2⟩ := io g0 H' i st0
        by_cases hlt : i < ds.length
        · refine .inr ?_
          obtain ⟨d, hd⟩ : ∃ d, ds[i]? = some d := ⟨ds[i], List.getElem?_eq_getElem hlt⟩
          have stp : Stay g1 H1 (g0.plus (· = p)) H' := ⟨st0.keep, fun a u => by
            rcases u with (u | u) | u | u
            · exact st0.own a (.inl u)
            · exact .inr (fO a u)
            · exact st0.own a (.inr (.inl u))
            · exact st0.own a (.inr (.inr u)), st0.N, st0.μ⟩
          obtain ⟨_, i2⟩ := io (g0.plus (· = p)) H' i stp
          obtain ⟨go, yl⟩ := i2 d hd
          refine ⟨go, fun H2 => ∃ m', m' < m ∧ LcW T Γ vs tf C E g1 H1 ρ σ ds ys Sf p (i + 1) m' H2, fun H2 ⟨m', l, w⟩ => ⟨m', l, w⟩, fun x H2 y => ?_⟩
          obtain ⟨ex, sx⟩ := yl x H2 y
          have R2 := Rw.ex ex
          have ed : ds.drop i = d :: ds.drop (i + 1) := by
            rw [List.drop_eq_getElem_cons hlt]
            rw [List.getElem?_eq_getElem hlt] at hd
            rw [Option.some.inj hd]
          rw [ed, lcL] at hl
          split at hl
          · cases hl
          · rename_i ρ1 e1
            refine ht _ _ ρ1 Si _ H2 d x _ R2 sx e1 fun σ3 R3 l3 k3 => ⟨(wipe_get (is := is) l3 k3 his).trans wipe_wipe, _, ρ1, Si, R3, ?_⟩
            have fO2 : ∀ (g4 : G) (H4 : Hp), FrE ((g0.plus (· = p)).drops is) H2 g4 H4 → FrE (g1.lend vs) H1 { g4 with O := g0.O, F := g0.F } H4 ∧ ({ g4 with O := g0.O, F := g0.F } : G).plus (· = p) = g4 := fun g4 H4 f4 => by
              refine ⟨(fr.trans (.ex ex)).trans (f4.swap (g2 := g0) rfl rfl rfl rfl), ?_⟩
              have eO := f4.O
              have eF := f4.F
              obtain ⟨N4, μ4, O4, F4, B4, BF4, P4⟩ := g4
              simp only at eO eF
              subst eO eF
              show G.mk N4 μ4 (fun a => g0.O a ∨ a = p) g0.F B4 BF4 P4 = G.mk N4 μ4 (fun a => g0.O a ∨ a = p) (fun j a => j ∉ is ∧ g0.F j a) B4 BF4 P4
              congr 1
              funext j a
              rw [fr.F]
              exact propext ⟨fun z => ⟨fun w => z.1 (his j w), z⟩, fun z => z.2⟩
            have kp : ∀ (g4 : G) (H4 : Hp), FrE ((g0.plus (· = p)).drops is) H2 g4 H4 → g4.O p ∧ H4 p = some (.lst vacc) := fun g4 H4 f4 =>
              ⟨by rw [f4.O]; exact .inr rfl, f4.keep p _ (ex p _ hacc) (dj.dOB p (.inr rfl))⟩
            have sk : ∀ (g4 : G) (H4 : Hp), FrE ((g0.plus (· = p)).drops is) H2 g4 H4 → ShrL T g4 H4 acc vacc := fun g4 H4 f4 =>
              ShrL.stay (((Stay.ex ex).trans FrS.drops.stay).trans f4.stay) _ _ sacc
            split at hl
            · rename_i S2 ec
              rw [ec]
              refine ⟨true, rfl, fun g2 H3 R4 f3 => ?_⟩
              refine iteT ⟨g2, ρ1, S2, R4, ?_⟩
              split at hl
              · rename_i y2 S3 ey
                rw [ey]
                intro v g4 H4 R5 f4 s4
                have f34 := f3.trans f4
                obtain ⟨pO, pH⟩ := kp g4 H4 f34
                obtain ⟨fa, fe⟩ := fO2 g4 H4 f34
                have sa := sk g4 H4 f34
                split at hl
                · rename_i ys' S4 ely
                  cases hl
                  refine ⟨vacc, pH, by rw [← sa.length]; exact sz_lt6 (by omega), ds.length - (i + 1), by omega, ⟨{ g4 with O := g0.O, F := g0.F }, S3, vacc ++ [v], acc ++ [y2], ys', fa.upd hp, ?_, upd_same, ?_, rfl, hlt, by rw [List.length_append]; simp; omega, ely, by rw [hy, List.append_assoc]; rfl⟩⟩
                  · rw [fe]; exact R5.dj.write (fun _ => ⟨nofun, fun _ => nofun⟩) pO
                  · rw [fe]
                    have stw : Stay g4 H4 g4 (upd H4 p (.lst (vacc ++ [v]))) := ⟨fun a u h hu => by rw [upd_ne (fun z => hu (.inl (by rw [z]; exact pO)))]; exact h, fun _ h => .inl h, Nat.le_refl _, fun _ _ => rfl⟩
                    exact ShrL.append (sa.stay stw) ((ShrL.cons s4 .nil).stay stw)
                · cases hl
              · cases hl
            · rename_i S2 ec
              rw [ec]
              refine ⟨false, rfl, fun g2 H3 R4 f3 => iteF ?_⟩
              obtain ⟨pO, pH⟩ := kp g2 H3 f3
              obtain ⟨fa, fe⟩ := fO2 g2 H3 f3
              exact ⟨ds.length - (i + 1), by omega, ⟨{ g2 with O := g0.O, F := g0.F }, S2, vacc, acc, rest, fa, by rw [fe]; exact R4.dj, pH, by rw [fe]; exact sk g2 H3 f3, rfl, hlt, by omega, hl, hy⟩⟩
            · cases hl
        · have e1 : i = ds.length := by omega
          subst e1
          refine .inl ⟨i1 (Nat.le_refl _), ?_⟩
          rw [List.drop_length, lcL] at hl
          cases hl
          rw [List.append_nil] at hy
          subst hy
          have ff : FrE g1 H1 { g0 with O := g1.O, F := g1.F } H' := fr.swap (g2 := g1) rfl rfl rfl rfl
          have uu : ∀ a, ({ g0 with O := g1.O, F := g1.F } : G).U a → (g0.plus (· = p)).U a := fun a u => by
            rcases u with u | ⟨j, u⟩ | u
            · exact .inl (.inl (by rw [fr.O]; exact .inl u))
            · by_cases hj : j ∈ vs
              · exact .inl (.inl (by rw [fr.O]; exact .inr ⟨j, hj, u⟩))
              · exact .inr (.inl ⟨j, by rw [show (g0.plus (· = p)).F = g0.F from rfl, fr.F]; exact ⟨hj, u⟩⟩)
            · exact .inr (.inr u)
          have dOB' : ∀ a, (g1.O a ∨ ∃ j, g1.F j a) → ¬ g0.B a := fun a u z => by
            have := uu a (u.elim .inl fun w => .inr (.inl w))
            rcases fr.B a z with w | w
            · exact u.elim (fun q => R1.dOB a q w) fun ⟨j, q⟩ => R1.dFB j a q w
            · obtain ⟨o, q⟩ := R1.dom a (u.elim .inl fun q => .inr (.inl q))
              rw [w] at q; cases q
          have stf : Stay (g0.plus (· = p)) H' { g0 with O := g1.O, F := g1.F } H' := ⟨fun _ _ h _ => h, fun a u => .inl (uu a u), Nat.le_refl _, fun _ _ => rfl⟩
          have djf : Dj T { g0 with O := g1.O, F := g1.F } Sf H' := ⟨R1.dF, R1.dFO, fun j a u z => dOB' a (.inr ⟨j, u⟩) z, fun a u z => dOB' a (.inl u) z, fun a u => dj.dom a (uu a u), dj.st.keep stf (fun _ _ _ q => q) rfl rfl rfl fun _ _ => rfl, fun a u => dj.nt a (uu a u)⟩
          refine h (.ref p) _ H' (R1.carry0 ff djf) (f1.trans ff) (shr_lst.mpr ⟨p, vacc, rfl, ⟨hacc, fun u => ?_⟩, ShrL.stay stf _ _ sacc⟩)
          rcases u with u | u | u
          · obtain ⟨o, q⟩ := R1.dom p (.inl u)
            rw [hp] at q; cases q
          · obtain ⟨o, q⟩ := R1.dom p (.inr (.inl u))
            rw [hp] at q; cases q
          · exact dj.dOB p (.inr rfl) u
      · exact h.elim
    · exact h.elim
end
end Q

/-! Short words for printed derivations. -/
namespace Q
open PySem PySem.Spec PyProof.Rows L2
abbrev ΓS (n : Nat) : List Md := List.replicate n .s
theorem rep_s {n i : Nat} : (ΓS n).getD i .s = .s := by
  simp only [List.getD, List.getElem?_replicate]
  split <;> rfl
theorem set_rep {n i : Nat} : (ΓS n).set i .s = ΓS n := by
  apply List.ext_getElem?
  intro j
  by_cases h : i = j
  · subst h
    by_cases hl : i < n
    · rw [List.getElem?_set_self (by simpa using hl), List.getElem?_replicate, if_pos hl]
    · rw [List.getElem?_eq_none (by simpa using hl), List.getElem?_eq_none (by simpa using hl)]
  · rw [List.getElem?_set_ne h]
theorem set_repE {n i j : Nat} {m : Md} (h : i ≠ j) : ((ΓS n).set i m).set j .s = (ΓS n).set i m := by
  rw [List.set_comm _ _ h, set_rep]
abbrev sgS (n : Nat) : Sig := ⟨ΓS n, 0⟩
theorem gp_s {n : Nat} {Γ : List Md} : ΓP (ΓS n) Γ := fun i k h => by rw [rep_s] at h; cases h
section
variable {P : Program} {w : World} {K : PySem.W.Frag} {mg : Str → Option Value} {base : Heap} {T : Th}
abbrev jdS (n : Nat) (E : XK) : Jd := jdF (ΓS n) 0 E
theorem fn_okS {x qual : Str} {st : Stmt} {f : Addr} {fd : FuncData} {N ps : List Str} {k n : Nat} {B : FS} {Γ' : List Md} (F : Fun K x qual st f fd) (Sc : FnScope N ps (defScope st)) (hn : ps.length = n) (hN : n ≤ N.length)
    (hbody : ∀ (cdv : Value) (A : Around) (outer : List PySem.Env) (s : Shared) (H : Hp) (E : XK), Room k (A.deeper (envOfC qual (defScope st) s.heap.objs.size f cdv)) →
      XB (cxOf (L2.CX P w) P w K mg base N qual (defScope st) f cdv A outer s H E) T (jdS n E) (ΓS N.length) Γ' (defBody st) B) :
    FnOk P w K mg base (L2.CX P w) (k + 1) f fd ps (spD T n (sgS n) (fBody N.length n (ΓS n) B)) := by
  refine fn_ok (sg := sgS n) F Sc hn hN (Γ' := Γ') (fun cdv A outer s H E hr => ?_) gp_s
  have e : (sgS n).ms ++ List.replicate (N.length - (sgS n).ms.length) .s = ΓS N.length := by
    show List.replicate n Md.s ++ List.replicate (N.length - (List.replicate n Md.s).length) .s = List.replicate N.length .s
    rw [List.length_replicate, List.replicate_append_replicate]
    congr 1
    omega
  rw [e]
  exact hbody cdv A outer s H E hr
end
section
variable {X : Cx} {T : Th} {W : WX} {n : Nat}
theorem xv {i : Nat} {e : Expr} (he : PE X e (tVar i)) : XE X T W (ΓS n) e (eVar i) := xe_var he rep_s
theorem xe_callS {k m : Nat} {f : Addr} {fd : FuncData} {ps : List Str} {Φ : FF} {e : Expr} {es : List Expr} {A : FL} {Γ : List Md} (F : FnOk X.prog X.w X.K X.mg X.base (L2.CX X.prog X.w) k f fd ps (spD T m (sgS m) Φ)) (hn : es.length = m) (hA : ∀ ρ S ds S1, A ρ S = .ok ds S1 → ds.length = m)
    (ha : XL X T W Γ es A) (he : PA X es (tXL T W Γ A) → PE X e (tCallS (spD T m (sgS m) Φ) (WE W) (tXL T W Γ A))) : XE X T W Γ e (eCall Φ A) := xe_call F (fun _ => rep_s) hn hA ha he
end
/-- what an argument list is as long as -/
theorem la0 : ∀ ρ S ds S1, lNil ρ S = .ok ds S1 → ds.length = 0 := fun _ _ _ _ h => lNil_len h
theorem la1 {A : FE} {B : FL} {n : Nat} (h : ∀ ρ S ds S1, B ρ S = .ok ds S1 → ds.length = n) : ∀ ρ S ds S1, lCons A B ρ S = .ok ds S1 → ds.length = n + 1 := lCons_len h
end Q

/-! Reckoning with the readings; a law's own end. -/
namespace Q
open PySem PySem.Spec PyProof.Rows L2
/-! ### one step of a reading -/
def RS.seq (r : RS) (h : FS) : RS := match r with
  | .nx ρ1 S1 => h ρ1 S1
  | r => r
def condS (d : D) (x y : RS) : RS := match d with
  | .bl true => x
  | .bl false => y
  | _ => .no
def condE (d : D) (x y : RE) : RE := match d with
  | .bl true => x
  | .bl false => y
  | _ => .no
def notD (d : D) (S : Store) : RE := match d with
  | .bl b => .ok (.bl (!b)) S
  | _ => .no
def RL.bindE (r : RL) (k : List D → Store → RE) : RE := match r with
  | .ok ds S => k ds S
  | .exc x S => .exc x S
  | .no => .no
def RE.bindL (r : RE) (k : D → Store → RL) : RL := match r with
  | .ok d S => k d S
  | .exc x S => .exc x S
  | .no => .no
def RL.bindL (r : RL) (k : List D → Store → RL) : RL := match r with
  | .ok d S => k d S
  | .exc x S => .exc x S
  | .no => .no
def RL.bindS (ρ : Env) (r : RL) (k : List D → Store → RS) : RS := match r with
  | .ok d S => k d S
  | .exc x S => .exc x ρ S
  | .no => .no
def RF.toE (r : RF) : RE := match r with
  | .ok d _ S => .ok d S
  | .exc x _ S => .exc x S
  | .no => .no
def RS.toF (r : RS) (ms : List Md) (n : Nat) : RF := match r with
  | .nx ρ S' => .ok .non (outsOf ms n ρ) S'
  | .rt d ρ S' => .ok d (outsOf ms n ρ) S'
  | .exc x ρ S' => .exc x (outsOf ms n ρ) S'
  | _ => .no
def slotE (o : Option (Option D)) (S : Store) : RE := match o with
  | some (some d) => .ok d S
  | _ => .no
section
variable {d : D} {S : Store} {ρ : Env} {x : Exc}
theorem bind_ok {k : D → Store → RE} : (RE.ok d S).bind k = k d S := rfl
theorem bind_exc {k : D → Store → RE} : (RE.exc x S).bind k = .exc x S := rfl
theorem bindS_ok {k : D → Store → RS} : (RE.ok d S).bindS ρ k = k d S := rfl
theorem bindS_exc {k : D → Store → RS} : (RE.exc x S).bindS ρ k = .exc x ρ S := rfl
theorem of_some : RE.of S (some d) = .ok d S := rfl
theorem seq_nx {h : FS} : (RS.nx ρ S).seq h = h ρ S := rfl
theorem seq_rt {h : FS} : (RS.rt d ρ S).seq h = .rt d ρ S := rfl
theorem seq_exc {h : FS} : (RS.exc x ρ S).seq h = .exc x ρ S := rfl
theorem seq_bk {h : FS} : (RS.bk ρ S).seq h = .bk ρ S := rfl
theorem seq_ct {h : FS} : (RS.ct ρ S).seq h = .ct ρ S := rfl
theorem condS_bl {b : Bool} {y z : RS} : condS (.bl b) y z = if b = true then y else z := by cases b <;> rfl
theorem condE_bl {b : Bool} {y z : RE} : condE (.bl b) y z = if b = true then y else z := by cases b <;> rfl
theorem condS_t {y z : RS} : condS (.bl true) y z = y := rfl
theorem condS_f {y z : RS} : condS (.bl false) y z = z := rfl
theorem condE_t {y z : RE} : condE (.bl true) y z = y := rfl
theorem condE_f {y z : RE} : condE (.bl false) y z = z := rfl
theorem notD_bl {b : Bool} : notD (.bl b) S = .ok (.bl (!b)) S := rfl
theorem bindE_ok {ds : List D} {k : List D → Store → RE} : (RL.ok ds S).bindE k = k ds S := rfl
theorem bindL_ok {k : D → Store → RL} : (RE.ok d S).bindL k = k d S := rfl
theorem bindL_exc {k : D → Store → RL} : (RE.exc x S).bindL k = .exc x S := rfl
theorem bindLL_ok {ds : List D} {k : List D → Store → RL} : (RL.ok ds S).bindL k = k ds S := rfl
theorem bindLL_exc {k : List D → Store → RL} : (RL.exc x S).bindL k = .exc x S := rfl
theorem bindE_exc {k : List D → Store → RE} : (RL.exc x S).bindE k = .exc x S := rfl
theorem bindLS_ok {ds : List D} {k : List D → Store → RS} : (RL.ok ds S).bindS ρ k = k ds S := rfl
theorem bindLS_exc {k : List D → Store → RS} : (RL.exc x S).bindS ρ k = .exc x ρ S := rfl
theorem toE_ok {o : Env} : (RF.ok d o S).toE = .ok d S := rfl
theorem toE_exc {o : Env} : (RF.exc x o S).toE = .exc x S := rfl
theorem toF_nx {ms : List Md} {n : Nat} : (RS.nx ρ S).toF ms n = .ok .non (outsOf ms n ρ) S := rfl
theorem toF_rt {ms : List Md} {n : Nat} : (RS.rt d ρ S).toF ms n = .ok d (outsOf ms n ρ) S := rfl
theorem toF_exc {ms : List Md} {n : Nat} : (RS.exc x ρ S).toF ms n = .exc x (outsOf ms n ρ) S := rfl
theorem slotE_some : slotE (some (some d)) S = .ok d S := rfl
end
section
variable {ρ : Env} {S : Store}
theorem ev_var {i : Nat} : eVar i ρ S = slotE ρ[i]? S := rfl
theorem ev_c {d : D} : eC d ρ S = .ok d S := rfl
theorem ev_op {h : D → D → Option D} {a b : FE} : eOp h a b ρ S = (a ρ S).bind fun x S1 => (b ρ S1).bind fun y S2 => .of S2 (h x y) := rfl
theorem ev_un {h : D → Option D} {a : FE} : eUn h a ρ S = (a ρ S).bind fun x S1 => .of S1 (h x) := rfl
theorem ev_nil : lNil ρ S = .ok [] S := rfl
theorem ev_cons {a : FE} {r : FL} : lCons a r ρ S = (a ρ S).bindL fun x S1 => (r ρ S1).bindL fun xs S2 => .ok (x :: xs) S2 := rfl
theorem ev_L {h : List D → Option D} {a : FL} : eL h a ρ S = (a ρ S).bindE fun xs S1 => .of S1 (h xs) := rfl
theorem ev_tup {a : FL} : eTup a ρ S = (a ρ S).bindE fun xs S1 => .of S1 (if xs.length ≤ 1000000 then some (.tup xs) else none) := rfl
theorem ev_lst {a : FL} : eLst a ρ S = (a ρ S).bindE fun xs S1 => .of S1 (if xs.length ≤ 1000000 then some (.lst xs) else none) := rfl
theorem ev_call {Φ : FF} {a : FL} : eCall Φ a ρ S = (a ρ S).bindE fun xs S1 => (Φ xs S1).toE := rfl
theorem ev_and {a b : FE} : eAnd a b ρ S = (a ρ S).bind fun x S1 => condE x (b ρ S1) (.ok (.bl false) S1) := rfl
theorem ev_or {a b : FE} : eOr a b ρ S = (a ρ S).bind fun x S1 => condE x (.ok (.bl true) S1) (b ρ S1) := rfl
theorem ev_not {a : FE} : eNot a ρ S = (a ρ S).bind fun x S1 => notD x S1 := rfl
theorem ev_if {c a b : FE} : eIf c a b ρ S = (c ρ S).bind fun x S1 => condE x (a ρ S1) (b ρ S1) := rfl
theorem ev_seq {f h : FS} : fSeq f h ρ S = (f ρ S).seq h := rfl
theorem ev_set {i : Nat} {a : FE} : fSet i a ρ S = (a ρ S).bindS ρ fun d S1 => .nx (ρ.set i (some d)) S1 := rfl
theorem ev_ret {a : FE} : fRet a ρ S = (a ρ S).bindS ρ fun d S1 => .rt d ρ S1 := rfl
theorem ev_drop {a : FE} : fDrop a ρ S = (a ρ S).bindS ρ fun _ S1 => .nx ρ S1 := rfl
theorem ev_pass : fPass ρ S = .nx ρ S := rfl
theorem ev_brk : fBrk ρ S = .bk ρ S := rfl
theorem ev_ct : fCt ρ S = .ct ρ S := rfl
theorem ev_raise {k : Nat} : fRaise k ρ S = .exc ⟨k, []⟩ ρ S := rfl
theorem ev_ifS {c : FE} {f h : FS} : fIf c f h ρ S = (c ρ S).bindS ρ fun d S1 => condS d (f ρ S1) (h ρ S1) := rfl
theorem ev_for {it : FL} {tf : D → Env → Option Env} {b : FS} : fFor it tf b ρ S = (it ρ S).bindS ρ fun ds S1 => forL tf b ds ρ S1 := rfl
theorem ev_body {N n : Nat} {ms : List Md} {b : FS} {ds : List D} : fBody N n ms b ds S = (b (ds.map some ++ List.replicate (N - n) none) S).toF ms n := rfl
theorem ev_held {i : Nat} {b : Bool} : eHeld i b ρ S = (match ρ[i]? with | some (some _) => .ok (.bl b) S | _ => .no) := rfl
theorem ev_tru {a : FE} : eTru a ρ S = (a ρ S).bind fun x S1 => .of S1 (hTru x) := rfl
end
section
variable {a b : Int}
theorem hNe_int : hNe (.int a) (.int b) = some (.bl (!(a == b))) := rfl
theorem hEq_int : hEq (.int a) (.int b) = some (.bl (a == b)) := rfl
theorem hEq_bl {a b : Bool} : hEq (.bl a) (.bl b) = some (.bl (a == b)) := rfl
theorem hNe_bl {a b : Bool} : hNe (.bl a) (.bl b) = some (.bl (!(a == b))) := rfl
theorem hSub_int : hSub (.int a) (.int b) = some (.int (a - b)) := rfl
theorem hLt_int : hLt (.int a) (.int b) = some (.bl (decide (a < b))) := rfl
theorem hLe_int : hLe (.int a) (.int b) = some (.bl (decide (a ≤ b))) := rfl
theorem hGt_int : hGt (.int a) (.int b) = some (.bl (decide (b < a))) := rfl
theorem hGe_int : hGe (.int a) (.int b) = some (.bl (decide (b ≤ a))) := rfl
theorem hNeg_int : hNeg (.int a) = some (.int (-a)) := rfl
theorem hMod_pos (h : 0 < b) : hMod (.int a) (.int b) = some (.int (a % b)) := if_pos h
theorem hMul_bd {m n : Nat} (ha : a.natAbs < 2 ^ m) (hb : b.natAbs < 2 ^ n) (h : m + n ≤ 130000000) : hMul (.int a) (.int b) = some (.int (a * b)) := by
  have x := PySem.Flt.log2_lt_of (Nat.succ_pos m) (Nat.lt_of_lt_of_le ha (Nat.pow_le_pow_right (by decide) (Nat.le_succ m)))
  have y := PySem.Flt.log2_lt_of (Nat.succ_pos n) (Nat.lt_of_lt_of_le hb (Nat.pow_le_pow_right (by decide) (Nat.le_succ n)))
  show (if a.natAbs.log2 + b.natAbs.log2 < 134000000 then some (D.int (a * b)) else none) = _
  rw [if_pos (by omega)]
theorem hDiv_bd (h : b ≠ 0) (hb : b.natAbs < 2 ^ 8999) : hDiv (.int a) (.int b) = some (.int (a.fdiv b)) := by
  have y := PySem.Flt.log2_lt_of (show 0 < 8999 by decide) hb
  show (if b = 0 ∨ 9000 ≤ b.natAbs.log2 then none else some (D.int (a.fdiv b))) = _
  rw [if_neg (by omega)]
theorem hDiv_pos (h : 0 < b) (hb : b.natAbs < 2 ^ 8999) : hDiv (.int a) (.int b) = some (.int (a / b)) := by
  rw [hDiv_bd (by omega) hb, Int.fdiv_eq_ediv_of_nonneg a (by omega)]
theorem hAbs_int : hAbs [.int a] = some (.int a.natAbs) := by
  show some (D.int (if a < 0 then -a else a)) = _
  congr 2
  split <;> omega
theorem hIsi_int_int : hIsi "int" (.int a) = some (.bl true) := by
  show (kitB "int" "int").map D.bl = _
  rw [show kitB "int" "int" = some true by decide +kernel]; rfl
theorem hIsi_bool_int : hIsi "bool" (.int a) = some (.bl false) := by
  show (kitB "int" "bool").map D.bl = _
  rw [show kitB "int" "bool" = some false by decide +kernel]; rfl
theorem hIsi_bool_bl {x : Bool} : hIsi "bool" (.bl x) = some (.bl true) := by
  show (kitB "bool" "bool").map D.bl = _
  rw [show kitB "bool" "bool" = some true by decide +kernel]; rfl
theorem hIsi_int_bl {x : Bool} : hIsi "int" (.bl x) = some (.bl true) := by
  show (kitB "bool" "int").map D.bl = _
  rw [show kitB "bool" "int" = some true by decide +kernel]; rfl
theorem hIsi_tuple_tup {l : List D} : hIsi "tuple" (.tup l) = some (.bl true) := by
  show (kitB "tuple" "tuple").map D.bl = _
  rw [show kitB "tuple" "tuple" = some true by decide +kernel]; rfl
theorem hIsi_list_lst {l : List D} : hIsi "list" (.lst l) = some (.bl true) := by
  show (kitB "list" "list").map D.bl = _
  rw [show kitB "list" "list" = some true by decide +kernel]; rfl
end
section
variable {a b c d e : D} {l : List D}
theorem hIxT0 : hIx (.tup (a :: l)) (.int 0) = some a := by
  show atI (a :: l) ((0 : Nat) : Int) = _
  exact atI_nat rfl
theorem hIxT1 : hIx (.tup (a :: b :: l)) (.int 1) = some b := by
  show atI (a :: b :: l) ((1 : Nat) : Int) = _
  exact atI_nat rfl
theorem hIxT2 : hIx (.tup (a :: b :: c :: l)) (.int 2) = some c := by
  show atI (a :: b :: c :: l) ((2 : Nat) : Int) = _
  exact atI_nat rfl
theorem hIxT3 : hIx (.tup (a :: b :: c :: d :: l)) (.int 3) = some d := by
  show atI (a :: b :: c :: d :: l) ((3 : Nat) : Int) = _
  exact atI_nat rfl
theorem hIxT4 : hIx (.tup (a :: b :: c :: d :: e :: l)) (.int 4) = some e := by
  show atI (a :: b :: c :: d :: e :: l) ((4 : Nat) : Int) = _
  exact atI_nat rfl
theorem hIxL0 : hIx (.lst (a :: l)) (.int 0) = some a := by
  show atI (a :: l) ((0 : Nat) : Int) = _
  exact atI_nat rfl
theorem hIxL1 : hIx (.lst (a :: b :: l)) (.int 1) = some b := by
  show atI (a :: b :: l) ((1 : Nat) : Int) = _
  exact atI_nat rfl
theorem hIxL2 : hIx (.lst (a :: b :: c :: l)) (.int 2) = some c := by
  show atI (a :: b :: c :: l) ((2 : Nat) : Int) = _
  exact atI_nat rfl
theorem hIxL3 : hIx (.lst (a :: b :: c :: d :: l)) (.int 3) = some d := by
  show atI (a :: b :: c :: d :: l) ((3 : Nat) : Int) = _
  exact atI_nat rfl
theorem hIx_lst {k : Nat} {x : D} (h : l[k]? = some x) : hIx (.lst l) (.int k) = some x := atI_nat h
theorem hIx_scr {k : Nat} {x : D} (h : l[k]? = some x) : hIx (.scr l) (.int k) = some x := atI_nat h
theorem hIx_tup {k : Nat} {x : D} (h : l[k]? = some x) : hIx (.tup l) (.int k) = some x := atI_nat h
theorem hLen_lst : hLen [.lst l] = some (.int l.length) := rfl
theorem hLen_scr : hLen [.scr l] = some (.int l.length) := rfl
theorem hLen_tup : hLen [.tup l] = some (.int l.length) := rfl
end
/-! ### for, by an invariant -/
theorem forL_inv {tf : D → Env → Option Env} {b : FS} {I : Nat → Env → Store → Prop} {ds : List D} (turn : ∀ i d ρ S, ds[i]? = some d → I i ρ S → ∃ ρ1, tf d ρ = some ρ1 ∧ ((∃ ρ2 S2, b ρ1 S = .nx ρ2 S2 ∧ I (i + 1) ρ2 S2) ∨ ∃ ρ2 S2, b ρ1 S = .ct ρ2 S2 ∧ I (i + 1) ρ2 S2)) :
    ∀ (i : Nat) (ρ : Env) (S : Store), i ≤ ds.length → I i ρ S → ∃ ρ' S', forL tf b (ds.drop i) ρ S = .nx ρ' S' ∧ I ds.length ρ' S' := by
  intro i
  induction hk : ds.length - i generalizing i with
  | zero =>
    intro ρ S hi h
    have e : i = ds.length := by omega
    subst e
    refine ⟨ρ, S, ?_, h⟩
    rw [List.drop_length]
    rfl
  | succ n ih =>
    intro ρ S hi h
    have hlt : i < ds.length := by omega
    obtain ⟨ρ1, e1, e2⟩ := turn i ds[i] ρ S (List.getElem?_eq_getElem hlt) h
    rw [List.drop_eq_getElem_cons hlt, forL, e1]
    rcases e2 with ⟨ρ2, S2, e2, h2⟩ | ⟨ρ2, S2, e2, h2⟩
    · simp only [e2]
      exact ih (i + 1) (by omega) ρ2 S2 hlt h2
    · simp only [e2]
      exact ih (i + 1) (by omega) ρ2 S2 hlt h2
theorem forL_all {tf : D → Env → Option Env} {b : FS} (I : Nat → Env → Store → Prop) {ds : List D} {ρ : Env} {S : Store} (h0 : I 0 ρ S) (turn : ∀ i d ρ S, ds[i]? = some d → I i ρ S → ∃ ρ1, tf d ρ = some ρ1 ∧ ((∃ ρ2 S2, b ρ1 S = .nx ρ2 S2 ∧ I (i + 1) ρ2 S2) ∨ ∃ ρ2 S2, b ρ1 S = .ct ρ2 S2 ∧ I (i + 1) ρ2 S2)) :
    ∃ ρ' S', forL tf b ds ρ S = .nx ρ' S' ∧ I ds.length ρ' S' := by
  have := forL_inv turn 0 ρ S (Nat.zero_le _) h0
  rw [List.drop_zero] at this
  exact this
theorem rangeL_get {lo hi : Int} {i : Nat} {d : D} (h : (rangeL lo hi)[i]? = some d) : d = .int (lo + i) ∧ lo + i < hi := by
  unfold rangeL at h
  rw [List.getElem?_map] at h
  obtain ⟨k, e1, e2⟩ := Option.map_eq_some_iff.mp h
  obtain ⟨hk, e3⟩ := List.getElem?_eq_some_iff.mp e1
  rw [List.getElem_range] at e3
  rw [List.length_range] at hk
  subst e3
  exact ⟨e2.symm, by omega⟩
theorem rangeL_length {lo hi : Int} : (rangeL lo hi).length = (hi - lo).toNat := by simp [rangeL]
theorem cutD_take {l : List D} (k : Nat) : cutD l none (some (k : Int)) = l.take k := by
  unfold cutD
  rw [HT.sIx_nat, HT.sIx_none, List.drop_zero, Nat.sub_zero]
  by_cases h : k ≤ l.length
  · rw [Nat.min_eq_left h]
  · rw [Nat.min_eq_right (by omega), List.take_length, List.take_of_length_le (by omega)]
theorem cutD_drop {l : List D} (k : Nat) : cutD l (some (k : Int)) none = l.drop k := by
  unfold cutD
  rw [HT.sIx_nat, HT.sIx_none]
  by_cases h : k ≤ l.length
  · rw [Nat.min_eq_left h, List.take_of_length_le (by simp)]
  · rw [Nat.min_eq_right (by omega), Nat.sub_self, List.take_zero, List.drop_of_length_le (by omega)]
theorem ev_sl {a : FE} {lo hi : Option FE} {ρ : Env} {S : Store} : eSl a lo hi ρ S = (a ρ S).bind fun d S1 => eBnd lo ρ S1 fun l S2 => eBnd hi ρ S2 fun h S3 => .of S3 (hSl d l h) := rfl
theorem bnd_none {ρ : Env} {S : Store} {k : Option Int → Store → RE} : eBnd none ρ S k = k none S := rfl
def bndK (d : D) (S : Store) (k : Option Int → Store → RE) : RE := match d with
  | .int i => k (some i) S
  | _ => .no
theorem bnd_some {a : FE} {ρ : Env} {S : Store} {k : Option Int → Store → RE} : eBnd (some a) ρ S k = (a ρ S).bind fun d S1 => bndK d S1 k := rfl
theorem bndK_int {i : Int} {S : Store} {k : Option Int → Store → RE} : bndK (.int i) S k = k (some i) S := rfl
theorem hSl_scr {l : List D} {lo hi : Option Int} : hSl (.scr l) lo hi = some (.lst (cutD l lo hi)) := rfl
theorem hSl_lst {l : List D} {lo hi : Option Int} : hSl (.lst l) lo hi = some (.lst (cutD l lo hi)) := rfl
theorem hAdd_lst {a b : List D} (h : a.length + b.length ≤ 1000000) : hAdd (.lst a) (.lst b) = some (.lst (a ++ b)) := if_pos h
theorem ev_range1 {a : FL} {ρ : Env} {S : Store} : iRange1 a ρ S = (a ρ S).bindL rgK1 := rfl
theorem ev_range2 {a : FL} {ρ : Env} {S : Store} : iRange2 a ρ S = (a ρ S).bindL rgK2 := rfl
theorem rgK2_int {m n : Int} {S : Store} (h : (-1000000000000 ≤ m ∧ m ≤ 1000000000000) ∧ -1000000000000 ≤ n ∧ n ≤ 1000000000000) : rgK2 [.int m, .int n] S = .ok (rangeL m n) S := if_pos h
theorem rgK1_int {n : Int} {S : Store} (h : -1000000000000 ≤ n ∧ n ≤ 1000000000000) : rgK1 [.int n] S = .ok (rangeL 0 n) S := if_pos h
def seqK (d : D) (S : Store) : RL := match hSeq d with
  | some l => .ok l S
  | none => .no
theorem ev_iseq {a : FE} {ρ : Env} {S : Store} : iSeq a ρ S = (a ρ S).bindL seqK := rfl
theorem seqK_lst {l : List D} {S : Store} : seqK (.lst l) S = .ok l S := rfl
theorem seqK_tup {l : List D} {S : Store} : seqK (.tup l) S = .ok l S := rfl
theorem seqK_scr {l : List D} {S : Store} : seqK (.scr l) S = .ok l S := rfl
/-- the law's promise, as the end asks it -/
def spLaw (K : PySem.W.Frag) : Sp := fun vs H Q _ => ∃ (a : Addr) (ns : List Int), vs = [.ref a] ∧ SqL K H a (ns.map V.int) ∧ ns.length ≤ 63 ∧ (∀ z ∈ ns, Builtin.Int.intBits z ≤ 1048576) ∧ ∀ H', Q (.bl true) H'
theorem law_sp (K : PySem.W.Frag) (H : Hp) (a : Addr) (ns : List Int) (h1 : ns.length ≤ 63) (h2 : ∀ z ∈ ns, Builtin.Int.intBits z ≤ 1048576) (h : SqL K H a (ns.map V.int)) : spLaw K [.ref a] H (fun v _ => v = .bl true) fun _ _ _ => False := ⟨a, ns, rfl, h, h1, h2, fun _ => rfl⟩
theorem law_cx (P : Program) (w : World) (H : Hp) (s : Shared) (e : Value) (s' : Shared) (h : L2.CX P w [] H s (fun _ _ _ => False) e s') : False := by
  obtain ⟨_, _, _, _, _, _, _, _, _, _, _, _, z⟩ := h
  exact z.elim
def G0 : G := ⟨0, fun _ => 0, fun _ => False, fun _ _ => False, fun _ => False, fun _ _ _ => False, fun _ => .non⟩
theorem G0_U {a : Addr} : ¬ G0.U a := by
  rintro (h | ⟨i, h⟩ | h)
  · exact h
  · exact h
  · exact h
theorem shrL_ints {T : Th} {g : G} {H : Hp} : ∀ ns : List Int, ShrL T g H (ns.map D.int) (ns.map V.int)
  | [] => .nil
  | n :: r => .cons (shr_int.mpr rfl) (shrL_ints r)
/-- from what the law's def comes to, to its promise -/
theorem law_ok {P : Program} {w : World} {mg : Str → Option Value} {base : Heap} {T : Th} {k : Nat} {f : Addr} {fd : FuncData} {ps : List Str} {Φ : FF} (F : FnOk P w T.K mg base (L2.CX P w) k f fd ps (spD T 1 (sgS 1) Φ))
    (h : ∀ ns : List Int, ns.length ≤ 63 → (∀ z ∈ ns, Builtin.Int.intBits z ≤ 1048576) → ∃ outs S', Φ [.scr (ns.map .int)] [] = .ok (.bl true) outs S') : FnOk P w T.K mg base (L2.CX P w) k f fd ps (spLaw T.K) := by
  refine F.imp fun vs H Q E hq => ?_
  obtain ⟨a, ns, rfl, hS, hl, hb, q⟩ := hq
  obtain ⟨outs, S', e⟩ := h ns hl hb
  refine ⟨rfl, G0, [.scr (ns.map .int)], [], ⟨rfl, fun i d e => ?_, fun _ _ _ h => h.elim, fun _ _ h => h.elim, fun _ _ h => h.elim, fun _ h => h.elim, fun a h => (G0_U h).elim, ⟨rfl, fun _ _ h => absurd h (Nat.not_lt_zero _), fun _ h => absurd h (Nat.not_lt_zero _), fun _ _ _ h => h.elim, fun _ _ _ _ _ h => h.elim, fun n o h => by simp at h⟩, fun a h => (G0_U h).elim⟩, ?_⟩
  · rw [rep_s]
    cases i with
    | succ i => simp at e
    | zero =>
      simp at e
      subst e
      exact ⟨_, rfl, shr_scr.mpr ⟨a, _, rfl, hS.imp (fun z => ⟨z, G0_U⟩) id, shrL_ints ns⟩⟩
  · rw [e]
    intro v g' H' Fo R f nf ho hw
    have hw : Own T (g'.plus Fo) H' 0 Fo (.bl true) v := hw
    simp only [Own] at hw
    rw [shr_bl.mp hw]
    exact q H'
end Q

/-! Owned lists: loose readings, fresh values, appends. -/
namespace Q
open PySem PySem.Spec PyProof.Rows L2
/-- .. but for what slots and others may write -/
def G.bb (g : G) : G := { g with O := fun _ => False, F := fun _ _ => False }
theorem G.bb_U {g : G} {a : Addr} : g.bb.U a ↔ g.B a := ⟨fun h => h.elim False.elim fun h => h.elim (fun ⟨_, h⟩ => h.elim) id, fun h => .inr (.inr h)⟩
def G.plusF (g : G) (n : Nat) (Fo : Addr → Prop) : G := { g with F := fun j a => g.F j a ∨ (j = n ∧ Fo a) }
theorem G.plusF_U {g : G} {n : Nat} {Fo : Addr → Prop} {a : Addr} : (g.plusF n Fo).U a ↔ g.U a ∨ Fo a := by
  constructor
  · rintro (h | ⟨j, h | ⟨_, h⟩⟩ | h)
    · exact .inl (.inl h)
    · exact .inl (.inr (.inl ⟨j, h⟩))
    · exact .inr h
    · exact .inl (.inr (.inr h))
  · rintro ((h | ⟨j, h⟩ | h) | h)
    · exact .inl h
    · exact .inr (.inl ⟨j, .inl h⟩)
    · exact .inr (.inr h)
    · exact .inr (.inl ⟨n, .inr ⟨rfl, h⟩⟩)
theorem G.plus_U {g : G} {Fo : Addr → Prop} {a : Addr} : (g.plus Fo).U a ↔ g.U a ∨ Fo a := by
  constructor
  · rintro ((h | h) | h | h)
    · exact .inl (.inl h)
    · exact .inr h
    · exact .inl (.inr (.inl h))
    · exact .inl (.inr (.inr h))
  · rintro ((h | h | h) | h)
    · exact .inl (.inl h)
    · exact .inr (.inl h)
    · exact .inr (.inr h)
    · exact .inl (.inr h)
mutual
def immD : D → Bool
  | .non => true
  | .bl _ => true
  | .int _ => true
  | .str _ => true
  | .tup l => immL l
  | _ => false
def immL : List D → Bool
  | [] => true
  | d :: r => immD d && immL r
end
section
variable {T : Th} {g g' g1 g2 : G} {H H' H1 : Hp} {Γ : List Md} {ρ : Env} {S : Store} {σ : L2.St}
theorem stay_bb (hN : g.N = g2.N) (hμ : g2.μ = g.μ) (hB : ∀ a, g2.B a → g.U a) : Stay g H g2.bb H := ⟨fun _ _ h _ => h, fun a h => .inl (hB a (G.bb_U.mp h)), by show g.N ≤ g2.N; rw [hN]; exact Nat.le_refl _, fun n _ => by show g2.μ n = g.μ n; rw [hμ]⟩
theorem Shr.bb {d : D} {v : V} (s : Shr T g H d v) : Shr T g.bb H d v := s.stay (stay_bb rfl rfl fun _ h => .inr (.inr h))
theorem FrE.bb (f : FrE g H g' H') : Stay g.bb H g'.bb H' where
  keep := fun a o h hu => f.keep a o h fun z => hu (G.bb_U.mpr z)
  own := fun a h => (f.B a (G.bb_U.mp h)).imp G.bb_U.mpr id
  N := f.N
  μ := f.μ
mutual
theorem imm_shr (nt : ∀ a, g.U a → ∀ u, ¬ Rd H a (.tup u)) : ∀ (d : D) (v : V), immD d = true → Shr T g2 H d v → Shr T g H d v
  | .non, _, _, h => by simpa only [Shr] using h
  | .bl _, _, _, h => by simpa only [Shr] using h
  | .int _, _, _, h => by simpa only [Shr] using h
  | .str _, _, _, h => by simpa only [Shr] using h
  | .tup l, v, e, h => by
    simp only [Shr] at h ⊢
    obtain ⟨a, vs, e2, q, r⟩ := h
    exact ⟨a, vs, e2, q.imp (fun z => ⟨z.1, fun u => nt a u _ z.1⟩) id, imm_shrL nt l vs (by simpa only [immD] using e) r⟩
  | .lst _, _, e, _ => by simp only [immD] at e; cases e
  | .scr _, _, e, _ => by simp only [immD] at e; cases e
  | .dct _, _, e, _ => by simp only [immD] at e; cases e
  | .obj _, _, e, _ => by simp only [immD] at e; cases e
  | .fn _ _, _, e, _ => by simp only [immD] at e; cases e
theorem imm_shrL (nt : ∀ a, g.U a → ∀ u, ¬ Rd H a (.tup u)) : ∀ (ds : List D) (vs : List V), immL ds = true → ShrL T g2 H ds vs → ShrL T g H ds vs
  | [], _, _, h => by simpa only [ShrL] using h
  | d :: ds, vs, e, h => by
    simp only [ShrL] at h ⊢
    simp only [immL, Bool.and_eq_true] at e
    obtain ⟨v, ws, e2, q, r⟩ := h
    exact ⟨v, ws, e2, imm_shr nt d v e.1 q, imm_shrL nt ds ws e.2 r⟩
end
/-- what is owned, out of the owner's sight -/
theorem shr_of_own2 (st : Stay g2 H g H) : ∀ (k : Nat) (Fo : Addr → Prop) (d : D) (v : V), (∀ a, Fo a → ¬ g.U a) → Own T g2 H k Fo d v → Shr T g H d v := by
  intro k
  suffices hs : ∀ (k : Nat) (Fo F : Addr → Prop) (d : D) (v : V), (∀ a, F a → Fo a) → (∀ a, Fo a → ¬ g.U a) → Own T g2 H k F d v → Shr T g H d v from fun Fo d v h1 h => hs k Fo Fo d v (fun _ z => z) h1 h
  intro k
  induction k with
  | zero => intro Fo F d v hf hu h; simp only [Own] at h; exact h.stay st
  | succ k ih =>
    intro Fo F d v hf hu h
    cases d with
    | lst l =>
      simp only [Own] at h
      obtain ⟨p, vs, e, hF, hH, hl, Gs, h1, h2, h3⟩ := h
      exact shr_lst.mpr ⟨p, vs, e, ⟨hH, hu p (hf p hF)⟩, .of hl fun i d w a b => ih Fo (Gs i) d w (fun a z => hf a (h1 i a z).1) hu (h3 i d w a b)⟩
    | dct l =>
      simp only [Own] at h
      obtain ⟨p, vs, e, hF, hH, hl, Gs, h1, h2, h3⟩ := h
      simp only [Shr]
      refine ⟨p, vs, e, ⟨hH, hu p (hf p hF)⟩, ?_⟩
      clear hH e
      revert vs
      intro vs hl h3
      suffices hk : ∀ (n : Nat) (l' : List (Key × D)) (vs' : List (Key × V)), l = l.take n ++ l' → vs = vs.take n ++ vs' → l'.length = vs'.length → n ≤ l.length → ShrK T g H l' vs' from hk 0 l vs (by simp) (by simp) hl (Nat.zero_le _)
      intro n l'
      induction l' generalizing n with
      | nil =>
        intro vs' _ _ hl' _
        have : vs' = [] := List.length_eq_zero_iff.mp hl'.symm
        subst this
        simp only [ShrK]
      | cons kd r ihl =>
        intro vs' e1 e2 hl' hn
        cases vs' with
        | nil => simp at hl'
        | cons kw ws =>
          have n1 : n < l.length := by
            have := congrArg List.length e1
            rw [List.length_append, List.length_take, List.length_cons] at this
            omega
          have g1 : l[n]? = some kd := by
            rw [e1, List.getElem?_append_right (by rw [List.length_take]; omega), List.length_take, Nat.min_eq_left hn]
            simp
          have g2 : vs[n]? = some kw := by
            rw [e2, List.getElem?_append_right (by rw [List.length_take]; omega), List.length_take, Nat.min_eq_left (by omega)]
            simp
          obtain ⟨ek, so⟩ := h3 n kd kw g1 g2
          obtain ⟨k1, d1⟩ := kd
          obtain ⟨k2, w2⟩ := kw
          simp only at ek so
          subst ek
          simp only [ShrK]
          refine ⟨w2, ws, rfl, ih Fo (Gs n) d1 w2 (fun a z => hf a (h1 n a z).1) hu so, ?_⟩
          refine ihl (n + 1) ws ?_ ?_ (by simpa using hl') (by omega)
          · rw [List.take_add_one, g1]
            have e3 : l = l.take n ++ (k1, d1) :: r := e1
            simp only [Option.toList_some, List.append_assoc, List.singleton_append]
            exact e3
          · rw [List.take_add_one, g2]
            have e3 : vs = vs.take n ++ (k1, w2) :: ws := e2
            simp only [Option.toList_some, List.append_assoc, List.singleton_append]
            exact e3
    | _ => simp only [Own] at h; exact h.stay st
theorem own1_lst {F : Addr → Prop} {l : List D} {v : V} : Own T g H 1 F (.lst l) v ↔ ∃ p vs, v = .ref p ∧ F p ∧ H p = some (.lst vs) ∧ ShrL T g H l vs := by
  simp only [Own]
  constructor
  · rintro ⟨p, vs, e, hF, hH, hl, Gs, h1, h2, h3⟩
    exact ⟨p, vs, e, hF, hH, .of hl fun i d w a b => h3 i d w a b⟩
  · rintro ⟨p, vs, e, hF, hH, s⟩
    refine ⟨p, vs, e, hF, hH, s.length, fun _ _ => False, fun _ _ z => z.elim, fun _ _ _ z => z.elim, fun j d w a b => ?_⟩
    obtain ⟨w', h1, h2⟩ := s.get a
    rw [b] at h1; cases h1
    exact h2
/-- a slot's value, loosely -/
theorem Rel.bb (R : Rel T g Γ ρ S σ H) {i : Nat} {d : D} (e : ρ[i]? = some (some d)) (hm : ∀ v, Γ.getD i .s ≠ .e v) : ∃ v, σ[i]? = some (some v) ∧ Shr T g.bb H d v := by
  obtain ⟨v, h1, h2⟩ := R.slot i d e
  refine ⟨v, h1, ?_⟩
  have st : Stay g H g.bb H := stay_bb rfl rfl fun _ h => .inr (.inr h)
  cases hq : Γ.getD i .s <;> rw [hq] at h2 <;> simp only [RepM] at h2
  · exact h2.bb
  · exact shr_of_own2 st _ _ _ _ (fun a z u => R.dFB i a z (G.bb_U.mp u)) h2
  · exact shr_of_own2 st _ _ _ _ (fun a z u => R.dOB a z (G.bb_U.mp u)) h2
  · exact shr_of_own2 st _ _ _ _ (fun a z u => R.dFB i a z (G.bb_U.mp u)) h2.2
  · exact absurd hq (hm _)
  · exact h2.stay (show Stay g.bare H g.bb H from stay_bb rfl rfl fun _ h => .inr (.inr h))
end
/-! ### loose expressions -/
def GoodQ (T : Th) (W : WX) (Γ : List Md) (ρ : Env) (σ : L2.St) (g : G) (H : Hp) : RE → VK → Prop
  | .ok d S', Q => ∀ v g' H', Rel T g' Γ ρ S' σ H' → FrE g H g' H' → Shr T g'.bb H' d v → Q v H'
  | .exc x S', _ => ∀ c dd g' H', Rel T g' Γ ρ S' σ H' → FrE g H g' H' → ExcR T g' H' x c dd → W c dd σ H'
  | .no, _ => False
def tQ (T : Th) (W : WX) (Γ : List Md) (F : FE) : TE := fun σ H Q => ∃ g ρ S, Rel T g Γ ρ S σ H ∧ GoodQ T W Γ ρ σ g H (F ρ S) Q
abbrev XQ (X : Cx) (T : Th) (W : WX) (Γ : List Md) (e : Expr) (F : FE) : Prop := PE X e (tQ T W Γ F)
def eFlat (a : FE) : FE := fun ρ S => (a ρ S).bind fun d S1 => if immD d = true then .ok d S1 else .no
section
variable {X : Cx} {T : Th} {W : WX} {Γ : List Md}
theorem xq_of {e : Expr} {F : FE} (h : XE X T W Γ e F) : XQ X T W Γ e F := pe_imp h fun σ H Q ⟨g, ρ, S, R, hg⟩ => by
  refine ⟨g, ρ, S, R, ?_⟩
  cases r : F ρ S with
  | ok d S1 => rw [r] at hg; exact fun v g' H' R' f' s => hg v g' H' R' f' s.bb
  | exc x S1 => rw [r] at hg; exact hg
  | no => rw [r] at hg; exact hg
theorem xq_var {i : Nat} {e : Expr} (he : PE X e (tVar i)) (hm : ∀ v, Γ.getD i .s ≠ .e v) : XQ X T W Γ e (eVar i) := pe_imp he fun σ H Q ⟨g, ρ, S, R, h⟩ => by
  have h : GoodQ T W Γ ρ σ g H (match ρ[i]? with | some (some d) => RE.ok d S | _ => .no) Q := h
  split at h
  · rename_i d e
    obtain ⟨v, h1, h2⟩ := R.bb e hm
    exact ⟨v, h1, h v g H R (.refl g H) h2⟩
  · exact h.elim
/-- a loose value that is no list is a strict one -/
theorem xe_flat {e : Expr} {F : FE} (h : XQ X T W Γ e F) : XE X T W Γ e (eFlat F) := pe_imp h fun σ H Q ⟨g, ρ, S, R, hg⟩ => by
  refine ⟨g, ρ, S, R, ?_⟩
  unfold eFlat at hg
  cases r : F ρ S with
  | ok d S1 =>
    rw [r] at hg
    have hg : GoodE T W Γ ρ σ g H (if immD d = true then RE.ok d S1 else .no) Q := hg
    split at hg
    · rename_i hd
      exact fun v g' H' R' f' s => hg v g' H' R' f' (imm_shr R'.nt d v hd s)
    · exact hg.elim
  | exc x S1 => rw [r] at hg; exact hg
  | no => rw [r] at hg; exact hg
theorem goodQ_bind {ρ : Env} {σ : L2.St} {g : G} {H : Hp} {r : RE} {k : D → Store → RE} {Q Q' : VK} (h : GoodQ T W Γ ρ σ g H (r.bind k) Q)
    (hk : ∀ d S v g' H', r = .ok d S → Rel T g' Γ ρ S σ H' → FrE g H g' H' → Shr T g'.bb H' d v → GoodQ T W Γ ρ σ g' H' (k d S) Q → Q' v H') : GoodQ T W Γ ρ σ g H r Q' := by
  cases r with
  | ok d S =>
    intro v g' H' R f s
    refine hk d S v g' H' rfl R f s ?_
    have h' : GoodQ T W Γ ρ σ g H (k d S) Q := h
    cases e : k d S with
    | ok d2 S2 =>
      rw [e] at h'
      exact fun v2 g2 H2 R2 f2 s2 => h' v2 g2 H2 R2 (f.trans f2) s2
    | exc x S2 =>
      rw [e] at h'
      exact fun c dd g2 H2 R2 f2 s2 => h' c dd g2 H2 R2 (f.trans f2) s2
    | no => rw [e] at h'; exact h'
  | exc x S => exact h
  | no => exact h
theorem goodQ_of {ρ : Env} {σ : L2.St} {g : G} {H : Hp} {S : Store} {o : Option D} {Q : VK} (h : GoodQ T W Γ ρ σ g H (.of S o) Q) : ∃ d, o = some d ∧ GoodQ T W Γ ρ σ g H (.ok d S) Q := by
  cases o with
  | none => exact h.elim
  | some d => exact ⟨d, rfl, h⟩
theorem xq_op {e : Expr} {r : R2} {h : D → D → Option D} {a b : Expr} {A B : FE} (ok : OpOk T r h) (ha : XQ X T W Γ a A) (hb : XQ X T W Γ b B)
    (he : PE X a (tQ T W Γ A) → PE X b (tQ T W Γ B) → PE X e (tOp r (tQ T W Γ A) (tQ T W Γ B))) : XQ X T W Γ e (eOp h A B) := pe_imp (he ha hb) fun σ H Q ⟨g, ρ, S, R, hg⟩ =>
  ⟨g, ρ, S, R, goodQ_bind hg fun x S1 v g1 H1 _ R1 f1 s1 hg1 => ⟨g1, ρ, S1, R1, goodQ_bind hg1 fun y S2 w g2 H2 _ R2 f2 s2 hg2 => by
    obtain ⟨z, ez, hg3⟩ := goodQ_of hg2
    exact ok g2.bb H2 x y z v w (s1.stay f2.bb) s2 ez (fun a u => R2.dom a (.inr (.inr (G.bb_U.mp u)))) Q fun u H' ex su => hg3 u g2 H' (R2.ex ex) (.ex ex) su⟩⟩
theorem xq_un {e : Expr} {r : V → Hp → VK → Prop} {h : D → Option D} {a : Expr} {A : FE} (ok : UnOk T r h) (ha : XQ X T W Γ a A) (he : PE X a (tQ T W Γ A) → PE X e (tUn r (tQ T W Γ A))) : XQ X T W Γ e (eUn h A) := pe_imp (he ha) fun σ H Q ⟨g, ρ, S, R, hg⟩ =>
  ⟨g, ρ, S, R, goodQ_bind hg fun x S1 v g1 H1 _ R1 f1 s1 hg1 => by
    obtain ⟨z, ez, hg3⟩ := goodQ_of hg1
    exact ok g1.bb H1 x z v s1 ez (fun a u => R1.dom a (.inr (.inr (G.bb_U.mp u)))) Q fun u H' ex su => hg3 u g1 H' (R1.ex ex) (.ex ex) su⟩
/-- lists of arguments, loosely -/
def GoodQL (T : Th) (W : WX) (Γ : List Md) (ρ : Env) (σ : L2.St) (g : G) (H : Hp) : RL → (List V → Hp → Prop) → Prop
  | .ok d S', Q => ∀ v g' H', Rel T g' Γ ρ S' σ H' → FrE g H g' H' → ShrL T g'.bb H' d v → Q v H'
  | .exc x S', _ => ∀ c dd g' H', Rel T g' Γ ρ S' σ H' → FrE g H g' H' → ExcR T g' H' x c dd → W c dd σ H'
  | .no, _ => False
def tQL (T : Th) (W : WX) (Γ : List Md) (F : FL) : TA := fun σ H Q => ∃ g ρ S, Rel T g Γ ρ S σ H ∧ GoodQL T W Γ ρ σ g H (F ρ S) Q
abbrev XQL (X : Cx) (T : Th) (W : WX) (Γ : List Md) (es : List Expr) (F : FL) : Prop := PA X es (tQL T W Γ F)
theorem xql_nil : XQL X T W Γ [] lNil := pa_imp pa_nil fun σ H Q ⟨g, ρ, S, R, hg⟩ => hg [] g H R (.refl g H) .nil
theorem xql_cons {e : Expr} {es : List Expr} {A : FE} {B : FL} (ha : XQ X T W Γ e A) (hb : XQL X T W Γ es B) (hx : PE X e (tQ T W Γ A) → PA X es (tQL T W Γ B) → PA X (e :: es) (tCons (tQ T W Γ A) (tQL T W Γ B))) : XQL X T W Γ (e :: es) (lCons A B) := pa_imp (hx ha hb) fun σ H Q ⟨g, ρ, S, R, hg⟩ => by
  refine ⟨g, ρ, S, R, ?_⟩
  unfold lCons at hg
  cases e : A ρ S with
  | ok x S1 =>
    rw [e] at hg
    intro v g1 H1 R1 f1 s1
    refine ⟨g1, ρ, S1, R1, ?_⟩
    have hg : GoodQL T W Γ ρ σ g H (match B ρ S1 with | .ok xs S2 => .ok (x :: xs) S2 | .exc x S2 => .exc x S2 | .no => .no) Q := hg
    cases e2 : B ρ S1 with
    | ok xs S2 =>
      rw [e2] at hg
      exact fun vs g2 H2 R2 f2 s2 => hg (v :: vs) g2 H2 R2 (f1.trans f2) (.cons (s1.stay f2.bb) s2)
    | exc y S2 =>
      rw [e2] at hg
      exact fun c dd g2 H2 R2 f2 s2 => hg c dd g2 H2 R2 (f1.trans f2) s2
    | no =>
      rw [e2] at hg
      exact hg
  | exc y S1 => rw [e] at hg; exact hg
  | no => rw [e] at hg; exact hg
theorem goodQL_then {ρ : Env} {σ : L2.St} {g : G} {H : Hp} {A : FL} {h : List D → Option D} {S : Store} {Q : VK} {Q' : List V → Hp → Prop} (hg : GoodQ T W Γ ρ σ g H (eL h A ρ S) Q)
    (hk : ∀ ds S' z vs g' H', h ds = some z → Rel T g' Γ ρ S' σ H' → FrE g H g' H' → ShrL T g'.bb H' ds vs → GoodQ T W Γ ρ σ g' H' (.ok z S') Q → Q' vs H') : GoodQL T W Γ ρ σ g H (A ρ S) Q' := by
  unfold eL at hg
  cases e : A ρ S with
  | ok ds S' =>
    rw [e] at hg
    intro vs g' H' R f s
    obtain ⟨z, ez, hg⟩ := goodQ_of hg
    exact hk ds S' z vs g' H' ez R f s fun v2 g2 H2 R2 f2 s2 => hg v2 g2 H2 R2 (f.trans f2) s2
  | exc x S' => rw [e] at hg; exact hg
  | no => rw [e] at hg; exact hg
theorem xq_L {e : Expr} {r : List V → Hp → VK → Prop} {h : List D → Option D} {as : List Expr} {A : FL} (ok : LsOk T r h) (ha : XQL X T W Γ as A) (he : PA X as (tQL T W Γ A) → PE X e (tCB r (tQL T W Γ A))) : XQ X T W Γ e (eL h A) := pe_imp (he ha) fun σ H Q ⟨g, ρ, S, R, hg⟩ =>
  ⟨g, ρ, S, R, goodQL_then hg fun ds S1 z vs g1 H1 ez R1 f1 s1 hg1 => ok g1.bb H1 ds z vs s1 ez (fun a u => R1.dom a (.inr (.inr (G.bb_U.mp u)))) Q fun u H' ex su => hg1 u g1 H' (R1.ex ex) (.ex ex) su⟩
end
/-! ### fresh values -/
def GoodN (T : Th) (W : WX) (Γ : List Md) (k : Nat) (ρ : Env) (σ : L2.St) (g : G) (H : Hp) : RE → VK → Prop
  | .ok d S', Q => ∀ v g' H' Fo, Rel T (g'.plusF ρ.length Fo) Γ ρ S' σ H' → FrE g H g' H' → (∀ a, Fo a → ¬ g'.U a ∧ (g.B a ∨ H a = none)) → Own T (g'.plusF ρ.length Fo) H' k Fo d v → Q v H'
  | .exc x S', _ => ∀ c dd g' H', Rel T g' Γ ρ S' σ H' → FrE g H g' H' → ExcR T g' H' x c dd → W c dd σ H'
  | .no, _ => False
def tN (T : Th) (W : WX) (Γ : List Md) (k : Nat) (F : FE) : TE := fun σ H Q => ∃ g ρ S, Rel T g Γ ρ S σ H ∧ GoodN T W Γ k ρ σ g H (F ρ S) Q
abbrev XF (X : Cx) (T : Th) (W : WX) (Γ : List Md) (k : Nat) (e : Expr) (F : FE) : Prop := PE X e (tN T W Γ k F)
section
variable {X : Cx} {T : Th} {W : WX} {Γ : List Md} {g g' : G} {H H' : Hp} {ρ : Env} {S S' : Store} {σ : L2.St} {Fo : Addr → Prop}
/-- the fresh part goes out of sight -/
theorem Rel.unplus (R : Rel T (g.plusF ρ.length Fo) Γ ρ S σ H) : Rel T g Γ ρ S σ H := by
  refine R.shift rfl rfl rfl rfl (fun a h => G.plusF_U.mpr (.inl h)) (fun i j a h h' => R.dF i j a (.inl h) (.inl h')) (fun i a h => R.dFO i a (.inl h)) (fun a h => .inl h) (fun i a h => .inl ⟨i, .inl h⟩) R.len fun st i d e => ?_
  obtain ⟨v, h1, h2⟩ := R.slot i d e
  have hi : i < ρ.length := (List.getElem?_eq_some_iff.mp e).1
  exact ⟨v, h1, h2.stay st (fun a z => z.elim id fun z => absurd z.1 (by omega)) (fun a z => z) rfl (bare_sub rfl rfl (fun i a z => ⟨i, .inl z⟩) fun _ z => z)⟩
theorem stay_unplus {n : Nat} : Stay (g.plusF n Fo) H g H := ⟨fun _ _ h _ => h, fun a h => .inl (G.plusF_U.mpr (.inl h)), Nat.le_refl _, fun _ _ => rfl⟩
theorem xe_of {k : Nat} {e : Expr} {F : FE} (h : XF X T W Γ k e F) : XE X T W Γ e F := pe_imp h fun σ H Q ⟨g, ρ, S, R, hg⟩ => by
  refine ⟨g, ρ, S, R, ?_⟩
  cases r : F ρ S with
  | ok d S1 =>
    rw [r] at hg
    exact fun v g' H' Fo R' f' ho hw => hg v g' H' R'.unplus f' (shr_of_own2 stay_unplus k Fo d v (fun a z => (ho a z).1) hw)
  | exc x S1 => rw [r] at hg; exact hg
  | no => rw [r] at hg; exact hg
/-- a new list of shared values -/
theorem Rel.fresh {p : Addr} {o : HO} (R : Rel T g Γ ρ S σ H) (hp : H p = none) (ho : ∀ u, o ≠ .tup u ∧ ∀ b, o ≠ .frz b (.tup u)) : Rel T (g.plusF ρ.length (· = p)) Γ ρ S σ (upd H p o) := by
  have ex : Exx H (upd H p o) := Exx.new hp
  have np : ∀ a, g.U a → a ≠ p := fun a u z => by
    obtain ⟨o, q⟩ := R.dom a u
    rw [z, hp] at q; cases q
  have st : Stay g H (g.plusF ρ.length (· = p)) (upd H p o) := ⟨fun a o h _ => ex a o h, fun a h => (G.plusF_U.mp h).imp id fun z => by rw [z]; exact hp, Nat.le_refl _, fun _ _ => rfl⟩
  have stb : Stay g.bare H (g.plusF ρ.length (· = p)).bare (upd H p o) := ⟨fun a o h _ => ex a o h, fun a h => by
    rcases h with h | ⟨j, h | h⟩ | h
    · exact h.elim
    · exact .inl (.inr (.inl ⟨j, h⟩))
    · exact .inr (by rw [h.2]; exact hp)
    · exact .inl (.inr (.inr h)), Nat.le_refl _, fun _ _ => rfl⟩
  refine ⟨R.len, fun i d e => ?_, fun i j a h h' => ?_, fun i a h u => ?_, fun i a h u => ?_, R.dOB, fun a h => ?_, R.st.keep st (fun a o _ q => ex a o q) rfl rfl rfl fun _ _ => rfl, fun a h => ?_⟩
  · obtain ⟨v, h1, h2⟩ := R.slot i d e
    refine ⟨v, h1, ?_⟩
    cases hm : Γ.getD i .s <;> rw [hm] at h2 <;> simp only [RepM] at h2 ⊢
    · exact h2.stay st
    · exact Own.wide _ _ _ _ _ (fun a z => .inl z) (Own.keepF st _ _ _ _ (fun a o _ q => ex a o q) h2)
    · exact Own.keepF st _ _ _ _ (fun a o _ q => ex a o q) h2
    · exact ⟨h2.1, Own.wide _ _ _ _ _ (fun a z => .inl z) (Own.keepF st _ _ _ _ (fun a o _ q => ex a o q) h2.2)⟩
    · exact h2
    · exact h2.stay stb
  · rcases h with h | h <;> rcases h' with h' | h'
    · exact R.dF i j a h h'
    · exact absurd h'.2 (np a (.inr (.inl ⟨i, h⟩)))
    · exact absurd h.2 (np a (.inr (.inl ⟨j, h'⟩)))
    · rw [h.1, h'.1]
  · rcases h with h | h
    · exact R.dFO i a h u
    · exact np a (.inl u) h.2
  · rcases h with h | h
    · exact R.dFB i a h u
    · exact np a (.inr (.inr u)) h.2
  · rcases G.plusF_U.mp h with u | u
    · obtain ⟨o, q⟩ := R.dom a u
      exact ⟨o, ex a o q⟩
    · exact ⟨o, by rw [u]; exact upd_same⟩
  · rcases G.plusF_U.mp h with u | u
    · exact ex.nt R.dom R.nt a u
    · intro w r
      rw [u] at r
      rcases r with r | ⟨b, r⟩
      · rw [upd_same] at r; cases r; exact (ho w).1 rfl
      · rw [upd_same] at r; cases r; exact (ho w).2 b rfl
theorem stay_fresh {p : Addr} {o : HO} (hp : H p = none) : Stay g H (g.plusF ρ.length (· = p)) (upd H p o) := ⟨fun a o h _ => Exx.new hp a o h, fun a h => (G.plusF_U.mp h).imp id fun z => by rw [z]; exact hp, Nat.le_refl _, fun _ _ => rfl⟩
theorem Rel.fresh_lst {p : Addr} {l : List D} {vs : List V} (R : Rel T g Γ ρ S σ H) (hp : H p = none) (s : ShrL T g H l vs) : Own T (g.plusF ρ.length (· = p)) (upd H p (.lst vs)) 1 (· = p) (.lst l) (.ref p) := own1_lst.mpr ⟨p, vs, rfl, rfl, upd_same, s.stay (stay_fresh hp)⟩
theorem Rel.fresh_out {p : Addr} (R : Rel T g Γ ρ S σ H) (hp : H p = none) : ∀ a, a = p → ¬ g.U a ∧ (g.B a ∨ H a = none) := fun a z => by
  refine ⟨fun u => ?_, .inr (by rw [z]; exact hp)⟩
  obtain ⟨o, q⟩ := R.dom a u
  rw [z, hp] at q; cases q
theorem goodN_then {A : FL} {h : List D → Option D} {k : Nat} {Q : VK} {Q' : List V → Hp → Prop} (hg : GoodN T W Γ k ρ σ g H (eL h A ρ S) Q)
    (hk : ∀ ds S' z vs g' H', h ds = some z → Rel T g' Γ ρ S' σ H' → FrE g H g' H' → ShrL T g' H' ds vs → GoodN T W Γ k ρ σ g H (.ok z S') Q → Q' vs H') : GoodL T W Γ ρ σ g H (A ρ S) Q' := by
  unfold eL at hg
  cases e : A ρ S with
  | ok ds S' =>
    rw [e] at hg
    intro vs g' H' R f s
    have hg : GoodN T W Γ k ρ σ g H (RE.of S' (h ds)) Q := hg
    cases ez : h ds with
    | none => rw [ez] at hg; exact hg.elim
    | some z => rw [ez] at hg; exact hk ds S' z vs g' H' ez R f s hg
  | exc x S' => rw [e] at hg; exact hg
  | no => rw [e] at hg; exact hg
theorem FrE.none {p : Addr} (f : FrE g H g' H') (hp : H' p = none) : g.B p ∨ H p = none := by
  cases e : H p with
  | none => exact .inr rfl
  | some o =>
    obtain ⟨o', h'⟩ := f.dom p o e
    rw [hp] at h'; cases h'
theorem xf_lst {es : List Expr} {A : FL} (ha : XL X T W Γ es A) {pos : Pos} : XF X T W Γ 1 (.List es pos) (eLst A) := pe_imp (pe_lst ha) fun σ H Q ⟨g, ρ, S, R, hg⟩ =>
  ⟨g, ρ, S, R, goodN_then hg fun ds S1 z vs g1 H1 ez R1 f1 s1 hg1 => by
    split at ez
    · rename_i hl
      cases ez
      refine ⟨by rw [← s1.length]; exact sz6 hl, fun p hp => hg1 _ g1 _ (· = p) (R1.fresh hp fun _ => ⟨nofun, fun _ => nofun⟩) (f1.trans (.ex (Exx.new hp))) (fun a z => ⟨(R1.fresh_out hp a z).1, ?_⟩) (R1.fresh_lst hp s1)⟩
      rw [z]; exact f1.none hp
    · cases ez⟩
/-! ### a slot takes a fresh value; appends; returns -/
def G.take (g : G) (i : Nat) (Fo : Addr → Prop) : G := { g with F := fun j a => (j = i ∧ Fo a) ∨ (j ≠ i ∧ g.F j a) }
theorem xs_ownP {J : Jd} {Γ' : List Md} {i k : Nat} {A : FE} {st : Stmt} (hx : J.ΓX Γ) (hi : i < Γ.length) (he : PS X st (tAsg (tN T J.W Γ k A) (gName i))) (hΓ : Γ.set i (.o k) = Γ') : XS X T J Γ Γ' st (fSet i A) := ps_imp he fun D σ H ⟨g, ρ, S, R, h⟩ => by
  refine ⟨g, ρ, S, R, ?_⟩
  unfold fSet at h
  cases r : A ρ S with
  | no => rw [r] at h; exact h
  | exc x S1 => rw [r] at h; exact fun c dd g' H' R' f e => h Γ c dd σ g' H' hx R' (f.frs R.dOB) e
  | ok d S1 =>
    rw [r] at h
    intro v g' H' Fo R' f ho hw
    have h : GoodS T J Γ' g H (.nx (ρ.set i (some d)) S1) D := h
    refine h (σ.set i (some v)) (g'.take i Fo) H' ?_ ?_
    · rw [← hΓ]
      have hsub : ∀ j a, (g'.take i Fo).F j a → ∃ k, (g'.plusF ρ.length Fo).F k a := fun j a z => by
        rcases z with z | z
        · exact ⟨ρ.length, .inr ⟨rfl, z.2⟩⟩
        · exact ⟨j, .inl z.2⟩
      have hUU : ∀ a, (g'.take i Fo).U a → (g'.plusF ρ.length Fo).U a := fun a u => by
        rcases u with u | ⟨j, u⟩ | u
        · exact .inl u
        · exact .inr (.inl (hsub j a u))
        · exact .inr (.inr u)
      refine R'.shift rfl rfl rfl rfl hUU (fun j k a h h' => ?_) (fun j a h u => ?_) (fun a h => .inl h) (fun j a h => .inl (hsub j a h)) (by simp [R'.len]) fun st j d' e => ?_
      · rcases h with h | h <;> rcases h' with h' | h'
        · rw [h.1, h'.1]
        · exact absurd (.inr (.inl ⟨k, h'.2⟩)) (ho a h.2).1
        · exact absurd (.inr (.inl ⟨j, h.2⟩)) (ho a h'.2).1
        · exact R'.dF j k a (.inl h.2) (.inl h'.2)
      · rcases h with h | h
        · exact (ho a h.2).1 (.inl u)
        · exact R'.dFO j a (.inl h.2) u
      · by_cases hj : i = j
        · subst hj
          have hlt : i < ρ.length := by
            have := (List.getElem?_eq_some_iff.mp e).1
            simpa using this
          rw [List.getElem?_set_self hlt] at e
          cases e
          refine ⟨v, by rw [List.getElem?_set_self (by rw [← R'.len]; exact hlt)], ?_⟩
          rw [getD_set_self hi]
          have q : Own T (g'.take i Fo) H' k Fo d v := Own.keepF st _ _ _ _ (fun _ _ _ q => q) hw
          exact Own.wide k _ ((g'.take i Fo).F i) d v (fun a z => .inl ⟨rfl, z⟩) q
        · rw [List.getElem?_set_ne hj] at e
          obtain ⟨w, h1, h2⟩ := R'.slot j d' e
          have hjl : j < ρ.length := (List.getElem?_eq_some_iff.mp e).1
          refine ⟨w, by rw [List.getElem?_set_ne hj]; exact h1, ?_⟩
          rw [getD_set_ne hj]
          exact h2.stay st (fun a z => .inr ⟨fun z => hj z.symm, z.elim id fun z => absurd z.1 (by omega)⟩) (fun a z => z) rfl (bare_sub rfl rfl hsub fun _ z => z)
    · have f' := f.frs R.dOB
      refine ⟨f'.keep, fun a u => ?_, f'.O, f'.P, f'.N, f'.μ, f'.dom⟩
      rcases u with u | ⟨j, u | u⟩ | u
      · exact f'.own a (.inl u)
      · exact (ho a u.2).2.imp (fun z => .inr (.inr z)) id
      · exact f'.own a (.inr (.inl ⟨j, u.2⟩))
      · exact f'.own a (.inr (.inr u))
theorem xs_own {J : Jd} {Γ' : List Md} {i k : Nat} {e : Expr} {A : FE} {st : Stmt} (hx : J.ΓX Γ) (hi : i < Γ.length) (ha : XF X T J.W Γ k e A) (he : PE X e (tN T J.W Γ k A) → PS X st (tAsg (tN T J.W Γ k A) (gName i))) (hΓ : Γ.set i (.o k) = Γ') : XS X T J Γ Γ' st (fSet i A) := xs_ownP hx hi (he ha) hΓ
/-- an owned list is shared from here on -/
theorem Rel.frz {i : Nat} {k : Nat} (R : Rel T g Γ ρ S σ H) (hm : Γ.getD i .s = .o k) : Rel T (g.drop i) (Γ.set i .s) ρ S σ H := by
  refine R.shift rfl rfl rfl rfl (fun a h => G.drop_U h) (fun j k a h h' => R.dF j k a h.2 h'.2) (fun j a h => R.dFO j a h.2) (fun a h => .inl h) (fun j a h => .inl ⟨j, h.2⟩) R.len fun st j d' e => ?_
  obtain ⟨w, h1, h2⟩ := R.slot j d' e
  refine ⟨w, h1, ?_⟩
  by_cases hj : i = j
  · subst hj
    rw [getD_set_s]
    rw [hm] at h2
    refine shr_of_own2 st k (g.F i) d' w (fun a z u => ?_) h2
    rcases u with u | ⟨j, u⟩ | u
    · exact R.dFO i a z u
    · exact u.1 (R.dF j i a u.2 z)
    · exact R.dFB i a z u
  · rw [getD_set_ne hj]
    exact h2.stay st (fun a z => ⟨fun q => hj q.symm, z⟩) (fun a z => z) rfl (bare_sub rfl rfl (fun i a z => ⟨i, z.2⟩) fun _ z => z)
theorem xb_frz {J : Jd} {Γ' Γ1 : List Md} {i k : Nat} {rest : List Stmt} {B : FS} (hm : Γ.getD i .s = .o k) (hΓ : Γ.set i .s = Γ1) (hb : XB X T J Γ1 Γ' rest B) : XB X T J Γ Γ' rest B := pss_imp hb fun D σ H ⟨g, ρ, S, R, h⟩ =>
  ⟨g.drop i, ρ, S, by rw [← hΓ]; exact R.frz hm, GoodS.then h .drop⟩
/-- a write to what a slot owns -/
theorem Rel.write {i : Nat} {p : Addr} {o : HO} {d : D} {v : V} (R : Rel T g Γ ρ S σ H) (hp : g.F i p) (ho : ∀ u, o ≠ .tup u ∧ ∀ b, o ≠ .frz b (.tup u)) (hv : σ[i]? = some (some v))
    (hr : Stay g H g (upd H p o) → RepM T g (upd H p o) i (Γ.getD i .s) d v) : Rel T g Γ (ρ.set i (some d)) S σ (upd H p o) := by
  have st : Stay g H g (upd H p o) := ⟨fun a u h hu => by rw [upd_ne (fun z => hu (.inr (.inl ⟨i, by rw [z]; exact hp⟩)))]; exact h, fun _ h => .inl h, Nat.le_refl _, fun _ _ => rfl⟩
  have stb : Stay g.bare H g.bare (upd H p o) := ⟨fun a u h hu => by rw [upd_ne (fun z => hu (.inr (.inl ⟨i, by rw [z]; exact hp⟩)))]; exact h, fun _ h => .inl h, Nat.le_refl _, fun _ _ => rfl⟩
  refine ⟨by simp [R.len], fun j d' e => ?_, R.dF, R.dFO, R.dFB, R.dOB, fun a h => ?_, R.st.keep st (fun a u hb h => by rw [upd_ne (fun z => R.dFB i p hp (by rw [← z]; exact hb))]; exact h) rfl rfl rfl fun _ _ => rfl, nt_upd R.nt ho⟩
  · by_cases hj : i = j
    · subst hj
      have hlt : i < ρ.length := by
        have := (List.getElem?_eq_some_iff.mp e).1
        simpa using this
      rw [List.getElem?_set_self hlt] at e
      cases e
      exact ⟨v, hv, hr st⟩
    · rw [List.getElem?_set_ne hj] at e
      obtain ⟨w, h1, h2⟩ := R.slot j d' e
      refine ⟨w, h1, ?_⟩
      have kF : ∀ a u, g.F j a → H a = some u → upd H p o a = some u := fun a u z q => by rw [upd_ne (fun w => hj (R.dF i j p hp (by rw [← w]; exact z)))]; exact q
      cases hm : Γ.getD j .s <;> rw [hm] at h2 <;> simp only [RepM] at h2 ⊢
      · exact h2.stay st
      · exact Own.keepF st _ _ _ _ kF h2
      · exact Own.keepF st _ _ _ _ (fun a u z q => by rw [upd_ne (fun w => R.dFO i p hp (by rw [← w]; exact z))]; exact q) h2
      · exact ⟨h2.1, Own.keepF st _ _ _ _ kF h2.2⟩
      · exact h2
      · exact h2.stay stb
  · by_cases ha : a = p
    · subst ha; exact ⟨o, upd_same⟩
    · rw [upd_ne ha]; exact R.dom a h
theorem Rel.wrote {i : Nat} {p : Addr} {o : HO} (R : Rel T g Γ ρ S σ H) (hp : g.F i p) : FrS g H g (upd H p o) :=
  ⟨fun a u h hu => by rw [upd_ne (fun z => hu.elim (fun w => w (.inr (.inl ⟨i, by rw [z]; exact hp⟩))) fun w => R.dFO i p hp (by rw [← z]; exact w))]; exact h, fun _ h => .inl h, rfl, rfl, Nat.le_refl _, fun _ _ => rfl, fun a u h => by
    by_cases ha : a = p
    · subst ha; exact ⟨o, upd_same⟩
    · exact ⟨u, by rw [upd_ne ha]; exact h⟩⟩
/-- mode o 1 or p 1 -/
def isOwn1 : Md → Prop
  | .o 1 => True
  | .p 1 => True
  | _ => False
theorem Rel.own1 {i : Nat} {l : List D} (R : Rel T g Γ ρ S σ H) (hm : isOwn1 (Γ.getD i .s)) (e : ρ[i]? = some (some (.lst l))) : ∃ p vs, σ[i]? = some (some (.ref p)) ∧ g.F i p ∧ H p = some (.lst vs) ∧ ShrL T g H l vs ∧
    ∀ (l' : List D) (vs' : List V) (H' : Hp), H' p = some (.lst vs') → ShrL T g H' l' vs' → RepM T g H' i (Γ.getD i .s) (.lst l') (.ref p) := by
  obtain ⟨v, h1, h2⟩ := R.slot i _ e
  cases hq : Γ.getD i .s <;> rw [hq] at h2 hm <;> simp only [isOwn1] at hm
  · rename_i k
    split at hm
    · rename_i hk
      cases hk
      obtain ⟨p, vs, rfl, hF, hH, s⟩ := own1_lst.mp (show Own T g H 1 (g.F i) (.lst l) v from h2)
      exact ⟨p, vs, h1, hF, hH, s, fun l' vs' H' a b => own1_lst.mpr ⟨p, vs', rfl, hF, a, b⟩⟩
    · rename_i hk; cases hk
    · exact hm.elim
  · rename_i k
    split at hm
    · rename_i hk; cases hk
    · rename_i hk
      cases hk
      have h2 : v = g.P i ∧ Own T g H 1 (g.F i) (.lst l) v := h2
      obtain ⟨p, vs, e2, hF, hH, s⟩ := own1_lst.mp h2.2
      subst e2
      exact ⟨p, vs, h1, hF, hH, s, fun l' vs' H' a b => ⟨h2.1, own1_lst.mpr ⟨p, vs', rfl, hF, a, b⟩⟩⟩
    · exact hm.elim
end
end Q

/-! Methods that write an owned list; calls with loose arguments. -/
namespace Q
open PySem PySem.Spec PyProof.Rows L2
/-- a method of an owned list: what it says, what the list holds then -/
abbrev HM := List D → List D → Option (D × List D)
def MutOk (T : Th) (r : V → List V → Hp → VK → Prop) (h : HM) : Prop := ∀ (g : G) (H : Hp) (p : Addr) (l ds l' : List D) (z : D) (vs ws : List V), H p = some (.lst vs) → ShrL T g H l vs → ShrL T g H ds ws → g.U p → h l ds = some (z, l') →
  ∀ Q : VK, (∀ u vs', ShrL T g H l' vs' → Shr T g H z u → Q u (upd H p (.lst vs'))) → r (.ref p) ws H Q
def fMut (i : Nat) (h : HM) (a : FL) : FS := fun ρ S => match ρ[i]? with
  | some (some (.lst l)) => (match a ρ S with
    | .ok ds S1 => (match h l ds with
      | some (_, l') => .nx (ρ.set i (some (.lst l'))) S1
      | none => .no)
    | .exc x S1 => .exc x ρ S1
    | .no => .no)
  | _ => .no
/-- .. and the value to slot j -/
def fMutSet (j i : Nat) (h : HM) (a : FL) : FS := fun ρ S => match ρ[i]? with
  | some (some (.lst l)) => (match a ρ S with
    | .ok ds S1 => (match h l ds with
      | some (z, l') => .nx ((ρ.set i (some (.lst l'))).set j (some z)) S1
      | none => .no)
    | .exc x S1 => .exc x ρ S1
    | .no => .no)
  | _ => .no
section
variable {X : Cx} {T : Th} {J : Jd} {Γ : List Md}
theorem mut_core {g1 : G} {ρ : Env} {S1 : Store} {σ : L2.St} {H1 : Hp} {i : Nat} {l ds l' : List D} {z : D} {ws : List V} {r : V → List V → Hp → VK → Prop} {h : HM} {Q : VK} {p : Addr}
    (R1 : Rel T g1 Γ ρ S1 σ H1) (hm : isOwn1 (Γ.getD i .s)) (el : ρ[i]? = some (some (.lst l))) (ev : σ[i]? = some (some (.ref p))) (ok : MutOk T r h) (sw : ShrL T g1 H1 ds ws) (eh : h l ds = some (z, l'))
    (q : ∀ u H2, Rel T g1 Γ (ρ.set i (some (.lst l'))) S1 σ H2 → FrS g1 H1 g1 H2 → Shr T g1 H2 z u → Q u H2) : r (.ref p) ws H1 Q := by
  obtain ⟨p', vs, h1, hF, hH, sl, mk⟩ := R1.own1 hm el
  rw [ev] at h1; cases h1
  refine ok g1 H1 p l ds l' z vs ws hH sl sw (.inr (.inl ⟨i, hF⟩)) eh Q fun u vs' s' su => ?_
  have st : Stay g1 H1 g1 (upd H1 p (.lst vs')) := ⟨fun a o h hu => by rw [upd_ne (fun z => hu (.inr (.inl ⟨i, by rw [z]; exact hF⟩)))]; exact h, fun _ h => .inl h, Nat.le_refl _, fun _ _ => rfl⟩
  refine q u _ ?_ (R1.wrote hF) (su.stay st)
  refine R1.write hF (fun _ => ⟨nofun, fun _ => nofun⟩) ev fun st => ?_
  exact mk l' vs' _ upd_same (ShrL.stay st _ _ s')
theorem xs_mut {i : Nat} {st : Stmt} {es : List Expr} {A : FL} {r : V → List V → Hp → VK → Prop} {h : HM} (hK : X.K = T.K) (hx : J.ΓX Γ) (hm : isOwn1 (Γ.getD i .s)) (ok : MutOk T r h) (ha : XL X T J.W Γ es A) (he : PA X es (tXL T J.W Γ A) → PS X st (tDrop (tBM X.K "list" r (tVar i) (tXL T J.W Γ A)))) : XS X T J Γ Γ st (fMut i h A) := ps_imp (he ha) fun D σ H ⟨g, ρ, S, R, hg⟩ => by
  unfold fMut at hg
  cases el : ρ[i]? with
  | none => rw [el] at hg; exact hg.elim
  | some o =>
    rw [el] at hg
    match o, hg, el with
    | some (.lst l), hg, el =>
      obtain ⟨p, vs, h1, hF, hH, sl, mk⟩ := R.own1 hm el
      refine ⟨.ref p, h1, .inl ⟨rfl, _, SqL.of hH⟩, g, ρ, S, R, ?_⟩
      cases ea : A ρ S with
      | no => rw [ea] at hg; exact hg
      | exc x S1 => rw [ea] at hg; exact fun c dd g' H' R' f' e => hg Γ c dd σ g' H' hx R' (f'.frs R.dOB) e
      | ok ds S1 =>
        rw [ea] at hg
        intro ws g1 H1 R1 f1 sw
        have hg : GoodS T J Γ g H (match h l ds with | some (_, l') => RS.nx (ρ.set i (some (.lst l'))) S1 | none => .no) D := hg
        cases eh : h l ds with
        | none => rw [eh] at hg; exact hg.elim
        | some zl =>
          rw [eh] at hg
          exact mut_core R1 hm el h1 ok sw eh fun u H2 R2 f2 _ => hg σ g1 H2 R2 ((f1.frs R.dOB).trans f2)
theorem xs_mut0 {i : Nat} {st : Stmt} {r : V → List V → Hp → VK → Prop} {h : HM} (hK : X.K = T.K) (hm : isOwn1 (Γ.getD i .s)) (ok : MutOk T r h) (he : PS X st (tDrop (tBM0 X.K "list" r (tVar i)))) : XS X T J Γ Γ st (fMut i h lNil) := ps_imp he fun D σ H ⟨g, ρ, S, R, hg⟩ => by
  unfold fMut at hg
  cases el : ρ[i]? with
  | none => rw [el] at hg; exact hg.elim
  | some o =>
    rw [el] at hg
    match o, hg, el with
    | some (.lst l), hg, el =>
      obtain ⟨p, vs, h1, hF, hH, sl, mk⟩ := R.own1 hm el
      refine ⟨.ref p, h1, .inl ⟨rfl, _, SqL.of hH⟩, ?_⟩
      have hg : GoodS T J Γ g H (match h l [] with | some (_, l') => RS.nx (ρ.set i (some (.lst l'))) S | none => .no) D := hg
      cases eh : h l [] with
      | none => rw [eh] at hg; exact hg.elim
      | some zl =>
        rw [eh] at hg
        exact mut_core R hm el h1 ok .nil eh fun u H2 R2 f2 _ => hg σ g H2 R2 f2
theorem xs_mutset {i j : Nat} {st : Stmt} {es : List Expr} {A : FL} {r : V → List V → Hp → VK → Prop} {h : HM} {Γ' : List Md} (hK : X.K = T.K) (hx : J.ΓX Γ) (hm : isOwn1 (Γ.getD i .s)) (ok : MutOk T r h) (ha : XL X T J.W Γ es A) (he : PA X es (tXL T J.W Γ A) → PS X st (tAsg (tBM X.K "list" r (tVar i) (tXL T J.W Γ A)) (gName j))) (hΓ : Γ.set j .s = Γ') : XS X T J Γ Γ' st (fMutSet j i h A) := ps_imp (he ha) fun D σ H ⟨g, ρ, S, R, hg⟩ => by
  unfold fMutSet at hg
  cases el : ρ[i]? with
  | none => rw [el] at hg; exact hg.elim
  | some o =>
    rw [el] at hg
    match o, hg, el with
    | some (.lst l), hg, el =>
      obtain ⟨p, vs, h1, hF, hH, sl, mk⟩ := R.own1 hm el
      refine ⟨.ref p, h1, .inl ⟨rfl, _, SqL.of hH⟩, g, ρ, S, R, ?_⟩
      cases ea : A ρ S with
      | no => rw [ea] at hg; exact hg
      | exc x S1 => rw [ea] at hg; exact fun c dd g' H' R' f' e => hg Γ c dd σ g' H' hx R' (f'.frs R.dOB) e
      | ok ds S1 =>
        rw [ea] at hg
        intro ws g1 H1 R1 f1 sw
        have hg : GoodS T J Γ' g H (match h l ds with | some (z, l') => RS.nx ((ρ.set i (some (.lst l'))).set j (some z)) S1 | none => .no) D := hg
        cases eh : h l ds with
        | none => rw [eh] at hg; exact hg.elim
        | some zl =>
          rw [eh] at hg
          refine mut_core R1 hm el h1 ok sw eh fun u H2 R2 f2 su => ?_
          exact hg _ (g1.drop j) H2 (by rw [← hΓ]; exact R2.set su) (((f1.frs R.dOB).trans f2).trans .drop)
theorem xs_mutset0 {i j : Nat} {st : Stmt} {r : V → List V → Hp → VK → Prop} {h : HM} {Γ' : List Md} (hK : X.K = T.K) (hm : isOwn1 (Γ.getD i .s)) (ok : MutOk T r h) (he : PS X st (tAsg (tBM0 X.K "list" r (tVar i)) (gName j))) (hΓ : Γ.set j .s = Γ') : XS X T J Γ Γ' st (fMutSet j i h lNil) := ps_imp he fun D σ H ⟨g, ρ, S, R, hg⟩ => by
  unfold fMutSet at hg
  cases el : ρ[i]? with
  | none => rw [el] at hg; exact hg.elim
  | some o =>
    rw [el] at hg
    match o, hg, el with
    | some (.lst l), hg, el =>
      obtain ⟨p, vs, h1, hF, hH, sl, mk⟩ := R.own1 hm el
      refine ⟨.ref p, h1, .inl ⟨rfl, _, SqL.of hH⟩, ?_⟩
      have hg : GoodS T J Γ' g H (match h l [] with | some (z, l') => RS.nx ((ρ.set i (some (.lst l'))).set j (some z)) S | none => .no) D := hg
      cases eh : h l [] with
      | none => rw [eh] at hg; exact hg.elim
      | some zl =>
        rw [eh] at hg
        refine mut_core R hm el h1 ok .nil eh fun u H2 R2 f2 su => ?_
        exact hg _ (g.drop j) H2 (by rw [← hΓ]; exact R2.set su) (f2.trans .drop)
end
/-! ### the methods -/
def mAppend : HM
  | l, [d] => if l.length < 1000000 then some (.non, l ++ [d]) else none
  | _, _ => none
def mExtend : HM
  | l, [.lst m] => if l.length + m.length ≤ 1000000 then some (.non, l ++ m) else none
  | _, _ => none
def mPop : HM
  | l, [] => (l[l.length - 1]?).map fun d => (d, l.dropLast)
  | _, _ => none
def mPop0 : HM
  | d :: l, [.int 0] => some (d, l)
  | _, _ => none
def intsOf : List D → Option (List Int)
  | [] => some []
  | .int i :: r => (intsOf r).map (i :: ·)
  | _ => none
def mRemove : HM
  | l, [.int k] => match intsOf l with
    | some ns => if ns.idxOf k < ns.length then some (.non, (ns.eraseIdx (ns.idxOf k)).map .int) else none
    | none => none
  | _, _ => none
section
variable {T : Th}
theorem len6 {l : List D} {vs : List V} {g : G} {H : Hp} (s : ShrL T g H l vs) (h : l.length < 1000000) : vs.length < sizeLine := by rw [← s.length, sizeLine_eq]; omega
theorem ok_append : MutOk T rAppend mAppend := by
  intro g H p l ds l' z vs ws hH sl sw hu eh Q q
  match ds, eh, sw with
  | [d], eh, sw =>
    simp only [mAppend] at eh
    split at eh
    · rename_i hl
      cases eh
      simp only [ShrL] at sw
      obtain ⟨y, _, rfl, sy, rfl⟩ := sw
      exact ⟨p, vs, y, rfl, rfl, hH, len6 sl hl, q _ _ (sl.append (.cons sy .nil)) (shr_non.mpr rfl)⟩
    · cases eh
theorem ok_extend : MutOk T rExtend mExtend := by
  intro g H p l ds l' z vs ws hH sl sw hu eh Q q
  match ds, eh, sw with
  | [.lst m], eh, sw =>
    simp only [mExtend] at eh
    split at eh
    · rename_i hl
      cases eh
      simp only [ShrL] at sw
      obtain ⟨y, _, rfl, sy, rfl⟩ := sw
      obtain ⟨b, zs, rfl, la, ra⟩ := shr_lst.mp sy
      exact ⟨p, b, vs, zs, rfl, rfl, hH, la.1, by rw [← sl.length, ← ra.length]; exact sz6 hl, q _ _ (sl.append ra) (shr_non.mpr rfl)⟩
    · cases eh
theorem ShrL.dropLast {g : G} {H : Hp} {ds : List D} {vs : List V} (h : ShrL T g H ds vs) : ShrL T g H ds.dropLast vs.dropLast := by
  rw [List.dropLast_eq_take, List.dropLast_eq_take, h.length]
  exact h.take _
theorem ok_pop : MutOk T rPop mPop := by
  intro g H p l ds l' z vs ws hH sl sw hu eh Q q
  match ds, eh, sw with
  | [], eh, sw =>
    simp only [mPop] at eh
    simp only [ShrL] at sw
    subst sw
    obtain ⟨d, e1, e2⟩ := Option.map_eq_some_iff.mp eh
    cases e2
    obtain ⟨y, h1, h2⟩ := sl.get e1
    exact ⟨p, vs, y, rfl, rfl, hH, by rw [← sl.length]; exact h1, q _ _ sl.dropLast h2⟩
theorem ok_pop0 : MutOk T rPopAt mPop0 := by
  intro g H p l ds l' z vs ws hH sl sw hu eh Q q
  match l, ds, eh, sw, sl with
  | d :: l, [.int 0], eh, sw, sl =>
    simp only [mPop0] at eh
    cases eh
    simp only [ShrL] at sw
    obtain ⟨y, _, rfl, sy, rfl⟩ := sw
    rw [shr_int.mp sy]
    simp only [ShrL] at sl
    obtain ⟨w, us, rfl, sd, sl⟩ := sl
    refine ⟨p, _, 0, 0, w, rfl, rfl, hH, by decide, by decide, ?_, rfl, q _ _ sl sd⟩
    simp [seqIndex?]
theorem intsOf_map {g : G} {H : Hp} : ∀ {l : List D} {ns : List Int} {vs : List V}, intsOf l = some ns → ShrL T g H l vs → vs = ns.map V.int ∧ l = ns.map D.int
  | [], ns, vs, e, s => by
    cases e
    simp only [ShrL] at s
    subst s
    exact ⟨rfl, rfl⟩
  | d :: r, ns, vs, e, s => by
    cases d <;> simp only [intsOf] at e <;> first | cases e | skip
    rename_i i
    obtain ⟨ms, e1, e2⟩ := Option.map_eq_some_iff.mp e
    subst e2
    simp only [ShrL] at s
    obtain ⟨v, us, rfl, sv, s⟩ := s
    obtain ⟨h1, h2⟩ := intsOf_map e1 s
    rw [shr_int.mp sv, h1, h2]
    exact ⟨rfl, rfl⟩
theorem shrL_int {g : G} {H : Hp} : ∀ ns : List Int, ShrL T g H (ns.map D.int) (ns.map V.int)
  | [] => .nil
  | n :: r => .cons (shr_int.mpr rfl) (shrL_int r)
theorem idx_no {ns : List Int} {k : Int} {m : Nat} (hm : m < ns.idxOf k) (hl : m < ns.length) (e : ns[m] = k) : False := by
  induction ns generalizing m with
  | nil => simp at hl
  | cons a r ih =>
    rw [List.idxOf_cons] at hm
    by_cases ha : a = k
    · rw [ha] at hm; simp at hm
    · have : (a == k) = false := by simp [ha]
      rw [this] at hm
      cases m with
      | zero => exact ha e
      | succ m => exact ih (by simpa using hm) (by simpa using hl) (by simpa using e)
theorem ok_remove : MutOk T rRemI mRemove := by
  intro g H p l ds l' z vs ws hH sl sw hu eh Q q
  match ds, eh, sw with
  | [.int k], eh, sw =>
    simp only [mRemove] at eh
    split at eh
    · rename_i ns en
      split at eh
      · rename_i hlt
        cases eh
        simp only [ShrL] at sw
        obtain ⟨y, _, rfl, sy, rfl⟩ := sw
        rw [shr_int.mp sy]
        obtain ⟨h1, h2⟩ := intsOf_map en sl
        refine ⟨p, ns, k, ns.idxOf k, rfl, rfl, by rw [← h1]; exact hH, ?_, fun m hm e => ?_, q _ _ (shrL_int _) (shr_non.mpr rfl)⟩
        · rw [List.getElem?_eq_getElem hlt, List.getElem_idxOf]
        · obtain ⟨hm2, e⟩ := List.getElem?_eq_some_iff.mp e
          exact idx_no hm hm2 e
      · cases eh
    · cases eh
end
end Q

/-! Calls with loose arguments; owned lists returned. -/
namespace Q
open PySem PySem.Spec PyProof.Rows L2
def ShrM (T : Th) (g : G) (H : Hp) : List Bool → List D → List V → Prop
  | _, [], vs => vs = []
  | bs, d :: ds, vs => ∃ v ws, vs = v :: ws ∧ (Shr T (if bs.headD false = true then g.bb else g) H d v) ∧ ShrM T g H bs.tail ds ws
def mdOf (b : Bool) : Md := if b = true then .l else .s
section
variable {T : Th} {g g' : G} {H H' : Hp}
theorem ShrM.length : ∀ {bs : List Bool} {ds : List D} {vs : List V}, ShrM T g H bs ds vs → ds.length = vs.length
  | _, [], _, h => by simp only [ShrM] at h; subst h; rfl
  | bs, d :: ds, vs, h => by
    simp only [ShrM] at h
    obtain ⟨v, ws, rfl, _, r⟩ := h
    simp only [List.length_cons, ShrM.length r]
theorem ShrM.get : ∀ {bs : List Bool} {ds : List D} {vs : List V} {i : Nat} {d : D}, ShrM T g H bs ds vs → ds[i]? = some d → ∃ v, vs[i]? = some v ∧ Shr T (if bs.getD i false = true then g.bb else g) H d v
  | _, [], _, _, _, _, e => by simp at e
  | bs, d :: ds, vs, i, d', h, e => by
    simp only [ShrM] at h
    obtain ⟨v, ws, rfl, q, r⟩ := h
    cases i with
    | zero =>
      simp at e; subst e
      refine ⟨v, rfl, ?_⟩
      cases bs <;> exact q
    | succ i =>
      obtain ⟨w, h1, h2⟩ := ShrM.get (i := i) r (by simpa using e)
      refine ⟨w, by simpa using h1, ?_⟩
      cases bs
      · simpa using h2
      · simpa using h2
theorem ShrM.stayE (f : FrE g H g' H') : ∀ {bs : List Bool} {ds : List D} {vs : List V}, ShrM T g H bs ds vs → ShrM T g' H' bs ds vs
  | _, [], _, h => by simpa only [ShrM] using h
  | bs, d :: ds, vs, h => by
    simp only [ShrM] at h ⊢
    obtain ⟨v, ws, e, q, r⟩ := h
    refine ⟨v, ws, e, ?_, ShrM.stayE f r⟩
    split
    · rename_i hb; rw [if_pos hb] at q; exact q.stay f.bb
    · rename_i hb; rw [if_neg hb] at q; exact q.stay f.stay
end
def GoodM (T : Th) (W : WX) (Γ : List Md) (bs : List Bool) (ρ : Env) (σ : L2.St) (g : G) (H : Hp) : RL → (List V → Hp → Prop) → Prop
  | .ok d S', Q => ∀ v g' H', Rel T g' Γ ρ S' σ H' → FrE g H g' H' → ShrM T g' H' bs d v → Q v H'
  | .exc x S', _ => ∀ c dd g' H', Rel T g' Γ ρ S' σ H' → FrE g H g' H' → ExcR T g' H' x c dd → W c dd σ H'
  | .no, _ => False
def tM (T : Th) (W : WX) (Γ : List Md) (bs : List Bool) (F : FL) : TA := fun σ H Q => ∃ g ρ S, Rel T g Γ ρ S σ H ∧ GoodM T W Γ bs ρ σ g H (F ρ S) Q
abbrev XM (X : Cx) (T : Th) (W : WX) (Γ : List Md) (bs : List Bool) (es : List Expr) (F : FL) : Prop := PA X es (tM T W Γ bs F)
section
variable {X : Cx} {T : Th} {W : WX} {Γ : List Md} {bs : List Bool}
theorem xm_nil : XM X T W Γ bs [] lNil := pa_imp pa_nil fun σ H Q ⟨g, ρ, S, R, hg⟩ => hg [] g H R (.refl g H) (by simp only [ShrM])
theorem xm_s {e : Expr} {es : List Expr} {A : FE} {B : FL} (ha : XE X T W Γ e A) (hb : XM X T W Γ bs es B) (hx : PE X e (tX T W Γ A) → PA X es (tM T W Γ bs B) → PA X (e :: es) (tCons (tX T W Γ A) (tM T W Γ bs B))) : XM X T W Γ (false :: bs) (e :: es) (lCons A B) := pa_imp (hx ha hb) fun σ H Q ⟨g, ρ, S, R, hg⟩ => by
  refine ⟨g, ρ, S, R, ?_⟩
  unfold lCons at hg
  cases e : A ρ S with
  | ok x S1 =>
    rw [e] at hg
    intro v g1 H1 R1 f1 s1
    refine ⟨g1, ρ, S1, R1, ?_⟩
    have hg : GoodM T W Γ (false :: bs) ρ σ g H (match B ρ S1 with | .ok xs S2 => .ok (x :: xs) S2 | .exc x S2 => .exc x S2 | .no => .no) Q := hg
    cases e2 : B ρ S1 with
    | ok xs S2 =>
      rw [e2] at hg
      exact fun vs g2 H2 R2 f2 s2 => hg (v :: vs) g2 H2 R2 (f1.trans f2) (by simp only [ShrM]; exact ⟨v, vs, rfl, s1.stay f2.stay, s2⟩)
    | exc y S2 => rw [e2] at hg; exact fun c dd g2 H2 R2 f2 s2 => hg c dd g2 H2 R2 (f1.trans f2) s2
    | no => rw [e2] at hg; exact hg
  | exc y S1 => rw [e] at hg; exact hg
  | no => rw [e] at hg; exact hg
theorem xm_l {e : Expr} {es : List Expr} {A : FE} {B : FL} (ha : XQ X T W Γ e A) (hb : XM X T W Γ bs es B) (hx : PE X e (tQ T W Γ A) → PA X es (tM T W Γ bs B) → PA X (e :: es) (tCons (tQ T W Γ A) (tM T W Γ bs B))) : XM X T W Γ (true :: bs) (e :: es) (lCons A B) := pa_imp (hx ha hb) fun σ H Q ⟨g, ρ, S, R, hg⟩ => by
  refine ⟨g, ρ, S, R, ?_⟩
  unfold lCons at hg
  cases e : A ρ S with
  | ok x S1 =>
    rw [e] at hg
    intro v g1 H1 R1 f1 s1
    refine ⟨g1, ρ, S1, R1, ?_⟩
    have hg : GoodM T W Γ (true :: bs) ρ σ g H (match B ρ S1 with | .ok xs S2 => .ok (x :: xs) S2 | .exc x S2 => .exc x S2 | .no => .no) Q := hg
    cases e2 : B ρ S1 with
    | ok xs S2 =>
      rw [e2] at hg
      exact fun vs g2 H2 R2 f2 s2 => hg (v :: vs) g2 H2 R2 (f1.trans f2) (by simp only [ShrM]; exact ⟨v, vs, rfl, s1.stay f2.bb, s2⟩)
    | exc y S2 => rw [e2] at hg; exact fun c dd g2 H2 R2 f2 s2 => hg c dd g2 H2 R2 (f1.trans f2) s2
    | no => rw [e2] at hg; exact hg
  | exc y S1 => rw [e] at hg; exact hg
  | no => rw [e] at hg; exact hg
theorem rel_argsM {g1 : G} {ρ : Env} {S1 : Store} {σ : L2.St} {H1 : Hp} {ds : List D} {vs : List V} {ms : List Md} (R1 : Rel T g1 Γ ρ S1 σ H1) (s : ShrM T g1 H1 bs ds vs) (hm : ∀ i, ms.getD i .s = mdOf (bs.getD i false)) : Rel T g1.callee ms (ds.map some) S1 (vs.map some) H1 := by
  refine R1.shift rfl rfl rfl rfl (fun a h => G.callee_U.mp h) (fun i j a h => h.elim) (fun i a h => h.elim) (fun a h => h) (fun i a h => h.elim) (by simp [s.length]) fun st i d e => ?_
  rw [List.getElem?_map] at e
  cases q : ds[i]? with
  | none => rw [q] at e; cases e
  | some d' =>
    rw [q] at e
    cases e
    obtain ⟨v, h1, h2⟩ := s.get q
    refine ⟨v, by rw [List.getElem?_map, h1]; rfl, ?_⟩
    rw [hm]
    unfold mdOf
    by_cases hb : bs.getD i false = true
    · rw [if_pos hb] at h2 ⊢
      have st2 : Stay g1.bb H1 g1.callee.bare H1 := ⟨fun _ _ h _ => h, fun a h => .inl (G.bb_U.mpr (by
        rcases h with h | ⟨j, h⟩ | h
        · exact h.elim
        · exact h.elim
        · exact h)), Nat.le_refl _, fun _ _ => rfl⟩
      exact h2.stay st2
    · rw [if_neg hb] at h2 ⊢
      exact h2.stay st
/-- the caller's rows behind a call, with what the call made -/
theorem call_fresh {g1 g' : G} {ρ : Env} {S1 S2 : Store} {σ : L2.St} {H1 H' : Hp} {Fo : Addr → Prop} {outs : Env} {ms : List Md} {vs : List V} (R1 : Rel T g1 Γ ρ S1 σ H1) (R' : Rel T (g'.plus Fo) ms outs S2 (vs.map some) H') (f' : FrS g1.callee H1 g' H') (nf : ∀ i a, ¬ g'.F i a)
    (ho : ∀ a, Fo a → ¬ g1.callee.O a ∧ (g1.callee.U a ∨ H1 a = none)) : Rel T ((g1.back g').plusF ρ.length Fo) Γ ρ S2 σ H' ∧ (∀ a, Fo a → ¬ (g1.back g').U a ∧ (g1.B a ∨ H1 a = none)) := by
  obtain ⟨R2, fe, hU⟩ := call_back R1 R' f' nf
  have eO : ∀ a, g'.O a ↔ (g1.O a ∨ ∃ i, g1.F i a) := fun a => by rw [f'.O]; exact Iff.rfl
  have out : ∀ a, Fo a → ¬ (g1.back g').U a ∧ (g1.B a ∨ H1 a = none) := fun a z => by
    obtain ⟨h1, h2⟩ := ho a z
    refine ⟨fun u => ?_, h2.imp (fun u => ?_) id⟩
    · rcases u with u | u | u
      · exact h1 (.inl u)
      · exact h1 (.inr u)
      · exact R'.dOB a (.inr z) u
    · rcases G.callee_U.mp u with u | u | u
      · exact absurd (.inl u) h1
      · exact absurd (.inr u) h1
      · exact u
  refine ⟨?_, out⟩
  have hU2 : ∀ a, ((g1.back g').plusF ρ.length Fo).U a → (g'.plus Fo).U a := fun a u => by
    rcases G.plusF_U.mp u with u | u
    · exact hU a u
    · exact G.plus_U.mpr (.inr u)
  have st : Stay g1 H1 ((g1.back g').plusF ρ.length Fo) H' := ⟨fun a o h hu => fe.stay.keep a o h hu, fun a u => by
    rcases G.plusF_U.mp u with u | u
    · exact fe.stay.own a u
    · exact (out a u).2.imp (fun z => .inr (.inr z)) id, fe.N, fe.μ⟩
  have stb : Stay g1.bare H1 ((g1.back g').plusF ρ.length Fo).bare H' := ⟨fun a o h hu => fe.bare.keep a o h hu, fun a u => by
    rcases u with u | ⟨j, u | u⟩ | u
    · exact u.elim
    · exact fe.bare.own a (.inr (.inl ⟨j, u⟩))
    · exact (out a u.2).2.imp (fun z => .inr (.inr z)) id
    · exact fe.bare.own a (.inr (.inr u)), fe.N, fe.μ⟩
  refine ⟨R1.len, fun i d e => ?_, fun i j a h h' => ?_, fun i a h u => ?_, fun i a h u => ?_, fun a h => R2.dOB a h, fun a h => R'.dom a (hU2 a h), R'.st.keep (stay_iff hU2 rfl rfl) (fun _ _ _ h => h) rfl rfl rfl fun _ _ => rfl, fun a h => R'.nt a (hU2 a h)⟩
  · obtain ⟨v, h1, h2⟩ := R1.slot i d e
    refine ⟨v, h1, ?_⟩
    cases hm : Γ.getD i .s <;> rw [hm] at h2 <;> simp only [RepM] at h2 ⊢
    · exact h2.stay st
    · exact Own.wide _ _ _ _ _ (fun a z => .inl z) (Own.keepF st _ _ _ _ (fun a o z q => fe.keep a o q (R1.dFB i a z)) h2)
    · exact Own.keepF st _ _ _ _ (fun a o z q => fe.keep a o q (R1.dOB a z)) h2
    · refine ⟨h2.1.trans (by show g1.P i = g'.P i; rw [f'.P]; rfl), ?_⟩
      exact Own.wide _ _ _ _ _ (fun a z => .inl z) (Own.keepF st _ _ _ _ (fun a o z q => fe.keep a o q (R1.dFB i a z)) h2.2)
    · exact h2
    · exact h2.stay stb
  · rcases h with h | h <;> rcases h' with h' | h'
    · exact R1.dF i j a h h'
    · exact absurd (.inr (.inl ⟨i, h⟩)) (out a h'.2).1
    · exact absurd (.inr (.inl ⟨j, h'⟩)) (out a h.2).1
    · rw [h.1, h'.1]
  · rcases h with h | h
    · exact R1.dFO i a h u
    · exact (out a h.2).1 (.inl u)
  · rcases h with h | h
    · exact R2.dFB i a h u
    · exact (out a h.2).1 (.inr (.inr u))
/-- a call; what it makes is the caller's -/
theorem xf_callM {k n : Nat} {f : Addr} {fd : FuncData} {ps : List Str} {sg : Sig} {Φ : FF} {e : Expr} {es : List Expr} {A : FL} (F : FnOk X.prog X.w X.K X.mg X.base (L2.CX X.prog X.w) k f fd ps (spD T n sg Φ)) (hm : ∀ i, sg.ms.getD i .s = mdOf (bs.getD i false)) (hA : ∀ ρ S ds S1, A ρ S = .ok ds S1 → ds.length = n)
    (ha : XM X T W Γ bs es A) (he : PA X es (tM T W Γ bs A) → PE X e (tCallS (spD T n sg Φ) (WE W) (tM T W Γ bs A))) : XF X T W Γ sg.kr e (eCall Φ A) := pe_imp (he ha) fun σ H Q ⟨g, ρ, S, R, hg⟩ => by
  refine ⟨g, ρ, S, R, ?_⟩
  unfold eCall at hg
  cases ea : A ρ S with
  | exc x S1 => rw [ea] at hg; exact hg
  | no => rw [ea] at hg; exact hg
  | ok ds S1 =>
    rw [ea] at hg
    intro vs g1 H1 R1 f1 s1
    have hg : GoodN T W Γ sg.kr ρ σ g H (match Φ ds S1 with | .ok d _ S2 => .ok d S2 | .exc x _ S2 => .exc x S2 | .no => .no) Q := hg
    refine ⟨by rw [← s1.length]; exact hA ρ S ds S1 ea, g1.callee, ds, S1, rel_argsM R1 s1 hm, ?_⟩
    have npin : ∀ (i k : Nat), sg.ms.getD i .s ≠ .p k := fun i k h => by
      rw [hm] at h
      unfold mdOf at h
      split at h <;> cases h
    cases ef : Φ ds S1 with
    | no => rw [ef] at hg; exact hg
    | ok d outs S2 =>
      rw [ef] at hg
      intro v g' H' Fo R' f' nf ho hw
      have nf' : ∀ i a, ¬ g'.F i a := fun i a z => by
        obtain ⟨k, e⟩ := nf i a z
        exact npin i k e
      obtain ⟨R2, f2, hU⟩ := call_back R1 R' f' nf'
      obtain ⟨R3, out⟩ := call_fresh R1 R' f' nf' ho
      refine hg v (g1.back g') H' Fo R3 (f1.trans f2) (fun a z => ⟨(out a z).1, ?_⟩) ?_
      · rcases (out a z).2 with w | w
        · exact f1.B a w
        · exact f1.none w
      · have st : Stay (g'.plus Fo) H' ((g1.back g').plusF ρ.length Fo) H' := ⟨fun _ _ h _ => h, fun a h => .inl (by
          rcases G.plusF_U.mp h with h | h
          · exact hU a h
          · exact G.plus_U.mpr (.inr h)), Nat.le_refl _, fun _ _ => rfl⟩
        exact Own.keepF st _ _ _ _ (fun _ _ _ q => q) hw
    | exc x outs S2 =>
      rw [ef] at hg
      intro c dd g' H' R' f' nf ex
      have nf' : ∀ i a, ¬ g'.F i a := fun i a z => by
        obtain ⟨k, e⟩ := nf i a z
        exact npin i k e
      obtain ⟨R2, f2, hU⟩ := call_back R1 (plus_none R') f' nf'
      refine hg c dd (g1.back g') H' R2 (f1.trans f2) ?_
      obtain ⟨e0, e1, e2⟩ := ex
      refine ⟨e0, e1, e2.imp id fun ⟨d, fs, h1, h2, h3, h4, h5⟩ => ⟨d, fs, h1, h2, h3, h4, ?_⟩⟩
      have st : Stay g' H' (g1.back g') H' := ⟨fun _ _ h _ => h, fun a h => .inl (by
        rcases hU a h with (h | h) | h | h
        · exact .inl h
        · exact h.elim
        · exact .inr (.inl h)
        · exact .inr (.inr h)), Nat.le_refl _, fun _ _ => rfl⟩
      exact ShrL.stay st _ _ h5
/-! ### returns of what is owned -/
theorem xs_retF {J : Jd} {Γ' : List Md} {e : Expr} {A : FE} {st : Stmt} (hx : J.ΓX Γ) (hr : J.ΓR Γ) (ha : XF X T J.W Γ J.kr e A) (he : PE X e (tN T J.W Γ J.kr A) → PS X st (tRet (tN T J.W Γ J.kr A))) : XS X T J Γ Γ' st (fRet A) := ps_imp (he ha) fun D σ H ⟨g, ρ, S, R, h⟩ => by
  refine ⟨g, ρ, S, R, ?_⟩
  unfold fRet at h
  cases r : A ρ S with
  | no => rw [r] at h; exact h
  | exc x S1 => rw [r] at h; exact fun c dd g' H' R' f e => h Γ c dd σ g' H' hx R' (f.frs R.dOB) e
  | ok d S1 =>
    rw [r] at h
    intro v g' H' Fo R' f ho hw
    have st2 : Stay (g'.plusF ρ.length Fo) H' (g'.plus Fo) H' := ⟨fun _ _ h _ => h, fun a h => .inl (G.plusF_U.mpr (G.plus_U.mp h)), Nat.le_refl _, fun _ _ => rfl⟩
    refine h Γ v σ g' H' Fo hr ?_ (f.frs R.dOB) (fun a z => ⟨fun u => (ho a z).1 (.inl (by rw [f.O]; exact u)), (ho a z).2.imp (fun z => .inr (.inr z)) id⟩) (Own.keepF st2 _ _ _ _ (fun _ _ _ q => q) hw)
    refine R'.shift rfl rfl rfl rfl (fun a h => G.plusF_U.mpr (G.plus_U.mp h)) (fun i j a h h' => R'.dF i j a (.inl h) (.inl h')) (fun i a h u => ?_) (fun a h => ?_) (fun i a h => .inl ⟨i, .inl h⟩) R'.len fun st i d' e => ?_
    · rcases u with u | u
      · exact R'.dFO i a (.inl h) u
      · exact (ho a u).1 (.inr (.inl ⟨i, h⟩))
    · rcases h with h | h
      · exact .inl h
      · exact .inr ⟨ρ.length, .inr ⟨rfl, h⟩⟩
    · obtain ⟨w, h1, h2⟩ := R'.slot i d' e
      have hi : i < ρ.length := (List.getElem?_eq_some_iff.mp e).1
      exact ⟨w, h1, h2.stay st (fun a z => z.elim id fun z => absurd z.1 (by omega)) (fun a z => .inl z) rfl (bare_sub rfl rfl (fun i a z => ⟨i, .inl z⟩) fun _ z => z)⟩
theorem xs_retV {J : Jd} {Γ' : List Md} {i k : Nat} {st : Stmt} (hr : ∀ v, J.ΓR (Γ.set i (.e v))) (hi : i < Γ.length) (hm : Γ.getD i .s = .o k) (hk : J.kr = k) (he : PS X st (tRet (tVar i))) : XS X T J Γ Γ' st (fRet (eVar i)) := ps_imp he fun D σ H ⟨g, ρ, S, R, h⟩ => by
  have h : GoodS T J Γ' g H ((match ρ[i]? with | some (some d) => RE.ok d S | _ => .no).bindS ρ fun d S1 => .rt d ρ S1) D := h
  split at h
  · rename_i d e
    obtain ⟨v, h1, h2⟩ := R.slot i d e
    refine ⟨v, h1, ?_⟩
    rw [hm] at h2
    have hU : ∀ a, ((g.drop i).plus (g.F i)).U a → g.U a := fun a u => by
      rcases G.plus_U.mp u with u | u
      · exact G.drop_U u
      · exact .inr (.inl ⟨i, u⟩)
    have st2 : Stay g H ((g.drop i).plus (g.F i)) H := ⟨fun _ _ h _ => h, fun a u => .inl (hU a u), Nat.le_refl _, fun _ _ => rfl⟩
    refine h (Γ.set i (.e v)) v σ (g.drop i) H (g.F i) (hr v) ?_ .drop (fun a z => ⟨R.dFO i a z, .inl (.inr (.inl ⟨i, z⟩))⟩) (by rw [hk]; exact Own.keepF st2 _ _ _ _ (fun _ _ _ q => q) h2)
    refine R.shift rfl rfl rfl rfl hU (fun j k a h h' => R.dF j k a h.2 h'.2) (fun j a h u => ?_) (fun a h => h.imp id fun z => ⟨i, z⟩) (fun j a h => .inl ⟨j, h.2⟩) R.len fun st j d' e => ?_
    · rcases u with u | u
      · exact R.dFO j a h.2 u
      · exact h.1 (R.dF j i a h.2 u)
    · obtain ⟨w, q1, q2⟩ := R.slot j d' e
      refine ⟨w, q1, ?_⟩
      by_cases hj : i = j
      · subst hj
        rw [getD_set_self hi]
        rw [h1] at q1
        cases q1
        rfl
      · rw [getD_set_ne hj]
        exact q2.stay st (fun a z => ⟨fun q => hj q.symm, z⟩) (fun a z => .inl z) rfl (bare_sub rfl rfl (fun i a z => ⟨i, z.2⟩) fun _ z => z)
  · exact h.elim
/-! ### for the printer -/
theorem xq_varO {i k : Nat} {e : Expr} (he : PE X e (tVar i)) (hm : Γ.getD i .s = .o k) : XQ X T W Γ e (eVar i) := xq_var he fun v h => by rw [hm] at h; cases h
theorem xq_varL {i : Nat} {e : Expr} (he : PE X e (tVar i)) (hm : Γ.getD i .s = .l) : XQ X T W Γ e (eVar i) := xq_var he fun v h => by rw [hm] at h; cases h
def noPin (m : Md) : Bool := match m with
  | .p _ => false
  | _ => true
theorem gp_n {ms : List Md} {Γ : List Md} (h : ms.all noPin = true) : ΓP ms Γ := fun i k e => by
  have : ms.getD i .s ∈ ms ∨ ms.getD i .s = .s := by
    by_cases hi : i < ms.length
    · left; simp [List.getD, hi]
    · right; simp [List.getD, List.getElem?_eq_none (Nat.le_of_not_lt hi)]
  rcases this with h2 | h2
  · have := List.all_eq_true.mp h _ h2
    rw [e] at this
    cases this
  · rw [e] at h2; cases h2
theorem mdOf_rows {ms : List Md} {bs : List Bool} (h : ms = bs.map mdOf) : ∀ i, ms.getD i .s = mdOf (bs.getD i false) := fun i => by
  subst h
  by_cases hi : i < bs.length
  · simp [List.getD, hi]
  · simp [List.getD, List.getElem?_eq_none (Nat.le_of_not_lt hi)]
    rfl
end
section
variable {P : Program} {w : World} {K : PySem.W.Frag} {mg : Str → Option Value} {base : Heap} {T : Th}
/-- the rule of a def, its first rows given -/
theorem fn_okG {x qual : Str} {st : Stmt} {f : Addr} {fd : FuncData} {N ps : List Str} {k n : Nat} {sg : Sig} {B : FS} {Γ0 Γ' : List Md} (F : Fun K x qual st f fd) (Sc : FnScope N ps (defScope st)) (hn : ps.length = n) (hN : n ≤ N.length) (h0 : sg.ms ++ List.replicate (N.length - sg.ms.length) .s = Γ0)
    (hp : sg.ms.all noPin = true)
    (hbody : ∀ (cdv : Value) (A : Around) (outer : List PySem.Env) (s : Shared) (H : Hp) (E : XK), Room k (A.deeper (envOfC qual (defScope st) s.heap.objs.size f cdv)) →
      XB (cxOf (L2.CX P w) P w K mg base N qual (defScope st) f cdv A outer s H E) T (jdF sg.ms sg.kr E) Γ0 Γ' (defBody st) B) :
    FnOk P w K mg base (L2.CX P w) (k + 1) f fd ps (spD T n sg (fBody N.length n sg.ms B)) := fn_ok F Sc hn hN (fun cdv A outer s H E hr => by rw [h0]; exact hbody cdv A outer s H E hr) (gp_n hp)
end
end Q

/-! Comprehensions whose list is owned; y = [..]. -/
namespace Q
open PySem PySem.Spec PyProof.Rows L2
section
variable {X : Cx} {T : Th} {W : WX} {Γ : List Md}
theorem Rel.carryF {g g' : G} {ρ : Env} {S S' : Store} {σ : L2.St} {H H' : Hp} {Fo : Addr → Prop} (R : Rel T g Γ ρ S σ H) (f : FrE g H g' H') (hf : ∀ a, Fo a → g.B a ∨ H a = none) (j : Dj T (g'.plusF ρ.length Fo) S' H') : Rel T (g'.plusF ρ.length Fo) Γ ρ S' σ H' := by
  refine ⟨R.len, fun i d e => ?_, j.dF, j.dFO, j.dFB, j.dOB, j.dom, j.st, j.nt⟩
  have st : Stay g H (g'.plusF ρ.length Fo) H' := ⟨fun a o h hu => f.stay.keep a o h hu, fun a u => by
    rcases G.plusF_U.mp u with u | u
    · exact f.stay.own a u
    · exact (hf a u).imp (fun z => .inr (.inr z)) id, f.N, f.μ⟩
  have stb : Stay g.bare H (g'.plusF ρ.length Fo).bare H' := ⟨fun a o h hu => f.bare.keep a o h hu, fun a u => by
    rcases u with u | ⟨j, u | u⟩ | u
    · exact u.elim
    · exact f.bare.own a (.inr (.inl ⟨j, u⟩))
    · exact (hf a u.2).imp (fun z => .inr (.inr z)) id
    · exact f.bare.own a (.inr (.inr u)), f.N, f.μ⟩
  obtain ⟨v, h1, h2⟩ := R.slot i d e
  refine ⟨v, h1, ?_⟩
  have wF : ∀ a, g.F i a → (g'.plusF ρ.length Fo).F i a := fun a z => .inl (by rw [f.F]; exact z)
  cases hm : Γ.getD i .s <;> rw [hm] at h2 <;> simp only [RepM] at h2 ⊢
  · exact h2.stay st
  · exact Own.wide _ _ _ _ _ wF (Own.keepF st _ _ _ _ (fun a o z q => f.keep a o q (R.dFB i a z)) h2)
  · have := Own.keepF st _ _ _ _ (fun a o z q => f.keep a o q (R.dOB a z)) h2
    exact Own.wide _ _ _ _ _ (fun a z => by show g'.O a; rw [f.O]; exact z) this
  · exact ⟨h2.1.trans (by show g.P i = g'.P i; rw [f.P]), Own.wide _ _ _ _ _ wF (Own.keepF st _ _ _ _ (fun a o z q => f.keep a o q (R.dFB i a z)) h2.2)⟩
  · exact h2
  · exact h2.stay stb
theorem lc_rd {vs : List Nat} {Γb : List Md} {is : List Nat} {t : TG} {tf : D → Env → Option Env} {FI : FL} {C E : FE} (his : ∀ j, j ∈ is → j ∈ vs) (ht : TgOk T Γ Γb is t tf) (σ : L2.St) (H : Hp) (Q : VK) (hh : tN T W Γ 1 (eLc FI vs tf C E) σ H Q) :
    tLc (tI T W Γ FI) t (tXT T (fun _ _ _ _ => False) Γb C) (tX T (fun _ _ _ _ => False) Γb E) vs σ H Q := by
  obtain ⟨g, ρ, S, R, h⟩ := hh
  refine ⟨g, ρ, S, R, ?_⟩
  unfold eLc at h
  cases e : FI ρ S with
  | exc x S1 => rw [e] at h; exact h
  | no => rw [e] at h; exact h
  | ok ds S1 =>
    rw [e] at h
    intro It1 g1 H1 R1 f1 io p hp
    have h : GoodN T W Γ 1 ρ σ g H (match lcL tf C E ds (wipeE ρ vs) S1 with | .ok ys S2 => if ds.length ≤ 1000000 then RE.ok (.lst ys) S2 else .no | _ => .no) Q := h
    split at h
    · rename_i ys Sf el
      split at h
      · rename_i hlen
        have Rl := R1.lend vs
        have hpO : ∀ a, a = p → (g1.lend vs).U a → False := fun a ha u => by
          obtain ⟨o, q⟩ := Rl.dom a u
          rw [ha, hp] at q; cases q
        have Dp : Dj T ((g1.lend vs).plus (· = p)) S1 (upd H1 p (.lst [])) := by
          have st : Stay (g1.lend vs) (upd H1 p (.lst [])) ((g1.lend vs).plus (· = p)) (upd H1 p (.lst [])) → True := fun _ => trivial
          have e1 := Rl.ex (Exx.new (o := HO.lst []) hp)
          refine ⟨e1.dF, fun i a z w => w.elim (e1.dFO i a z) fun w => hpO a w (.inr (.inl ⟨i, z⟩)), e1.dFB, fun a w z => w.elim (fun w => e1.dOB a w z) fun w => hpO a w (.inr (.inr z)), fun a u => ?_, ?_, fun a u w r => ?_⟩
          · rcases u with (u | u) | u | u
            · exact e1.dom a (.inl u)
            · exact ⟨_, by rw [u]; exact upd_same⟩
            · exact e1.dom a (.inr (.inl u))
            · exact e1.dom a (.inr (.inr u))
          · refine Rl.st.keep (g' := (g1.lend vs).plus (· = p)) ⟨fun a o q _ => Exx.new hp a o q, fun a u => ?_, Nat.le_refl _, fun _ _ => rfl⟩ (fun a o _ q => Exx.new hp a o q) rfl rfl rfl fun _ _ => rfl
            rcases u with (u | u) | u | u
            · exact .inl (.inl u)
            · exact .inr (by rw [u]; exact hp)
            · exact .inl (.inr (.inl u))
            · exact .inl (.inr (.inr u))
          · by_cases ha : a = p
            · subst ha
              rcases r with r | ⟨b, r⟩
              · rw [upd_same] at r; cases r
              · rw [upd_same] at r; cases r
            · refine e1.nt a ?_ w r
              rcases u with (u | u) | u | u
              · exact .inl u
              · exact absurd u ha
              · exact .inr (.inl u)
              · exact .inr (.inr u)
        refine ⟨LcW T Γ vs tf C E g1 H1 ρ σ ds ys Sf p, ⟨ds.length, ⟨g1.lend vs, S1, [], [], ys, .ex (Exx.new hp), Dp, upd_same, .nil, by simp, Nat.zero_le _, Nat.zero_le _, by rw [List.drop_zero]; exact el, rfl⟩⟩, ?_⟩
        rintro i m H' ⟨g0, Si, vacc, acc, rest, fr, dj, hacc, sacc, em, hi', ha, hl, hy⟩
        have fO : ∀ a, a = p → H1 a = none := fun a z => by rw [z]; exact hp
        have Rw : Rel T (g0.plus (· = p)) Γ (wipeE ρ vs) Si (wipe σ vs) H' := Rl.carry fr fO dj
        have st0 : Stay g1 H1 g0 H' := ⟨fun a o q hu => fr.stay.keep a o q fun z => hu (G.lend_U.mp z), fun a u => (fr.stay.own a u).imp G.lend_U.mp id, fr.N, fr.μ⟩
        obtain ⟨i1, i2⟩ := io g0 H' i st0
        by_cases hlt : i < ds.length
        · refine .inr ?_
          obtain ⟨d, hd⟩ : ∃ d, ds[i]? = some d := ⟨ds[i], List.getElem?_eq_getElem hlt⟩
          have stp : Stay g1 H1 (g0.plus (· = p)) H' := ⟨st0.keep, fun a u => by
            rcases u with (u | u) | u | u
            · exact st0.own a (.inl u)
            · exact .inr (fO a u)
            · exact st0.own a (.inr (.inl u))
            · exact st0.own a (.inr (.inr u)), st0.N, st0.μ⟩
          obtain ⟨_, i2⟩ := io (g0.plus (· = p)) H' i stp
          obtain ⟨go, yl⟩ := i2 d hd
          refine ⟨go, fun H2 => ∃ m', m' < m ∧ LcW T Γ vs tf C E g1 H1 ρ σ ds ys Sf p (i + 1) m' H2, fun H2 ⟨m', l, w⟩ => ⟨m', l, w⟩, fun x H2 y => ?_⟩
          obtain ⟨ex, sx⟩ := yl x H2 y
          have R2 := Rw.ex ex
          have ed : ds.drop i = d :: ds.drop (i + 1) := by
            rw [List.drop_eq_getElem_cons hlt]
            rw [List.getElem?_eq_getElem hlt] at hd
            rw [Option.some.inj hd]
          rw [ed, lcL] at hl
          split at hl
          · cases hl
          · rename_i ρ1 e1
            refine ht _ _ ρ1 Si _ H2 d x _ R2 sx e1 fun σ3 R3 l3 k3 => ⟨(wipe_get (is := is) l3 k3 his).trans wipe_wipe, _, ρ1, Si, R3, ?_⟩
            have fO2 : ∀ (g4 : G) (H4 : Hp), FrE ((g0.plus (· = p)).drops is) H2 g4 H4 → FrE (g1.lend vs) H1 { g4 with O := g0.O, F := g0.F } H4 ∧ ({ g4 with O := g0.O, F := g0.F } : G).plus (· = p) = g4 := fun g4 H4 f4 => by
              refine ⟨(fr.trans (.ex ex)).trans (f4.swap (g2 := g0) rfl rfl rfl rfl), ?_⟩
              have eO := f4.O
              have eF := f4.F
              obtain ⟨N4, μ4, O4, F4, B4, BF4, P4⟩ := g4
              simp only at eO eF
              subst eO eF
              show G.mk N4 μ4 (fun a => g0.O a ∨ a = p) g0.F B4 BF4 P4 = G.mk N4 μ4 (fun a => g0.O a ∨ a = p) (fun j a => j ∉ is ∧ g0.F j a) B4 BF4 P4
              congr 1
              funext j a
              rw [fr.F]
              exact propext ⟨fun z => ⟨fun w => z.1 (his j w), z⟩, fun z => z.2⟩
            have kp : ∀ (g4 : G) (H4 : Hp), FrE ((g0.plus (· = p)).drops is) H2 g4 H4 → g4.O p ∧ H4 p = some (.lst vacc) := fun g4 H4 f4 =>
              ⟨by rw [f4.O]; exact .inr rfl, f4.keep p _ (ex p _ hacc) (dj.dOB p (.inr rfl))⟩
            have sk : ∀ (g4 : G) (H4 : Hp), FrE ((g0.plus (· = p)).drops is) H2 g4 H4 → ShrL T g4 H4 acc vacc := fun g4 H4 f4 =>
              ShrL.stay (((Stay.ex ex).trans FrS.drops.stay).trans f4.stay) _ _ sacc
            split at hl
            · rename_i S2 ec
              rw [ec]
              refine ⟨true, rfl, fun g2 H3 R4 f3 => ?_⟩
              refine iteT ⟨g2, ρ1, S2, R4, ?_⟩
              split at hl
              · rename_i y2 S3 ey
                rw [ey]
                intro v g4 H4 R5 f4 s4
                have f34 := f3.trans f4
                obtain ⟨pO, pH⟩ := kp g4 H4 f34
                obtain ⟨fa, fe⟩ := fO2 g4 H4 f34
                have sa := sk g4 H4 f34
                split at hl
                · rename_i ys' S4 ely
                  cases hl
                  refine ⟨vacc, pH, by rw [← sa.length]; exact sz_lt6 (by omega), ds.length - (i + 1), by omega, ⟨{ g4 with O := g0.O, F := g0.F }, S3, vacc ++ [v], acc ++ [y2], ys', fa.upd hp, ?_, upd_same, ?_, rfl, hlt, by rw [List.length_append]; simp; omega, ely, by rw [hy, List.append_assoc]; rfl⟩⟩
                  · rw [fe]; exact R5.dj.write (fun _ => ⟨nofun, fun _ => nofun⟩) pO
                  · rw [fe]
                    have stw : Stay g4 H4 g4 (upd H4 p (.lst (vacc ++ [v]))) := ⟨fun a u h hu => by rw [upd_ne (fun z => hu (.inl (by rw [z]; exact pO)))]; exact h, fun _ h => .inl h, Nat.le_refl _, fun _ _ => rfl⟩
                    exact ShrL.append (sa.stay stw) ((ShrL.cons s4 .nil).stay stw)
                · cases hl
              · cases hl
            · rename_i S2 ec
              rw [ec]
              refine ⟨false, rfl, fun g2 H3 R4 f3 => iteF ?_⟩
              obtain ⟨pO, pH⟩ := kp g2 H3 f3
              obtain ⟨fa, fe⟩ := fO2 g2 H3 f3
              exact ⟨ds.length - (i + 1), by omega, ⟨{ g2 with O := g0.O, F := g0.F }, S2, vacc, acc, rest, fa, by rw [fe]; exact R4.dj, pH, by rw [fe]; exact sk g2 H3 f3, rfl, hlt, by omega, hl, hy⟩⟩
            · cases hl
        · have e1 : i = ds.length := by omega
          subst e1
          refine .inl ⟨i1 (Nat.le_refl _), ?_⟩
          rw [List.drop_length, lcL] at hl
          cases hl
          rw [List.append_nil] at hy
          subst hy
          have ff : FrE g1 H1 { g0 with O := g1.O, F := g1.F } H' := fr.swap (g2 := g1) rfl rfl rfl rfl
          have uu : ∀ a, ({ g0 with O := g1.O, F := g1.F } : G).U a → (g0.plus (· = p)).U a := fun a u => by
            rcases u with u | ⟨j, u⟩ | u
            · exact .inl (.inl (by rw [fr.O]; exact .inl u))
            · by_cases hj : j ∈ vs
              · exact .inl (.inl (by rw [fr.O]; exact .inr ⟨j, hj, u⟩))
              · exact .inr (.inl ⟨j, by rw [show (g0.plus (· = p)).F = g0.F from rfl, fr.F]; exact ⟨hj, u⟩⟩)
            · exact .inr (.inr u)
          have dOB' : ∀ a, (g1.O a ∨ ∃ j, g1.F j a) → ¬ g0.B a := fun a u z => by
            have := uu a (u.elim .inl fun w => .inr (.inl w))
            rcases fr.B a z with w | w
            · exact u.elim (fun q => R1.dOB a q w) fun ⟨j, q⟩ => R1.dFB j a q w
            · obtain ⟨o, q⟩ := R1.dom a (u.elim .inl fun q => .inr (.inl q))
              rw [w] at q; cases q
          have stf : Stay (g0.plus (· = p)) H' { g0 with O := g1.O, F := g1.F } H' := ⟨fun _ _ h _ => h, fun a u => .inl (uu a u), Nat.le_refl _, fun _ _ => rfl⟩
          have np : ¬ ({ g0 with O := g1.O, F := g1.F } : G).U p := fun u => by
            rcases u with u | u | u
            · obtain ⟨o, q⟩ := R1.dom p (.inl u)
              rw [hp] at q; cases q
            · obtain ⟨o, q⟩ := R1.dom p (.inr (.inl u))
              rw [hp] at q; cases q
            · exact dj.dOB p (.inr rfl) u
          have uu2 : ∀ a, (({ g0 with O := g1.O, F := g1.F } : G).plusF ρ.length (· = p)).U a → (g0.plus (· = p)).U a := fun a u => (G.plusF_U.mp u).elim (uu a) fun w => .inl (.inr w)
          have stf2 : Stay (g0.plus (· = p)) H' (({ g0 with O := g1.O, F := g1.F } : G).plusF ρ.length (· = p)) H' := ⟨fun _ _ h _ => h, fun a u => .inl (uu2 a u), Nat.le_refl _, fun _ _ => rfl⟩
          have djf : Dj T (({ g0 with O := g1.O, F := g1.F } : G).plusF ρ.length (· = p)) Sf H' := by
            refine ⟨fun i j a h h' => ?_, fun i a h u => ?_, fun i a h u => ?_, fun a u z => dOB' a (.inl u) z, fun a u => dj.dom a (uu2 a u), dj.st.keep stf2 (fun _ _ _ q => q) rfl rfl rfl fun _ _ => rfl, fun a u => dj.nt a (uu2 a u)⟩
            · rcases h with h | h <;> rcases h' with h' | h'
              · exact R1.dF i j a h h'
              · exact absurd (.inr (.inl ⟨i, by rw [← h'.2]; exact h⟩)) np
              · exact absurd (.inr (.inl ⟨j, by rw [← h.2]; exact h'⟩)) np
              · rw [h.1, h'.1]
            · rcases h with h | h
              · exact R1.dFO i a h u
              · exact np (.inl (by rw [← h.2]; exact u))
            · rcases h with h | h
              · exact dOB' a (.inr ⟨i, h⟩) u
              · exact dj.dOB a (.inr h.2) u
          refine h (.ref p) _ H' (· = p) (R1.carryF ff (fun a z => .inr (by rw [z]; exact hp)) djf) (f1.trans ff) (fun a z => ⟨by rw [z]; exact np, ?_⟩) (own1_lst.mpr ⟨p, vacc, rfl, rfl, hacc, ShrL.stay stf2 _ _ sacc⟩)
          rw [z]; exact f1.none hp
      · exact h.elim
    · exact h.elim
theorem tn_of {k : Nat} {F : FE} {σ : L2.St} {H : Hp} {Q : VK} (h : tX T W Γ F σ H Q) : tN T W Γ k F σ H Q := by
  obtain ⟨g, ρ, S, R, hg⟩ := h
  refine ⟨g, ρ, S, R, ?_⟩
  cases r : F ρ S with
  | ok d S1 =>
    rw [r] at hg
    exact fun v g' H' Fo R' f' ho hw => hg v g' H' R'.unplus f' (shr_of_own2 stay_unplus k Fo d v (fun a z => (ho a z).1) hw)
  | exc x S1 => rw [r] at hg; exact hg
  | no => rw [r] at hg; exact hg
theorem xf_lc {elt tg iter : Expr} {ifs : List Expr} {scope : Scope} {own : List (Str × Nat)} {pos : Pos} {Γb : List Md} {is : List Nat} {t : TG} {tf : D → Env → Option Env} {FI : FL} {C E : FE} (hc : X.calm = true) (hN : X.N.Nodup) (hi : XI X T W Γ tg iter FI)
    (ok : BlkOk X.N X.env.scope scope own) (his : ∀ j, j ∈ is → j ∈ own.map (·.2))
    (hg : ∀ (s : Shared) (H : Hp) (C : Addr) (cl : List (Str × Addr)) (fp : List Addr), PG (X.blk s H scope (compEnvC scope cl C X.env) fp) tg t) (ht : TgOk T Γ Γb is t tf)
    (hts : ∀ (s : Shared) (H : Hp) (D : Addr) (cl : List (Str × Addr)) (fp : List Addr), XTs (X.blk s H scope (compEnvC scope cl D X.env) fp) T (fun _ _ _ _ => False) Γb ifs C)
    (he : ∀ (s : Shared) (H : Hp) (D : Addr) (cl : List (Str × Addr)) (fp : List Addr), XE (X.blk s H scope (compEnvC scope cl D X.env) fp) T (fun _ _ _ _ => False) Γb elt E) (hs : ∀ x, foldedSetIterable iter X.env x = pure x := by intro _; rfl) :
    XF X T W Γ 1 (.ListComp elt [⟨tg, iter, ifs, 0⟩] scope pos) (eLc FI (own.map (·.2)) tf C E) := pe_imp (pe_lc hc hN hi ok hg hts he hs) fun σ H Q h => lc_rd his ht σ H Q h
/-- y = [..] -/
theorem ps_lcX {i : Nat} {st : Stmt} {k : Nat} {vs : List Nat} {Γb : List Md} {is : List Nat} {t : TG} {tf : D → Env → Option Env} {FI : FL} {C E : FE} (his : ∀ j, j ∈ is → j ∈ vs) (ht : TgOk T Γ Γb is t tf)
    (h : PS X st (tAsg (tLc (tI T W Γ FI) t (tXT T (fun _ _ _ _ => False) Γb C) (tX T (fun _ _ _ _ => False) Γb E) vs) (gName i))) : PS X st (tAsg (tN T W Γ 1 (eLc FI vs tf C E)) (gName i)) := ps_imp h fun D σ H q => lc_rd his ht σ H _ q
theorem ps_lcS {i : Nat} {st : Stmt} {F : FE} (h : PS X st (tAsg (tN T W Γ 1 F) (gName i))) : PS X st (tAsg (tX T W Γ F) (gName i)) := ps_imp h fun D σ H q => tn_of q
theorem xs_setP {J : Jd} {Γ' : List Md} {i : Nat} {A : FE} {st : Stmt} (hx : J.ΓX Γ) (he : PS X st (tAsg (tX T J.W Γ A) (gName i))) (hΓ : Γ.set i .s = Γ') : XS X T J Γ Γ' st (fSet i A) := ps_imp he fun D σ H ⟨g, ρ, S, R, h⟩ =>
  ⟨g, ρ, S, R, good_bindS R hx h fun d S1 v g1 H1 _ R1 f1 s1 h1 => h1 _ (g1.drop i) H1 (by rw [← hΓ]; exact R1.set s1) .drop⟩
end
end Q

/-! sorted(set(..)), sorted(..), and more of the built-in functions. -/
namespace Q
open PySem PySem.Spec PyProof.Rows L2
/-! ### sorted without doubles -/
def insU (x : Int) : List Int → List Int
  | [] => [x]
  | y :: r => if x < y then x :: y :: r else if x = y then y :: r else y :: insU x r
def usort : List Int → List Int
  | [] => []
  | x :: r => insU x (usort r)
theorem insU_mem {x z : Int} : ∀ {l : List Int}, z ∈ insU x l ↔ z = x ∨ z ∈ l
  | [] => by simp [insU]
  | y :: r => by
    unfold insU
    split
    · simp
    · split
      · rename_i h; subst h; simp
      · simp only [List.mem_cons, insU_mem (l := r)]
        constructor
        · rintro (h | h | h)
          · exact .inr (.inl h)
          · exact .inl h
          · exact .inr (.inr h)
        · rintro (h | h | h)
          · exact .inr (.inl h)
          · exact .inl h
          · exact .inr (.inr h)
theorem insU_sorted {x : Int} : ∀ {l : List Int}, l.Pairwise (· < ·) → (insU x l).Pairwise (· < ·)
  | [], _ => by simp [insU]
  | y :: r, h => by
    unfold insU
    rw [List.pairwise_cons] at h
    split
    · rename_i hx
      rw [List.pairwise_cons, List.pairwise_cons]
      refine ⟨fun z hz => ?_, h⟩
      rcases List.mem_cons.mp hz with e | e
      · rw [e]; exact hx
      · exact Int.lt_trans hx (h.1 z e)
    · split
      · rw [List.pairwise_cons]; exact h
      · rename_i h1 h2
        rw [List.pairwise_cons]
        refine ⟨fun z hz => ?_, insU_sorted h.2⟩
        rcases insU_mem.mp hz with e | e
        · rw [e]; omega
        · exact h.1 z e
theorem usort_mem {z : Int} : ∀ {l : List Int}, z ∈ usort l ↔ z ∈ l
  | [] => by simp [usort]
  | x :: r => by rw [usort, insU_mem, usort_mem (l := r), List.mem_cons]
theorem usort_sorted : ∀ l : List Int, (usort l).Pairwise (· < ·)
  | [] => .nil
  | x :: r => insU_sorted (usort_sorted r)
/-- rising lists of the same members are the same -/
theorem rising_ext : ∀ {a b : List Int}, a.Pairwise (· < ·) → b.Pairwise (· < ·) → (∀ z, z ∈ a ↔ z ∈ b) → a = b
  | [], [], _, _, _ => rfl
  | [], y :: b, _, _, h => by have := (h y).mpr (List.mem_cons_self); simp at this
  | x :: a, [], _, _, h => by have := (h x).mp (List.mem_cons_self); simp at this
  | x :: a, y :: b, ha, hb, h => by
    rw [List.pairwise_cons] at ha hb
    have e : x = y := by
      rcases List.mem_cons.mp ((h x).mp List.mem_cons_self) with e | e
      · exact e
      · rcases List.mem_cons.mp ((h y).mpr List.mem_cons_self) with e2 | e2
        · exact e2.symm
        · have := ha.1 y e2
          have := hb.1 x e
          omega
    subst e
    rw [rising_ext ha.2 hb.2 fun z => ?_]
    constructor
    · intro hz
      rcases List.mem_cons.mp ((h z).mp (List.mem_cons_of_mem _ hz)) with e | e
      · have := ha.1 z hz; omega
      · exact e
    · intro hz
      rcases List.mem_cons.mp ((h z).mpr (List.mem_cons_of_mem _ hz)) with e | e
      · have := hb.1 z hz; omega
      · exact e
theorem usort_eq {a b : List Int} (ha : a.Pairwise (· < ·)) (h : ∀ z, z ∈ a ↔ z ∈ b) : a = usort b := rising_ext ha (usort_sorted b) fun z => (h z).trans usort_mem.symm
/-! ### sorted -/
def insS (x : Int) : List Int → List Int
  | [] => [x]
  | y :: r => if x ≤ y then x :: y :: r else y :: insS x r
def isort : List Int → List Int
  | [] => []
  | x :: r => insS x (isort r)
theorem insS_perm {x : Int} : ∀ {l : List Int}, (insS x l).Perm (x :: l)
  | [] => .refl _
  | y :: r => by
    unfold insS
    split
    · exact .refl _
    · exact (List.Perm.cons y insS_perm).trans (List.Perm.swap x y r)
theorem insS_sorted {x : Int} : ∀ {l : List Int}, l.Pairwise (· ≤ ·) → (insS x l).Pairwise (· ≤ ·)
  | [], _ => by simp [insS]
  | y :: r, h => by
    unfold insS
    rw [List.pairwise_cons] at h
    split
    · rename_i hx
      rw [List.pairwise_cons, List.pairwise_cons]
      refine ⟨fun z hz => ?_, h⟩
      rcases List.mem_cons.mp hz with e | e
      · rw [e]; exact hx
      · exact Int.le_trans hx (h.1 z e)
    · rename_i hx
      rw [List.pairwise_cons]
      refine ⟨fun z hz => ?_, insS_sorted h.2⟩
      rcases List.mem_cons.mp ((insS_perm.mem_iff).mp hz) with e | e
      · rw [e]; omega
      · exact h.1 z e
theorem isort_perm : ∀ l : List Int, (isort l).Perm l
  | [] => .refl _
  | x :: r => insS_perm.trans (.cons x (isort_perm r))
theorem isort_sorted : ∀ l : List Int, (isort l).Pairwise (· ≤ ·)
  | [] => .nil
  | x :: r => insS_sorted (isort_sorted r)
theorem sorted_perm : ∀ {a b : List Int}, a.Pairwise (· ≤ ·) → b.Pairwise (· ≤ ·) → a.Perm b → a = b
  | [], b, _, _, p => (List.nil_perm.mp p).symm
  | x :: a, [], _, _, p => by have := p.length_eq; simp at this
  | x :: a, y :: b, ha, hb, p => by
    rw [List.pairwise_cons] at ha hb
    have h1 : y ∈ x :: a := p.mem_iff.mpr List.mem_cons_self
    have h2 : x ∈ y :: b := p.mem_iff.mp List.mem_cons_self
    have e : x = y := by
      rcases List.mem_cons.mp h1 with e | e
      · exact e.symm
      · rcases List.mem_cons.mp h2 with e2 | e2
        · exact e2
        · have := ha.1 y e
          have := hb.1 x e2
          omega
    subst e
    rw [sorted_perm ha.2 hb.2 (List.perm_cons x |>.mp p)]
theorem isort_eq {a b : List Int} (ha : a.Pairwise (· ≤ ·)) (p : a.Perm b) : a = isort b := sorted_perm ha (isort_sorted b) (p.trans (isort_perm b).symm)
def hSortSet : D → Option D
  | .lst l => match intsOf l with
    | some ns => if ns.length < 63 then some (.lst ((usort ns).map .int)) else none
    | none => none
  | _ => none
def hSort : D → Option D
  | .lst l => (intsOf l).map fun ns => .lst ((isort ns).map .int)
  | _ => none
def rSort1 (K : PySem.W.Frag) : V → Hp → VK → Prop := fun v H Q => rSortedI K [v] H Q
section
variable {T : Th}
theorem ok_sort : UnOk T (rSort1 T.K) hSort := by
  intro g H x z v sx e hd Q q
  cases x <;> simp only [hSort] at e <;> first | cases e | skip
  rename_i l
  obtain ⟨ns, en, e⟩ := Option.map_eq_some_iff.mp e
  subst e
  obtain ⟨a, vs, rfl, la, ra⟩ := shr_lst.mp sx
  obtain ⟨h1, h2⟩ := intsOf_map en ra
  subst h1
  refine ⟨a, ns, rfl, .of la.1, fun ms p hp hs hn => ?_⟩
  rw [isort_eq hs hp]
  refine q _ _ (Exx.new hn) ?_
  refine shr_lst.mpr ⟨p, _, rfl, ⟨upd_same, fun u => ?_⟩, shrL_int _⟩
  obtain ⟨o, ho⟩ := hd p u
  rw [hn] at ho; cases ho
end
end Q

/-! list(), tuple(), sum(), any(), all(), int(), str(), join, split, index, is None. -/
namespace Q
open PySem PySem.Spec PyProof.Rows L2
abbrev r1 (r : List V → Hp → VK → Prop) : V → Hp → VK → Prop := fun v H Q => r [v] H Q
abbrev r2 (r : List V → Hp → VK → Prop) : R2 := fun v w H Q => r [v, w] H Q
section
variable {T : Th}
abbrev rListOf (K : PySem.W.Frag) : List V → Hp → VK → Prop := fun xs H Q => ∃ p ys, xs = [V.ref p] ∧ (SqL K H p ys ∨ SqT K H p ys) ∧ ∀ l, H l = none → Q (.ref l) (upd H l (.lst ys))
abbrev rTupOf (K : PySem.W.Frag) : List V → Hp → VK → Prop := fun xs H Q => ∃ p ys, xs = [V.ref p] ∧ ((SqL K H p ys ∧ ∀ l, H l = none → Q (.ref l) (upd H l (.tup ys))) ∨ (SqT K H p ys ∧ Q (.ref p) H))
def hList : D → Option D
  | .lst l => some (.lst l)
  | .scr l => some (.lst l)
  | .tup l => some (.lst l)
  | _ => none
theorem ok_list : UnOk T (r1 (rListOf T.K)) hList := by
  intro g H x z v sx e hd Q q
  cases x <;> simp only [hList] at e <;> cases e
  · obtain ⟨a, vs, rfl, la, ra⟩ := shr_tup.mp sx
    exact ⟨a, vs, rfl, .inr la.sq, fun p hp => q _ _ (Exx.new hp) (shr_newL ra hp hd)⟩
  · obtain ⟨a, vs, rfl, la, ra⟩ := shr_lst.mp sx
    exact ⟨a, vs, rfl, .inl (.of la.1), fun p hp => q _ _ (Exx.new hp) (shr_newL ra hp hd)⟩
  · obtain ⟨a, vs, rfl, la, ra⟩ := shr_scr.mp sx
    exact ⟨a, vs, rfl, .inl la.sq, fun p hp => q _ _ (Exx.new hp) (shr_newL ra hp hd)⟩
def hTuple : D → Option D
  | .lst l => some (.tup l)
  | .scr l => some (.tup l)
  | .tup l => some (.tup l)
  | _ => none
theorem ok_tuple : UnOk T (r1 (rTupOf T.K)) hTuple := by
  intro g H x z v sx e hd Q q
  cases x <;> simp only [hTuple] at e <;> cases e
  · obtain ⟨a, vs, rfl, la, ra⟩ := shr_tup.mp sx
    exact ⟨a, vs, rfl, .inr ⟨la.sq, q _ H (.refl H) sx⟩⟩
  · obtain ⟨a, vs, rfl, la, ra⟩ := shr_lst.mp sx
    exact ⟨a, vs, rfl, .inl ⟨.of la.1, fun p hp => q _ _ (Exx.new hp) (shr_newT ra hp hd)⟩⟩
  · obtain ⟨a, vs, rfl, la, ra⟩ := shr_scr.mp sx
    exact ⟨a, vs, rfl, .inl ⟨la.sq, fun p hp => q _ _ (Exx.new hp) (shr_newT ra hp hd)⟩⟩
/-! is None -/
theorem isN_none {x y : D} {z : D} (e : hIsN x y = some z) : y = .non := by
  cases y <;> first | rfl | (cases x <;> simp only [hIsN] at e <;> cases e)
theorem ok_isN : OpOk T (fun x y H Q => y = .non ∧ Q (.bl (decide (x = .non))) H) hIsN := by
  intro g H x y z v w sx sy e hd Q q
  have ey := isN_none e
  subst ey
  refine ⟨shr_non.mp sy, ?_⟩
  cases x <;> simp only [hIsN] at e <;> cases e
  · rw [shr_non.mp sx]; exact q _ H (.refl H) (shr_bl.mpr rfl)
  all_goals
    rw [decide_eq_false (shr_ne_non sx (by intro h; cases h))]
    exact q _ H (.refl H) (shr_bl.mpr rfl)
theorem notN_none {x y : D} {z : D} (e : hNotN x y = some z) : y = .non := by
  cases y <;> first | rfl | (cases x <;> simp only [hNotN] at e <;> cases e)
theorem ok_notN : OpOk T (fun x y H Q => y = .non ∧ Q (.bl (!decide (x = .non))) H) hNotN := by
  intro g H x y z v w sx sy e hd Q q
  have ey := notN_none e
  subst ey
  refine ⟨shr_non.mp sy, ?_⟩
  cases x <;> simp only [hNotN] at e <;> cases e
  · rw [shr_non.mp sx]; exact q _ H (.refl H) (shr_bl.mpr rfl)
  all_goals
    rw [decide_eq_false (shr_ne_non sx (by intro h; cases h))]
    exact q _ H (.refl H) (shr_bl.mpr rfl)
/-! of lists -/
def hSum : D → Option D
  | .lst l => (intsOf l).map fun ns => .int ns.sum
  | _ => none
theorem ok_sum : UnOk T (r1 (rSum T.K)) hSum := by
  intro g H x z v sx e hd Q q
  cases x <;> simp only [hSum] at e <;> first | cases e | skip
  obtain ⟨ns, en, e⟩ := Option.map_eq_some_iff.mp e
  subst e
  obtain ⟨a, vs, rfl, la, ra⟩ := shr_lst.mp sx
  obtain ⟨h1, h2⟩ := intsOf_map en ra
  subst h1
  exact ⟨a, ns, rfl, .of la.1, q _ H (.refl H) (shr_int.mpr rfl)⟩
def blsOf : List D → Option (List Bool)
  | [] => some []
  | .bl i :: r => (blsOf r).map (i :: ·)
  | _ => none
theorem blsOf_map {g : G} {H : Hp} : ∀ {l : List D} {ns : List Bool} {vs : List V}, blsOf l = some ns → ShrL T g H l vs → vs = ns.map V.bl ∧ l = ns.map D.bl
  | [], ns, vs, e, s => by
    cases e
    simp only [ShrL] at s
    subst s
    exact ⟨rfl, rfl⟩
  | d :: r, ns, vs, e, s => by
    cases d <;> simp only [blsOf] at e <;> first | cases e | skip
    rename_i i
    obtain ⟨ms, e1, e2⟩ := Option.map_eq_some_iff.mp e
    subst e2
    simp only [ShrL] at s
    obtain ⟨v, us, rfl, sv, s⟩ := s
    obtain ⟨h1, h2⟩ := blsOf_map e1 s
    rw [shr_bl.mp sv, h1, h2]
    exact ⟨rfl, rfl⟩
def hAny : D → Option D
  | .lst l => (blsOf l).map fun ns => .bl (ns.any id)
  | _ => none
theorem ok_any : UnOk T (r1 (rAny T.K)) hAny := by
  intro g H x z v sx e hd Q q
  cases x <;> simp only [hAny] at e <;> first | cases e | skip
  obtain ⟨ns, en, e⟩ := Option.map_eq_some_iff.mp e
  subst e
  obtain ⟨a, vs, rfl, la, ra⟩ := shr_lst.mp sx
  obtain ⟨h1, h2⟩ := blsOf_map en ra
  subst h1
  exact ⟨a, ns, rfl, .of la.1, q _ H (.refl H) (shr_bl.mpr rfl)⟩
def hAll : D → Option D
  | .lst l => (blsOf l).map fun ns => .bl (ns.all id)
  | _ => none
theorem ok_all : UnOk T (r1 (rAll T.K)) hAll := by
  intro g H x z v sx e hd Q q
  cases x <;> simp only [hAll] at e <;> first | cases e | skip
  obtain ⟨ns, en, e⟩ := Option.map_eq_some_iff.mp e
  subst e
  obtain ⟨a, vs, rfl, la, ra⟩ := shr_lst.mp sx
  obtain ⟨h1, h2⟩ := blsOf_map en ra
  subst h1
  exact ⟨a, ns, rfl, .of la.1, q _ H (.refl H) (shr_bl.mpr rfl)⟩
/-! max, min of two -/
abbrev rMax2 : List V → Hp → VK → Prop := fun xs H Q => ∃ i j, xs = [V.int i, V.int j] ∧ Q (.int (if j > i then j else i)) H
abbrev rMin2 : List V → Hp → VK → Prop := fun xs H Q => ∃ i j, xs = [V.int i, V.int j] ∧ Q (.int (if j < i then j else i)) H
def hMax2 : List D → Option D
  | [.int i, .int j] => some (.int (if j > i then j else i))
  | _ => none
def hMin2 : List D → Option D
  | [.int i, .int j] => some (.int (if j < i then j else i))
  | _ => none
theorem ok_max2 : LsOk T rMax2 hMax2 := by
  intro g H xs z vs s e hd Q q
  match xs, e, s with
  | [.int i, .int j], e, s =>
    simp only [hMax2] at e
    cases e
    simp only [ShrL] at s
    obtain ⟨v, _, rfl, sv, w, _, rfl, sw, rfl⟩ := s
    rw [shr_int.mp sv, shr_int.mp sw]
    exact ⟨i, j, rfl, q _ H (.refl H) (shr_int.mpr rfl)⟩
theorem ok_min2 : LsOk T rMin2 hMin2 := by
  intro g H xs z vs s e hd Q q
  match xs, e, s with
  | [.int i, .int j], e, s =>
    simp only [hMin2] at e
    cases e
    simp only [ShrL] at s
    obtain ⟨v, _, rfl, sv, w, _, rfl, sw, rfl⟩ := s
    rw [shr_int.mp sv, shr_int.mp sw]
    exact ⟨i, j, rfl, q _ H (.refl H) (shr_int.mpr rfl)⟩
/-! texts -/
abbrev rStrI : List V → Hp → VK → Prop := fun xs H Q => ∃ i, xs = [V.int i] ∧ i.natAbs.log2 < 1920 ∧ Q (.str (toString i)) H
def hStr : D → Option D
  | .int i => if i.natAbs.log2 < 1920 then some (.str (toString i)) else none
  | _ => none
theorem ok_str : UnOk T (r1 rStrI) hStr := by
  intro g H x z v sx e hd Q q
  cases x <;> simp only [hStr] at e <;> first | cases e | skip
  split at e
  · rename_i hl
    cases e
    exact ⟨_, by rw [shr_int.mp sx], hl, q _ H (.refl H) (shr_str.mpr rfl)⟩
  · cases e
abbrev rIntS : List V → Hp → VK → Prop := fun xs H Q => ∃ a n, xs = [V.str a] ∧ PySem.intText? a = some n ∧ a.length ≤ 640 ∧ Q (.int n) H
def hIntS : D → Option D
  | .str a => if a.length ≤ 640 then (PySem.intText? a).map .int else none
  | _ => none
theorem ok_intS : UnOk T (r1 rIntS) hIntS := by
  intro g H x z v sx e hd Q q
  cases x <;> simp only [hIntS] at e <;> first | cases e | skip
  split at e
  · rename_i hl
    obtain ⟨n, en, e⟩ := Option.map_eq_some_iff.mp e
    subst e
    exact ⟨_, n, by rw [shr_str.mp sx], en, hl, q _ H (.refl H) (shr_int.mpr rfl)⟩
  · cases e
def strsOf : List D → Option (List Str)
  | [] => some []
  | .str i :: r => (strsOf r).map (i :: ·)
  | _ => none
theorem strsOf_map {g : G} {H : Hp} : ∀ {l : List D} {ns : List Str} {vs : List V}, strsOf l = some ns → ShrL T g H l vs → vs = ns.map V.str ∧ l = ns.map D.str
  | [], ns, vs, e, s => by
    cases e
    simp only [ShrL] at s
    subst s
    exact ⟨rfl, rfl⟩
  | d :: r, ns, vs, e, s => by
    cases d <;> simp only [strsOf] at e <;> first | cases e | skip
    rename_i i
    obtain ⟨ms, e1, e2⟩ := Option.map_eq_some_iff.mp e
    subst e2
    simp only [ShrL] at s
    obtain ⟨v, us, rfl, sv, s⟩ := s
    obtain ⟨h1, h2⟩ := strsOf_map e1 s
    rw [shr_str.mp sv, h1, h2]
    exact ⟨rfl, rfl⟩
theorem shrL_str {g : G} {H : Hp} : ∀ ns : List Str, ShrL T g H (ns.map D.str) (ns.map V.str)
  | [] => .nil
  | n :: r => .cons (shr_str.mpr rfl) (shrL_str r)
/-- a method of a text with one argument -/
abbrev rM1 (r : V → List V → Hp → VK → Prop) : R2 := fun x y H Q => (∃ a, x = .str a) ∧ r x [y] H Q
abbrev rJoin (K : PySem.W.Frag) : V → List V → Hp → VK → Prop := fun x xs H Q => ∃ a p, ∃ ys : List Str, x = .str a ∧ xs = [V.ref p] ∧ (SqL K H p (ys.map V.str) ∨ SqT K H p (ys.map V.str)) ∧
      (ys.map (·.length)).sum + ys.length * a.length ≤ 16777216 ∧ Q (.str (Txt.join a ys)) H
def hJoin : D → D → Option D
  | .str a, .lst l => match strsOf l with
    | some ys => if (ys.map (·.length)).sum + ys.length * a.length ≤ 16777216 then some (.str (Txt.join a ys)) else none
    | none => none
  | _, _ => none
abbrev rSplit : V → List V → Hp → VK → Prop := fun x xs H Q => ∃ a b, x = .str a ∧ xs = [V.str b] ∧ (b.length == 0) = false ∧ a.length + 2 ≤ sizeLine ∧ rNewStrs (Txt.split a b) H Q
def hSplit : D → D → Option D
  | .str a, .str b => if (b.length == 0) = false ∧ a.length ≤ 1000000 then some (.lst ((Txt.split a b).map .str)) else none
  | _, _ => none
theorem ok_split : OpOk T (rM1 rSplit) hSplit := by
  intro g H x y z v w sx sy e hd Q q
  cases x <;> cases y <;> simp only [hSplit] at e <;> first | cases e | skip
  split at e
  · rename_i hl
    cases e
    refine ⟨⟨_, shr_str.mp sx⟩, _, _, shr_str.mp sx, by rw [shr_str.mp sy], hl.1, by rw [sizeLine_eq]; omega, fun p hp => ?_⟩
    exact q _ _ (Exx.new hp) (shr_newL (shrL_str _) hp hd)
  · cases e
abbrev rSIndex : V → List V → Hp → VK → Prop := fun x xs H Q => ∃ a b i rest, x = .str a ∧ xs = [V.str b] ∧ Builtin.Str.occurrences a b 0 a.length 1 = i :: rest ∧ Q (.int (i : Nat)) H
def hSIndex : D → D → Option D
  | .str a, .str b => match Builtin.Str.occurrences a b 0 a.length 1 with
    | i :: _ => some (.int (i : Nat))
    | [] => none
  | _, _ => none
theorem ok_sindex : OpOk T (rM1 rSIndex) hSIndex := by
  intro g H x y z v w sx sy e hd Q q
  cases x <;> cases y <;> simp only [hSIndex] at e <;> first | cases e | skip
  split at e
  · rename_i i rest ho
    cases e
    exact ⟨⟨_, shr_str.mp sx⟩, _, _, i, rest, shr_str.mp sx, by rw [shr_str.mp sy], ho, q _ H (.refl H) (shr_int.mpr rfl)⟩
  · cases e
theorem ok_join : OpOk T (rM1 (rJoin T.K)) hJoin := by
  intro g H x y z v w sx sy e hd Q q
  cases x <;> cases y <;> simp only [hJoin] at e <;> first | cases e | skip
  split at e
  · rename_i ys en
    split at e
    · rename_i hl
      cases e
      obtain ⟨a, vs, rfl, la, ra⟩ := shr_lst.mp sy
      obtain ⟨h1, h2⟩ := strsOf_map en ra
      subst h1
      exact ⟨⟨_, shr_str.mp sx⟩, _, a, ys, shr_str.mp sx, rfl, .inl (.of la.1), hl, q _ H (.refl H) (shr_str.mpr rfl)⟩
    · cases e
  · cases e
end
/-- a method of a text -/
def eM1 (h : D → D → Option D) (a b : FE) : FE := fun ρ S => (a ρ S).bind fun x S1 => match x with
  | .str z => (b ρ S1).bind fun y S2 => .of S2 (h (.str z) y)
  | _ => .no
section
variable {X : Cx} {T : Th} {W : WX} {Γ : List Md}
theorem xe_m1 {e : Expr} {r : V → List V → Hp → VK → Prop} {h : D → D → Option D} {a b : Expr} {A B : FE} (ok : OpOk T (rM1 r) h) (ha : XE X T W Γ a A) (hb : XE X T W Γ b B)
    (he : PE X a (tX T W Γ A) → PE X b (tX T W Γ B) → PE X e (tM1 r (tX T W Γ A) (tX T W Γ B))) : XE X T W Γ e (eM1 h A B) := pe_imp (he ha hb) fun σ H Q ⟨g, ρ, S, R, hg⟩ =>
  ⟨g, ρ, S, R, good_bind hg fun x S1 v g1 H1 _ R1 f1 s1 hg1 => by
    obtain ⟨z, rfl⟩ : ∃ z, x = .str z := by
      cases x <;> first | exact ⟨_, rfl⟩ | exact hg1.elim
    refine ⟨⟨z, shr_str.mp s1⟩, g1, ρ, S1, R1, good_bind hg1 fun y S2 w g2 H2 _ R2 f2 s2 hg2 => ?_⟩
    obtain ⟨z2, ez, hg3⟩ := good_of hg2
    exact (ok g2 H2 _ y z2 v w (s1.stay f2.stay) s2 ez R2.dom Q fun u H' ex su => hg3 u g2 H' (R2.ex ex) (.ex ex) su).2⟩
end
/-! ### fresh copies -/
section
variable {X : Cx} {T : Th} {W : WX} {Γ : List Md}
theorem xf_list {e a : Expr} {A : FE} (hK : X.K = T.K) (ha : XE X T W Γ a A) (he : PE X a (tX T W Γ A) → PE X e (tUn (r1 (rListOf X.K)) (tX T W Γ A))) : XF X T W Γ 1 e (eUn hList A) := pe_imp (he ha) fun σ H Q ⟨g, ρ, S, R, hg⟩ => by
  refine ⟨g, ρ, S, R, ?_⟩
  unfold eUn at hg
  cases r : A ρ S with
  | no => rw [r] at hg; exact hg
  | exc x S1 => rw [r] at hg; exact hg
  | ok d S1 =>
    rw [r] at hg
    intro v g1 H1 R1 f1 s1
    have hg : GoodN T W Γ 1 ρ σ g H (RE.of S1 (hList d)) Q := hg
    have fin : ∀ (l : List D) (vs : List V) (p : Addr), hList d = some (.lst l) → ShrL T g1 H1 l vs → H1 p = none → Q (.ref p) (upd H1 p (.lst vs)) := fun l vs p e sl hp => by
      rw [e] at hg
      refine hg _ g1 _ (· = p) (R1.fresh hp fun _ => ⟨nofun, fun _ => nofun⟩) (f1.trans (.ex (Exx.new hp))) (fun a z => ⟨(R1.fresh_out hp a z).1, ?_⟩) (R1.fresh_lst hp sl)
      rw [z]; exact f1.none hp
    cases d <;> simp only [hList] at hg fin <;> first | exact hg.elim | skip
    · obtain ⟨a, vs, rfl, la, ra⟩ := shr_tup.mp s1
      exact ⟨a, vs, rfl, by rw [hK]; exact .inr la.sq, fun p hp => fin _ vs p rfl ra hp⟩
    · obtain ⟨a, vs, rfl, la, ra⟩ := shr_lst.mp s1
      exact ⟨a, vs, rfl, .inl (.of la.1), fun p hp => fin _ vs p rfl ra hp⟩
    · obtain ⟨a, vs, rfl, la, ra⟩ := shr_scr.mp s1
      exact ⟨a, vs, rfl, by rw [hK]; exact .inl la.sq, fun p hp => fin _ vs p rfl ra hp⟩
end
end Q

/-! More rows for reckoning: owned lists, equality of plain data, comprehensions. -/
namespace Q
open PySem PySem.Spec PyProof.Rows L2
/-! ### plain data: no truths, no dicts; n levels at most -/
mutual
def plD : Nat → D → Bool
  | _, .non => true
  | _, .int _ => true
  | _, .str x => PyData.canLay0 (.str x)
  | n + 1, .tup l => plL n l
  | n + 1, .lst l => plL n l
  | _, _ => false
def plL : Nat → List D → Bool
  | _, [] => true
  | n, d :: r => plD n d && plL n r
end
mutual
theorem plD_py : ∀ (n : Nat) (d : D), plD n d = true → ∃ p, toPy d = some p ∧ p.canLay0 = true ∧ p.depth ≤ n
  | _, .non, _ => ⟨.none, by simp only [toPy], rfl, Nat.zero_le _⟩
  | _, .int i, _ => ⟨.int i, by simp only [toPy], rfl, Nat.zero_le _⟩
  | n, .str x, h => ⟨.str x, by simp only [toPy], by cases n <;> simpa only [plD] using h, by cases n <;> exact Nat.zero_le _⟩
  | 0, .tup l, h => by simp only [plD] at h; cases h
  | n + 1, .tup l, h => by
    simp only [plD] at h
    obtain ⟨ps, h1, h2, h3⟩ := plL_py n l h
    exact ⟨.tuple ps, by simp only [toPy, h1, Option.map_some], by simpa only [PyData.canLay0] using h2, by simp only [PyData.depth]; omega⟩
  | 0, .lst l, h => by simp only [plD] at h; cases h
  | n + 1, .lst l, h => by
    simp only [plD] at h
    obtain ⟨ps, h1, h2, h3⟩ := plL_py n l h
    exact ⟨.list ps, by simp only [toPy, h1, Option.map_some], by simpa only [PyData.canLay0] using h2, by simp only [PyData.depth]; omega⟩
  | 0, .bl _, h => by simp only [plD] at h; cases h
  | n + 1, .bl _, h => by simp only [plD] at h; cases h
  | 0, .scr _, h => by simp only [plD] at h; cases h
  | n + 1, .scr _, h => by simp only [plD] at h; cases h
  | 0, .dct _, h => by simp only [plD] at h; cases h
  | n + 1, .dct _, h => by simp only [plD] at h; cases h
  | 0, .obj _, h => by simp only [plD] at h; cases h
  | n + 1, .obj _, h => by simp only [plD] at h; cases h
  | 0, .fn _ _, h => by simp only [plD] at h; cases h
  | n + 1, .fn _ _, h => by simp only [plD] at h; cases h
theorem plL_py : ∀ (n : Nat) (l : List D), plL n l = true → ∃ ps, toPyL l = some ps ∧ PyData.canLayAll0 ps = true ∧ PyData.depthAll ps ≤ n
  | _, [], _ => ⟨[], by simp only [toPyL], rfl, Nat.zero_le _⟩
  | n, d :: r, h => by
    simp only [plL, Bool.and_eq_true] at h
    obtain ⟨p, h1, h2, h3⟩ := plD_py n d h.1
    obtain ⟨ps, k1, k2, k3⟩ := plL_py n r h.2
    refine ⟨p :: ps, by simp only [toPyL, h1, k1], by simp only [PyData.canLayAll0, h2, k2, Bool.and_self], ?_⟩
    simp only [PyData.depthAll]
    omega
end
mutual
theorem eqv_pl : ∀ (n m : Nat) (d e : D) (p q : PyData), plD n d = true → plD m e = true → toPy d = some p → toPy e = some q → (PyData.eqv p q = true ↔ d = e) := by
  intro n m d e p q hd he hp hq
  cases d with
  | non => simp only [toPy] at hp; cases hp; cases e <;> simp only [toPy] at hq <;> first | (cases hq; done) | (cases n <;> cases m <;> simp only [plD] at he hd <;> first | (cases he; done) | (obtain ⟨_, _, rfl⟩ := Option.map_eq_some_iff.mp hq; simp [PyData.eqv]) | (cases hq; simp [PyData.eqv]))
  | int i => simp only [toPy] at hp; cases hp; cases e <;> simp only [toPy] at hq <;> first | (cases hq; done) | (cases n <;> cases m <;> simp only [plD] at he hd <;> first | (cases he; done) | (obtain ⟨_, _, rfl⟩ := Option.map_eq_some_iff.mp hq; simp [PyData.eqv]) | (cases hq; simp [PyData.eqv]))
  | str i => simp only [toPy] at hp; cases hp; cases e <;> simp only [toPy] at hq <;> first | (cases hq; done) | (cases n <;> cases m <;> simp only [plD] at he hd <;> first | (cases he; done) | (obtain ⟨_, _, rfl⟩ := Option.map_eq_some_iff.mp hq; simp [PyData.eqv]) | (cases hq; simp [PyData.eqv]))
  | tup l =>
    cases n with
    | zero => simp only [plD] at hd; cases hd
    | succ n =>
      simp only [plD] at hd
      simp only [toPy] at hp
      obtain ⟨ps, h1, rfl⟩ := Option.map_eq_some_iff.mp hp
      cases e with
      | tup k =>
        cases m with
        | zero => simp only [plD] at he; cases he
        | succ m =>
          simp only [plD] at he
          simp only [toPy] at hq
          obtain ⟨qs, k1, rfl⟩ := Option.map_eq_some_iff.mp hq
          simp only [PyData.eqv, D.tup.injEq]
          exact eqvL_pl n m l k ps qs hd he h1 k1
      | _ => cases m <;> simp only [plD] at he <;> first | (cases he; done) | (simp only [toPy] at hq; first | (cases hq; simp [PyData.eqv]) | (obtain ⟨_, _, rfl⟩ := Option.map_eq_some_iff.mp hq; simp [PyData.eqv]))
  | lst l =>
    cases n with
    | zero => simp only [plD] at hd; cases hd
    | succ n =>
      simp only [plD] at hd
      simp only [toPy] at hp
      obtain ⟨ps, h1, rfl⟩ := Option.map_eq_some_iff.mp hp
      cases e with
      | lst k =>
        cases m with
        | zero => simp only [plD] at he; cases he
        | succ m =>
          simp only [plD] at he
          simp only [toPy] at hq
          obtain ⟨qs, k1, rfl⟩ := Option.map_eq_some_iff.mp hq
          simp only [PyData.eqv, D.lst.injEq]
          exact eqvL_pl n m l k ps qs hd he h1 k1
      | _ => cases m <;> simp only [plD] at he <;> first | (cases he; done) | (simp only [toPy] at hq; first | (cases hq; simp [PyData.eqv]) | (obtain ⟨_, _, rfl⟩ := Option.map_eq_some_iff.mp hq; simp [PyData.eqv]))
  | _ => cases n <;> simp only [plD] at hd <;> cases hd
termination_by n m d e p q => sizeOf d
theorem eqvL_pl : ∀ (n m : Nat) (l k : List D) (ps qs : List PyData), plL n l = true → plL m k = true → toPyL l = some ps → toPyL k = some qs → (PyData.eqvAll ps qs = true ↔ l = k) := by
  intro n m l k ps qs hl hk hp hq
  cases l with
  | nil =>
    simp only [toPyL] at hp; cases hp
    cases k with
    | nil => simp only [toPyL] at hq; cases hq; simp [PyData.eqvAll]
    | cons e r =>
      simp only [toPyL] at hq
      split at hq
      · cases hq; simp [PyData.eqvAll]
      · cases hq
  | cons d l =>
    simp only [toPyL] at hp
    split at hp
    · rename_i p ps' e1 e2
      cases hp
      simp only [plL, Bool.and_eq_true] at hl
      cases k with
      | nil => simp only [toPyL] at hq; cases hq; simp [PyData.eqvAll]
      | cons e r =>
        simp only [toPyL] at hq
        split at hq
        · rename_i q qs' f1 f2
          cases hq
          simp only [plL, Bool.and_eq_true] at hk
          simp only [PyData.eqvAll, Bool.and_eq_true, List.cons.injEq]
          exact and_congr (eqv_pl n m d e p q hl.1 hk.1 e1 f1) (eqvL_pl n m l r ps' qs' hl.2 hk.2 e2 f2)
        · cases hq
    · cases hp
termination_by n m l k ps qs => sizeOf l
end
theorem hEq_pl {x y : D} (hx : plD 60 x = true) (hy : plD 60 y = true) : ∃ b, hEq x y = some (.bl b) ∧ hNe x y = some (.bl !b) ∧ (b = true ↔ x = y) := by
  obtain ⟨p, p1, p2, p3⟩ := plD_py 60 x hx
  obtain ⟨q, q1, q2, q3⟩ := plD_py 60 y hy
  have sp : SeqAt.shaped p = true := by unfold SeqAt.shaped; rw [p2, decide_eq_true (by omega)]; rfl
  have sq : SeqAt.shaped q = true := by unfold SeqAt.shaped; rw [q2, decide_eq_true (by omega)]; rfl
  refine ⟨PyData.eqv p q, ?_, ?_, eqv_pl 60 60 x y p q hx hy p1 q1⟩
  · unfold hEq; rw [p1, q1]; exact if_pos ⟨sp, sq⟩
  · unfold hNe; rw [p1, q1]; exact if_pos ⟨sp, sq⟩
theorem hEq_t {x : D} (hx : plD 60 x = true) : hEq x x = some (.bl true) := by
  obtain ⟨b, h1, _, h3⟩ := hEq_pl hx hx
  rw [h3.mpr rfl] at h1
  exact h1
theorem hNe_t {x : D} (hx : plD 60 x = true) : hNe x x = some (.bl false) := by
  obtain ⟨b, _, h1, h3⟩ := hEq_pl hx hx
  rw [h3.mpr rfl] at h1
  exact h1
theorem hEq_f {x y : D} (hx : plD 60 x = true) (hy : plD 60 y = true) (h : x ≠ y) : hEq x y = some (.bl false) := by
  obtain ⟨b, h1, _, h3⟩ := hEq_pl hx hy
  cases b
  · exact h1
  · exact absurd (h3.mp rfl) h
theorem hNe_f {x y : D} (hx : plD 60 x = true) (hy : plD 60 y = true) (h : x ≠ y) : hNe x y = some (.bl true) := by
  obtain ⟨b, _, h1, h3⟩ := hEq_pl hx hy
  cases b
  · exact h1
  · exact absurd (h3.mp rfl) h
theorem plL_of {n : Nat} {l : List D} (h : ∀ d ∈ l, plD n d = true) : plL n l = true := by
  induction l with
  | nil => cases n <;> rfl
  | cons d r ih =>
    have e : plL n (d :: r) = (plD n d && plL n r) := by cases n <;> simp only [plL]
    rw [e, h d List.mem_cons_self, ih fun x hx => h x (List.mem_cons_of_mem _ hx)]
    rfl
theorem plD_int {n : Nat} {i : Int} : plD n (.int i) = true := by cases n <;> rfl
theorem plD_non {n : Nat} : plD n .non = true := by cases n <;> rfl
theorem plD_lst {n : Nat} {l : List D} (h : ∀ d ∈ l, plD n d = true) : plD (n + 1) (.lst l) = true := by simp only [plD]; exact plL_of h
theorem plD_tup {n : Nat} {l : List D} (h : ∀ d ∈ l, plD n d = true) : plD (n + 1) (.tup l) = true := by simp only [plD]; exact plL_of h
theorem plD_ints {ns : List Int} : plD 60 (.lst (ns.map .int)) = true := plD_lst fun d h => by
  obtain ⟨i, _, rfl⟩ := List.mem_map.mp h
  exact plD_int
theorem ints_inj {a b : List Int} : a.map D.int = b.map D.int ↔ a = b := by
  constructor
  · intro h
    have : Function.Injective D.int := fun x y e => by cases e; rfl
    exact (List.map_inj_right (fun x y e => by cases e; rfl)).mp h
  · rintro rfl; rfl
/-- x in a list of ints -/
theorem hIn_ints {k : Int} {ns : List Int} {neg : Bool} : hIn neg (.int k) (.lst (ns.map .int)) = some (.bl (if neg then !decide (k ∈ ns) else decide (k ∈ ns))) := by
  show inL neg (.int k) (ns.map .int) = _
  unfold inL
  have h1 : (ns.map D.int).all flatD = true := by
    rw [List.all_eq_true]
    intro d hd
    obtain ⟨i, _, rfl⟩ := List.mem_map.mp hd
    rfl
  rw [if_pos ⟨rfl, h1⟩]
  have h2 : ((ns.map D.int).any fun y => eqD y (.int k)) = decide (k ∈ ns) := by
    induction ns with
    | nil => simp
    | cons a r ih =>
      rw [List.map_cons, List.any_cons, ih (by
        rw [List.all_eq_true]
        intro d hd
        obtain ⟨i, _, rfl⟩ := List.mem_map.mp hd
        rfl)]
      show ((a == k) || decide (k ∈ r)) = _
      by_cases h : a = k
      · subst h; simp
      · have h' : ¬ k = a := fun z => h z.symm
        simp [h, h']
  rw [h2]
theorem intsOf_ints : ∀ ns : List Int, intsOf (ns.map .int) = some ns
  | [] => rfl
  | n :: r => by rw [List.map_cons, intsOf, intsOf_ints r]; rfl
theorem blsOf_bls : ∀ ns : List Bool, blsOf (ns.map .bl) = some ns
  | [] => rfl
  | n :: r => by rw [List.map_cons, blsOf, blsOf_bls r]; rfl
theorem strsOf_strs : ∀ ns : List Str, strsOf (ns.map .str) = some ns
  | [] => rfl
  | n :: r => by rw [List.map_cons, strsOf, strsOf_strs r]; rfl
theorem hSortSet_ints {ns : List Int} (h : ns.length < 63) : hSort (.lst (ns.map .int)) = some (.lst ((isort ns).map .int)) := by
  show (intsOf (ns.map .int)).map _ = _
  rw [intsOf_ints]; rfl
/-! ### owned lists -/
section
variable {ρ : Env} {S : Store} {d z x y : D} {l l' : List D} {o : Option (Option D)}
def mutK (o : Option (Option D)) (ρ : Env) (k : List D → RS) : RS := match o with
  | some (some (.lst l)) => k l
  | _ => .no
def mutR (o : Option (D × List D)) (k : D → List D → RS) : RS := match o with
  | some (z, l') => k z l'
  | none => .no
theorem ev_mut {i : Nat} {h : HM} {a : FL} : fMut i h a ρ S = mutK ρ[i]? ρ fun l => (a ρ S).bindS ρ fun ds S1 => mutR (h l ds) fun _ l' => .nx (ρ.set i (some (.lst l'))) S1 := by
  unfold fMut mutK mutR RL.bindS
  rfl
theorem ev_mutset {j i : Nat} {h : HM} {a : FL} : fMutSet j i h a ρ S = mutK ρ[i]? ρ fun l => (a ρ S).bindS ρ fun ds S1 => mutR (h l ds) fun z l' => .nx ((ρ.set i (some (.lst l'))).set j (some z)) S1 := by
  unfold fMutSet mutK mutR RL.bindS
  rfl
theorem mutK_lst {k : List D → RS} : mutK (some (some (.lst l))) ρ k = k l := rfl
theorem mutR_some {k : D → List D → RS} : mutR (some (z, l')) k = k z l' := rfl
theorem mAppend_lt (h : l.length < 1000000) : mAppend l [d] = some (.non, l ++ [d]) := if_pos h
theorem mExtend_le {m : List D} (h : l.length + m.length ≤ 1000000) : mExtend l [.lst m] = some (.non, l ++ m) := if_pos h
theorem mPop0_cons : mPop0 (d :: l) [.int 0] = some (d, l) := rfl
def flatK (d : D) (S : Store) : RE := if immD d = true then .ok d S else .no
theorem ev_flat {a : FE} : eFlat a ρ S = (a ρ S).bind flatK := rfl
theorem flatK_int {i : Int} : flatK (.int i) S = .ok (.int i) S := if_pos (by simp only [immD])
theorem flatK_bl {i : Bool} : flatK (.bl i) S = .ok (.bl i) S := if_pos (by simp only [immD])
theorem flatK_str {i : Str} : flatK (.str i) S = .ok (.str i) S := if_pos (by simp only [immD])
theorem flatK_non : flatK .non S = .ok .non S := if_pos (by simp only [immD])
def m1K (d : D) (k : Str → RE) : RE := match d with
  | .str z => k z
  | _ => .no
theorem ev_m1 {h : D → D → Option D} {a b : FE} : eM1 h a b ρ S = (a ρ S).bind fun x S1 => m1K x fun z => (b ρ S1).bind fun y S2 => .of S2 (h (.str z) y) := rfl
theorem m1K_str {z : Str} {k : Str → RE} : m1K (.str z) k = k z := rfl
end
/-! ### comprehensions -/
/-- each item by itself, the store stands -/
theorem lcL_eq {tf : D → Env → Option Env} {C E : FE} {ρ : Env} {S : Store} (p : D → Bool) (f : D → D) : ∀ {ds : List D}, (∀ d ∈ ds, ∃ ρ1, tf d ρ = some ρ1 ∧ C ρ1 S = .ok (.bl (p d)) S ∧ (p d = true → E ρ1 S = .ok (f d) S)) →
    lcL tf C E ds ρ S = .ok ((ds.filter p).map f) S
  | [], _ => rfl
  | d :: r, h => by
    obtain ⟨ρ1, h1, h2, h3⟩ := h d List.mem_cons_self
    have ih := lcL_eq p f (ds := r) fun x hx => h x (List.mem_cons_of_mem _ hx)
    rw [lcL, h1]
    cases hp : p d with
    | true =>
      rw [hp] at h2
      simp only [h2, h3 hp, ih]
      rw [List.filter_cons_of_pos (by rw [hp]), List.map_cons]
    | false =>
      rw [hp] at h2
      simp only [h2, ih]
      rw [List.filter_cons_of_neg (by rw [hp]; decide)]
theorem eLc_eq {it : FL} {vs : List Nat} {tf : D → Env → Option Env} {C E : FE} {ρ : Env} {S S1 : Store} {ds : List D} (p : D → Bool) (f : D → D) (hi : it ρ S = .ok ds S1) (hl : ds.length ≤ 1000000)
    (h : ∀ d ∈ ds, ∃ ρ1, tf d (wipeE ρ vs) = some ρ1 ∧ C ρ1 S1 = .ok (.bl (p d)) S1 ∧ (p d = true → E ρ1 S1 = .ok (f d) S1)) : eLc it vs tf C E ρ S = .ok (.lst ((ds.filter p).map f)) S1 := by
  unfold eLc
  rw [hi]
  simp only [lcL_eq p f h]
  rw [if_pos hl]
end Q

/-! Values of the module. -/
namespace Q
open PySem PySem.Spec PyProof.Rows L2
theorem shr_wrt {T : Th} {g : G} {H : Hp} {a : Addr} {ns : List Int} (h : WrT T.K a (ns.map V.int)) : Shr T g H (.tup (ns.map .int)) (.ref a) := shr_tup.mpr ⟨a, _, rfl, .inr h, shrL_int ns⟩
end Q

/-! Texts of figures. -/
namespace Q
open PySem PySem.Spec PyProof.Rows L2
theorem occ_fig (c : Nat) : Builtin.Str.occurrences ("0123456789" : Str) ⟨#[c]⟩ 0 ("0123456789" : Str).length 1 = if 48 ≤ c ∧ c ≤ 57 then [c - 48] else [] := by
  by_cases h : 48 ≤ c ∧ c ≤ 57
  · rw [if_pos h]
    obtain ⟨h1, h2⟩ := h
    have : c = 48 ∨ c = 49 ∨ c = 50 ∨ c = 51 ∨ c = 52 ∨ c = 53 ∨ c = 54 ∨ c = 55 ∨ c = 56 ∨ c = 57 := by omega
    rcases this with e | e | e | e | e | e | e | e | e | e <;> subst e <;> decide +kernel
  · rw [if_neg h]
    refine PySem.W.occ_nil_of_no _ _ 1 fun i hi => ?_
    have hi : i + 1 ≤ 10 := hi
    have key : ∀ k : Nat, ¬ c = k → ((#[k] : Array Nat) == #[c]) = false := fun k hk => by
      simp
      omega
    have : i = 0 ∨ i = 1 ∨ i = 2 ∨ i = 3 ∨ i = 4 ∨ i = 5 ∨ i = 6 ∨ i = 7 ∨ i = 8 ∨ i = 9 := by omega
    rcases this with e | e | e | e | e | e | e | e | e | e <;> subst e
    · exact key 48 (by omega)
    · exact key 49 (by omega)
    · exact key 50 (by omega)
    · exact key 51 (by omega)
    · exact key 52 (by omega)
    · exact key 53 (by omega)
    · exact key 54 (by omega)
    · exact key 55 (by omega)
    · exact key 56 (by omega)
    · exact key 57 (by omega)
def dig (c : Nat) : Bool := decide (48 ≤ c ∧ c ≤ 57)
theorem hIn_fig {neg : Bool} {c : Nat} : hIn neg (.str ⟨#[c]⟩) (.str "0123456789") = some (.bl (if neg = true then !(dig c) else dig c)) := by
  show (if neg then some (D.bl !!(Builtin.Str.occurrences ("0123456789" : Str) ⟨#[c]⟩ 0 ("0123456789" : Str).length 1).isEmpty) else some (D.bl !(Builtin.Str.occurrences ("0123456789" : Str) ⟨#[c]⟩ 0 ("0123456789" : Str).length 1).isEmpty)) = _
  rw [occ_fig]
  unfold dig
  by_cases h : 48 ≤ c ∧ c ≤ 57
  · rw [if_pos h, decide_eq_true h]; cases neg <;> rfl
  · rw [if_neg h, decide_eq_false h]; cases neg <;> rfl
theorem hSIndex_fig {c : Nat} (h : dig c = true) : hSIndex (.str "0123456789") (.str ⟨#[c]⟩) = some (.int ((c - 48 : Nat) : Int)) := by
  show (match Builtin.Str.occurrences ("0123456789" : Str) ⟨#[c]⟩ 0 ("0123456789" : Str).length 1 with | i :: _ => some (D.int (i : Nat)) | [] => none) = _
  rw [occ_fig, if_pos (of_decide_eq_true h)]
/-- the signs of a text -/
def signs (t : Str) : List D := t.cps.toList.map fun c => .str ⟨#[c]⟩
theorem hLen_str {t : Str} (h : t.length ≤ 1000000) : hLen [.str t] = some (.int t.length) := if_pos h
end Q

/-! Texts that are built: their signs, their size. -/
namespace Q
open PySem PySem.Spec PyProof.Rows L2
/-- n signs at most, each a sign -/
def oks (n : Nat) (t : Str) : Prop := (∀ c ∈ t.cps.toList, c < 1114112) ∧ t.cps.toList.length ≤ n
theorem oks_len {n : Nat} {t : Str} (h : oks n t) : t.length ≤ n := by
  have := h.2
  rw [Array.length_toList] at this
  exact this
theorem oks_lay {n : Nat} {t : Str} (h : oks n t) : PyData.canLay0 (.str t) = true := by
  simp only [PyData.canLay0, PyData.strOk]
  rw [Array.all_eq_true_iff_forall_mem]
  intro c hc
  exact decide_eq_true (h.1 c (Array.mem_toList_iff.mpr hc))
theorem oks_mono {n m : Nat} {t : Str} (h : oks n t) (hm : n ≤ m) : oks m t := ⟨h.1, Nat.le_trans h.2 hm⟩
theorem app_list (a b : Str) : (a ++ b).cps.toList = a.cps.toList ++ b.cps.toList := by
  show (a.cps ++ b.cps).toList = _
  exact Array.toList_append
theorem oks_app {n m : Nat} {a b : Str} (ha : oks n a) (hb : oks m b) : oks (n + m) (a ++ b) := by
  unfold oks
  rw [app_list]
  refine ⟨fun c hc => ?_, by rw [List.length_append]; have := ha.2; have := hb.2; omega⟩
  rcases List.mem_append.mp hc with h | h
  · exact ha.1 c h
  · exact hb.1 c h
theorem oks_one {c : Nat} (h : c < 1114112) : oks 1 ⟨#[c]⟩ := ⟨fun d hd => by
  have : d = c := by simpa using hd
  rw [this]; exact h, Nat.le_refl _⟩
theorem oks_cut {n : Nat} {t : Str} (h : oks n t) (lo hi : Option Int) : oks n (cutS t lo hi) := by
  unfold cutS oks
  refine ⟨fun c hc => ?_, ?_⟩
  · exact h.1 c (List.mem_of_mem_drop (List.mem_of_mem_take hc))
  · show ((t.cps.toList.drop _).take _).length ≤ n
    rw [List.length_take, List.length_drop]
    have := h.2
    omega
theorem oks_at {n : Nat} {t : Str} (h : oks n t) (hn : n ≤ 1000000) {i : Nat} (hi : i < t.cps.toList.length) : ∃ s, oks 1 s ∧ hIx (.str t) (.int i) = some (.str s) := by
  refine ⟨⟨#[t.cps.toList[i]]⟩, oks_one (h.1 _ (List.getElem_mem hi)), ?_⟩
  show (if t.length ≤ 1000000 then (atI t.cps.toList (i : Int)).map fun c => D.str ⟨#[c]⟩ else none) = _
  rw [if_pos (by have := oks_len h; omega), atI_nat (List.getElem?_eq_getElem hi)]
  rfl
theorem oks_nil : oks 0 ("" : Str) := by
  refine ⟨fun c hc => ?_, Nat.le_refl _⟩
  cases hc
theorem oks_join : ∀ {l : List Str}, (∀ t ∈ l, oks 1 t) → oks l.length (Str.join "" l)
  | [], _ => oks_nil
  | [x], h => h x List.mem_cons_self
  | x :: y :: r, h => by
    have ih := oks_join (l := y :: r) fun t ht => h t (List.mem_cons_of_mem _ ht)
    have e : Str.join "" (x :: y :: r) = x ++ "" ++ Str.join "" (y :: r) := rfl
    rw [e]
    have := oks_app (oks_app (h x List.mem_cons_self) oks_nil) ih
    refine oks_mono this ?_
    simp
    omega
theorem hAdd_str {a b : Str} (h : a.length + b.length ≤ 1000000) : hAdd (.str a) (.str b) = some (.str (a ++ b)) := if_pos h
theorem hSl_str {z : Str} {lo hi : Option Int} (h : z.length ≤ 1000000) : hSl (.str z) lo hi = some (.str (cutS z lo hi)) := if_pos h
/-- a comprehension without an if, each item some one of a kind -/
theorem lcL_ex {tf : D → Env → Option Env} {C E : FE} {ρ : Env} {S : Store} (Pr : D → Prop) : ∀ {ds : List D}, (∀ d ∈ ds, ∃ ρ1 y, tf d ρ = some ρ1 ∧ C ρ1 S = .ok (.bl true) S ∧ E ρ1 S = .ok y S ∧ Pr y) →
    ∃ ys, lcL tf C E ds ρ S = .ok ys S ∧ ys.length = ds.length ∧ ∀ y ∈ ys, Pr y
  | [], _ => ⟨[], rfl, rfl, fun _ h => nomatch h⟩
  | d :: r, h => by
    obtain ⟨ρ1, y, h1, h2, h3, h4⟩ := h d List.mem_cons_self
    obtain ⟨ys, e, el, ep⟩ := lcL_ex Pr (ds := r) fun x hx => h x (List.mem_cons_of_mem _ hx)
    refine ⟨y :: ys, ?_, by simp [el], fun z hz => ?_⟩
    · rw [lcL, h1]
      simp only [h2, h3, e]
    · rcases List.mem_cons.mp hz with q | q
      · rw [q]; exact h4
      · exact ep z q
theorem eLc_ex {it : FL} {vs : List Nat} {tf : D → Env → Option Env} {C E : FE} {ρ : Env} {S S1 : Store} {ds : List D} (Pr : D → Prop) (hi : it ρ S = .ok ds S1) (hl : ds.length ≤ 1000000)
    (h : ∀ d ∈ ds, ∃ ρ1 y, tf d (wipeE ρ vs) = some ρ1 ∧ C ρ1 S1 = .ok (.bl true) S1 ∧ E ρ1 S1 = .ok y S1 ∧ Pr y) : ∃ ys, eLc it vs tf C E ρ S = .ok (.lst ys) S1 ∧ ys.length = ds.length ∧ ∀ y ∈ ys, Pr y := by
  obtain ⟨ys, e, el, ep⟩ := lcL_ex Pr h
  refine ⟨ys, ?_, el, ep⟩
  unfold eLc
  rw [hi]
  simp only [e]
  rw [if_pos hl]
theorem strs_of {ys : List D} {n : Nat} (h : ∀ y ∈ ys, ∃ s, oks n s ∧ y = .str s) : ∃ l : List Str, ys = l.map D.str ∧ ∀ s ∈ l, oks n s := by
  induction ys with
  | nil => exact ⟨[], rfl, fun _ h => nomatch h⟩
  | cons y r ih =>
    obtain ⟨s, hs, e⟩ := h y List.mem_cons_self
    obtain ⟨l, e2, hl⟩ := ih fun z hz => h z (List.mem_cons_of_mem _ hz)
    refine ⟨s :: l, by rw [e, e2]; rfl, fun z hz => ?_⟩
    rcases List.mem_cons.mp hz with q | q
    · rw [q]; exact hs
    · exact hl z q
/-- "".join of signs -/
theorem hJoin_signs {l : List Str} (h : ∀ s ∈ l, oks 1 s) (hl : l.length ≤ 1000) : hJoin (.str "") (.lst (l.map .str)) = some (.str (Str.join "" l)) := by
  show (match strsOf (l.map D.str) with | some ys => if (ys.map (fun s : Str => s.length)).sum + ys.length * ("" : Str).length ≤ 16777216 then some (D.str (Txt.join "" ys)) else none | none => none) = _
  rw [strsOf_strs]
  have hs : (l.map (fun s : Str => s.length)).sum ≤ l.length := by
    clear hl
    induction l with
    | nil => exact Nat.le_refl _
    | cons a r ih =>
      rw [List.map_cons, List.sum_cons, List.length_cons]
      have := oks_len (h a List.mem_cons_self)
      have := ih fun s hs => h s (List.mem_cons_of_mem _ hs)
      omega
  have h0 : ("" : Str).length = 0 := rfl
  refine (if_pos (by rw [h0]; omega)).trans ?_
  rw [TL.join_eq]
end Q

namespace K76
open PySem PySem.Spec PyProof.Rows L2 Q
def topS (i : Nat) : Stmt := PySem.Challenge.pw_stoke_k76_wholes_read.main.body.getD i (.Pass ⟨0, 0, 0, 0⟩)
abbrev s_is_of : Stmt := topS 14
abbrev N_is_of : List Str := ["text", "signs", "most", "sign"]
theorem sc_is_of : FnScope N_is_of ["text", "signs", "most"] (defScope s_is_of) := ⟨rfl, rfl, rfl, by decide +kernel, rfl, by decide +kernel, by decide +kernel⟩
abbrev s_read_whole : Stmt := topS 15
abbrev N_read_whole : List Str := ["text"]
theorem sc_read_whole : FnScope N_read_whole ["text"] (defScope s_read_whole) := ⟨rfl, rfl, rfl, by decide +kernel, rfl, by decide +kernel, by decide +kernel⟩
abbrev s__law_mix : Stmt := topS 17
abbrev N__law_mix : List Str := ["_law_cell", "_law_k", "_law_turn", "_law_prime"]
theorem sc__law_mix : FnScope N__law_mix ["_law_cell", "_law_k", "_law_turn"] (defScope s__law_mix) := ⟨rfl, rfl, rfl, by decide +kernel, rfl, by decide +kernel, by decide +kernel⟩
abbrev s__law_due : Stmt := topS 18
abbrev N__law_due : List Str := ["_law_text", "_law_value", "_law_sign"]
theorem sc__law_due : FnScope N__law_due ["_law_text"] (defScope s__law_due) := ⟨rfl, rfl, rfl, by decide +kernel, rfl, by decide +kernel, by decide +kernel⟩
abbrev s__law_text_by : Stmt := topS 19
abbrev N__law_text_by : List Str := ["_law_cell", "_law_k", "_law_size", "_law_text", "_law_way", "_law_at", "_law_odd", "_law_some", "_law_spot"]
theorem sc__law_text_by : FnScope N__law_text_by ["_law_cell", "_law_k"] (defScope s__law_text_by) := ⟨rfl, rfl, rfl, by decide +kernel, rfl, by decide +kernel, by decide +kernel⟩
abbrev s__law_told : Stmt := topS 20
abbrev N__law_told : List Str := ["_law_text", "_law_found", "_law_own", "_law_refused", "e"]
theorem sc__law_told : FnScope N__law_told ["_law_text"] (defScope s__law_told) := ⟨rfl, rfl, rfl, by decide +kernel, rfl, by decide +kernel, by decide +kernel⟩
abbrev s_law : Stmt := topS 21
abbrev N_law : List Str := ["_law_script", "_law_some", "_law_k", "_law_text", "_law_due_here", "_law_told_here"]
theorem sc_law : FnScope N_law ["_law_script"] (defScope s_law) := ⟨rfl, rfl, rfl, by decide +kernel, rfl, by decide +kernel, by decide +kernel⟩
def caught_StokeError : Nat → Bool
  | 0 => true
  | _ => false
def isX_NoText : Nat → Bool
  | 0 => true
  | _ => false
def isX_ValueError : Nat → Bool
  | 0 => true
  | _ => false
def isX_NoNumber_NoLine_NoName_Twice_NoState_TooMany_NoHold_NoStove : Nat → Bool
  | 0 => false
  | _ => false
structure Facts (K : PySem.W.Frag) (mg : Str → Option Value) where
  a_is_of : Addr
  d_is_of : FuncData
  a_read_whole : Addr
  d_read_whole : FuncData
  a__law_mix : Addr
  d__law_mix : FuncData
  a__law_due : Addr
  d__law_due : FuncData
  a__law_text_by : Addr
  d__law_text_by : FuncData
  a__law_told : Addr
  d__law_told : FuncData
  a_law : Addr
  d_law : FuncData
  c_NoHold : Addr
  c_NoLine : Addr
  c_NoName : Addr
  c_NoNumber : Addr
  c_NoState : Addr
  c_NoStove : Addr
  c_NoText : Addr
  c_StokeError : Addr
  c_TooMany : Addr
  c_Twice : Addr
  tv_FIGURES : Tok
  tv_LONGEST : Tok
  F_is_of : Fun K "is_of" "is_of" s_is_of a_is_of d_is_of
  b_is_of : Binds K d_is_of ["text", "signs", "most"] []
  g_is_of : mg "is_of" = some (.ref a_is_of)
  F_read_whole : Fun K "read_whole" "read_whole" s_read_whole a_read_whole d_read_whole
  b_read_whole : Binds K d_read_whole ["text"] []
  g_read_whole : mg "read_whole" = some (.ref a_read_whole)
  F__law_mix : Fun K "_law_mix" "_law_mix" s__law_mix a__law_mix d__law_mix
  b__law_mix : Binds K d__law_mix ["_law_cell", "_law_k", "_law_turn"] []
  g__law_mix : mg "_law_mix" = some (.ref a__law_mix)
  F__law_due : Fun K "_law_due" "_law_due" s__law_due a__law_due d__law_due
  b__law_due : Binds K d__law_due ["_law_text"] []
  g__law_due : mg "_law_due" = some (.ref a__law_due)
  F__law_text_by : Fun K "_law_text_by" "_law_text_by" s__law_text_by a__law_text_by d__law_text_by
  b__law_text_by : Binds K d__law_text_by ["_law_cell", "_law_k"] []
  g__law_text_by : mg "_law_text_by" = some (.ref a__law_text_by)
  F__law_told : Fun K "_law_told" "_law_told" s__law_told a__law_told d__law_told
  b__law_told : Binds K d__law_told ["_law_text"] []
  g__law_told : mg "_law_told" = some (.ref a__law_told)
  F_law : Fun K "law" "law" s_law a_law d_law
  b_law : Binds K d_law ["_law_script"] []
  g_law : mg "law" = some (.ref a_law)
  gv_FIGURES : mg "FIGURES" = some (.str "0123456789" tv_FIGURES)
  gv_LONGEST : mg "LONGEST" = some (.int 30 tv_LONGEST)
  z_ValueError : mg "ValueError" = none
  z_bool : mg "bool" = none
  z_int : mg "int" = none
  z_isinstance : mg "isinstance" = none
  z_len : mg "len" = none
  z_range : mg "range" = none
  gc_NoHold : mg "NoHold" = some (.ref c_NoHold)
  gc_NoLine : mg "NoLine" = some (.ref c_NoLine)
  gc_NoName : mg "NoName" = some (.ref c_NoName)
  gc_NoNumber : mg "NoNumber" = some (.ref c_NoNumber)
  gc_NoState : mg "NoState" = some (.ref c_NoState)
  gc_NoStove : mg "NoStove" = some (.ref c_NoStove)
  gc_NoText : mg "NoText" = some (.ref c_NoText)
  gc_StokeError : mg "StokeError" = some (.ref c_StokeError)
  gc_TooMany : mg "TooMany" = some (.ref c_TooMany)
  gc_Twice : mg "Twice" = some (.ref c_Twice)
  x_NoText : PySem.W.excIn K c_NoText [.type "ValueError", .type "Exception", .type "BaseException", .type "object"] "ValueError.__new__" = true
  k_NoText : PySem.W.keepIn K (.ref c_NoText) = true
  b_NoText : PySem.W.subIn K (.ref c_NoText) (.type "BaseException") = some true
  t_NoText : PySem.W.typeIn K (.ref c_NoText) = some (.type "type")
  e_NoText : ExcC K c_NoText
  exm_StokeError_0 : PySem.W.exmOne K (.ref c_NoText) (.ref c_StokeError) = some true
  is_NoText_0 : PySem.W.kitOne K (.ref c_NoText) (.ref c_NoText) = some true
  is_ValueError_0 : PySem.W.kitOne K (.ref c_NoText) (.type "ValueError") = some true
  is_NoNumber_NoLine_NoName_Twice_NoState_TooMany_NoHold_NoStove_0 : PySem.W.kitAny K (.ref c_NoText) [.ref c_NoNumber, .ref c_NoLine, .ref c_NoName, .ref c_Twice, .ref c_NoState, .ref c_TooMany, .ref c_NoHold, .ref c_NoStove] = some false
section
variable {P : Program} {w : World} {K : PySem.W.Frag} {mg : Str → Option Value} {base : Heap}
def th (Fx : Facts K mg) : Th := ⟨K, fun k => match k with
  | 0 => Fx.c_NoText
  | _ => 0, 1, fun _ _ => 0⟩
variable (Fx : Facts K mg)
theorem Facts.excC : ∀ y : Exc, y.cls < (th Fx).nc → ExcC K ((th Fx).cA y.cls)
  | ⟨0, _⟩, _ => Fx.e_NoText
  | ⟨n + 1, _⟩, h => absurd h (by show ¬ n + 1 < 1; omega)
theorem Facts.exm_StokeError : ∀ k, k < (th Fx).nc → PySem.W.exmOne K (.ref ((th Fx).cA k)) (.ref Fx.c_StokeError) = some (caught_StokeError k)
  | 0, _ => Fx.exm_StokeError_0
  | n + 1, h => absurd h (by show ¬ n + 1 < 1; omega)
theorem Facts.is_NoText : ∀ y : Exc, y.cls < (th Fx).nc → caught_StokeError y.cls = true → PySem.W.kitOne K (.ref ((th Fx).cA y.cls)) (.ref Fx.c_NoText) = some (isX_NoText y.cls)
  | ⟨0, _⟩, _, _ => Fx.is_NoText_0
  | ⟨n + 1, _⟩, h, _ => absurd h (by show ¬ n + 1 < 1; omega)
theorem Facts.is_ValueError : ∀ y : Exc, y.cls < (th Fx).nc → caught_StokeError y.cls = true → PySem.W.kitOne K (.ref ((th Fx).cA y.cls)) (.type "ValueError") = some (isX_ValueError y.cls)
  | ⟨0, _⟩, _, _ => Fx.is_ValueError_0
  | ⟨n + 1, _⟩, h, _ => absurd h (by show ¬ n + 1 < 1; omega)
theorem Facts.is_NoNumber_NoLine_NoName_Twice_NoState_TooMany_NoHold_NoStove : ∀ y : Exc, y.cls < (th Fx).nc → caught_StokeError y.cls = true → PySem.W.kitAny K (.ref ((th Fx).cA y.cls)) [.ref Fx.c_NoNumber, .ref Fx.c_NoLine, .ref Fx.c_NoName, .ref Fx.c_Twice, .ref Fx.c_NoState, .ref Fx.c_TooMany, .ref Fx.c_NoHold, .ref Fx.c_NoStove] = some (isX_NoNumber_NoLine_NoName_Twice_NoState_TooMany_NoHold_NoStove y.cls)
  | ⟨0, _⟩, _, _ => Fx.is_NoNumber_NoLine_NoName_Twice_NoState_TooMany_NoHold_NoStove_0
  | ⟨n + 1, _⟩, h, _ => absurd h (by show ¬ n + 1 < 1; omega)
noncomputable def b_is_of_1 : FS := (fIf (eOp (hIn true) (eVar 3) (eVar 1)) (fRet (eC (.bl false)))
    fPass)
theorem u_b_is_of_1 (ρ : Q.Env) (S : Store) : b_is_of_1 ρ S = ((fIf (eOp (hIn true) (eVar 3) (eVar 1)) (fRet (eC (.bl false)))
    fPass)) ρ S := rfl
noncomputable def m_is_of : FS := (fSeq (fIf (eOr (eOp hLt (eL hLen (lCons (eVar 0) lNil)) (eC (.int 1))) (eOp hGt (eL hLen (lCons (eVar 0) lNil)) (eVar 2))) (fRet (eC (.bl false)))
    fPass)
    (fSeq (fFor (iStrD (eVar 0)) (tfName 3) b_is_of_1)
    (fRet (eC (.bl true)))))
noncomputable def f_is_of : FF := fBody 4 3 (ΓS 3) m_is_of
theorem ok_is_of : FnOk P w K mg base (L2.CX P w) 1 Fx.a_is_of Fx.d_is_of ["text", "signs", "most"] (spD (th Fx) 3 (sgS 3) f_is_of) :=
  fn_okS (N := N_is_of) (B := m_is_of) (Γ' := (ΓS 4)) Fx.F_is_of sc_is_of rfl (by decide) fun cdv A outer s H E hr =>
    (xb_cons (xs_if gp_s (PW.pt (xw_or (xt_op ok_lt (xe_L ok_len (xl_cons (xv (pv 0)) xl_nil (fun h h2 => pa_cons h h2)) (fun h => pe_callB call_lenA (by rfl) Fx.z_len PySem.boot_len h)) xe_int (fun h h2 => pt_cmpR op_lt h h2 (nomark _))) (xw_or1 (xt_op ok_gt (xe_L ok_len (xl_cons (xv (pv 0)) xl_nil (fun h h2 => pa_cons h h2)) (fun h => pe_callB call_lenA (by rfl) Fx.z_len PySem.boot_len h)) (xv (pv 2)) (fun h h2 => pt_cmpR op_gt h h2 (nomark _)))))) (xb_one (xs_ret gp_s gp_s rfl xe_bl (fun h => ps_ret h)))
    xb_nil)
    (xb_cons (xs_for (is := [3]) gp_s (passes_of rfl) rfl (xi_str (xv (pv 0))) (pg_name (i := 3) (sc_is_of).nd rfl (Or.inl rfl)) (tg_name set_rep) (xb_one (xs_if gp_s (xt_op ok_in1 (xv (pv 3)) (xv (pv 1)) (fun h h2 => pt_cmpR op_notinA h h2 (by rfl))) (xb_one (xs_ret gp_s gp_s rfl xe_bl (fun h => ps_ret h)))
    xb_nil)))
    (xb_one (xs_ret gp_s gp_s rfl xe_bl (fun h => ps_ret h)))))
noncomputable def m_read_whole : FS := (fSeq (fIf (eOr (eNot (eCall f_is_of (lCons (eVar 0) (lCons (eC (.str "0123456789")) (lCons (eC (.int 30)) lNil))))) (eAnd (eOp hEq (eOp hIx (eVar 0) (eC (.int 0))) (eC (.str "0"))) (eOp hNe (eVar 0) (eC (.str "0"))))) (fRaise 0)
    fPass)
    (fRet (eUn hIntS (eVar 0))))
noncomputable def f_read_whole : FF := fBody 1 1 (ΓS 1) m_read_whole
theorem ok_read_whole : FnOk P w K mg base (L2.CX P w) 2 Fx.a_read_whole Fx.d_read_whole ["text"] (spD (th Fx) 1 (sgS 1) f_read_whole) :=
  fn_okS (N := N_read_whole) (B := m_read_whole) (Γ' := (ΓS 1)) Fx.F_read_whole sc_read_whole rfl (by decide) fun cdv A outer s H E hr =>
    (xb_cons (xs_if gp_s (PW.pt (xw_or (xt_not (xt_val (xe_callS (ok_is_of Fx) rfl (la1 (la1 (la1 la0))) (xl_cons (xv (pv 0)) (xl_cons (xe_c (pe_glob (v := .str "0123456789") (by rfl) Fx.gv_FIGURES ⟨_, rfl⟩) (fun _ _ => by simp only [Shr])) (xl_cons (xe_c (pe_glob (v := .int 30) (by rfl) Fx.gv_LONGEST ⟨_, rfl⟩) (fun _ _ => by simp only [Shr])) xl_nil (fun h h2 => pa_cons h h2)) (fun h h2 => pa_cons h h2)) (fun h h2 => pa_cons h h2)) (fun h => pe_callS (ok_is_of Fx) (hr.mono (by decide)) (by rfl) Fx.g_is_of Fx.F_is_of.kp Fx.b_is_of (fun σ => passAt (takes_of rfl rfl rfl rfl) σ) h)) (fun h => .inl (pt_val h)))) (xw_or1 (PW.pt (xw_and (xt_op ok_eq (xe_op ok_ix (xv (pv 0)) xe_int (fun h h2 => pe_ix ix_A h h2 (fun _ _ => rfl))) xe_str (fun h h2 => pt_cmpR (op_eqD hr.units) h h2 (nomark _))) (xw_and1 (xt_op ok_ne (xv (pv 0)) xe_str (fun h h2 => pt_cmpR (op_neD hr.units) h h2 (nomark _))))))))) (xb_one (xs_raise (k := 0) (show 0 < 1 by decide) gp_s (ps_raise rfl (takes_of rfl rfl rfl rfl) (pmk_own PySem.F.excBase_ValueError Fx.x_NoText Fx.gc_NoText Fx.k_NoText (raises_own Fx.b_NoText Fx.t_NoText) (by rfl)))))
    xb_nil)
    (xb_one (xs_ret gp_s gp_s rfl (xe_un ok_intS (xv (pv 0)) (fun h => pe_callTy call_int_str (by rfl) Fx.z_int PyProof.Rows.boot_int (pa_cons h pa_nil))) (fun h => ps_ret h))))
noncomputable def m__law_mix : FS := (fSeq (fSet 3 (eOp hIx (eLst (lCons (eC (.int 65537)) (lCons (eC (.int 65521)) (lCons (eC (.int 65519)) (lCons (eC (.int 65497)) (lCons (eC (.int 65479)) (lCons (eC (.int 65449)) (lCons (eC (.int 65447)) (lCons (eC (.int 65437)) lNil))))))))) (eVar 2)))
    (fRet (eOp hMod (eOp hMul (eOp hAdd (eOp hMod (eVar 0) (eC (.int 1000003))) (eC (.int 1))) (eOp hAdd (eOp hAdd (eOp hMul (eVar 1) (eVar 1)) (eC (.int 48271))) (eOp hMul (eC (.int 4099)) (eVar 2)))) (eVar 3))))
noncomputable def f__law_mix : FF := fBody 4 3 (ΓS 3) m__law_mix
theorem ok__law_mix : FnOk P w K mg base (L2.CX P w) 1 Fx.a__law_mix Fx.d__law_mix ["_law_cell", "_law_k", "_law_turn"] (spD (th Fx) 3 (sgS 3) f__law_mix) :=
  fn_okS (N := N__law_mix) (B := m__law_mix) (Γ' := (ΓS 4)) Fx.F__law_mix sc__law_mix rfl (by decide) fun cdv A outer s H E hr =>
    (xb_cons (xs_set (i := 3) gp_s (xe_op ok_ix (xe_lst (xl_cons xe_int (xl_cons xe_int (xl_cons xe_int (xl_cons xe_int (xl_cons xe_int (xl_cons xe_int (xl_cons xe_int (xl_cons xe_int xl_nil (fun h h2 => pa_cons h h2)) (fun h h2 => pa_cons h h2)) (fun h h2 => pa_cons h h2)) (fun h h2 => pa_cons h h2)) (fun h h2 => pa_cons h h2)) (fun h h2 => pa_cons h h2)) (fun h h2 => pa_cons h h2)) (fun h h2 => pa_cons h h2))) (xv (pv 2)) (fun h h2 => pe_ix ix_A h h2 (fun _ _ => rfl))) (fun h => ps_set (i := 3) (sc__law_mix).nd rfl (Or.inl rfl) h) set_rep)
    (xb_one (xs_ret gp_s gp_s rfl (xe_op ok_mod (xe_op ok_mul (xe_op ok_add (xe_op ok_mod (xv (pv 0)) xe_int (fun h h2 => pe_op op_mod h h2)) xe_int (fun h h2 => pe_op op_addA h h2)) (xe_op ok_add (xe_op ok_add (xe_op ok_mul (xv (pv 1)) (xv (pv 1)) (fun h h2 => pe_op op_mulA h h2)) xe_int (fun h h2 => pe_op op_addA h h2)) (xe_op ok_mul xe_int (xv (pv 2)) (fun h h2 => pe_op op_mulA h h2)) (fun h h2 => pe_op op_addA h h2)) (fun h h2 => pe_op op_mulA h h2)) (xv (pv 3)) (fun h h2 => pe_op op_mod h h2)) (fun h => ps_ret h))))
noncomputable def b__law_due_1 : FS := (fSeq (fIf (eOp (hIn true) (eVar 2) (eC (.str "0123456789"))) (fRet (eTup lNil))
    fPass)
    (fSet 1 (eOp hAdd (eOp hMul (eC (.int 10)) (eVar 1)) (eM1 hSIndex (eC (.str "0123456789")) (eVar 2)))))
theorem u_b__law_due_1 (ρ : Q.Env) (S : Store) : b__law_due_1 ρ S = ((fSeq (fIf (eOp (hIn true) (eVar 2) (eC (.str "0123456789"))) (fRet (eTup lNil))
    fPass)
    (fSet 1 (eOp hAdd (eOp hMul (eC (.int 10)) (eVar 1)) (eM1 hSIndex (eC (.str "0123456789")) (eVar 2)))))) ρ S := rfl
noncomputable def m__law_due : FS := (fSeq (fIf (eOr (eOp hEq (eVar 0) (eC (.str ""))) (eOr (eOp hGt (eL hLen (lCons (eVar 0) lNil)) (eC (.int 30))) (eAnd (eOp hEq (eOp hIx (eVar 0) (eC (.int 0))) (eC (.str "0"))) (eOp hNe (eVar 0) (eC (.str "0")))))) (fRet (eTup lNil))
    fPass)
    (fSeq (fSet 1 (eC (.int 0)))
    (fSeq (fFor (iStrD (eVar 0)) (tfName 2) b__law_due_1)
    (fRet (eTup (lCons (eVar 1) lNil))))))
noncomputable def f__law_due : FF := fBody 3 1 (ΓS 1) m__law_due
theorem ok__law_due : FnOk P w K mg base (L2.CX P w) 1 Fx.a__law_due Fx.d__law_due ["_law_text"] (spD (th Fx) 1 (sgS 1) f__law_due) :=
  fn_okS (N := N__law_due) (B := m__law_due) (Γ' := (ΓS 3)) Fx.F__law_due sc__law_due rfl (by decide) fun cdv A outer s H E hr =>
    (xb_cons (xs_if gp_s (PW.pt (xw_or (xt_op ok_eq (xv (pv 0)) xe_str (fun h h2 => pt_cmpR (op_eqD hr.units) h h2 (nomark _))) (xw_or (xt_op ok_gt (xe_L ok_len (xl_cons (xv (pv 0)) xl_nil (fun h h2 => pa_cons h h2)) (fun h => pe_callB call_lenA (by rfl) Fx.z_len PySem.boot_len h)) xe_int (fun h h2 => pt_cmpR op_gt h h2 (nomark _))) (xw_or1 (PW.pt (xw_and (xt_op ok_eq (xe_op ok_ix (xv (pv 0)) xe_int (fun h h2 => pe_ix ix_A h h2 (fun _ _ => rfl))) xe_str (fun h h2 => pt_cmpR (op_eqD hr.units) h h2 (nomark _))) (xw_and1 (xt_op ok_ne (xv (pv 0)) xe_str (fun h h2 => pt_cmpR (op_neD hr.units) h h2 (nomark _)))))))))) (xb_one (xs_ret gp_s gp_s rfl (xe_tup xl_nil) (fun h => ps_ret h)))
    xb_nil)
    (xb_cons (xs_set (i := 1) gp_s xe_int (fun h => ps_set (i := 1) (sc__law_due).nd rfl (Or.inl rfl) h) set_rep)
    (xb_cons (xs_for (is := [2]) gp_s (passes_of rfl) rfl (xi_str (xv (pv 0))) (pg_name (i := 2) (sc__law_due).nd rfl (Or.inl rfl)) (tg_name set_rep) (xb_cons (xs_if gp_s (xt_op ok_in1 (xv (pv 2)) xe_str (fun h h2 => pt_cmpR op_notinA h h2 (by rfl))) (xb_one (xs_ret gp_s gp_s rfl (xe_tup xl_nil) (fun h => ps_ret h)))
    xb_nil)
    (xb_one (xs_set (i := 1) gp_s (xe_op ok_add (xe_op ok_mul xe_int (xv (pv 1)) (fun h h2 => pe_op op_mulA h h2)) (xe_m1 ok_sindex xe_str (xv (pv 2)) (fun h h2 => pe_m1 PySem.F.slot_str_index PySem.F.type_str_index mt_sindex h h2)) (fun h h2 => pe_op op_addA h h2)) (fun h => ps_set (i := 1) (sc__law_due).nd rfl (Or.inl rfl) h) set_rep))))
    (xb_one (xs_ret gp_s gp_s rfl (xe_tup (xl_cons (xv (pv 1)) xl_nil (fun h h2 => pa_cons h h2))) (fun h => ps_ret h))))))
noncomputable def e__law_text_by_1 : FE := (eOp hIx (eC (.str "0123456789")) (eOp hMod (eCall f__law_mix (lCons (eVar 0) (lCons (eOp hAdd (eVar 8) (eOp hMul (eC (.int 3)) (eVar 1))) (lCons (eC (.int 1)) lNil)))) (eC (.int 10))))
theorem u_e__law_text_by_1 (ρ : Q.Env) (S : Store) : e__law_text_by_1 ρ S = ((eOp hIx (eC (.str "0123456789")) (eOp hMod (eCall f__law_mix (lCons (eVar 0) (lCons (eOp hAdd (eVar 8) (eOp hMul (eC (.int 3)) (eVar 1))) (lCons (eC (.int 1)) lNil)))) (eC (.int 10))))) ρ S := rfl
noncomputable def m__law_text_by : FS := (fSeq (fSet 2 (eOp hIx (eLst (lCons (eC (.int 1)) (lCons (eC (.int 2)) (lCons (eC (.int 3)) (lCons (eC (.int 17)) (lCons (eC (.int 29)) (lCons (eC (.int 30)) (lCons (eC (.int 31)) (lCons (eC (.int 32)) lNil))))))))) (eOp hMod (eCall f__law_mix (lCons (eVar 0) (lCons (eVar 1) (lCons (eC (.int 0)) lNil)))) (eC (.int 8)))))
    (fSeq (fIf (eOp hEq (eOp hMod (eOp hDiv (eCall f__law_mix (lCons (eVar 0) (lCons (eVar 1) (lCons (eC (.int 0)) lNil)))) (eC (.int 8))) (eC (.int 2))) (eC (.int 0))) (fSet 2 (eOp hAdd (eC (.int 1)) (eOp hMod (eOp hDiv (eCall f__law_mix (lCons (eVar 0) (lCons (eVar 1) (lCons (eC (.int 0)) lNil)))) (eC (.int 16))) (eC (.int 30)))))
    fPass)
    (fSeq (fSet 3 (eM1 hJoin (eC (.str "")) (eLc (iRange1 (lCons (eVar 2) lNil)) [8] (tfName 8) (eC (.bl true)) e__law_text_by_1)))
    (fSeq (fIf (eOp hEq (eOp hMod (eCall f__law_mix (lCons (eVar 0) (lCons (eVar 1) (lCons (eC (.int 2)) lNil)))) (eC (.int 3))) (eC (.int 0))) (fSet 3 (eOp hAdd (eOp hIx (eC (.str "123456789")) (eOp hMod (eOp hDiv (eCall f__law_mix (lCons (eVar 0) (lCons (eVar 1) (lCons (eC (.int 2)) lNil)))) (eC (.int 3))) (eC (.int 9)))) (eSl (eVar 3) (some (eC (.int 1))) none)))
    fPass)
    (fSeq (fSet 4 (eOp hMod (eCall f__law_mix (lCons (eVar 0) (lCons (eVar 1) (lCons (eC (.int 4)) lNil)))) (eC (.int 5))))
    (fSeq (fIf (eOp hLt (eVar 4) (eC (.int 2))) (fSeq (fSet 5 (eOp hMod (eCall f__law_mix (lCons (eVar 0) (lCons (eVar 1) (lCons (eC (.int 5)) lNil)))) (eOp hAdd (eL hLen (lCons (eVar 3) lNil)) (eC (.int 1)))))
    (fSeq (fSet 6 (eC (.str " +-_.,eExXaAlLoO'/:;0")))
    (fSet 3 (eOp hAdd (eOp hAdd (eSl (eVar 3) none (some (eVar 5))) (eOp hIx (eVar 6) (eOp hMod (eCall f__law_mix (lCons (eVar 0) (lCons (eVar 1) (lCons (eC (.int 6)) lNil)))) (eL hLen (lCons (eVar 6) lNil))))) (eSl (eVar 3) (some (eOp hAdd (eVar 5) (eVar 4))) none)))))
    fPass)
    (fSeq (fIf (eOp hEq (eOp hMod (eCall f__law_mix (lCons (eVar 0) (lCons (eVar 1) (lCons (eC (.int 7)) lNil)))) (eC (.int 9))) (eC (.int 3))) (fSeq (fSet 7 (eLst (lCons (eC (.str "")) (lCons (eC (.str "-")) (lCons (eC (.str "-1")) (lCons (eC (.str "-0")) (lCons (eC (.str "00")) (lCons (eC (.str "+1")) (lCons (eC (.str "1 ")) (lCons (eC (.str " 1")) (lCons (eC (.str "0x1")) (lCons (eC (.str "1e3")) (lCons (eC (.str "None")) (lCons (eC (.str "1_0")) (lCons (eC (.str "0")) (lCons (eC (.str "1/2")) lNil))))))))))))))))
    (fSet 3 (eOp hIx (eVar 7) (eOp hMod (eOp hDiv (eCall f__law_mix (lCons (eVar 0) (lCons (eVar 1) (lCons (eC (.int 7)) lNil)))) (eC (.int 9))) (eC (.int 14))))))
    fPass)
    (fRet (eVar 3)))))))))
noncomputable def f__law_text_by : FF := fBody 9 2 (ΓS 2) m__law_text_by
theorem ok__law_text_by : FnOk P w K mg base (L2.CX P w) 2 Fx.a__law_text_by Fx.d__law_text_by ["_law_cell", "_law_k"] (spD (th Fx) 2 (sgS 2) f__law_text_by) :=
  fn_okS (N := N__law_text_by) (B := m__law_text_by) (Γ' := (ΓS 9)) Fx.F__law_text_by sc__law_text_by rfl (by decide) fun cdv A outer s H E hr =>
    (xb_cons (xs_set (i := 2) gp_s (xe_op ok_ix (xe_lst (xl_cons xe_int (xl_cons xe_int (xl_cons xe_int (xl_cons xe_int (xl_cons xe_int (xl_cons xe_int (xl_cons xe_int (xl_cons xe_int xl_nil (fun h h2 => pa_cons h h2)) (fun h h2 => pa_cons h h2)) (fun h h2 => pa_cons h h2)) (fun h h2 => pa_cons h h2)) (fun h h2 => pa_cons h h2)) (fun h h2 => pa_cons h h2)) (fun h h2 => pa_cons h h2)) (fun h h2 => pa_cons h h2))) (xe_op ok_mod (xe_callS (ok__law_mix Fx) rfl (la1 (la1 (la1 la0))) (xl_cons (xv (pv 0)) (xl_cons (xv (pv 1)) (xl_cons xe_int xl_nil (fun h h2 => pa_cons h h2)) (fun h h2 => pa_cons h h2)) (fun h h2 => pa_cons h h2)) (fun h => pe_callS (ok__law_mix Fx) (hr.mono (by decide)) (by rfl) Fx.g__law_mix Fx.F__law_mix.kp Fx.b__law_mix (fun σ => passAt (takes_of rfl rfl rfl rfl) σ) h)) xe_int (fun h h2 => pe_op op_mod h h2)) (fun h h2 => pe_ix ix_A h h2 (fun _ _ => rfl))) (fun h => ps_set (i := 2) (sc__law_text_by).nd rfl (Or.inl rfl) h) set_rep)
    (xb_cons (xs_if gp_s (xt_op ok_eq (xe_op ok_mod (xe_op ok_div (xe_callS (ok__law_mix Fx) rfl (la1 (la1 (la1 la0))) (xl_cons (xv (pv 0)) (xl_cons (xv (pv 1)) (xl_cons xe_int xl_nil (fun h h2 => pa_cons h h2)) (fun h h2 => pa_cons h h2)) (fun h h2 => pa_cons h h2)) (fun h => pe_callS (ok__law_mix Fx) (hr.mono (by decide)) (by rfl) Fx.g__law_mix Fx.F__law_mix.kp Fx.b__law_mix (fun σ => passAt (takes_of rfl rfl rfl rfl) σ) h)) xe_int (fun h h2 => pe_op op_fdivA h h2)) xe_int (fun h h2 => pe_op op_mod h h2)) xe_int (fun h h2 => pt_cmpR (op_eqD hr.units) h h2 (nomark _))) (xb_one (xs_set (i := 2) gp_s (xe_op ok_add xe_int (xe_op ok_mod (xe_op ok_div (xe_callS (ok__law_mix Fx) rfl (la1 (la1 (la1 la0))) (xl_cons (xv (pv 0)) (xl_cons (xv (pv 1)) (xl_cons xe_int xl_nil (fun h h2 => pa_cons h h2)) (fun h h2 => pa_cons h h2)) (fun h h2 => pa_cons h h2)) (fun h => pe_callS (ok__law_mix Fx) (hr.mono (by decide)) (by rfl) Fx.g__law_mix Fx.F__law_mix.kp Fx.b__law_mix (fun σ => passAt (takes_of rfl rfl rfl rfl) σ) h)) xe_int (fun h h2 => pe_op op_fdivA h h2)) xe_int (fun h h2 => pe_op op_mod h h2)) (fun h h2 => pe_op op_addA h h2)) (fun h => ps_set (i := 2) (sc__law_text_by).nd rfl (Or.inl rfl) h) set_rep))
    xb_nil)
    (xb_cons (xs_set (i := 3) gp_s (xe_m1 ok_join xe_str (xe_lc (own := [("_law_spot", 8)]) (is := [8]) rfl (sc__law_text_by).nd (xi_range1 (xl_cons (xv (pv 2)) xl_nil (fun h h2 => pa_cons h h2)) (fun h => pi_range1 (by rfl) Fx.z_range h)) (blkOk_by (own := [("_law_spot", 8)]) (N := N__law_text_by) (sc := defScope s__law_text_by) (by decide +kernel)) (by decide) (fun _ _ _ _ _ => (pg_name (i := 8) (sc__law_text_by).nd rfl (Or.inl rfl))) (tg_name set_rep) (fun _ _ _ _ _ => xts_nil) (fun _ _ _ _ _ => (xe_op ok_ix xe_str (xe_op ok_mod (xe_callS (ok__law_mix Fx) rfl (la1 (la1 (la1 la0))) (xl_cons (xv (pv 0)) (xl_cons (xe_op ok_add (xv (pv 8)) (xe_op ok_mul xe_int (xv (pv 1)) (fun h h2 => pe_op op_mulA h h2)) (fun h h2 => pe_op op_addA h h2)) (xl_cons xe_int xl_nil (fun h h2 => pa_cons h h2)) (fun h h2 => pa_cons h h2)) (fun h h2 => pa_cons h h2)) (fun h => pe_callS (ok__law_mix Fx) (hr.mono (by decide)) (by rfl) Fx.g__law_mix Fx.F__law_mix.kp Fx.b__law_mix (fun σ => passAt takes0 σ) h)) xe_int (fun h h2 => pe_op op_mod h h2)) (fun h h2 => pe_ix ix_A h h2 (fun _ _ => rfl))))) (fun h h2 => pe_join h h2)) (fun h => ps_set (i := 3) (sc__law_text_by).nd rfl (Or.inl rfl) h) set_rep)
    (xb_cons (xs_if gp_s (xt_op ok_eq (xe_op ok_mod (xe_callS (ok__law_mix Fx) rfl (la1 (la1 (la1 la0))) (xl_cons (xv (pv 0)) (xl_cons (xv (pv 1)) (xl_cons xe_int xl_nil (fun h h2 => pa_cons h h2)) (fun h h2 => pa_cons h h2)) (fun h h2 => pa_cons h h2)) (fun h => pe_callS (ok__law_mix Fx) (hr.mono (by decide)) (by rfl) Fx.g__law_mix Fx.F__law_mix.kp Fx.b__law_mix (fun σ => passAt (takes_of rfl rfl rfl rfl) σ) h)) xe_int (fun h h2 => pe_op op_mod h h2)) xe_int (fun h h2 => pt_cmpR (op_eqD hr.units) h h2 (nomark _))) (xb_one (xs_set (i := 3) gp_s (xe_op ok_add (xe_op ok_ix xe_str (xe_op ok_mod (xe_op ok_div (xe_callS (ok__law_mix Fx) rfl (la1 (la1 (la1 la0))) (xl_cons (xv (pv 0)) (xl_cons (xv (pv 1)) (xl_cons xe_int xl_nil (fun h h2 => pa_cons h h2)) (fun h h2 => pa_cons h h2)) (fun h h2 => pa_cons h h2)) (fun h => pe_callS (ok__law_mix Fx) (hr.mono (by decide)) (by rfl) Fx.g__law_mix Fx.F__law_mix.kp Fx.b__law_mix (fun σ => passAt (takes_of rfl rfl rfl rfl) σ) h)) xe_int (fun h h2 => pe_op op_fdivA h h2)) xe_int (fun h h2 => pe_op op_mod h h2)) (fun h h2 => pe_ix ix_A h h2 (fun _ _ => rfl))) (xe_sl rfl (xv (pv 3)) (XBd.some xe_int) XBd.none) (fun h h2 => pe_op op_addA h h2)) (fun h => ps_set (i := 3) (sc__law_text_by).nd rfl (Or.inl rfl) h) set_rep))
    xb_nil)
    (xb_cons (xs_set (i := 4) gp_s (xe_op ok_mod (xe_callS (ok__law_mix Fx) rfl (la1 (la1 (la1 la0))) (xl_cons (xv (pv 0)) (xl_cons (xv (pv 1)) (xl_cons xe_int xl_nil (fun h h2 => pa_cons h h2)) (fun h h2 => pa_cons h h2)) (fun h h2 => pa_cons h h2)) (fun h => pe_callS (ok__law_mix Fx) (hr.mono (by decide)) (by rfl) Fx.g__law_mix Fx.F__law_mix.kp Fx.b__law_mix (fun σ => passAt (takes_of rfl rfl rfl rfl) σ) h)) xe_int (fun h h2 => pe_op op_mod h h2)) (fun h => ps_set (i := 4) (sc__law_text_by).nd rfl (Or.inl rfl) h) set_rep)
    (xb_cons (xs_if gp_s (xt_op ok_lt (xv (pv 4)) xe_int (fun h h2 => pt_cmpR op_lt h h2 (nomark _))) (xb_cons (xs_set (i := 5) gp_s (xe_op ok_mod (xe_callS (ok__law_mix Fx) rfl (la1 (la1 (la1 la0))) (xl_cons (xv (pv 0)) (xl_cons (xv (pv 1)) (xl_cons xe_int xl_nil (fun h h2 => pa_cons h h2)) (fun h h2 => pa_cons h h2)) (fun h h2 => pa_cons h h2)) (fun h => pe_callS (ok__law_mix Fx) (hr.mono (by decide)) (by rfl) Fx.g__law_mix Fx.F__law_mix.kp Fx.b__law_mix (fun σ => passAt (takes_of rfl rfl rfl rfl) σ) h)) (xe_op ok_add (xe_L ok_len (xl_cons (xv (pv 3)) xl_nil (fun h h2 => pa_cons h h2)) (fun h => pe_callB call_lenA (by rfl) Fx.z_len PySem.boot_len h)) xe_int (fun h h2 => pe_op op_addA h h2)) (fun h h2 => pe_op op_mod h h2)) (fun h => ps_set (i := 5) (sc__law_text_by).nd rfl (Or.inl rfl) h) set_rep)
    (xb_cons (xs_set (i := 6) gp_s xe_str (fun h => ps_set (i := 6) (sc__law_text_by).nd rfl (Or.inl rfl) h) set_rep)
    (xb_one (xs_set (i := 3) gp_s (xe_op ok_add (xe_op ok_add (xe_sl rfl (xv (pv 3)) XBd.none (XBd.some (xv (pv 5)))) (xe_op ok_ix (xv (pv 6)) (xe_op ok_mod (xe_callS (ok__law_mix Fx) rfl (la1 (la1 (la1 la0))) (xl_cons (xv (pv 0)) (xl_cons (xv (pv 1)) (xl_cons xe_int xl_nil (fun h h2 => pa_cons h h2)) (fun h h2 => pa_cons h h2)) (fun h h2 => pa_cons h h2)) (fun h => pe_callS (ok__law_mix Fx) (hr.mono (by decide)) (by rfl) Fx.g__law_mix Fx.F__law_mix.kp Fx.b__law_mix (fun σ => passAt (takes_of rfl rfl rfl rfl) σ) h)) (xe_L ok_len (xl_cons (xv (pv 6)) xl_nil (fun h h2 => pa_cons h h2)) (fun h => pe_callB call_lenA (by rfl) Fx.z_len PySem.boot_len h)) (fun h h2 => pe_op op_mod h h2)) (fun h h2 => pe_ix ix_A h h2 (fun _ _ => rfl))) (fun h h2 => pe_op op_addA h h2)) (xe_sl rfl (xv (pv 3)) (XBd.some (xe_op ok_add (xv (pv 5)) (xv (pv 4)) (fun h h2 => pe_op op_addA h h2))) XBd.none) (fun h h2 => pe_op op_addA h h2)) (fun h => ps_set (i := 3) (sc__law_text_by).nd rfl (Or.inl rfl) h) set_rep))))
    xb_nil)
    (xb_cons (xs_if gp_s (xt_op ok_eq (xe_op ok_mod (xe_callS (ok__law_mix Fx) rfl (la1 (la1 (la1 la0))) (xl_cons (xv (pv 0)) (xl_cons (xv (pv 1)) (xl_cons xe_int xl_nil (fun h h2 => pa_cons h h2)) (fun h h2 => pa_cons h h2)) (fun h h2 => pa_cons h h2)) (fun h => pe_callS (ok__law_mix Fx) (hr.mono (by decide)) (by rfl) Fx.g__law_mix Fx.F__law_mix.kp Fx.b__law_mix (fun σ => passAt (takes_of rfl rfl rfl rfl) σ) h)) xe_int (fun h h2 => pe_op op_mod h h2)) xe_int (fun h h2 => pt_cmpR (op_eqD hr.units) h h2 (nomark _))) (xb_cons (xs_set (i := 7) gp_s (xe_lst (xl_cons xe_str (xl_cons xe_str (xl_cons xe_str (xl_cons xe_str (xl_cons xe_str (xl_cons xe_str (xl_cons xe_str (xl_cons xe_str (xl_cons xe_str (xl_cons xe_str (xl_cons xe_str (xl_cons xe_str (xl_cons xe_str (xl_cons xe_str xl_nil (fun h h2 => pa_cons h h2)) (fun h h2 => pa_cons h h2)) (fun h h2 => pa_cons h h2)) (fun h h2 => pa_cons h h2)) (fun h h2 => pa_cons h h2)) (fun h h2 => pa_cons h h2)) (fun h h2 => pa_cons h h2)) (fun h h2 => pa_cons h h2)) (fun h h2 => pa_cons h h2)) (fun h h2 => pa_cons h h2)) (fun h h2 => pa_cons h h2)) (fun h h2 => pa_cons h h2)) (fun h h2 => pa_cons h h2)) (fun h h2 => pa_cons h h2))) (fun h => ps_set (i := 7) (sc__law_text_by).nd rfl (Or.inl rfl) h) set_rep)
    (xb_one (xs_set (i := 3) gp_s (xe_op ok_ix (xv (pv 7)) (xe_op ok_mod (xe_op ok_div (xe_callS (ok__law_mix Fx) rfl (la1 (la1 (la1 la0))) (xl_cons (xv (pv 0)) (xl_cons (xv (pv 1)) (xl_cons xe_int xl_nil (fun h h2 => pa_cons h h2)) (fun h h2 => pa_cons h h2)) (fun h h2 => pa_cons h h2)) (fun h => pe_callS (ok__law_mix Fx) (hr.mono (by decide)) (by rfl) Fx.g__law_mix Fx.F__law_mix.kp Fx.b__law_mix (fun σ => passAt (takes_of rfl rfl rfl rfl) σ) h)) xe_int (fun h h2 => pe_op op_fdivA h h2)) xe_int (fun h h2 => pe_op op_mod h h2)) (fun h h2 => pe_ix ix_A h h2 (fun _ _ => rfl))) (fun h => ps_set (i := 3) (sc__law_text_by).nd rfl (Or.inl rfl) h) set_rep)))
    xb_nil)
    (xb_one (xs_ret gp_s gp_s rfl (xv (pv 3)) (fun h => ps_ret h))))))))))
noncomputable def m__law_told : FS := (fSeq (fSet 1 (eC .non))
    (fSeq (fSet 2 (eC (.bl false)))
    (fSeq (fSet 3 (eC (.bl false)))
    (fSeq (fTry (fSet 1 (eCall f_read_whole (lCons (eVar 0) lNil))) 4 (caught_StokeError) (fun y => (fSeq (fSet 3 (eC (.bl true)))
    (fSeq (fSet 2 (eAnd (eHeld 4 (isX_NoText y.cls)) (eHeld 4 (isX_ValueError y.cls))))
    (fIf (eHeld 4 (isX_NoNumber_NoLine_NoName_Twice_NoState_TooMany_NoHold_NoStove y.cls)) (fSet 2 (eC (.bl false)))
    fPass)))))
    (fSeq (fIf (eTru (eVar 3)) (fRet (eTup (lCons (eC (.str "refused")) (lCons (eVar 2) lNil))))
    fPass)
    (fRet (eTup (lCons (eC (.str "told")) (lCons (eVar 1) lNil)))))))))
noncomputable def f__law_told : FF := fBody 5 1 (ΓS 1) m__law_told
theorem ok__law_told : FnOk P w K mg base (L2.CX P w) 3 Fx.a__law_told Fx.d__law_told ["_law_text"] (spD (th Fx) 1 (sgS 1) f__law_told) :=
  fn_okS (N := N__law_told) (B := m__law_told) (Γ' := (ΓS 5)) Fx.F__law_told sc__law_told rfl (by decide) fun cdv A outer s H E hr =>
    (xb_cons (xs_set (i := 1) gp_s xe_non (fun h => ps_set (i := 1) (sc__law_told).nd rfl (Or.inl rfl) h) set_rep)
    (xb_cons (xs_set (i := 2) gp_s xe_bl (fun h => ps_set (i := 2) (sc__law_told).nd rfl (Or.inl rfl) h) set_rep)
    (xb_cons (xs_set (i := 3) gp_s xe_bl (fun h => ps_set (i := 3) (sc__law_told).nd rfl (Or.inl rfl) h) set_rep)
    (xb_cons (xs_try (i := 4) gp_s (by decide) rfl rfl (sc__law_told).nd rfl rfl ⟨by rfl, by decide, .inl Fx.gc_StokeError⟩ (takes_of rfl rfl rfl rfl) Fx.exm_StokeError (fun W pn xe tk hp => (xb_one (xs_set (i := 1) rfl (xe_callS (ok_read_whole Fx) rfl (la1 la0) (xl_cons (xv (pv 0)) xl_nil (fun h h2 => pa_cons h h2)) (fun h => pe_callS (ok_read_whole Fx) (hr.mono (by decide)) (by rfl) Fx.g_read_whole Fx.F_read_whole.kp Fx.b_read_whole (fun σ => passAt tk σ) h)) (fun h => ps_set (i := 1) (sc__law_told).nd rfl (Or.inl rfl) h) set_rep)))
    (fun y a oe pn hy hc hz hfl => (xb_cons (xs_set (i := 3) trivial xe_bl (fun h => ps_set (i := 3) (sc__law_told).nd rfl (Or.inl rfl) h) (set_repE (by decide)))
    (xb_cons (xs_set (i := 2) trivial (xe_and (xe_isE (i := 4) (c := .ref Fx.c_NoText) (cv := .ref Fx.c_NoText) (getD_set_self (by decide)) (fun u r => r) (Fx.is_NoText y hy hc) (pe_callB (call_isE (Fx.excC y hy) hz hfl) (by rfl) Fx.z_isinstance PyProof.Rows.boot_isinstance (pa_cons (pv 4) (pa_cons (pe_glob (v := .ref Fx.c_NoText) (by rfl) Fx.gc_NoText rfl) pa_nil)))) (xe_and1 (xe_isE (i := 4) (c := .ty "ValueError") (cv := .type "ValueError") (getD_set_self (by decide)) (fun u r => r) (Fx.is_ValueError y hy hc) (pe_callB (call_isE (Fx.excC y hy) hz hfl) (by rfl) Fx.z_isinstance PyProof.Rows.boot_isinstance (pa_cons (pv 4) (pa_cons (pe_bltn (v := .ty "ValueError") (by rfl) Fx.z_ValueError (by decide +kernel) rfl) pa_nil)))))) (fun h => ps_set (i := 2) (sc__law_told).nd rfl (Or.inl rfl) h) (set_repE (by decide)))
    (xb_one (xs_if trivial (xt_val (xe_isET (i := 4) (cs := [.ref Fx.c_NoNumber, .ref Fx.c_NoLine, .ref Fx.c_NoName, .ref Fx.c_Twice, .ref Fx.c_NoState, .ref Fx.c_TooMany, .ref Fx.c_NoHold, .ref Fx.c_NoStove]) (getD_set_self (by decide)) (show 8 ≤ 1000 by decide) (.cons (ClsV.own Fx.c_NoNumber) (.cons (ClsV.own Fx.c_NoLine) (.cons (ClsV.own Fx.c_NoName) (.cons (ClsV.own Fx.c_Twice) (.cons (ClsV.own Fx.c_NoState) (.cons (ClsV.own Fx.c_TooMany) (.cons (ClsV.own Fx.c_NoHold) (.cons (ClsV.own Fx.c_NoStove) Paired.nil)))))))) (Fx.is_NoNumber_NoLine_NoName_Twice_NoState_TooMany_NoHold_NoStove y hy hc) (pe_callB (call_isET (Fx.excC y hy) hz hfl) (by rfl) Fx.z_isinstance PyProof.Rows.boot_isinstance (pa_cons (pv 4) (pa_cons (pe_tup (pcs_pa (PCs.cons (pe_glob (v := .ref Fx.c_NoNumber) (by rfl) Fx.gc_NoNumber rfl) (PCs.cons (pe_glob (v := .ref Fx.c_NoLine) (by rfl) Fx.gc_NoLine rfl) (PCs.cons (pe_glob (v := .ref Fx.c_NoName) (by rfl) Fx.gc_NoName rfl) (PCs.cons (pe_glob (v := .ref Fx.c_Twice) (by rfl) Fx.gc_Twice rfl) (PCs.cons (pe_glob (v := .ref Fx.c_NoState) (by rfl) Fx.gc_NoState rfl) (PCs.cons (pe_glob (v := .ref Fx.c_TooMany) (by rfl) Fx.gc_TooMany rfl) (PCs.cons (pe_glob (v := .ref Fx.c_NoHold) (by rfl) Fx.gc_NoHold rfl) (PCs.cons (pe_glob (v := .ref Fx.c_NoStove) (by rfl) Fx.gc_NoStove rfl) PCs.nil)))))))))) pa_nil)))) (fun h => .inl (pt_val h))) (xb_one (xs_set (i := 2) trivial xe_bl (fun h => ps_set (i := 2) (sc__law_told).nd rfl (Or.inl rfl) h) (set_repE (by decide))))
    xb_nil))))))
    (xb_cons (xs_if gp_s (xt_tru (xv (pv 3)) rfl) (xb_one (xs_ret gp_s gp_s rfl (xe_tup (xl_cons xe_str (xl_cons (xv (pv 2)) xl_nil (fun h h2 => pa_cons h h2)) (fun h h2 => pa_cons h h2))) (fun h => ps_ret h)))
    xb_nil)
    (xb_one (xs_ret gp_s gp_s rfl (xe_tup (xl_cons xe_str (xl_cons (xv (pv 1)) xl_nil (fun h h2 => pa_cons h h2)) (fun h h2 => pa_cons h h2))) (fun h => ps_ret h))))))))
noncomputable def b_law_1 : FS := (fSeq (fSet 3 (eCall f__law_text_by (lCons (eOp hIx (eVar 1) (eVar 2)) (lCons (eVar 2) lNil))))
    (fSeq (fSet 4 (eCall f__law_due (lCons (eVar 3) lNil)))
    (fSeq (fSet 5 (eCall f__law_told (lCons (eVar 3) lNil)))
    (fIf (eOp hEq (eVar 4) (eTup lNil)) (fIf (eOp hNe (eVar 5) (eTup (lCons (eC (.str "refused")) (lCons (eC (.bl true)) lNil)))) (fRet (eC (.bl false)))
    fPass)
    (fIf (eOr (eOp hNe (eOp hIx (eVar 5) (eC (.int 0))) (eC (.str "told"))) (eOr (eNot (eUn (hIsi "int") (eOp hIx (eVar 5) (eC (.int 1))))) (eOr (eUn (hIsi "bool") (eOp hIx (eVar 5) (eC (.int 1)))) (eOp hNe (eOp hIx (eVar 5) (eC (.int 1))) (eOp hIx (eVar 4) (eC (.int 0))))))) (fRet (eC (.bl false)))
    fPass)))))
theorem u_b_law_1 (ρ : Q.Env) (S : Store) : b_law_1 ρ S = ((fSeq (fSet 3 (eCall f__law_text_by (lCons (eOp hIx (eVar 1) (eVar 2)) (lCons (eVar 2) lNil))))
    (fSeq (fSet 4 (eCall f__law_due (lCons (eVar 3) lNil)))
    (fSeq (fSet 5 (eCall f__law_told (lCons (eVar 3) lNil)))
    (fIf (eOp hEq (eVar 4) (eTup lNil)) (fIf (eOp hNe (eVar 5) (eTup (lCons (eC (.str "refused")) (lCons (eC (.bl true)) lNil)))) (fRet (eC (.bl false)))
    fPass)
    (fIf (eOr (eOp hNe (eOp hIx (eVar 5) (eC (.int 0))) (eC (.str "told"))) (eOr (eNot (eUn (hIsi "int") (eOp hIx (eVar 5) (eC (.int 1))))) (eOr (eUn (hIsi "bool") (eOp hIx (eVar 5) (eC (.int 1)))) (eOp hNe (eOp hIx (eVar 5) (eC (.int 1))) (eOp hIx (eVar 4) (eC (.int 0))))))) (fRet (eC (.bl false)))
    fPass)))))) ρ S := rfl
noncomputable def m_law : FS := (fSeq (fSet 1 (eOp hAdd (eLst (lCons (eC (.int 0)) (lCons (eC (.int 7)) lNil))) (eSl (eVar 0) none (some (eC (.int 70))))))
    (fSeq (fFor (iRange1 (lCons (eL hLen (lCons (eVar 1) lNil)) lNil)) (tfName 2) b_law_1)
    (fRet (eC (.bl true)))))
noncomputable def f_law : FF := fBody 6 1 (ΓS 1) m_law
theorem ok_law : FnOk P w K mg base (L2.CX P w) 4 Fx.a_law Fx.d_law ["_law_script"] (spD (th Fx) 1 (sgS 1) f_law) :=
  fn_okS (N := N_law) (B := m_law) (Γ' := (ΓS 6)) Fx.F_law sc_law rfl (by decide) fun cdv A outer s H E hr =>
    (xb_cons (xs_set (i := 1) gp_s (xe_op ok_add (xe_lst (xl_cons xe_int (xl_cons xe_int xl_nil (fun h h2 => pa_cons h h2)) (fun h h2 => pa_cons h h2))) (xe_sl rfl (xv (pv 0)) XBd.none (XBd.some xe_int)) (fun h h2 => pe_op op_addA h h2)) (fun h => ps_set (i := 1) (sc_law).nd rfl (Or.inl rfl) h) set_rep)
    (xb_cons (xs_for (is := [2]) gp_s (passes_of rfl) rfl (xi_range1 (xl_cons (xe_L ok_len (xl_cons (xv (pv 1)) xl_nil (fun h h2 => pa_cons h h2)) (fun h => pe_callB call_lenA (by rfl) Fx.z_len PySem.boot_len h)) xl_nil (fun h h2 => pa_cons h h2)) (fun h => pi_range1 (by rfl) Fx.z_range h)) (pg_name (i := 2) (sc_law).nd rfl (Or.inl rfl)) (tg_name set_rep) (xb_cons (xs_set (i := 3) gp_s (xe_callS (ok__law_text_by Fx) rfl (la1 (la1 la0)) (xl_cons (xe_op ok_ix (xv (pv 1)) (xv (pv 2)) (fun h h2 => pe_ix ix_A h h2 (fun _ _ => rfl))) (xl_cons (xv (pv 2)) xl_nil (fun h h2 => pa_cons h h2)) (fun h h2 => pa_cons h h2)) (fun h => pe_callS (ok__law_text_by Fx) (hr.mono (by decide)) (by rfl) Fx.g__law_text_by Fx.F__law_text_by.kp Fx.b__law_text_by (fun σ => passAt (takes_of rfl rfl rfl rfl) σ) h)) (fun h => ps_set (i := 3) (sc_law).nd rfl (Or.inl rfl) h) set_rep)
    (xb_cons (xs_set (i := 4) gp_s (xe_callS (ok__law_due Fx) rfl (la1 la0) (xl_cons (xv (pv 3)) xl_nil (fun h h2 => pa_cons h h2)) (fun h => pe_callS (ok__law_due Fx) (hr.mono (by decide)) (by rfl) Fx.g__law_due Fx.F__law_due.kp Fx.b__law_due (fun σ => passAt (takes_of rfl rfl rfl rfl) σ) h)) (fun h => ps_set (i := 4) (sc_law).nd rfl (Or.inl rfl) h) set_rep)
    (xb_cons (xs_set (i := 5) gp_s (xe_callS (ok__law_told Fx) rfl (la1 la0) (xl_cons (xv (pv 3)) xl_nil (fun h h2 => pa_cons h h2)) (fun h => pe_callS (ok__law_told Fx) (hr.mono (by decide)) (by rfl) Fx.g__law_told Fx.F__law_told.kp Fx.b__law_told (fun σ => passAt (takes_of rfl rfl rfl rfl) σ) h)) (fun h => ps_set (i := 5) (sc_law).nd rfl (Or.inl rfl) h) set_rep)
    (xb_one (xs_if gp_s (xt_op ok_eq (xv (pv 4)) (xe_tup xl_nil) (fun h h2 => pt_cmpR (op_eqD hr.units) h h2 (nomark _))) (xb_one (xs_if gp_s (xt_op ok_ne (xv (pv 5)) (xe_tup (xl_cons xe_str (xl_cons xe_bl xl_nil (fun h h2 => pa_cons h h2)) (fun h h2 => pa_cons h h2))) (fun h h2 => pt_cmpR (op_neD hr.units) h h2 (nomark _))) (xb_one (xs_ret gp_s gp_s rfl xe_bl (fun h => ps_ret h)))
    xb_nil))
    (xb_one (xs_if gp_s (PW.pt (xw_or (xt_op ok_ne (xe_op ok_ix (xv (pv 5)) xe_int (fun h h2 => pe_ix ix_A h h2 (fun _ _ => rfl))) xe_str (fun h h2 => pt_cmpR (op_neD hr.units) h h2 (nomark _))) (xw_or (xt_not (xt_val (xe_isi (n := "int") rfl (xe_op ok_ix (xv (pv 5)) xe_int (fun h h2 => pe_ix ix_A h h2 (fun _ _ => rfl))) (fun h => pe_callB call_isi (by rfl) Fx.z_isinstance PyProof.Rows.boot_isinstance (pa_cons h (pa_cons (pe_bltn (v := .ty "int") (by rfl) Fx.z_int (by decide +kernel) rfl) pa_nil)))) (fun h => .inl (pt_val h)))) (xw_or (xt_val (xe_isi (n := "bool") rfl (xe_op ok_ix (xv (pv 5)) xe_int (fun h h2 => pe_ix ix_A h h2 (fun _ _ => rfl))) (fun h => pe_callB call_isi (by rfl) Fx.z_isinstance PyProof.Rows.boot_isinstance (pa_cons h (pa_cons (pe_bltn (v := .ty "bool") (by rfl) Fx.z_bool (by decide +kernel) rfl) pa_nil)))) (fun h => .inl (pt_val h))) (xw_or1 (xt_op ok_ne (xe_op ok_ix (xv (pv 5)) xe_int (fun h h2 => pe_ix ix_A h h2 (fun _ _ => rfl))) (xe_op ok_ix (xv (pv 4)) xe_int (fun h h2 => pe_ix ix_A h h2 (fun _ _ => rfl))) (fun h h2 => pt_cmpR (op_neD hr.units) h h2 (nomark _)))))))) (xb_one (xs_ret gp_s gp_s rfl xe_bl (fun h => ps_ret h)))
    xb_nil))))))))
    (xb_one (xs_ret gp_s gp_s rfl xe_bl (fun h => ps_ret h)))))
end
theorem facts_mk {K : PySem.W.Frag} {h : Heap} {mg : Str → Option Value} (X : K.In h) (G : h.Ns mainGlobals mg)
    {f1 : Addr} {od1 an1 : Option Addr} {sl1 : Array (Option Value)} {oc1 kV1 dc1 pm1 cd1 ct1 : Value}
    (a1 : PySem.W.nsIn K mainGlobals "is_of" = some (some (.ref f1))) (l1 : K.lookup f1 = some ⟨oc1, od1, .func (PySem.W.fnOf "is_of" "is_of" (defArgs s_is_of) (defBody s_is_of) (defScope s_is_of) .none kV1 dc1 pm1 an1 cd1 ct1), sl1⟩) (e1 : PySem.W.codeIn K cd1 "is_of" = true) (k1 : PySem.W.keepIn K (.ref f1) = true)
    {f2 : Addr} {od2 an2 : Option Addr} {sl2 : Array (Option Value)} {oc2 kV2 dc2 pm2 cd2 ct2 : Value}
    (a2 : PySem.W.nsIn K mainGlobals "read_whole" = some (some (.ref f2))) (l2 : K.lookup f2 = some ⟨oc2, od2, .func (PySem.W.fnOf "read_whole" "read_whole" (defArgs s_read_whole) (defBody s_read_whole) (defScope s_read_whole) .none kV2 dc2 pm2 an2 cd2 ct2), sl2⟩) (e2 : PySem.W.codeIn K cd2 "read_whole" = true) (k2 : PySem.W.keepIn K (.ref f2) = true)
    {f3 : Addr} {od3 an3 : Option Addr} {sl3 : Array (Option Value)} {oc3 kV3 dc3 pm3 cd3 ct3 : Value}
    (a3 : PySem.W.nsIn K mainGlobals "_law_mix" = some (some (.ref f3))) (l3 : K.lookup f3 = some ⟨oc3, od3, .func (PySem.W.fnOf "_law_mix" "_law_mix" (defArgs s__law_mix) (defBody s__law_mix) (defScope s__law_mix) .none kV3 dc3 pm3 an3 cd3 ct3), sl3⟩) (e3 : PySem.W.codeIn K cd3 "_law_mix" = true) (k3 : PySem.W.keepIn K (.ref f3) = true)
    {f4 : Addr} {od4 an4 : Option Addr} {sl4 : Array (Option Value)} {oc4 kV4 dc4 pm4 cd4 ct4 : Value}
    (a4 : PySem.W.nsIn K mainGlobals "_law_due" = some (some (.ref f4))) (l4 : K.lookup f4 = some ⟨oc4, od4, .func (PySem.W.fnOf "_law_due" "_law_due" (defArgs s__law_due) (defBody s__law_due) (defScope s__law_due) .none kV4 dc4 pm4 an4 cd4 ct4), sl4⟩) (e4 : PySem.W.codeIn K cd4 "_law_due" = true) (k4 : PySem.W.keepIn K (.ref f4) = true)
    {f5 : Addr} {od5 an5 : Option Addr} {sl5 : Array (Option Value)} {oc5 kV5 dc5 pm5 cd5 ct5 : Value}
    (a5 : PySem.W.nsIn K mainGlobals "_law_text_by" = some (some (.ref f5))) (l5 : K.lookup f5 = some ⟨oc5, od5, .func (PySem.W.fnOf "_law_text_by" "_law_text_by" (defArgs s__law_text_by) (defBody s__law_text_by) (defScope s__law_text_by) .none kV5 dc5 pm5 an5 cd5 ct5), sl5⟩) (e5 : PySem.W.codeIn K cd5 "_law_text_by" = true) (k5 : PySem.W.keepIn K (.ref f5) = true)
    {f6 : Addr} {od6 an6 : Option Addr} {sl6 : Array (Option Value)} {oc6 kV6 dc6 pm6 cd6 ct6 : Value}
    (a6 : PySem.W.nsIn K mainGlobals "_law_told" = some (some (.ref f6))) (l6 : K.lookup f6 = some ⟨oc6, od6, .func (PySem.W.fnOf "_law_told" "_law_told" (defArgs s__law_told) (defBody s__law_told) (defScope s__law_told) .none kV6 dc6 pm6 an6 cd6 ct6), sl6⟩) (e6 : PySem.W.codeIn K cd6 "_law_told" = true) (k6 : PySem.W.keepIn K (.ref f6) = true)
    {f7 : Addr} {od7 an7 : Option Addr} {sl7 : Array (Option Value)} {oc7 kV7 dc7 pm7 cd7 ct7 : Value}
    (a7 : PySem.W.nsIn K mainGlobals "law" = some (some (.ref f7))) (l7 : K.lookup f7 = some ⟨oc7, od7, .func (PySem.W.fnOf "law" "law" (defArgs s_law) (defBody s_law) (defScope s_law) .none kV7 dc7 pm7 an7 cd7 ct7), sl7⟩) (e7 : PySem.W.codeIn K cd7 "law" = true) (k7 : PySem.W.keepIn K (.ref f7) = true)
    {c_NoHold : Addr} (ac_NoHold : PySem.W.nsIn K mainGlobals "NoHold" = some (some (.ref c_NoHold)))
    {c_NoLine : Addr} (ac_NoLine : PySem.W.nsIn K mainGlobals "NoLine" = some (some (.ref c_NoLine)))
    {c_NoName : Addr} (ac_NoName : PySem.W.nsIn K mainGlobals "NoName" = some (some (.ref c_NoName)))
    {c_NoNumber : Addr} (ac_NoNumber : PySem.W.nsIn K mainGlobals "NoNumber" = some (some (.ref c_NoNumber)))
    {c_NoState : Addr} (ac_NoState : PySem.W.nsIn K mainGlobals "NoState" = some (some (.ref c_NoState)))
    {c_NoStove : Addr} (ac_NoStove : PySem.W.nsIn K mainGlobals "NoStove" = some (some (.ref c_NoStove)))
    {c_NoText : Addr} (ac_NoText : PySem.W.nsIn K mainGlobals "NoText" = some (some (.ref c_NoText)))
    {c_StokeError : Addr} (ac_StokeError : PySem.W.nsIn K mainGlobals "StokeError" = some (some (.ref c_StokeError)))
    {c_TooMany : Addr} (ac_TooMany : PySem.W.nsIn K mainGlobals "TooMany" = some (some (.ref c_TooMany)))
    {c_Twice : Addr} (ac_Twice : PySem.W.nsIn K mainGlobals "Twice" = some (some (.ref c_Twice)))
    {tv_FIGURES : Tok} (nv_FIGURES : PySem.W.nsIn K mainGlobals "FIGURES" = some (some (.str "0123456789" tv_FIGURES)))
    {tv_LONGEST : Tok} (nv_LONGEST : PySem.W.nsIn K mainGlobals "LONGEST" = some (some (.int 30 tv_LONGEST)))
    (z_ValueError : PySem.W.nsIn K mainGlobals "ValueError" = some none)
    (z_bool : PySem.W.nsIn K mainGlobals "bool" = some none)
    (z_int : PySem.W.nsIn K mainGlobals "int" = some none)
    (z_isinstance : PySem.W.nsIn K mainGlobals "isinstance" = some none)
    (z_len : PySem.W.nsIn K mainGlobals "len" = some none)
    (z_range : PySem.W.nsIn K mainGlobals "range" = some none)
    (x_NoText : PySem.W.excIn K c_NoText [.type "ValueError", .type "Exception", .type "BaseException", .type "object"] "ValueError.__new__" = true)
    (k_NoText : PySem.W.keepIn K (.ref c_NoText) = true)
    (b_NoText : PySem.W.subIn K (.ref c_NoText) (.type "BaseException") = some true)
    (t_NoText : PySem.W.typeIn K (.ref c_NoText) = some (.type "type"))
    (hg_NoText : PySem.W.findIn K (.ref c_NoText) "__getattribute__" = some (some (.builtin "BaseException.__getattribute__")))
    (hk_NoText : PySem.W.findIn K (.ref c_NoText) "__getattr__" = some none)
    (hd_NoText : PySem.W.hasDictIn K c_NoText = true)
    (ha_NoText : PySem.W.findIn K (.ref c_NoText) "__class__" = some (some (.builtin "object.__class__")))
    (hm_NoText : PySem.W.mroIn K c_NoText (.type "object") = some true)
    (hn : PySem.W.specialIn K (.builtin "object.__class__") "__get__" = some (some (.builtin "getset_descriptor.__get__"))) (ht : PySem.W.takesIn K (.builtin "object.__class__") = some true)
    (xb_StokeError : PySem.W.subIn K (.ref c_StokeError) (.type "BaseException") = some true) (xd_StokeError : PySem.W.hasDictIn K c_StokeError = true) (xt_StokeError : PySem.W.typeIn K (.ref c_StokeError) = some (.type "type"))
    (xs_StokeError_0 : PySem.W.subIn K (.ref c_NoText) (.ref c_StokeError) = some true)
    (ic_NoHold : PySem.W.isClsIn K c_NoHold = true) (it_NoHold : PySem.W.typeIn K (.ref c_NoHold) = some (.type "type"))
    (su_NoText_NoHold : PySem.W.subIn K (.ref c_NoText) (.ref c_NoHold) = some false)
    (ne_NoText_NoHold : (c_NoText == c_NoHold) = false)
    (ic_NoLine : PySem.W.isClsIn K c_NoLine = true) (it_NoLine : PySem.W.typeIn K (.ref c_NoLine) = some (.type "type"))
    (su_NoText_NoLine : PySem.W.subIn K (.ref c_NoText) (.ref c_NoLine) = some false)
    (ne_NoText_NoLine : (c_NoText == c_NoLine) = false)
    (ic_NoName : PySem.W.isClsIn K c_NoName = true) (it_NoName : PySem.W.typeIn K (.ref c_NoName) = some (.type "type"))
    (su_NoText_NoName : PySem.W.subIn K (.ref c_NoText) (.ref c_NoName) = some false)
    (ne_NoText_NoName : (c_NoText == c_NoName) = false)
    (ic_NoNumber : PySem.W.isClsIn K c_NoNumber = true) (it_NoNumber : PySem.W.typeIn K (.ref c_NoNumber) = some (.type "type"))
    (su_NoText_NoNumber : PySem.W.subIn K (.ref c_NoText) (.ref c_NoNumber) = some false)
    (ne_NoText_NoNumber : (c_NoText == c_NoNumber) = false)
    (ic_NoState : PySem.W.isClsIn K c_NoState = true) (it_NoState : PySem.W.typeIn K (.ref c_NoState) = some (.type "type"))
    (su_NoText_NoState : PySem.W.subIn K (.ref c_NoText) (.ref c_NoState) = some false)
    (ne_NoText_NoState : (c_NoText == c_NoState) = false)
    (ic_NoStove : PySem.W.isClsIn K c_NoStove = true) (it_NoStove : PySem.W.typeIn K (.ref c_NoStove) = some (.type "type"))
    (su_NoText_NoStove : PySem.W.subIn K (.ref c_NoText) (.ref c_NoStove) = some false)
    (ne_NoText_NoStove : (c_NoText == c_NoStove) = false)
    (ic_NoText : PySem.W.isClsIn K c_NoText = true) (it_NoText : PySem.W.typeIn K (.ref c_NoText) = some (.type "type"))
    (su_NoText_NoText : PySem.W.subIn K (.ref c_NoText) (.ref c_NoText) = some true)
    (ic_TooMany : PySem.W.isClsIn K c_TooMany = true) (it_TooMany : PySem.W.typeIn K (.ref c_TooMany) = some (.type "type"))
    (su_NoText_TooMany : PySem.W.subIn K (.ref c_NoText) (.ref c_TooMany) = some false)
    (ne_NoText_TooMany : (c_NoText == c_TooMany) = false)
    (ic_Twice : PySem.W.isClsIn K c_Twice = true) (it_Twice : PySem.W.typeIn K (.ref c_Twice) = some (.type "type"))
    (su_NoText_Twice : PySem.W.subIn K (.ref c_NoText) (.ref c_Twice) = some false)
    (ne_NoText_Twice : (c_NoText == c_Twice) = false)
    (su_NoText_ValueError : PySem.W.subIn K (.ref c_NoText) (.type "ValueError") = some true)
    : ∃ Fx : Facts K mg, ∀ (s : Shared) (v : Value), BindsTo s Fx.d_law ⟨[v], []⟩ [("_law_script", v)] := by
  have F1 := fun_mk (st := s_is_of) l1 e1 k1
  have b1 := F1.binds (ps := ["text", "signs", "most"]) fun _ _ _ _ _ _ us hl => match us, hl with | [_, _, _], _ => rfl
  have F2 := fun_mk (st := s_read_whole) l2 e2 k2
  have b2 := F2.binds (ps := ["text"]) fun _ _ _ _ _ _ us hl => match us, hl with | [_], _ => rfl
  have F3 := fun_mk (st := s__law_mix) l3 e3 k3
  have b3 := F3.binds (ps := ["_law_cell", "_law_k", "_law_turn"]) fun _ _ _ _ _ _ us hl => match us, hl with | [_, _, _], _ => rfl
  have F4 := fun_mk (st := s__law_due) l4 e4 k4
  have b4 := F4.binds (ps := ["_law_text"]) fun _ _ _ _ _ _ us hl => match us, hl with | [_], _ => rfl
  have F5 := fun_mk (st := s__law_text_by) l5 e5 k5
  have b5 := F5.binds (ps := ["_law_cell", "_law_k"]) fun _ _ _ _ _ _ us hl => match us, hl with | [_, _], _ => rfl
  have F6 := fun_mk (st := s__law_told) l6 e6 k6
  have b6 := F6.binds (ps := ["_law_text"]) fun _ _ _ _ _ _ us hl => match us, hl with | [_], _ => rfl
  have F7 := fun_mk (st := s_law) l7 e7 k7
  have b7 := F7.binds (ps := ["_law_script"]) fun _ _ _ _ _ _ us hl => match us, hl with | [_], _ => rfl
  exact ⟨{
    a_is_of := f1,
    d_is_of := _,
    a_read_whole := f2,
    d_read_whole := _,
    a__law_mix := f3,
    d__law_mix := _,
    a__law_due := f4,
    d__law_due := _,
    a__law_text_by := f5,
    d__law_text_by := _,
    a__law_told := f6,
    d__law_told := _,
    a_law := f7,
    d_law := _,
    tv_FIGURES := tv_FIGURES,
    gv_FIGURES := PySem.W.mg_of X G nv_FIGURES,
    tv_LONGEST := tv_LONGEST,
    gv_LONGEST := PySem.W.mg_of X G nv_LONGEST,
    c_NoHold := c_NoHold,
    c_NoLine := c_NoLine,
    c_NoName := c_NoName,
    c_NoNumber := c_NoNumber,
    c_NoState := c_NoState,
    c_NoStove := c_NoStove,
    c_NoText := c_NoText,
    c_StokeError := c_StokeError,
    c_TooMany := c_TooMany,
    c_Twice := c_Twice,
    F_is_of := F1,
    b_is_of := b1,
    g_is_of := PySem.W.mg_of X G a1,
    F_read_whole := F2,
    b_read_whole := b2,
    g_read_whole := PySem.W.mg_of X G a2,
    F__law_mix := F3,
    b__law_mix := b3,
    g__law_mix := PySem.W.mg_of X G a3,
    F__law_due := F4,
    b__law_due := b4,
    g__law_due := PySem.W.mg_of X G a4,
    F__law_text_by := F5,
    b__law_text_by := b5,
    g__law_text_by := PySem.W.mg_of X G a5,
    F__law_told := F6,
    b__law_told := b6,
    g__law_told := PySem.W.mg_of X G a6,
    F_law := F7,
    b_law := b7,
    g_law := PySem.W.mg_of X G a7,
    z_ValueError := PySem.W.mg_none_of X G z_ValueError,
    z_bool := PySem.W.mg_none_of X G z_bool,
    z_int := PySem.W.mg_none_of X G z_int,
    z_isinstance := PySem.W.mg_none_of X G z_isinstance,
    z_len := PySem.W.mg_none_of X G z_len,
    z_range := PySem.W.mg_none_of X G z_range,
    gc_NoHold := PySem.W.mg_of X G ac_NoHold,
    gc_NoLine := PySem.W.mg_of X G ac_NoLine,
    gc_NoName := PySem.W.mg_of X G ac_NoName,
    gc_NoNumber := PySem.W.mg_of X G ac_NoNumber,
    gc_NoState := PySem.W.mg_of X G ac_NoState,
    gc_NoStove := PySem.W.mg_of X G ac_NoStove,
    gc_NoText := PySem.W.mg_of X G ac_NoText,
    gc_StokeError := PySem.W.mg_of X G ac_StokeError,
    gc_TooMany := PySem.W.mg_of X G ac_TooMany,
    gc_Twice := PySem.W.mg_of X G ac_Twice,
    x_NoText := x_NoText,
    k_NoText := k_NoText,
    b_NoText := b_NoText,
    t_NoText := t_NoText,
    e_NoText := ⟨hg_NoText, hk_NoText, b_NoText, hd_NoText, ha_NoText, hn, ht, hm_NoText⟩,
    exm_StokeError_0 := PySem.W.exm_ref xb_StokeError xd_StokeError xt_StokeError xs_StokeError_0,
    is_NoText_0 := (kit_t ic_NoText it_NoText su_NoText_NoText),
    is_ValueError_0 := (kit_ve su_NoText_ValueError),
    is_NoNumber_NoLine_NoName_Twice_NoState_TooMany_NoHold_NoStove_0 := (kitAny_cons (kit_f ic_NoNumber it_NoNumber su_NoText_NoNumber ne_NoText_NoNumber) (fun _ => (kitAny_cons (kit_f ic_NoLine it_NoLine su_NoText_NoLine ne_NoText_NoLine) (fun _ => (kitAny_cons (kit_f ic_NoName it_NoName su_NoText_NoName ne_NoText_NoName) (fun _ => (kitAny_cons (kit_f ic_Twice it_Twice su_NoText_Twice ne_NoText_Twice) (fun _ => (kitAny_cons (kit_f ic_NoState it_NoState su_NoText_NoState ne_NoText_NoState) (fun _ => (kitAny_cons (kit_f ic_TooMany it_TooMany su_NoText_TooMany ne_NoText_TooMany) (fun _ => (kitAny_cons (kit_f ic_NoHold it_NoHold su_NoText_NoHold ne_NoText_NoHold) (fun _ => (kitAny_cons (kit_f ic_NoStove it_NoStove su_NoText_NoStove ne_NoText_NoStove) (fun _ => kitAny_nil) (fun h => by cases h))) (fun h => by cases h))) (fun h => by cases h))) (fun h => by cases h))) (fun h => by cases h))) (fun h => by cases h))) (fun h => by cases h))) (fun h => by cases h)) }, fun s v => .of_eq rfl⟩
end K76

namespace K76
open PySem PySem.Spec PyProof.Rows L2 Q
local macro_rules | `(tactic| walk_at "ev") => `(tactic| simp -implicitDefEqProofs only [ev_body, outsOf, ΓS, List.replicate, List.map_cons, List.map_nil, List.cons_append, List.nil_append, List.headD_cons, List.tail_cons, ev_var, ev_c, ev_op, ev_un, ev_nil, ev_cons, ev_L, ev_tup, ev_lst, ev_call, ev_and, ev_or, ev_not, ev_if, ev_seq, ev_set, ev_ret, ev_drop, ev_pass, ev_brk, ev_ct, ev_raise, ev_ifS, ev_for, ev_held, ev_tru, ev_mut, ev_mutset, mutK_lst, mutR_some, ev_flat, flatK_int, flatK_bl, flatK_str, flatK_non, ev_m1, m1K_str, hIsi_list_lst, hIsi_bool_bl, hIsi_int_bl, hEq_bl, hNe_bl, List.length_map, bind_ok, bind_exc, bindS_ok, bindS_exc, of_some, seq_nx, seq_rt, seq_exc, seq_bk, seq_ct, condS_t, condS_f, condE_t, condE_f, notD_bl, bindE_ok, bindE_exc, bindL_ok, bindL_exc, bindLL_ok, bindLL_exc, bindLS_ok, bindLS_exc, toE_ok, toE_exc, toF_nx, toF_rt, toF_exc, slotE_some, List.getElem?_cons_zero, List.getElem?_cons_succ, List.set_cons_zero, List.set_cons_succ, hNe_int, hEq_int, hAdd_int, hSub_int, hLt_int, hLe_int, hGt_int, hGe_int, hNeg_int, hAbs_int, hIsi_int_int, hIsi_bool_int, hIsi_tuple_tup, hIxT0, hIxT1, hIxT2, hIxT3, hIxT4, hIxL0, hIxL1, hIxL2, hIxL3, hLen_lst, hLen_tup, hLen_scr, ev_sl, bnd_none, bnd_some, bndK_int, hSl_scr, hSl_lst, ev_range1, ev_iseq, seqK_lst, seqK_tup, seqK_scr, Bool.not_true, Bool.not_false, List.length_cons, List.length_nil, Nat.sub_self, Nat.reduceSub, Nat.reduceAdd, Nat.reduceLeDiff, decide_true, decide_false, reduceIte, Int.reduceSub, Int.reduceAdd, Int.reduceMul, Int.reduceNeg, Int.reduceMod, Int.reduceDiv, Int.reduceBEq, Int.reduceLT, Int.reduceLE, Int.cast_ofNat_Int, BEq.rfl, Nat.reduceBEq, Nat.zero_add])
local macro_rules | `(tactic| walk_at "evh") => `(tactic| simp -implicitDefEqProofs only [ev_body, outsOf, ΓS, List.replicate, List.map_cons, List.map_nil, List.cons_append, List.nil_append, List.headD_cons, List.tail_cons, ev_var, ev_c, ev_op, ev_un, ev_nil, ev_cons, ev_L, ev_tup, ev_lst, ev_call, ev_and, ev_or, ev_not, ev_if, ev_seq, ev_set, ev_ret, ev_drop, ev_pass, ev_brk, ev_ct, ev_raise, ev_ifS, ev_for, ev_held, ev_tru, ev_mut, ev_mutset, mutK_lst, mutR_some, ev_flat, flatK_int, flatK_bl, flatK_str, flatK_non, ev_m1, m1K_str, hIsi_list_lst, hIsi_bool_bl, hIsi_int_bl, hEq_bl, hNe_bl, List.length_map, bind_ok, bind_exc, bindS_ok, bindS_exc, of_some, seq_nx, seq_rt, seq_exc, seq_bk, seq_ct, condS_t, condS_f, condE_t, condE_f, notD_bl, bindE_ok, bindE_exc, bindL_ok, bindL_exc, bindLL_ok, bindLL_exc, bindLS_ok, bindLS_exc, toE_ok, toE_exc, toF_nx, toF_rt, toF_exc, slotE_some, List.getElem?_cons_zero, List.getElem?_cons_succ, List.set_cons_zero, List.set_cons_succ, hNe_int, hEq_int, hAdd_int, hSub_int, hLt_int, hLe_int, hGt_int, hGe_int, hNeg_int, hAbs_int, hIsi_int_int, hIsi_bool_int, hIsi_tuple_tup, hIxT0, hIxT1, hIxT2, hIxT3, hIxT4, hIxL0, hIxL1, hIxL2, hIxL3, hLen_lst, hLen_tup, hLen_scr, ev_sl, bnd_none, bnd_some, bndK_int, hSl_scr, hSl_lst, ev_range1, ev_iseq, seqK_lst, seqK_tup, seqK_scr, Bool.not_true, Bool.not_false, List.length_cons, List.length_nil, Nat.sub_self, Nat.reduceSub, Nat.reduceAdd, Nat.reduceLeDiff, decide_true, decide_false, reduceIte, Int.reduceSub, Int.reduceAdd, Int.reduceMul, Int.reduceNeg, Int.reduceMod, Int.reduceDiv, Int.reduceBEq, Int.reduceLT, Int.reduceLE, Int.cast_ofNat_Int, BEq.rfl, Nat.reduceBEq, Nat.zero_add, *])
/-! ### whole numbers read -/
def iStrK (d : D) (S : Store) : RL := match d with
  | .str x => .ok (Q.signs x) S
  | _ => .no
theorem ev_istr {a : FE} {ρ : Q.Env} {S : Store} : iStrD a ρ S = (a ρ S).bindL iStrK := by
  unfold iStrD RE.bindL
  cases a ρ S with
  | ok d S1 => cases d <;> rfl
  | exc x S1 => rfl
  | no => rfl
theorem is_loop (x0 x1 x2 : Option D) (S : Store) (hx1 : x1 = some (.str "0123456789")) : ∀ (cs : List Nat) (x3 : Option D), ∃ y, forL (tfName 3) b_is_of_1 (cs.map fun c => D.str ⟨#[c]⟩) [x0, x1, x2, x3] S = if cs.all dig = true then .nx [x0, x1, x2, y] S else .rt (.bl false) [x0, x1, x2, y] S := by
  subst hx1
  intro cs
  induction cs with
  | nil => intro x3; exact ⟨x3, rfl⟩
  | cons c r ih =>
    intro x3
    rw [List.map_cons, forL]
    simp only [tfName, u_b_is_of_1]
    walk_at "ev"
    rw [hIn_fig]
    walk_at "ev"
    try simp only [if_true]
    cases hc : dig c with
    | true =>
      walk_at "ev"
      obtain ⟨y, e⟩ := ih (some (.str ⟨#[c]⟩))
      exact ⟨y, by rw [e, List.all_cons, hc, Bool.true_and]⟩
    | false =>
      walk_at "ev"
      exact ⟨_, by rw [List.all_cons, hc, Bool.false_and]; rfl⟩
def isOf (t : Str) : Bool := decide (1 ≤ t.length) && (decide (t.length ≤ 30) && t.cps.toList.all dig)
theorem is_of_eq {t : Str} (h : t.length ≤ 1000000) (S : Store) : f_is_of [.str t, .str "0123456789", .int 30] S = .ok (.bl (isOf t)) [none, none, none] S := by
  obtain ⟨y, e⟩ := is_loop (some (.str t)) (some (.str "0123456789")) (some (.int 30)) S rfl t.cps.toList none
  have hl := hLen_str h
  unfold f_is_of m_is_of isOf
  walk_at "ev"
  rw [hl]
  walk_at "ev"
  by_cases h1 : 1 ≤ t.length
  · rw [decide_eq_false (show ¬ (t.length : Int) < 1 by omega), decide_eq_true h1]
    walk_at "ev"
    by_cases h2 : t.length ≤ 30
    · rw [decide_eq_false (show ¬ (30 : Int) < t.length by omega), decide_eq_true h2]
      walk_at "ev"
      simp only [ev_istr]
      walk_at "ev"
      simp only [iStrK, Q.signs]
      walk_at "ev"
      rw [e]
      cases t.cps.toList.all dig with
      | true =>
        simp only [if_true]
        walk_at "ev"
        exact rfl
      | false =>
        simp only [Bool.false_eq_true, if_false]
        walk_at "ev"
        exact rfl
    · rw [decide_eq_true (show (30 : Int) < t.length by omega), decide_eq_false h2]
      walk_at "ev"
      exact rfl
  · rw [decide_eq_true (show (t.length : Int) < 1 by omega), decide_eq_false h1]
    walk_at "ev"
    exact rfl
def okT (t : Str) : Prop := PyData.canLay0 (.str t) = true ∧ t.length ≤ 1000
theorem hEq_str {a b : Str} (ha : PyData.canLay0 (.str a) = true) (hb : PyData.canLay0 (.str b) = true) : hEq (.str a) (.str b) = some (.bl (decide (a = b))) ∧ hNe (.str a) (.str b) = some (.bl !(decide (a = b))) := by
  obtain ⟨x, h1, h2, h3⟩ := hEq_pl (x := .str a) (y := .str b) (by simp only [plD]; exact ha) (by simp only [plD]; exact hb)
  have e : decide (a = b) = x := by
    cases x with
    | true => exact decide_eq_true (by have := h3.mp rfl; cases this; rfl)
    | false => exact decide_eq_false fun z => by have := h3.mpr (by rw [z]); cases this
  rw [e]
  exact ⟨h1, h2⟩
theorem ok_one {c : Nat} (h : dig c = true) : PyData.canLay0 (.str ⟨#[c]⟩) = true := by
  have := of_decide_eq_true h
  simp [PyData.canLay0, PyData.strOk]
  omega
theorem str_one {c d : Nat} : ((⟨#[c]⟩ : Str) = ⟨#[d]⟩) ↔ c = d := by
  constructor
  · intro h; cases h; rfl
  · rintro rfl; rfl
theorem hIx_sign {t : Str} {c : Nat} {r : List Nat} (h : t.cps.toList = c :: r) (hl : t.length ≤ 1000000) : hIx (.str t) (.int 0) = some (.str ⟨#[c]⟩) := by
  show (if t.length ≤ 1000000 then (atI t.cps.toList ((0 : Nat) : Int)).map fun c => D.str ⟨#[c]⟩ else none) = _
  rw [if_pos hl, atI_nat (v := c) (by rw [h]; rfl)]
  rfl
/-- a whole number as it is written -/
def good (t : Str) : Bool := isOf t && !(decide (t.cps.toList.head? = some 48) && !decide (t = "0"))
def valT (t : Str) : Int := ((NumText.digitsVal t.cps.toList : Nat) : Int)
theorem isOf_cons {t : Str} (h : isOf t = true) : ∃ c r, t.cps.toList = c :: r ∧ dig c = true ∧ t.cps.toList.all dig = true ∧ t.length ≤ 30 := by
  unfold isOf at h
  rw [Bool.and_eq_true, Bool.and_eq_true] at h
  obtain ⟨h1, h2, h3⟩ := h
  have h1 := of_decide_eq_true h1
  cases e : t.cps.toList with
  | nil =>
    have : t.cps.toList.length = t.length := by rw [Array.length_toList]; rfl
    rw [e] at this
    simp at this
    omega
  | cons c r =>
    rw [e, List.all_cons, Bool.and_eq_true] at h3
    exact ⟨c, r, rfl, h3.1, by rw [List.all_cons, h3.1, h3.2]; rfl, of_decide_eq_true h2⟩
theorem int_of {t : Str} (h : isOf t = true) : hIntS (.str t) = some (.int (valT t)) := by
  obtain ⟨c, r, e, hc, ha, hl⟩ := isOf_cons h
  show (if t.length ≤ 640 then (PySem.intText? t).map D.int else none) = _
  rw [if_pos (by omega), intText_digits (fun d hd => of_decide_eq_true (List.all_eq_true.mp ha d hd)) (by rw [e]; exact List.cons_ne_nil _ _) (by omega)]
  rfl
theorem read_whole_eq {t : Str} (h : okT t) (S : Store) : f_read_whole [.str t] S = if good t = true then .ok (.int (valT t)) [none] S else .exc ⟨0, []⟩ [none] S := by
  unfold f_read_whole m_read_whole
  walk_at "ev"
  rw [is_of_eq (by have := h.2; omega)]
  walk_at "ev"
  unfold good
  cases hi : isOf t with
  | false =>
    walk_at "ev"
    exact rfl
  | true =>
    obtain ⟨c, r, e, hc, ha, hl⟩ := isOf_cons hi
    walk_at "ev"
    rw [hIx_sign e (by omega)]
    walk_at "ev"
    rw [show ("0" : Str) = ⟨#[48]⟩ from rfl, (hEq_str (ok_one hc) (ok_one (c := 48) rfl)).1]
    walk_at "ev"
    rw [e, List.head?_cons]
    by_cases h0 : c = 48
    · subst h0
      rw [decide_eq_true (show (⟨#[48]⟩ : Str) = ⟨#[48]⟩ from rfl), (hEq_str h.1 (ok_one (c := 48) rfl)).2]
      walk_at "ev"
      by_cases ht : t = ⟨#[48]⟩
      · rw [decide_eq_true ht]
        walk_at "ev"
        rw [int_of hi]
        walk_at "ev"
        simp
      · rw [decide_eq_false ht]
        walk_at "ev"
        simp
    · rw [decide_eq_false (fun z => h0 (str_one.mp z))]
      walk_at "ev"
      rw [int_of hi]
      walk_at "ev"
      simp [h0]
/-! ### the law's defs -/
theorem due_loop (S : Store) (x0 : Option D) : ∀ (cs : List Nat) (v : Nat) (x2 : Option D), v < 10 ^ (60 - cs.length) → cs.length ≤ 30 → ∃ y z, forL (tfName 2) b__law_due_1 (cs.map fun c => D.str ⟨#[c]⟩) [x0, some (.int (v : Int)), x2] S = if cs.all dig = true then .nx [x0, some (.int ((cs.foldl (fun acc c => acc * 10 + (c - 48)) v : Nat) : Int)), y] S else .rt (.tup []) [x0, z, y] S := by
  intro cs
  induction cs with
  | nil => intro v x2 _ _; exact ⟨x2, none, rfl⟩
  | cons c r ih =>
    intro v x2 hv hl
    rw [List.length_cons] at hv hl
    have hv2 : v < 2 ^ 300 := Nat.lt_of_lt_of_le hv (Nat.le_trans (Nat.pow_le_pow_right (by decide) (show 60 - (r.length + 1) ≤ 60 by omega)) (by decide))
    rw [List.map_cons, forL]
    simp only [tfName, u_b__law_due_1]
    walk_at "ev"
    rw [hIn_fig]
    walk_at "ev"
    try simp only [if_true]
    cases hc : dig c with
    | true =>
      walk_at "ev"
      rw [hMul_bd (a := 10) (b := v) (m := 4) (n := 300) (by decide) (by rw [Int.natAbs_natCast]; exact hv2) (by decide)]
      walk_at "ev"
      rw [hSIndex_fig hc]
      walk_at "ev"
      have hd := of_decide_eq_true hc
      have e10 : 60 - r.length = (60 - (r.length + 1)) + 1 := by omega
      obtain ⟨y, z, e⟩ := ih (v * 10 + (c - 48)) (some (.str ⟨#[c]⟩)) (by rw [e10, Nat.pow_succ]; omega) (by omega)
      refine ⟨y, z, ?_⟩
      rw [show ((10 : Int) * (v : Int) + ((c - 48 : Nat) : Int)) = ((v * 10 + (c - 48) : Nat) : Int) by omega, e, List.all_cons, hc, Bool.true_and, List.foldl_cons]
    | false =>
      walk_at "ev"
      exact ⟨_, _, by rw [List.all_cons, hc, Bool.false_and]; rfl⟩
theorem ok_empty : PyData.canLay0 (.str "") = true := by decide +kernel
theorem isOf_eq {t : Str} {c : Nat} {r : List Nat} (e : t.cps.toList = c :: r) (hl : t.length ≤ 30) : isOf t = t.cps.toList.all dig := by
  have h1 : 1 ≤ t.length := by
    have : t.cps.toList.length = t.length := by rw [Array.length_toList]; rfl
    rw [e, List.length_cons] at this
    omega
  unfold isOf
  rw [decide_eq_true h1, decide_eq_true hl]
  rfl
theorem due_eq {t : Str} (h : okT t) (S : Store) : f__law_due [.str t] S = .ok (.tup (if good t = true then [.int (valT t)] else [])) [none] S := by
  have hlen : hLen [.str t] = some (.int t.length) := hLen_str (by have := h.2; omega)
  have ll : t.cps.toList.length = t.length := by rw [Array.length_toList]; rfl
  unfold f__law_due m__law_due
  walk_at "ev"
  rw [(hEq_str h.1 ok_empty).1]
  walk_at "ev"
  cases e : t.cps.toList with
  | nil =>
    have e0 : t = "" := by
      cases t with
      | mk cps =>
        have : cps = #[] := by simpa using e
        rw [this]; rfl
    rw [decide_eq_true e0]
    walk_at "ev"
    have : good t = false := by
      unfold good isOf
      rw [decide_eq_false (by rw [← ll, e]; simp)]
      rfl
    rw [this]
    exact rfl
  | cons c r =>
    have e0 : t ≠ "" := fun z => by rw [z] at e; cases e
    rw [decide_eq_false e0, hlen]
    walk_at "ev"
    by_cases h3 : t.length ≤ 30
    · rw [decide_eq_false (show ¬ (30 : Int) < t.length by omega)]
      walk_at "ev"
      rw [hIx_sign e (by omega)]
      walk_at "ev"
      have okc : PyData.canLay0 (.str ⟨#[c]⟩) = true := by
        have h1 := h.1
        simp only [PyData.canLay0, PyData.strOk] at h1 ⊢
        have : c ∈ t.cps.toList := by rw [e]; exact List.mem_cons_self
        have := Array.all_eq_true_iff_forall_mem.mp h1 c (Array.mem_toList_iff.mp this)
        simp at this
        simp [this]
      rw [show ("0" : Str) = ⟨#[48]⟩ from rfl, (hEq_str okc (ok_one (c := 48) rfl)).1]
      walk_at "ev"
      have fin : ∀ (bad : Bool), (bad = (decide (c = 48) && !decide (t = ⟨#[48]⟩))) → good t = (t.cps.toList.all dig && !bad) := fun bad hb => by
        unfold good
        rw [isOf_eq e h3, e, List.head?_cons, hb]
        simp only [Option.some.injEq]
        rfl
      have loop := fun S => due_loop S (some (.str t)) t.cps.toList 0 none (by rw [ll]; exact Nat.two_pow_pos 0 |> fun _ => Nat.pow_pos (by decide)) (by omega)
      have rest : good t = t.cps.toList.all dig → (((RS.nx [some (.str t), none, none] S).seq (fSeq (fSet 1 (eC (.int 0))) (fSeq (fFor (iStrD (eVar 0)) (tfName 2) b__law_due_1) (fRet (eTup (lCons (eVar 1) lNil)))))).toF [Md.s] 1 = .ok (.tup (if good t = true then [.int (valT t)] else [])) [none] S) := fun hg => by
        walk_at "ev"
        obtain ⟨y, z, el⟩ := loop S
        simp only [ev_istr]
        walk_at "ev"
        simp only [iStrK, Q.signs]
        walk_at "ev"
        rw [show ((0 : Nat) : Int) = (0 : Int) from rfl] at el
        rw [el, hg]
        cases t.cps.toList.all dig with
        | true =>
          simp only [if_true]
          walk_at "ev"
          try exact rfl
        | false =>
          simp only [Bool.false_eq_true, if_false]
          walk_at "ev"
          try exact rfl
      by_cases hc : c = 48
      · subst hc
        rw [decide_eq_true (show (⟨#[48]⟩ : Str) = ⟨#[48]⟩ from rfl), (hEq_str h.1 (ok_one (c := 48) rfl)).2]
        walk_at "ev"
        by_cases ht : t = ⟨#[48]⟩
        · refine Eq.trans ?_ (rest (by rw [fin false (by rw [decide_eq_true ht]; rfl)]; simp))
          rw [decide_eq_true ht]
          walk_at "ev"
        · rw [decide_eq_false ht]
          walk_at "ev"
          rw [fin true (by rw [decide_eq_false ht]; rfl)]
          simp
      · refine Eq.trans ?_ (rest (by rw [fin false (by rw [decide_eq_false hc]; rfl)]; simp))
        rw [decide_eq_false (fun z => hc (str_one.mp z))]
        walk_at "ev"
    · rw [decide_eq_true (show (30 : Int) < t.length by omega)]
      walk_at "ev"
      have : good t = false := by
        unfold good isOf
        rw [decide_eq_false h3]
        simp
      rw [this]
      exact rfl
theorem hTru_bl {b : Bool} : hTru (.bl b) = some (.bl b) := rfl
theorem told_eq {t : Str} (h : okT t) (S : Store) : f__law_told [.str t] S = .ok (.tup (if good t = true then [.str "told", .int (valT t)] else [.str "refused", .bl true])) [none] S := by
  unfold f__law_told m__law_told
  walk_at "ev"
  unfold fTry
  walk_at "ev"
  rw [read_whole_eq h]
  cases good t with
  | true =>
    simp only [if_true]
    walk_at "ev"
    rw [hTru_bl]
    walk_at "ev"
  | false =>
    simp only [Bool.false_eq_true, if_false]
    walk_at "ev"
    have c0 : caught_StokeError 0 = true := rfl
    have c1 : isX_NoText 0 = true := rfl
    have c2 : isX_ValueError 0 = true := rfl
    have c3 : isX_NoNumber_NoLine_NoName_Twice_NoState_TooMany_NoHold_NoStove 0 = false := rfl
    have c4 := @hTru_bl
    walk_at "evh"
    try simp only [if_true]
    try walk_at "evh"
theorem p100 : (2 : Nat) ^ 100 = 1267650600228229401496703205376 := by decide
theorem mix_eq (c : Int) {k j : Nat} (hk : k ≤ 100000) (hj : j < 8) : ∃ m : Nat, m < 65537 ∧ ∀ S, f__law_mix [.int c, .int k, .int j] S = .ok (.int m) [none, none, none] S := by
  obtain ⟨p, hp, p0, p1⟩ : ∃ p : Int, hIx (.lst [.int 65537, .int 65521, .int 65519, .int 65497, .int 65479, .int 65449, .int 65447, .int 65437]) (.int j) = some (.int p) ∧ 0 < p ∧ p ≤ 65537 := by
    have : j = 0 ∨ j = 1 ∨ j = 2 ∨ j = 3 ∨ j = 4 ∨ j = 5 ∨ j = 6 ∨ j = 7 := by omega
    rcases this with e | e | e | e | e | e | e | e <;> subst e <;> exact ⟨_, hIx_lst rfl, by decide, by decide⟩
  have h1 : 0 ≤ (c % 1000003 + 1) * ((k : Int) * k + 48271 + 4099 * j) % p := Int.emod_nonneg _ (by omega)
  have h2 : (c % 1000003 + 1) * ((k : Int) * k + 48271 + 4099 * j) % p < p := Int.emod_lt_of_pos _ p0
  refine ⟨((c % 1000003 + 1) * ((k : Int) * k + 48271 + 4099 * j) % p).toNat, by omega, fun S => ?_⟩
  have P := p100
  have kk : ((k : Int) * k).natAbs < 20000000000 := by
    rw [← Int.natCast_mul, Int.natAbs_natCast]
    have : k * k ≤ 100000 * 100000 := Nat.mul_le_mul hk hk
    omega
  have m1 : hMod (.int c) (.int 1000003) = some (.int (c % 1000003)) := hMod_pos (by decide)
  have m2 : hMul (.int k) (.int k) = some (.int ((k : Int) * k)) := hMul_bd (m := 100) (n := 100) (by omega) (by omega) (by decide)
  have m3 : hMul (.int 4099) (.int j) = some (.int (4099 * (j : Int))) := hMul_bd (m := 100) (n := 100) (by decide) (by omega) (by decide)
  have m4 : hMul (.int (c % 1000003 + 1)) (.int ((k : Int) * k + 48271 + 4099 * (j : Int))) = some (.int ((c % 1000003 + 1) * ((k : Int) * k + 48271 + 4099 * (j : Int)))) := hMul_bd (m := 100) (n := 100) (by omega) (by omega) (by decide)
  have m5 : ∀ a : Int, hMod (.int a) (.int p) = some (.int (a % p)) := fun a => hMod_pos p0
  have m6 := Int.toNat_of_nonneg h1
  clear P kk h1 h2 p0 p1 hk hj
  unfold f__law_mix m__law_mix
  walk_at "evh"
/-! texts that the law builds -/
theorem okT_app {a b : Str} (ha : PyData.canLay0 (.str a) = true) (hb : PyData.canLay0 (.str b) = true) : PyData.canLay0 (.str (a ++ b)) = true := by
  simp only [PyData.canLay0, PyData.strOk] at *
  show ((a.cps ++ b.cps).all fun x => decide (x < 1114112)) = true
  rw [Array.all_append, ha, hb]
  rfl
theorem okT_of {n : Nat} {t : Str} (h : oks n t) (hn : n ≤ 1000) : okT t := ⟨oks_lay h, Nat.le_trans (oks_len h) hn⟩
theorem fig_ok : oks 10 ("0123456789" : Str) := ⟨by decide +kernel, by decide +kernel⟩
theorem fig9_ok : oks 9 ("123456789" : Str) := ⟨by decide +kernel, by decide +kernel⟩
theorem odd_ok : oks 21 (" +-_.,eExXaAlLoO'/:;0" : Str) := ⟨by decide +kernel, by decide +kernel⟩
theorem fig_len : ("0123456789" : Str).cps.toList.length = 10 := by decide +kernel
theorem fig9_len : ("123456789" : Str).cps.toList.length = 9 := by decide +kernel
theorem odd_len : (" +-_.,eExXaAlLoO'/:;0" : Str).length = 21 := by decide +kernel
theorem hIx_nats {l : List D} {i : Nat} {d : D} (h : l[i]? = some d) : hIx (.lst l) (.int i) = some d := hIx_lst h
/-- one of the sizes -/
theorem size_at {j : Nat} (h : j < 8) : ∃ z : Nat, z ≤ 32 ∧ hIx (.lst [.int 1, .int 2, .int 3, .int 17, .int 29, .int 30, .int 31, .int 32]) (.int j) = some (.int (z : Int)) := by
  have : j = 0 ∨ j = 1 ∨ j = 2 ∨ j = 3 ∨ j = 4 ∨ j = 5 ∨ j = 6 ∨ j = 7 := by omega
  rcases this with e | e | e | e | e | e | e | e <;> subst e
  · exact ⟨1, by decide, hIx_lst rfl⟩
  · exact ⟨2, by decide, hIx_lst rfl⟩
  · exact ⟨3, by decide, hIx_lst rfl⟩
  · exact ⟨17, by decide, hIx_lst rfl⟩
  · exact ⟨29, by decide, hIx_lst rfl⟩
  · exact ⟨30, by decide, hIx_lst rfl⟩
  · exact ⟨31, by decide, hIx_lst rfl⟩
  · exact ⟨32, by decide, hIx_lst rfl⟩
def somes : List D := [.str "", .str "-", .str "-1", .str "-0", .str "00", .str "+1", .str "1 ", .str " 1", .str "0x1", .str "1e3", .str "None", .str "1_0", .str "0", .str "1/2"]
theorem some_at {j : Nat} (h : j < 14) : ∃ t : Str, oks 10 t ∧ hIx (.lst somes) (.int j) = some (.str t) := by
  have all : ∀ d ∈ somes, ∃ t : Str, oks 10 t ∧ d = .str t := by
    intro d hd
    simp only [somes, List.mem_cons, List.not_mem_nil, or_false] at hd
    rcases hd with e | e | e | e | e | e | e | e | e | e | e | e | e | e <;> exact ⟨_, ⟨by decide +kernel, by decide +kernel⟩, e⟩
  have hj : j < somes.length := h
  obtain ⟨t, h1, h2⟩ := all _ (List.getElem_mem hj)
  exact ⟨t, h1, hIx_lst (by rw [List.getElem?_eq_getElem hj, h2])⟩
theorem mods {a b : Nat} (h : 0 < b) : hMod (.int a) (.int b) = some (.int ((a % b : Nat) : Int)) := hMod_pos (by omega)
theorem divs {a b : Nat} (h : 0 < b) (hb : b < 2 ^ 60) : hDiv (.int a) (.int b) = some (.int ((a / b : Nat) : Int)) := hDiv_pos (by omega) (by rw [Int.natAbs_natCast]; exact Nat.lt_of_lt_of_le hb (Nat.pow_le_pow_right (by decide) (by decide)))
/-- the figures drawn -/
theorem figs_eq (c : Int) {k z : Nat} (hk : k ≤ 1000) (hz : z ≤ 32) (x3 x4 x5 x6 x7 x8 : Option D) : ∃ t, oks z t ∧ ((eLc (iRange1 (lCons (eVar 2) lNil)) [8] (tfName 8) (eC (.bl true)) e__law_text_by_1 [some (.int c), some (.int k), some (.int (z : Int)), x3, x4, x5, x6, x7, x8] []).bind fun y S2 => RE.of S2 (hJoin (.str "") y)) = .ok (.str t) [] := by
  obtain ⟨ys, e, el, ep⟩ := eLc_ex (it := iRange1 (lCons (eVar 2) lNil)) (vs := [8]) (tf := tfName 8) (C := eC (.bl true)) (E := e__law_text_by_1) (ρ := [some (.int c), some (.int k), some (.int (z : Int)), x3, x4, x5, x6, x7, x8]) (S := []) (S1 := []) (ds := rangeL 0 z) (fun y => ∃ s, oks 1 s ∧ y = .str s)
    (by walk_at "ev"; rw [rgK1_int (by omega)]; try walk_at "ev") (by rw [rangeL_length]; omega) fun d hd => by
      obtain ⟨i, hi⟩ := List.getElem?_of_mem hd
      obtain ⟨rfl, hi⟩ := rangeL_get hi
      rw [Int.zero_add] at hi ⊢
      have m3 : hMul (.int 3) (.int k) = some (.int ((3 * k : Nat) : Int)) := hMul_bd (m := 2) (n := 100) (by decide) (by have := p100; omega) (by decide)
      obtain ⟨m, hm, em⟩ := mix_eq c (k := i + 3 * k) (j := 1) (by omega) (by decide)
      obtain ⟨s, hs, es⟩ := oks_at fig_ok (by decide) (i := m % 10) (by rw [fig_len]; omega)
      refine ⟨_, .str s, rfl, rfl, ?_, s, hs, rfl⟩
      simp only [u_e__law_text_by_1, wipeE]
      walk_at "ev"
      rw [m3]
      walk_at "ev"
      rw [show ((i : Int) + ((3 * k : Nat) : Int)) = ((i + 3 * k : Nat) : Int) from rfl, show (1 : Int) = ((1 : Nat) : Int) from rfl, em]
      walk_at "ev"
      rw [show (10 : Int) = ((10 : Nat) : Int) from rfl, mods (by decide)]
      walk_at "ev"
      rw [es]
      walk_at "ev"
  obtain ⟨l, rfl, hl⟩ := strs_of ep
  rw [List.length_map, rangeL_length] at el
  refine ⟨_, oks_mono (oks_join hl) (by omega), ?_⟩
  rw [e]
  walk_at "ev"
  rw [hJoin_signs hl (by omega)]
  walk_at "ev"
theorem text_eq (c : Int) {k : Nat} (hk : k ≤ 1000) : ∃ t, okT t ∧ f__law_text_by [.int c, .int k] [] = .ok (.str t) [none, none] [] := by
  obtain ⟨m0, hm0, e0⟩ := mix_eq c (k := k) (j := 0) (by omega) (by decide)
  obtain ⟨m2, hm2, e2⟩ := mix_eq c (k := k) (j := 2) (by omega) (by decide)
  obtain ⟨m4, hm4, e4⟩ := mix_eq c (k := k) (j := 4) (by omega) (by decide)
  obtain ⟨m5, hm5, e5⟩ := mix_eq c (k := k) (j := 5) (by omega) (by decide)
  obtain ⟨m6, hm6, e6⟩ := mix_eq c (k := k) (j := 6) (by omega) (by decide)
  obtain ⟨m7, hm7, e7⟩ := mix_eq c (k := k) (j := 7) (by omega) (by decide)
  simp only [Int.cast_ofNat_Int] at e0 e2 e4 e5 e6 e7
  obtain ⟨z, hz, ez⟩ := size_at (j := m0 % 8) (by omega)
  have d8 : hMod (.int m0) (.int 8) = some (.int ((m0 % 8 : Nat) : Int)) := mods (by decide)
  have q8 : hDiv (.int m0) (.int 8) = some (.int ((m0 / 8 : Nat) : Int)) := divs (by decide) (by decide)
  have q16 : hDiv (.int m0) (.int 16) = some (.int ((m0 / 16 : Nat) : Int)) := divs (by decide) (by decide)
  have d2 : hMod (.int ((m0 / 8 : Nat) : Int)) (.int 2) = some (.int ((m0 / 8 % 2 : Nat) : Int)) := mods (by decide)
  have d30 : hMod (.int ((m0 / 16 : Nat) : Int)) (.int 30) = some (.int ((m0 / 16 % 30 : Nat) : Int)) := mods (by decide)
  have d3 : hMod (.int m2) (.int 3) = some (.int ((m2 % 3 : Nat) : Int)) := mods (by decide)
  have q3 : hDiv (.int m2) (.int 3) = some (.int ((m2 / 3 : Nat) : Int)) := divs (by decide) (by decide)
  have d9 : hMod (.int ((m2 / 3 : Nat) : Int)) (.int 9) = some (.int ((m2 / 3 % 9 : Nat) : Int)) := mods (by decide)
  have d5 : hMod (.int m4) (.int 5) = some (.int ((m4 % 5 : Nat) : Int)) := mods (by decide)
  have d79 : hMod (.int m7) (.int 9) = some (.int ((m7 % 9 : Nat) : Int)) := mods (by decide)
  have q79 : hDiv (.int m7) (.int 9) = some (.int ((m7 / 9 : Nat) : Int)) := divs (by decide) (by decide)
  have d14 : hMod (.int ((m7 / 9 : Nat) : Int)) (.int 14) = some (.int ((m7 / 9 % 14 : Nat) : Int)) := mods (by decide)
  unfold f__law_text_by m__law_text_by
  walk_at "evh"
  obtain ⟨z1, hz1, c1⟩ : ∃ z1 : Nat, z1 ≤ 32 ∧ condS (.bl (((m0 / 8 % 2 : Nat) : Int) == 0)) (RS.nx [some (.int c), some (.int k), some (.int (1 + ((m0 / 16 % 30 : Nat) : Int))), none, none, none, none, none, none] []) (RS.nx [some (.int c), some (.int k), some (.int z), none, none, none, none, none, none] []) = .nx [some (.int c), some (.int k), some (.int (z1 : Int)), none, none, none, none, none, none] [] := by
    rw [condS_bl]
    by_cases h : (((m0 / 8 % 2 : Nat) : Int) == 0) = true
    · rw [if_pos h]
      exact ⟨1 + m0 / 16 % 30, by omega, by rw [show (1 + ((m0 / 16 % 30 : Nat) : Int)) = ((1 + m0 / 16 % 30 : Nat) : Int) by omega]⟩
    · rw [if_neg h]; exact ⟨z, hz, rfl⟩
  rw [c1]
  obtain ⟨t1, ht1, ef⟩ := figs_eq c hk hz1 none none none none none none
  walk_at "ev"
  rw [ef]
  obtain ⟨s9, hs9, e9⟩ := oks_at fig9_ok (by decide) (i := m2 / 3 % 9) (by rw [fig9_len]; omega)
  have s1 : hSl (.str t1) (some 1) none = some (.str (cutS t1 (some 1) none)) := hSl_str (by have := oks_len ht1; omega)
  have k1 := oks_cut ht1 (some 1) none
  have a1 : hAdd (.str s9) (.str (cutS t1 (some 1) none)) = some (.str (s9 ++ cutS t1 (some 1) none)) := hAdd_str (by have := oks_len hs9; have := oks_len k1; omega)
  walk_at "evh"
  obtain ⟨t2, ht2, c2⟩ : ∃ t2, oks 33 t2 ∧ condS (.bl (((m2 % 3 : Nat) : Int) == 0)) (RS.nx [some (.int c), some (.int k), some (.int (z1 : Int)), some (.str (s9 ++ cutS t1 (some 1) none)), none, none, none, none, none] []) (RS.nx [some (.int c), some (.int k), some (.int (z1 : Int)), some (.str t1), none, none, none, none, none] []) = .nx [some (.int c), some (.int k), some (.int (z1 : Int)), some (.str t2), none, none, none, none, none] [] := by
    rw [condS_bl]
    split
    · exact ⟨_, oks_mono (oks_app hs9 k1) (by omega), rfl⟩
    · exact ⟨_, oks_mono ht1 (by omega), rfl⟩
  rw [c2]
  have hl2 : hLen [.str t2] = some (.int t2.length) := hLen_str (by have := oks_len ht2; omega)
  have hlo : hLen [.str " +-_.,eExXaAlLoO'/:;0"] = some (.int 21) := by rw [hLen_str (by rw [odd_len]; decide), odd_len]; rfl
  have d51 : hMod (.int m5) (.int ((t2.length : Int) + 1)) = some (.int ((m5 % (t2.length + 1) : Nat) : Int)) := mods (b := t2.length + 1) (by omega)
  have d21 : hMod (.int m6) (.int 21) = some (.int ((m6 % 21 : Nat) : Int)) := mods (by decide)
  obtain ⟨s6, hs6, es6⟩ := oks_at odd_ok (by decide) (i := m6 % 21) (by have := odd_len; rw [Array.length_toList]; show m6 % 21 < (" +-_.,eExXaAlLoO'/:;0" : Str).length; omega)
  generalize m5 % (t2.length + 1) = v5 at *
  have sl1 : hSl (.str t2) none (some (v5 : Int)) = some (.str (cutS t2 none (some (v5 : Int)))) := hSl_str (by have := oks_len ht2; omega)
  have sl2 : hSl (.str t2) (some ((v5 : Int) + ((m4 % 5 : Nat) : Int))) none = some (.str (cutS t2 (some ((v5 : Int) + ((m4 % 5 : Nat) : Int))) none)) := hSl_str (by have := oks_len ht2; omega)
  have k2 := oks_cut ht2 none (some (v5 : Int))
  have k3 := oks_cut ht2 (some ((v5 : Int) + ((m4 % 5 : Nat) : Int))) none
  have k4 := oks_app k2 hs6
  have k5 := oks_app k4 k3
  have a2 : hAdd (.str (cutS t2 none (some (v5 : Int)))) (.str s6) = some (.str (cutS t2 none (some (v5 : Int)) ++ s6)) := hAdd_str (by have := oks_len hs6; have := oks_len k2; omega)
  have a3 := hAdd_str (a := cutS t2 none (some (v5 : Int)) ++ s6) (b := cutS t2 (some ((v5 : Int) + ((m4 % 5 : Nat) : Int))) none) (by have := oks_len k4; have := oks_len k3; omega)
  walk_at "evh"
  obtain ⟨t3, y5, y6, ht3, c3⟩ : ∃ t3 y5 y6, oks 67 t3 ∧ condS (.bl (decide (((m4 % 5 : Nat) : Int) < 2))) (RS.nx [some (.int c), some (.int k), some (.int (z1 : Int)), some (.str (cutS t2 none (some (v5 : Int)) ++ s6 ++ cutS t2 (some ((v5 : Int) + ((m4 % 5 : Nat) : Int))) none)), some (.int ((m4 % 5 : Nat) : Int)), some (.int (v5 : Int)), some (.str " +-_.,eExXaAlLoO'/:;0"), none, none] []) (RS.nx [some (.int c), some (.int k), some (.int (z1 : Int)), some (.str t2), some (.int ((m4 % 5 : Nat) : Int)), none, none, none, none] []) = .nx [some (.int c), some (.int k), some (.int (z1 : Int)), some (.str t3), some (.int ((m4 % 5 : Nat) : Int)), y5, y6, none, none] [] := by
    rw [condS_bl]
    split
    · exact ⟨_, _, _, oks_mono k5 (by omega), rfl⟩
    · exact ⟨_, _, _, oks_mono ht2 (by omega), rfl⟩
  rw [c3]
  obtain ⟨s7, hs7, es7⟩ := some_at (j := m7 / 9 % 14) (by omega)
  simp only [somes] at es7
  walk_at "evh"
  rw [condS_bl]
  split
  · walk_at "ev"
    exact ⟨s7, okT_of hs7 (by decide), rfl⟩
  · walk_at "ev"
    exact ⟨t3, okT_of ht3 (by decide), rfl⟩
theorem e_tt : hEq (.tup []) (.tup []) = some (.bl true) := hEq_t (by decide)
theorem e_it {v : Int} : hEq (.tup [.int v]) (.tup []) = some (.bl false) := hEq_f (by rfl) (by rfl) (by intro h; cases h)
theorem n_told : hNe (.str "told") (.str "told") = some (.bl false) := hNe_t (by decide +kernel)
theorem n_ref : hNe (.tup [.str "refused", .bl true]) (.tup [.str "refused", .bl true]) = some (.bl false) := by
  unfold hNe
  simp only [toPy, toPyL, Option.map_some]
  rw [if_pos (by decide +kernel)]
  congr 2
theorem law_turn {zs : List Int} (x0 : D) (zl : zs.length ≤ 72) : ∀ (i : Nat) (d : D) (ρ : Q.Env) (S : Store), (rangeL 0 (zs.length : Int))[i]? = some d → (∃ (x2 x3 x4 x5 : Option D), ρ = [some x0, some (.lst (zs.map D.int)), x2, x3, x4, x5] ∧ S = []) →
      ∃ ρ1, tfName 2 d ρ = some ρ1 ∧ ((∃ ρ2 S2, b_law_1 ρ1 S = .nx ρ2 S2 ∧ ∃ (x2 x3 x4 x5 : Option D), ρ2 = [some x0, some (.lst (zs.map D.int)), x2, x3, x4, x5] ∧ S2 = []) ∨
        ∃ ρ2 S2, b_law_1 ρ1 S = .ct ρ2 S2 ∧ ∃ (x2 x3 x4 x5 : Option D), ρ2 = [some x0, some (.lst (zs.map D.int)), x2, x3, x4, x5] ∧ S2 = []) := by
  rintro i d ρ S hd ⟨x2, x3, x4, x5, rfl, rfl⟩
  obtain ⟨rfl, hi⟩ := rangeL_get hd
  rw [Int.zero_add] at hi ⊢
  obtain ⟨c, hc⟩ : ∃ c, zs[i]? = some c := ⟨zs[i], List.getElem?_eq_getElem (by omega)⟩
  refine ⟨_, rfl, .inl ?_⟩
  have i1 : hIx (.lst (zs.map D.int)) (.int i) = some (.int c) := hIx_lst (by rw [List.getElem?_map, hc]; rfl)
  obtain ⟨t, ht, et⟩ := text_eq c (k := i) (by omega)
  have ed := due_eq ht []
  have eo := told_eq ht []
  have q1 := e_tt
  have q2 := n_ref
  have q3 := n_told
  simp only [u_b_law_1]
  clear hd hc hi zl
  cases hg : good t with
  | true =>
    rw [hg] at ed eo
    simp only [if_true] at ed eo
    have q4 := e_it (v := valT t)
    clear hg ht
    walk_at "evh"
    exact ⟨_, _, rfl, _, _, _, _, rfl, rfl⟩
  | false =>
    rw [hg] at ed eo
    simp only [Bool.false_eq_true, if_false] at ed eo
    clear hg ht
    walk_at "evh"
    exact ⟨_, _, rfl, _, _, _, _, rfl, rfl⟩
theorem law_eq (ns : List Int) (hl : ns.length ≤ 63) (_ : ∀ z ∈ ns, Builtin.Int.intBits z ≤ 1048576) : ∃ outs S', f_law [.scr (ns.map .int)] [] = .ok (.bl true) outs S' := by
  generalize hz : ([0, 7] ++ ns.take 70 : List Int) = zs
  have zl : zs.length ≤ 72 := by rw [← hz]; simp; omega
  unfold f_law m_law
  walk_at "ev"
  rw [show ((70 : Int)) = ((70 : Nat) : Int) from rfl, cutD_take, ← List.map_take]
  rw [hAdd_lst (by simp; omega)]
  rw [show ([D.int 0, D.int 7] ++ (ns.take 70).map D.int : List D) = zs.map D.int by rw [← hz]; rfl]
  walk_at "ev"
  rw [rgK1_int (by omega)]
  walk_at "ev"
  generalize D.scr (ns.map D.int) = x0
  obtain ⟨ρ', S', e, x2, x3, x4, x5, rfl, rfl⟩ := forL_all (fun i ρ S => ∃ (x2 x3 x4 x5 : Option D), ρ = [some x0, some (.lst (zs.map D.int)), x2, x3, x4, x5] ∧ S = []) (ρ := [some x0, some (.lst (zs.map D.int)), none, none, none, none]) (S := []) ⟨_, _, _, _, rfl, rfl⟩ (law_turn x0 zl)
  rw [e]
  walk_at "ev"
  exact ⟨_, _, rfl⟩
end K76

namespace K76
open PySem PySem.Spec PyProof.Rows L2 Q
theorem law_mk {l : PySem.W.OpenLaw} {w : World} {K : PySem.W.Frag} {h : Heap} {mg : Str → Option Value} {fa : Addr} (X : K.In h) (G : h.Ns mainGlobals mg) (hfa : mg "law" = some (.ref fa))
    {f1 : Addr} {od1 an1 : Option Addr} {sl1 : Array (Option Value)} {oc1 kV1 dc1 pm1 cd1 ct1 : Value}
    (a1 : PySem.W.nsIn K mainGlobals "is_of" = some (some (.ref f1))) (l1 : K.lookup f1 = some ⟨oc1, od1, .func (PySem.W.fnOf "is_of" "is_of" (defArgs s_is_of) (defBody s_is_of) (defScope s_is_of) .none kV1 dc1 pm1 an1 cd1 ct1), sl1⟩) (e1 : PySem.W.codeIn K cd1 "is_of" = true) (k1 : PySem.W.keepIn K (.ref f1) = true)
    {f2 : Addr} {od2 an2 : Option Addr} {sl2 : Array (Option Value)} {oc2 kV2 dc2 pm2 cd2 ct2 : Value}
    (a2 : PySem.W.nsIn K mainGlobals "read_whole" = some (some (.ref f2))) (l2 : K.lookup f2 = some ⟨oc2, od2, .func (PySem.W.fnOf "read_whole" "read_whole" (defArgs s_read_whole) (defBody s_read_whole) (defScope s_read_whole) .none kV2 dc2 pm2 an2 cd2 ct2), sl2⟩) (e2 : PySem.W.codeIn K cd2 "read_whole" = true) (k2 : PySem.W.keepIn K (.ref f2) = true)
    {f3 : Addr} {od3 an3 : Option Addr} {sl3 : Array (Option Value)} {oc3 kV3 dc3 pm3 cd3 ct3 : Value}
    (a3 : PySem.W.nsIn K mainGlobals "_law_mix" = some (some (.ref f3))) (l3 : K.lookup f3 = some ⟨oc3, od3, .func (PySem.W.fnOf "_law_mix" "_law_mix" (defArgs s__law_mix) (defBody s__law_mix) (defScope s__law_mix) .none kV3 dc3 pm3 an3 cd3 ct3), sl3⟩) (e3 : PySem.W.codeIn K cd3 "_law_mix" = true) (k3 : PySem.W.keepIn K (.ref f3) = true)
    {f4 : Addr} {od4 an4 : Option Addr} {sl4 : Array (Option Value)} {oc4 kV4 dc4 pm4 cd4 ct4 : Value}
    (a4 : PySem.W.nsIn K mainGlobals "_law_due" = some (some (.ref f4))) (l4 : K.lookup f4 = some ⟨oc4, od4, .func (PySem.W.fnOf "_law_due" "_law_due" (defArgs s__law_due) (defBody s__law_due) (defScope s__law_due) .none kV4 dc4 pm4 an4 cd4 ct4), sl4⟩) (e4 : PySem.W.codeIn K cd4 "_law_due" = true) (k4 : PySem.W.keepIn K (.ref f4) = true)
    {f5 : Addr} {od5 an5 : Option Addr} {sl5 : Array (Option Value)} {oc5 kV5 dc5 pm5 cd5 ct5 : Value}
    (a5 : PySem.W.nsIn K mainGlobals "_law_text_by" = some (some (.ref f5))) (l5 : K.lookup f5 = some ⟨oc5, od5, .func (PySem.W.fnOf "_law_text_by" "_law_text_by" (defArgs s__law_text_by) (defBody s__law_text_by) (defScope s__law_text_by) .none kV5 dc5 pm5 an5 cd5 ct5), sl5⟩) (e5 : PySem.W.codeIn K cd5 "_law_text_by" = true) (k5 : PySem.W.keepIn K (.ref f5) = true)
    {f6 : Addr} {od6 an6 : Option Addr} {sl6 : Array (Option Value)} {oc6 kV6 dc6 pm6 cd6 ct6 : Value}
    (a6 : PySem.W.nsIn K mainGlobals "_law_told" = some (some (.ref f6))) (l6 : K.lookup f6 = some ⟨oc6, od6, .func (PySem.W.fnOf "_law_told" "_law_told" (defArgs s__law_told) (defBody s__law_told) (defScope s__law_told) .none kV6 dc6 pm6 an6 cd6 ct6), sl6⟩) (e6 : PySem.W.codeIn K cd6 "_law_told" = true) (k6 : PySem.W.keepIn K (.ref f6) = true)
    {f7 : Addr} {od7 an7 : Option Addr} {sl7 : Array (Option Value)} {oc7 kV7 dc7 pm7 cd7 ct7 : Value}
    (a7 : PySem.W.nsIn K mainGlobals "law" = some (some (.ref f7))) (l7 : K.lookup f7 = some ⟨oc7, od7, .func (PySem.W.fnOf "law" "law" (defArgs s_law) (defBody s_law) (defScope s_law) .none kV7 dc7 pm7 an7 cd7 ct7), sl7⟩) (e7 : PySem.W.codeIn K cd7 "law" = true) (k7 : PySem.W.keepIn K (.ref f7) = true)
    {c_NoHold : Addr} (ac_NoHold : PySem.W.nsIn K mainGlobals "NoHold" = some (some (.ref c_NoHold)))
    {c_NoLine : Addr} (ac_NoLine : PySem.W.nsIn K mainGlobals "NoLine" = some (some (.ref c_NoLine)))
    {c_NoName : Addr} (ac_NoName : PySem.W.nsIn K mainGlobals "NoName" = some (some (.ref c_NoName)))
    {c_NoNumber : Addr} (ac_NoNumber : PySem.W.nsIn K mainGlobals "NoNumber" = some (some (.ref c_NoNumber)))
    {c_NoState : Addr} (ac_NoState : PySem.W.nsIn K mainGlobals "NoState" = some (some (.ref c_NoState)))
    {c_NoStove : Addr} (ac_NoStove : PySem.W.nsIn K mainGlobals "NoStove" = some (some (.ref c_NoStove)))
    {c_NoText : Addr} (ac_NoText : PySem.W.nsIn K mainGlobals "NoText" = some (some (.ref c_NoText)))
    {c_StokeError : Addr} (ac_StokeError : PySem.W.nsIn K mainGlobals "StokeError" = some (some (.ref c_StokeError)))
    {c_TooMany : Addr} (ac_TooMany : PySem.W.nsIn K mainGlobals "TooMany" = some (some (.ref c_TooMany)))
    {c_Twice : Addr} (ac_Twice : PySem.W.nsIn K mainGlobals "Twice" = some (some (.ref c_Twice)))
    {tv_FIGURES : Tok} (nv_FIGURES : PySem.W.nsIn K mainGlobals "FIGURES" = some (some (.str "0123456789" tv_FIGURES)))
    {tv_LONGEST : Tok} (nv_LONGEST : PySem.W.nsIn K mainGlobals "LONGEST" = some (some (.int 30 tv_LONGEST)))
    (z_ValueError : PySem.W.nsIn K mainGlobals "ValueError" = some none)
    (z_bool : PySem.W.nsIn K mainGlobals "bool" = some none)
    (z_int : PySem.W.nsIn K mainGlobals "int" = some none)
    (z_isinstance : PySem.W.nsIn K mainGlobals "isinstance" = some none)
    (z_len : PySem.W.nsIn K mainGlobals "len" = some none)
    (z_range : PySem.W.nsIn K mainGlobals "range" = some none)
    (x_NoText : PySem.W.excIn K c_NoText [.type "ValueError", .type "Exception", .type "BaseException", .type "object"] "ValueError.__new__" = true)
    (k_NoText : PySem.W.keepIn K (.ref c_NoText) = true)
    (b_NoText : PySem.W.subIn K (.ref c_NoText) (.type "BaseException") = some true)
    (t_NoText : PySem.W.typeIn K (.ref c_NoText) = some (.type "type"))
    (hg_NoText : PySem.W.findIn K (.ref c_NoText) "__getattribute__" = some (some (.builtin "BaseException.__getattribute__")))
    (hk_NoText : PySem.W.findIn K (.ref c_NoText) "__getattr__" = some none)
    (hd_NoText : PySem.W.hasDictIn K c_NoText = true)
    (ha_NoText : PySem.W.findIn K (.ref c_NoText) "__class__" = some (some (.builtin "object.__class__")))
    (hm_NoText : PySem.W.mroIn K c_NoText (.type "object") = some true)
    (hn : PySem.W.specialIn K (.builtin "object.__class__") "__get__" = some (some (.builtin "getset_descriptor.__get__"))) (ht : PySem.W.takesIn K (.builtin "object.__class__") = some true)
    (xb_StokeError : PySem.W.subIn K (.ref c_StokeError) (.type "BaseException") = some true) (xd_StokeError : PySem.W.hasDictIn K c_StokeError = true) (xt_StokeError : PySem.W.typeIn K (.ref c_StokeError) = some (.type "type"))
    (xs_StokeError_0 : PySem.W.subIn K (.ref c_NoText) (.ref c_StokeError) = some true)
    (ic_NoHold : PySem.W.isClsIn K c_NoHold = true) (it_NoHold : PySem.W.typeIn K (.ref c_NoHold) = some (.type "type"))
    (su_NoText_NoHold : PySem.W.subIn K (.ref c_NoText) (.ref c_NoHold) = some false)
    (ne_NoText_NoHold : (c_NoText == c_NoHold) = false)
    (ic_NoLine : PySem.W.isClsIn K c_NoLine = true) (it_NoLine : PySem.W.typeIn K (.ref c_NoLine) = some (.type "type"))
    (su_NoText_NoLine : PySem.W.subIn K (.ref c_NoText) (.ref c_NoLine) = some false)
    (ne_NoText_NoLine : (c_NoText == c_NoLine) = false)
    (ic_NoName : PySem.W.isClsIn K c_NoName = true) (it_NoName : PySem.W.typeIn K (.ref c_NoName) = some (.type "type"))
    (su_NoText_NoName : PySem.W.subIn K (.ref c_NoText) (.ref c_NoName) = some false)
    (ne_NoText_NoName : (c_NoText == c_NoName) = false)
    (ic_NoNumber : PySem.W.isClsIn K c_NoNumber = true) (it_NoNumber : PySem.W.typeIn K (.ref c_NoNumber) = some (.type "type"))
    (su_NoText_NoNumber : PySem.W.subIn K (.ref c_NoText) (.ref c_NoNumber) = some false)
    (ne_NoText_NoNumber : (c_NoText == c_NoNumber) = false)
    (ic_NoState : PySem.W.isClsIn K c_NoState = true) (it_NoState : PySem.W.typeIn K (.ref c_NoState) = some (.type "type"))
    (su_NoText_NoState : PySem.W.subIn K (.ref c_NoText) (.ref c_NoState) = some false)
    (ne_NoText_NoState : (c_NoText == c_NoState) = false)
    (ic_NoStove : PySem.W.isClsIn K c_NoStove = true) (it_NoStove : PySem.W.typeIn K (.ref c_NoStove) = some (.type "type"))
    (su_NoText_NoStove : PySem.W.subIn K (.ref c_NoText) (.ref c_NoStove) = some false)
    (ne_NoText_NoStove : (c_NoText == c_NoStove) = false)
    (ic_NoText : PySem.W.isClsIn K c_NoText = true) (it_NoText : PySem.W.typeIn K (.ref c_NoText) = some (.type "type"))
    (su_NoText_NoText : PySem.W.subIn K (.ref c_NoText) (.ref c_NoText) = some true)
    (ic_TooMany : PySem.W.isClsIn K c_TooMany = true) (it_TooMany : PySem.W.typeIn K (.ref c_TooMany) = some (.type "type"))
    (su_NoText_TooMany : PySem.W.subIn K (.ref c_NoText) (.ref c_TooMany) = some false)
    (ne_NoText_TooMany : (c_NoText == c_TooMany) = false)
    (ic_Twice : PySem.W.isClsIn K c_Twice = true) (it_Twice : PySem.W.typeIn K (.ref c_Twice) = some (.type "type"))
    (su_NoText_Twice : PySem.W.subIn K (.ref c_NoText) (.ref c_Twice) = some false)
    (ne_NoText_Twice : (c_NoText == c_Twice) = false)
    (su_NoText_ValueError : PySem.W.subIn K (.ref c_NoText) (.type "ValueError") = some true)
    : ∃ fd : FuncData, (∀ (s : Shared) (v : Value), BindsTo s fd ⟨[v], []⟩ [("_law_script", v)]) ∧ ∀ base : Heap, K.In base → base.Ns mainGlobals mg → FnOk l.prog w K mg base (L2.CX l.prog w) 4 fa fd ["_law_script"] (spLaw K) := by
  obtain ⟨Fx, hb⟩ := facts_mk X G a1 l1 e1 k1 a2 l2 e2 k2 a3 l3 e3 k3 a4 l4 e4 k4 a5 l5 e5 k5 a6 l6 e6 k6 a7 l7 e7 k7 ac_NoHold ac_NoLine ac_NoName ac_NoNumber ac_NoState ac_NoStove ac_NoText ac_StokeError ac_TooMany ac_Twice nv_FIGURES nv_LONGEST z_ValueError z_bool z_int z_isinstance z_len z_range x_NoText k_NoText b_NoText t_NoText hg_NoText hk_NoText hd_NoText ha_NoText hm_NoText hn ht xb_StokeError xd_StokeError xt_StokeError xs_StokeError_0 ic_NoHold it_NoHold su_NoText_NoHold ne_NoText_NoHold ic_NoLine it_NoLine su_NoText_NoLine ne_NoText_NoLine ic_NoName it_NoName su_NoText_NoName ne_NoText_NoName ic_NoNumber it_NoNumber su_NoText_NoNumber ne_NoText_NoNumber ic_NoState it_NoState su_NoText_NoState ne_NoText_NoState ic_NoStove it_NoStove su_NoText_NoStove ne_NoText_NoStove ic_NoText it_NoText su_NoText_NoText ic_TooMany it_TooMany su_NoText_TooMany ne_NoText_TooMany ic_Twice it_Twice su_NoText_Twice ne_NoText_Twice su_NoText_ValueError
  have e := hfa.symm.trans Fx.g_law
  cases e
  exact ⟨Fx.d_law, hb, fun base _ _ => law_ok (T := th Fx) (ok_law Fx) law_eq⟩
end K76
open PySem PySem.W PyProof.Rows
set_option maxRecDepth 100000 in
set_option maxHeartbeats 0 in
theorem PySem.Challenge.cw_stoke_k76_wholes_read_holds : PySem.Challenge.rw_stoke_k76_wholes_read.Holds := by
  w_on; o_law; k_head; (case hw => w_witness2)
  k_fill
  refine L2.walk_ofB (l := PySem.Challenge.rw_stoke_k76_wholes_read) (n := 63) (k := 4) (x := "_law_script") (CX := fun w => L2.CX PySem.Challenge.rw_stoke_k76_wholes_read.prog w) (sp := fun w => Q.spLaw _) rfl (by decide) rfl ⟨rfl, by decide, by decide⟩ (fun w h Y => PySem.W.kIn_of Y) ?F (fun w H a ns h1 h2 _ h3 => Q.law_sp _ H a ns h1 h2 h3) (fun w H s e s' h => Q.law_cx PySem.Challenge.rw_stoke_k76_wholes_read.prog w H s e s' h)
  case F =>
    intro w mg fa h KX G hmg
    refine' K76.law_mk KX G hmg ?a1 ?l1 ?e1 ?k1 ?a2 ?l2 ?e2 ?k2 ?a3 ?l3 ?e3 ?k3 ?a4 ?l4 ?e4 ?k4 ?a5 ?l5 ?e5 ?k5 ?a6 ?l6 ?e6 ?k6 ?a7 ?l7 ?e7 ?k7 ?ac_NoHold ?ac_NoLine ?ac_NoName ?ac_NoNumber ?ac_NoState ?ac_NoStove ?ac_NoText ?ac_StokeError ?ac_TooMany ?ac_Twice ?nv_FIGURES ?nv_LONGEST ?z_ValueError ?z_bool ?z_int ?z_isinstance ?z_len ?z_range ?x_NoText ?k_NoText ?b_NoText ?t_NoText ?hg_NoText ?hk_NoText ?hd_NoText ?ha_NoText ?hm_NoText ?hn ?ht ?xb_StokeError ?xd_StokeError ?xt_StokeError ?xs_StokeError_0 ?ic_NoHold ?it_NoHold ?su_NoText_NoHold ?ne_NoText_NoHold ?ic_NoLine ?it_NoLine ?su_NoText_NoLine ?ne_NoText_NoLine ?ic_NoName ?it_NoName ?su_NoText_NoName ?ne_NoText_NoName ?ic_NoNumber ?it_NoNumber ?su_NoText_NoNumber ?ne_NoText_NoNumber ?ic_NoState ?it_NoState ?su_NoText_NoState ?ne_NoText_NoState ?ic_NoStove ?it_NoStove ?su_NoText_NoStove ?ne_NoText_NoStove ?ic_NoText ?it_NoText ?su_NoText_NoText ?ic_TooMany ?it_TooMany ?su_NoText_TooMany ?ne_NoText_TooMany ?ic_Twice ?it_Twice ?su_NoText_Twice ?ne_NoText_Twice ?su_NoText_ValueError
    (case a1 => k_is)
    (case l1 => k_is)
    (case e1 => k_is)
    (case k1 => k_is)
    (case a2 => k_is)
    (case l2 => k_is)
    (case e2 => k_is)
    (case k2 => k_is)
    (case a3 => k_is)
    (case l3 => k_is)
    (case e3 => k_is)
    (case k3 => k_is)
    (case a4 => k_is)
    (case l4 => k_is)
    (case e4 => k_is)
    (case k4 => k_is)
    (case a5 => k_is)
    (case l5 => k_is)
    (case e5 => k_is)
    (case k5 => k_is)
    (case a6 => k_is)
    (case l6 => k_is)
    (case e6 => k_is)
    (case k6 => k_is)
    (case a7 => k_is)
    (case l7 => k_is)
    (case e7 => k_is)
    (case k7 => k_is)
    (case ac_NoHold => k_is)
    (case ac_NoLine => k_is)
    (case ac_NoName => k_is)
    (case ac_NoNumber => k_is)
    (case ac_NoState => k_is)
    (case ac_NoStove => k_is)
    (case ac_NoText => k_is)
    (case ac_StokeError => k_is)
    (case ac_TooMany => k_is)
    (case ac_Twice => k_is)
    (case nv_FIGURES => k_is)
    (case nv_LONGEST => k_is)
    (case z_ValueError => k_is)
    (case z_bool => k_is)
    (case z_int => k_is)
    (case z_isinstance => k_is)
    (case z_len => k_is)
    (case z_range => k_is)
    (case x_NoText => k_exc)
    (case k_NoText => k_is)
    (case b_NoText => k_is)
    (case t_NoText => k_is)
    (case hg_NoText => k_is)
    (case hk_NoText => k_is)
    (case hd_NoText => k_is)
    (case ha_NoText => k_is)
    (case hm_NoText => k_is)
    (case hn => k_is)
    (case ht => k_is)
    (case xb_StokeError => k_is)
    (case xd_StokeError => k_is)
    (case xt_StokeError => k_is)
    (case xs_StokeError_0 => k_is)
    (case ic_NoHold => k_is)
    (case it_NoHold => k_is)
    (case su_NoText_NoHold => k_is)
    (case ne_NoText_NoHold => rfl)
    (case ic_NoLine => k_is)
    (case it_NoLine => k_is)
    (case su_NoText_NoLine => k_is)
    (case ne_NoText_NoLine => rfl)
    (case ic_NoName => k_is)
    (case it_NoName => k_is)
    (case su_NoText_NoName => k_is)
    (case ne_NoText_NoName => rfl)
    (case ic_NoNumber => k_is)
    (case it_NoNumber => k_is)
    (case su_NoText_NoNumber => k_is)
    (case ne_NoText_NoNumber => rfl)
    (case ic_NoState => k_is)
    (case it_NoState => k_is)
    (case su_NoText_NoState => k_is)
    (case ne_NoText_NoState => rfl)
    (case ic_NoStove => k_is)
    (case it_NoStove => k_is)
    (case su_NoText_NoStove => k_is)
    (case ne_NoText_NoStove => rfl)
    (case ic_NoText => k_is)
    (case it_NoText => k_is)
    (case su_NoText_NoText => k_is)
    (case ic_TooMany => k_is)
    (case it_TooMany => k_is)
    (case su_NoText_TooMany => k_is)
    (case ne_NoText_TooMany => rfl)
    (case ic_Twice => k_is)
    (case it_Twice => k_is)
    (case su_NoText_Twice => k_is)
    (case ne_NoText_Twice => rfl)
    (case su_NoText_ValueError => k_is)
