import PyProof.Rows.All
import Wide.All
import OpenK.AllK
import Wide.FinOn
import HandS.ForMost
import HandS.Walk
import HandS.Wide
import HandS.Deep
import HandS.Evl
import HandS.IsInst
import HandS.TupAny
import HandS.TupMul
import KE.GoesEnum
import KE.KTupSum
import HandS.NoneIn
import HandS.Head0
import HandS.Head1
import HandS.Head2
import HandS.HeadEnd
import HandS.HeadHook1
import HandS.HeadHook2
import Lean
import HandS.Exc
import HandS.TryOnly
import HandS.ExcOwn
import HandS.WordsExc
import HandS.ExcIs
import PyProof.Rows.CountFlat
import KE.KDictKeyed
import KE.KDictLaw
import HandS.Conv
import HandS.Style
import HandS.Set
import HandS.SetFor
import HandS.Strs
import HandS.SortInts
import HandS.Flow
import KE.KDictDisplayH
import HandS.WordsDict
import HandS.Small
import HandS.More
import HandS.Dict
import HandS.TupSets
import PySem.Challenge.RW_tipwell_k14_nets_written_and_read
set_option Elab.async false
set_option linter.all false
set_option maxRecDepth 100000
set_option maxHeartbeats 4000000
/-! T1: worlds (frozen heap, owned chunks), representations, mirrors, judgements. -/
namespace T
open PySem L2
abbrev Same := L2.Same
abbrev Ch := List (Addr × HO)

/-! ### the world: F frozen, O owned -/
structure Wd (F H : Hp) (O : Ch) : Prop where
  sub : Same F H
  own : ∀ p ∈ O, H p.1 = some p.2 ∧ F p.1 = none
  nd : (O.map Prod.fst).Nodup
section
variable {F H F' H' : Hp} {O O' A B : Ch} {p : Addr} {o o' : HO}
theorem Same.upd_new (np : H p = none) : Same H (upd H p o) := fun a u e => by
  rw [upd_ne (ne_of_none e np)]; exact e
theorem Wd.perm (W : Wd F H O) (h : O.Perm O') : Wd F H O' :=
  ⟨W.sub, fun q hq => W.own q (h.mem_iff.mpr hq), (h.map Prod.fst).nodup_iff.mp W.nd⟩
theorem Wd.sublist (W : Wd F H O) (h : O'.Sublist O) : Wd F H O' :=
  ⟨W.sub, fun q hq => W.own q (h.subset hq), (h.map Prod.fst).nodup W.nd⟩
theorem Wd.left (W : Wd F H (A ++ B)) : Wd F H A := W.sublist (List.sublist_append_left A B)
theorem Wd.right (W : Wd F H (A ++ B)) : Wd F H B := W.sublist (List.sublist_append_right A B)
theorem Wd.nofree (W : Wd F H O) (np : H p = none) : ∀ q ∈ O, q.1 ≠ p := fun q hq e => by
  have h := (W.own q hq).1
  rw [e, np] at h; cases h
theorem Wd.fnone (W : Wd F H O) (np : H p = none) : F p = none := by
  cases h : F p with
  | none => rfl
  | some u => have := W.sub _ _ h; rw [np] at this; cases this
/-- a new frozen object -/
theorem Wd.newF (W : Wd F H O) (np : H p = none) : Wd (upd F p o) (upd H p o) O where
  sub := fun a u e => by
    by_cases h : a = p
    · subst h; rw [upd_same] at e ⊢; exact e
    · rw [upd_ne h] at e ⊢; exact W.sub _ _ e
  own := fun q hq => by
    have h := W.nofree np q hq
    rw [upd_ne h, upd_ne h]; exact W.own q hq
  nd := W.nd
theorem Wd.sameF (W : Wd F H O) (np : H p = none) : Same F (upd F p o) := Same.upd_new (W.fnone np)
/-- a new object that nobody knows of -/
theorem Wd.junk (W : Wd F H O) (np : H p = none) : Wd F (upd H p o) O where
  sub := W.sub.trans (Same.upd_new np)
  own := fun q hq => by rw [upd_ne (W.nofree np q hq)]; exact W.own q hq
  nd := W.nd
/-- a new owned object -/
theorem Wd.newO (W : Wd F H O) (np : H p = none) : Wd F (upd H p o) ((p, o) :: O) where
  sub := W.sub.trans (Same.upd_new np)
  own := fun q hq => by
    rcases List.mem_cons.mp hq with e | hq
    · subst e; exact ⟨upd_same, W.fnone np⟩
    · rw [upd_ne (W.nofree np q hq)]; exact W.own q hq
  nd := by
    rw [List.map_cons, List.nodup_cons]
    refine ⟨fun hm => ?_, W.nd⟩
    obtain ⟨q, hq, e⟩ := List.mem_map.mp hm
    exact W.nofree np q hq e
theorem Wd.hd (W : Wd F H ((p, o) :: O)) : H p = some o := (W.own (p, o) List.mem_cons_self).1
theorem Wd.hdF (W : Wd F H ((p, o) :: O)) : F p = none := (W.own (p, o) List.mem_cons_self).2
/-- the first owned object changes -/
theorem Wd.set (W : Wd F H ((p, o) :: O)) : Wd F (upd H p o') ((p, o') :: O) where
  sub := fun a u e => by
    have h : a ≠ p := fun q => by subst q; rw [W.hdF] at e; cases e
    rw [upd_ne h]; exact W.sub _ _ e
  own := fun q hq => by
    rcases List.mem_cons.mp hq with e | hq
    · subst e; exact ⟨upd_same, W.hdF⟩
    · have h : q.1 ≠ p := fun e => by
        have := W.nd
        rw [List.map_cons, List.nodup_cons] at this
        exact this.1 (List.mem_map.mpr ⟨q, hq, e⟩)
      rw [upd_ne h]; exact W.own q (List.mem_cons_of_mem _ hq)
  nd := W.nd
/-- the first owned object is frozen -/
theorem Wd.frz (W : Wd F H ((p, o) :: O)) : Wd (upd F p o) H O where
  sub := fun a u e => by
    by_cases h : a = p
    · subst h; rw [upd_same] at e; cases e; exact W.hd
    · rw [upd_ne h] at e; exact W.sub _ _ e
  own := fun q hq => by
    have h : q.1 ≠ p := fun e => by
      have := W.nd
      rw [List.map_cons, List.nodup_cons] at this
      exact this.1 (List.mem_map.mpr ⟨q, hq, e⟩)
    rw [upd_ne h]; exact W.own q (List.mem_cons_of_mem _ hq)
  nd := by
    have := W.nd
    rw [List.map_cons, List.nodup_cons] at this
    exact this.2
theorem Wd.frzS (W : Wd F H ((p, o) :: O)) : Same F (upd F p o) := Same.upd_new W.hdF
theorem Wd.tl (W : Wd F H ((p, o) :: O)) : Wd F H O := W.sublist (List.sublist_cons_self _ _)
end

/-! ### how a value stands for data -/
structure Rl (α : Type) where
  r : Hp → V → α → Prop
  mono : ∀ {F F' : Hp} {v : V} {x : α}, Same F F' → r F v x → r F' v x
/-- a row of values -/
structure Ar (α : Type) where
  r : Hp → List V → α → Prop
  mono : ∀ {F F' : Hp} {v : List V} {x : α}, Same F F' → r F v x → r F' v x
def rInt : Rl Int := ⟨fun _ v i => v = .int i, fun _ h => h⟩
def rBool : Rl Bool := ⟨fun _ v b => v = .bl b, fun _ h => h⟩
def rStr : Rl Str := ⟨fun _ v b => v = .str b, fun _ h => h⟩
def rNone : Rl Unit := ⟨fun _ v _ => v = .non, fun _ h => h⟩
/-- this very value -/
def rV (v0 : V) : Rl Unit := ⟨fun _ v _ => v = v0, fun _ h => h⟩
def rOpt {α : Type} (R : Rl α) : Rl (Option α) where
  r := fun F v x => match x with
    | none => v = .non
    | some y => R.r F v y
  mono := fun {F F' v x} s h => by
    cases x with
    | none => exact h
    | some y => exact R.mono s h
theorem paired_mono {α : Type} {R R' : V → α → Prop} (h : ∀ v x, R v x → R' v x) : ∀ {vs : List V} {xs : List α}, Paired R vs xs → Paired R' vs xs
  | _, _, .nil => .nil
  | _, _, .cons r t => .cons (h _ _ r) (paired_mono h t)
/-- a tuple of things alike, of any length -/
def rTup {α : Type} (R : Rl α) : Rl (List α) where
  r := fun F v xs => ∃ p vs, v = .ref p ∧ F p = some (.tup vs) ∧ Paired (R.r F) vs xs
  mono := fun s ⟨p, vs, e, h, r⟩ => ⟨p, vs, e, s _ _ h, paired_mono (fun _ _ => R.mono s) r⟩
/-- a list that nobody changes -/
def rLst {α : Type} (R : Rl α) : Rl (List α) where
  r := fun F v xs => ∃ p vs, v = .ref p ∧ F p = some (.lst vs) ∧ Paired (R.r F) vs xs
  mono := fun s ⟨p, vs, e, h, r⟩ => ⟨p, vs, e, s _ _ h, paired_mono (fun _ _ => R.mono s) r⟩
def arNil : Ar Unit := ⟨fun _ vs _ => vs = [], fun _ h => h⟩
def arOne {α : Type} (R : Rl α) : Ar α where
  r := fun F vs x => ∃ v, vs = [v] ∧ R.r F v x
  mono := fun s ⟨v, e, r⟩ => ⟨v, e, R.mono s r⟩
def arC {α β : Type} (R : Rl α) (T : Ar β) : Ar (α × β) where
  r := fun F vs x => ∃ v r, vs = v :: r ∧ R.r F v x.1 ∧ T.r F r x.2
  mono := fun s ⟨v, r, e, h, t⟩ => ⟨v, r, e, R.mono s h, T.mono s t⟩
/-- a row of things alike -/
def arL {α : Type} (R : Rl α) : Ar (List α) where
  r := fun F vs xs => Paired (R.r F) vs xs
  mono := fun s r => paired_mono (fun _ _ => R.mono s) r
/-- a tuple of so many things -/
def rTh {α : Type} (T : Ar α) : Rl α where
  r := fun F v x => ∃ p vs, v = .ref p ∧ F p = some (.tup vs) ∧ T.r F vs x
  mono := fun s ⟨p, vs, e, h, r⟩ => ⟨p, vs, e, s _ _ h, T.mono s r⟩
/-- a list of so many things, that nobody changes -/
def rLh {α : Type} (T : Ar α) : Rl α where
  r := fun F v x => ∃ p vs, v = .ref p ∧ F p = some (.lst vs) ∧ T.r F vs x
  mono := fun s ⟨p, vs, e, h, r⟩ => ⟨p, vs, e, s _ _ h, T.mono s r⟩
/-- its data, for == -/
structure RD {α : Type} (R : Rl α) where
  d : α → PyData
  dp : ∀ {K : PySem.W.Frag} {F : Hp} {v : V} {x : α}, R.r F v x → Dp K F v (d x)
structure AD {α : Type} (R : Ar α) where
  d : α → List PyData
  dp : ∀ {K : PySem.W.Frag} {F : Hp} {v : List V} {x : α}, R.r F v x → DpAll K F v (d x)
theorem dp_all {α : Type} {K : PySem.W.Frag} {F : Hp} {R : V → α → Prop} (d : α → PyData) (h : ∀ v x, R v x → Dp K F v (d x)) : ∀ {vs : List V} {xs : List α}, Paired R vs xs → DpAll K F vs (xs.map d)
  | _, _, .nil => .nil
  | _, _, .cons r t => .cons (h _ _ r) (dp_all d h t)
def dInt : RD rInt := ⟨.int, fun h => by cases h; exact .int _⟩
def dBool : RD rBool := ⟨.bool, fun h => by cases h; exact .bl _⟩
def dStr : RD rStr := ⟨.str, fun h => by cases h; exact .str _⟩
def dNone : RD rNone := ⟨fun _ => .none, fun h => by cases h; exact .non⟩
def dOpt {α : Type} {R : Rl α} (D : RD R) : RD (rOpt R) where
  d := fun x => match x with
    | none => .none
    | some y => D.d y
  dp := fun {K F v x} h => by
    cases x with
    | none => cases (show v = .non from h); exact .non
    | some y => exact D.dp h
def dTup {α : Type} {R : Rl α} (D : RD R) : RD (rTup R) := ⟨fun xs => .tuple (xs.map D.d), fun ⟨_, _, e, h, r⟩ => by subst e; exact .tup (SqT.of h) (dp_all D.d (fun _ _ => D.dp) r)⟩
def dLst {α : Type} {R : Rl α} (D : RD R) : RD (rLst R) := ⟨fun xs => .list (xs.map D.d), fun ⟨_, _, e, h, r⟩ => by subst e; exact .lst (SqL.of h) (dp_all D.d (fun _ _ => D.dp) r)⟩
def daNil : AD arNil := ⟨fun _ => [], fun h => by cases h; exact .nil⟩
def daOne {α : Type} {R : Rl α} (D : RD R) : AD (arOne R) := ⟨fun x => [D.d x], fun ⟨_, e, r⟩ => by subst e; exact .cons (D.dp r) .nil⟩
def daC {α β : Type} {R : Rl α} {T : Ar β} (D : RD R) (E : AD T) : AD (arC R T) := ⟨fun x => D.d x.1 :: E.d x.2, fun ⟨_, _, e, h, t⟩ => by subst e; exact .cons (D.dp h) (E.dp t)⟩
def daL {α : Type} {R : Rl α} (D : RD R) : AD (arL R) := ⟨fun xs => xs.map D.d, fun r => dp_all D.d (fun _ _ => D.dp) r⟩
def dTh {α : Type} {T : Ar α} (D : AD T) : RD (rTh T) := ⟨fun x => .tuple (D.d x), fun ⟨_, _, e, h, r⟩ => by subst e; exact .tup (SqT.of h) (D.dp r)⟩
def dLh {α : Type} {T : Ar α} (D : AD T) : RD (rLh T) := ⟨fun x => .list (D.d x), fun ⟨_, _, e, h, r⟩ => by subst e; exact .lst (SqL.of h) (D.dp r)⟩

/-! ### owned state -/
structure Ow (S : Type) where
  o : Hp → S → Ch → Prop
  mono : ∀ {F F' : Hp} {s : S} {c : Ch}, Same F F' → o F s c → o F' s c
def emp : Ow Unit := ⟨fun _ _ c => c = [], fun _ h => h⟩
def star {S T : Type} (A : Ow S) (B : Ow T) : Ow (S × T) where
  o := fun F s c => ∃ c1 c2, c = c1 ++ c2 ∧ A.o F s.1 c1 ∧ B.o F s.2 c2
  mono := fun h ⟨c1, c2, e, a, b⟩ => ⟨c1, c2, e, A.mono h a, B.mono h b⟩
/-- the list at l, owned -/
def oLst {α : Type} (R : Rl α) (v : V) : Ow (List α) where
  o := fun F xs c => ∃ l vs, v = .ref l ∧ c = [(l, .lst vs)] ∧ Paired (R.r F) vs xs
  mono := fun s ⟨l, vs, e, h, r⟩ => ⟨l, vs, e, h, paired_mono (fun _ _ => R.mono s) r⟩

/-! ### mirrors -/
abbrev M (S β : Type) := S → Option (β × S)
def ret {S β : Type} (b : β) : M S β := fun s => some (b, s)
def bnd {S α γ : Type} (m : M S α) (f : α → S → Option γ) : S → Option γ := fun s => (m s).bind fun p => f p.1 p.2
def lft {S β : Type} (o : Option β) : M S β := fun s => o.map fun b => (b, s)
def zm {S T β : Type} (g : S → T) (p : S → T → S) (m : M T β) : M S β := fun s => (m (g s)).map fun q => (q.1, p s q.2)
def rn {β : Type} (m : M Unit β) : Option β := (m ()).map Prod.fst
def mp {S α β : Type} (f : α → M S β) : List α → M S (List β)
  | [] => ret []
  | x :: xs => bnd (f x) fun y => bnd (mp f xs) fun ys => ret (y :: ys)
def mpf {S α β : Type} (p : α → M S Bool) (f : α → M S β) : List α → M S (List β)
  | [] => ret []
  | x :: xs => bnd (p x) fun b => bif b then bnd (f x) (fun y => bnd (mpf p f xs) fun ys => ret (y :: ys)) else mpf p f xs
def fd {S Z α : Type} (f : Z → α → M S Z) : Z → List α → M S Z
  | z, [] => ret z
  | z, x :: xs => bnd (f z x) fun z' => fd f z' xs
/-- on with z, or back with b -/
inductive Fl (Z β : Type) | nx (z : Z) | rt (b : β)
/-- a loop whose turns may return -/
def fdE {S Z α ρ : Type} (f : Z → α → S → Option (Fl (Z × S) ρ)) : Z → List α → S → Option (Fl (Z × S) ρ)
  | z, [], s => some (.nx (z, s))
  | z, x :: xs, s => (f z x s).bind fun r => match r with
    | .nx q => fdE f q.1 xs q.2
    | .rt b => some (.rt b)
def fthn {S Z ρ : Type} (m : S → Option (Fl (Z × S) ρ)) (h : Z → S → Option ρ) : S → Option ρ := fun s => (m s).bind fun r => match r with
  | .nx q => h q.1 q.2
  | .rt b => some b
def fthnF {S Z ρ κ : Type} (m : S → Option (Fl (Z × S) ρ)) (h : Z → S → Option (Fl κ ρ)) : S → Option (Fl κ ρ) := fun s => (m s).bind fun r => match r with
  | .nx q => h q.1 q.2
  | .rt b => some (.rt b)
def whl {S Z : Type} (c : Z → M S Bool) (f : Z → M S Z) : Nat → Z → M S Z
  | 0, _ => fun _ => none
  | n + 1, z => bnd (c z) fun b => bif b then bnd (f z) (whl c f n) else ret z
def whlE {S Z ρ : Type} (c : Z → M S Bool) (f : Z → S → Option (Fl (Z × S) ρ)) : Nat → Z → S → Option (Fl (Z × S) ρ)
  | 0, _ => fun _ => none
  | n + 1, z => bnd (c z) fun b => bif b then (fun s => (f z s).bind fun r => match r with
    | .nx q => whlE c f n q.1 q.2
    | .rt b => some (.rt b)) else fun s => some (.nx (z, s))
theorem bnd_some {S α γ : Type} {m : M S α} {f : α → S → Option γ} {s : S} {b : γ} (h : bnd m f s = some b) : ∃ a s1, m s = some (a, s1) ∧ f a s1 = some b := by
  unfold bnd at h
  cases e : m s with
  | none => rw [e] at h; cases h
  | some q => rw [e] at h; exact ⟨q.1, q.2, rfl, h⟩
theorem lft_some {S β : Type} {o : Option β} {s s' : S} {b : β} (h : lft o s = some (b, s')) : o = some b ∧ s' = s := by
  unfold lft at h
  cases e : o with
  | none => rw [e] at h; cases h
  | some q => rw [e] at h; cases h; exact ⟨rfl, rfl⟩
theorem ret_some {S β : Type} {a b : β} {s s' : S} (h : ret a s = some (b, s')) : b = a ∧ s' = s := by
  cases h; exact ⟨rfl, rfl⟩
theorem zm_some {S T β : Type} {g : S → T} {p : S → T → S} {m : M T β} {s s' : S} {b : β} (h : zm g p m s = some (b, s')) : ∃ t, m (g s) = some (b, t) ∧ s' = p s t := by
  unfold zm at h
  cases e : m (g s) with
  | none => rw [e] at h; cases h
  | some q => rw [e] at h; cases h; exact ⟨_, rfl, rfl⟩
/-! ### a part of the owned state -/
structure Emb {S T : Type} (A : Ow S) (B : Ow T) (g : S → T) (p : S → T → S) : Prop where
  split : ∀ {F : Hp} {s : S} {c : Ch}, A.o F s c → ∃ c1 c2, c.Perm (c1 ++ c2) ∧ B.o F (g s) c1 ∧ ∀ F' t c1', Same F F' → B.o F' t c1' → ∃ c', A.o F' (p s t) c' ∧ c'.Perm (c1' ++ c2)
section
variable {S T U : Type} {A : Ow S} {B : Ow T} {C : Ow U} {g : S → U} {p : S → U → S} {g' : T → U} {p' : T → U → T}
theorem emb_id : Emb A A (fun s => s) (fun _ t => t) := ⟨fun {F s c} h => ⟨c, [], by simp, h, fun F' t c1' _ h' => ⟨c1', h', by simp⟩⟩⟩
theorem emb_emp : Emb A emp (fun _ => ()) (fun s _ => s) := ⟨fun {F s c} h => ⟨[], c, by simp, rfl, fun F' t c1' sm h' => ⟨c, A.mono sm h, by rw [show c1' = [] from h']; simp⟩⟩⟩
theorem emb_l (e : Emb A C g p) : Emb (star A B) C (fun s => g s.1) (fun s t => (p s.1 t, s.2)) := ⟨fun {F s c} ⟨ca, cb, ec, ha, hb⟩ => by
  obtain ⟨c1, c2, pm, h1, k⟩ := e.split ha
  refine ⟨c1, c2 ++ cb, by rw [ec, ← List.append_assoc]; exact pm.append_right cb, h1, fun F' t c1' sm h' => ?_⟩
  obtain ⟨c', h2, pm'⟩ := k F' t c1' sm h'
  exact ⟨c' ++ cb, ⟨c', cb, rfl, h2, B.mono sm hb⟩, by rw [← List.append_assoc]; exact pm'.append_right cb⟩⟩
theorem emb_r (e : Emb B C g' p') : Emb (star A B) C (fun s => g' s.2) (fun s t => (s.1, p' s.2 t)) := ⟨fun {F s c} ⟨ca, cb, ec, ha, hb⟩ => by
  obtain ⟨c1, c2, pm, h1, k⟩ := e.split hb
  refine ⟨c1, ca ++ c2, ?_, h1, fun F' t c1' sm h' => ?_⟩
  · rw [ec]
    refine (pm.append_left ca).trans ?_
    rw [← List.append_assoc, ← List.append_assoc]
    exact List.perm_append_comm.append_right c2
  · obtain ⟨c', h2, pm'⟩ := k F' t c1' sm h'
    refine ⟨ca ++ c', ⟨ca, c', rfl, A.mono sm ha, h2⟩, ?_⟩
    refine (pm'.append_left ca).trans ?_
    rw [← List.append_assoc, ← List.append_assoc]
    exact List.perm_append_comm.append_right c2⟩
end
end T

/-! T2: judgements over the readings: expressions, tests, rows, what is walked, blocks. -/
namespace T
open PySem L2
section
variable {S S0 S1 α β γ δ Z ω : Type}
/-- an expression gives b and leaves the owned state s' -/
def Ev (te : TE) (σ : L2.St) (F : Hp) (A : Ow S) (R : Rl β) (m : M S β) : Prop :=
  ∀ s b s', m s = some (b, s') → ∀ F1 H c O, Same F F1 → A.o F1 s c → Wd F1 H (c ++ O) → ∀ Q : VK,
    (∀ v F' H' c', Same F1 F' → A.o F' s' c' → Wd F' H' (c' ++ O) → R.r F' v b → Q v H') → te σ H Q
def EvT (te : TT) (σ : L2.St) (F : Hp) (A : Ow S) (m : M S Bool) : Prop :=
  ∀ s b s', m s = some (b, s') → ∀ F1 H c O, Same F F1 → A.o F1 s c → Wd F1 H (c ++ O) → ∀ Q : Bool → Hp → Prop,
    (∀ F' H' c', Same F1 F' → A.o F' s' c' → Wd F' H' (c' ++ O) → Q b H') → te σ H Q
def EvA (te : TA) (σ : L2.St) (F : Hp) (A : Ow S) (R : Ar β) (m : M S β) : Prop :=
  ∀ s b s', m s = some (b, s') → ∀ F1 H c O, Same F F1 → A.o F1 s c → Wd F1 H (c ++ O) → ∀ Q : List V → Hp → Prop,
    (∀ vs F' H' c', Same F1 F' → A.o F' s' c' → Wd F' H' (c' ++ O) → R.r F' vs b → Q vs H') → te σ H Q
/-- an optional part of a slice -/
def EvP (te : TO) (σ : L2.St) (F : Hp) (A : Ow S) (m : M S (Option Int)) : Prop :=
  ∀ s b s', m s = some (b, s') → ∀ F1 H c O, Same F F1 → A.o F1 s c → Wd F1 H (c ++ O) → ∀ Q : Option Int → Hp → Prop,
    (∀ F' H' c', Same F1 F' → A.o F' s' c' → Wd F' H' (c' ++ O) → Q b H') → te σ H Q
/-- a new owned thing -/
def EvO (te : TE) (σ : L2.St) (F : Hp) (A : Ow S) (B : V → Ow β) (m : M S β) : Prop :=
  ∀ s b s', m s = some (b, s') → ∀ F1 H c O, Same F F1 → A.o F1 s c → Wd F1 H (c ++ O) → ∀ Q : VK,
    (∀ v F' H' c' cb, Same F1 F' → A.o F' s' c' → (B v).o F' b cb → Wd F' H' (cb ++ (c' ++ O)) → Q v H') → te σ H Q
def VL2 (r : R2) (R : Rl α) (R' : Rl β) (T : Rl γ) (f : α → β → Option γ) : Prop :=
  ∀ F H O x y a b c, Wd F H O → R.r F x a → R'.r F y b → f a b = some c → ∀ Q : VK, (∀ v F' H', Same F F' → Wd F' H' O → T.r F' v c → Q v H') → r x y H Q
def VLc (r : List V → Hp → VK → Prop) (R : Ar α) (T : Rl γ) (f : α → Option γ) : Prop :=
  ∀ F H O xs a c, Wd F H O → R.r F xs a → f a = some c → ∀ Q : VK, (∀ v F' H', Same F F' → Wd F' H' O → T.r F' v c → Q v H') → r xs H Q
def VLo (r : List V → Hp → VK → Prop) (R : Ar α) (B : V → Ow γ) (f : α → Option γ) : Prop :=
  ∀ F H O xs a c, Wd F H O → R.r F xs a → f a = some c → ∀ Q : VK, (∀ v F' H' cb, Same F F' → (B v).o F' c cb → Wd F' H' (cb ++ O) → Q v H') → r xs H Q
def VLo2 (r : R2) (R : Rl α) (R' : Rl β) (B : V → Ow γ) (f : α → β → Option γ) : Prop :=
  ∀ F H O x y a b c, Wd F H O → R.r F x a → R'.r F y b → f a b = some c → ∀ Q : VK, (∀ v F' H' cb, Same F F' → (B v).o F' c cb → Wd F' H' (cb ++ O) → Q v H') → r x y H Q
variable {te ta tb : TE} {tt tu : TT} {ar tr : TA} {σ : L2.St} {F F' : Hp} {A : Ow S} {R : Rl α} {R' : Rl β} {U : Rl γ} {T : Ar β} {m : M S α} {m' : M S β} {r : R2} {v : V}
theorem SameR (F : Hp) : Same F F := L2.Same.refl F
theorem Ev.up (h : Ev te σ F A R m) (s : Same F F') : Ev te σ F' A R m := fun s0 b s' e F1 H c O sm => h s0 b s' e F1 H c O (s.trans sm)
theorem ev_var {i : Nat} {x : α} (h : R.r F v x) (e : σ[i]? = some (some v)) : Ev (tVar i) σ F A R (ret x) := fun s b s' hm F1 H c O sm ho W Q q => by
  obtain ⟨rfl, rfl⟩ := ret_some hm
  exact ⟨v, e, q v F1 H c (SameR _) ho W (R.mono sm h)⟩
theorem ev_c {v : V} {x : α} (h : ∀ F, R.r F v x) : Ev (tC v) σ F A R (ret x) := fun s b s' hm F1 H c O sm ho W Q q => by
  obtain ⟨rfl, rfl⟩ := ret_some hm
  exact q v F1 H c (SameR _) ho W (h F1)
theorem ev_int {i : Int} : Ev (tC (.int i)) σ F A rInt (ret i) := ev_c fun _ => rfl
theorem ev_bl {i : Bool} : Ev (tC (.bl i)) σ F A rBool (ret i) := ev_c fun _ => rfl
theorem ev_str {i : Str} : Ev (tC (.str i)) σ F A rStr (ret i) := ev_c fun _ => rfl
theorem ev_non : Ev (tC .non) σ F A rNone (ret ()) := ev_c fun _ => rfl
theorem ev_nonO : Ev (tC .non) σ F A (rOpt R) (ret none) := ev_c fun _ => rfl
/-- a thing that may be None -/
theorem ev_opt (h : Ev te σ F A R m) : Ev te σ F A (rOpt R) (bnd m fun x => ret (some x)) := fun s b s' hm F1 H c O sm ho W Q q => by
  obtain ⟨a, s1, h1, h2⟩ := bnd_some hm
  obtain ⟨rfl, rfl⟩ := ret_some h2
  exact h s a _ h1 F1 H c O sm ho W Q fun v F' H' c' s2 o2 W2 r2 => q v F' H' c' s2 o2 W2 r2
theorem ev_op (hr : VL2 r R R' U f) (ha : Ev ta σ F A R m) (hb : Ev tb σ F A R' m') : Ev (tOp r ta tb) σ F A U (bnd m fun a => bnd m' fun b => lft (f a b)) := fun s b s' hm F1 H c O sm ho W Q q => by
  obtain ⟨a, s1, h1, hm⟩ := bnd_some hm
  obtain ⟨b1, s2, h2, hm⟩ := bnd_some hm
  obtain ⟨h3, rfl⟩ := lft_some hm
  refine ha s a s1 h1 F1 H c O sm ho W _ fun x F2 H2 c2 sm2 o2 W2 r2 => ?_
  refine hb s1 b1 _ h2 F2 H2 c2 O (sm.trans sm2) o2 W2 _ fun y F3 H3 c3 sm3 o3 W3 r3 => ?_
  exact hr F3 H3 _ x y a b1 b W3 (R.mono sm3 r2) r3 h3 Q fun v F4 H4 sm4 W4 r4 => q v F4 H4 c3 ((sm2.trans sm3).trans sm4) (A.mono sm4 o3) W4 r4
theorem ev_un {ru : V → Hp → VK → Prop} {f : α → γ} (hr : ∀ F H x a, R.r F x a → ∀ Q : VK, (∀ v, U.r F v (f a) → Q v H) → ru x H Q) (ha : Ev ta σ F A R m) : Ev (tUn ru ta) σ F A U (bnd m fun a => ret (f a)) := fun s b s' hm F1 H c O sm ho W Q q => by
  obtain ⟨a, s1, h1, hm⟩ := bnd_some hm
  obtain ⟨rfl, rfl⟩ := ret_some hm
  refine ha s a _ h1 F1 H c O sm ho W _ fun x F2 H2 c2 sm2 o2 W2 r2 => ?_
  exact hr F2 H2 x a r2 Q fun v r3 => q v F2 H2 c2 sm2 o2 W2 r3
/-! rows -/
theorem ea_nil : EvA tNil σ F A arNil (ret ()) := fun s b s' hm F1 H c O sm ho W Q q => by
  obtain ⟨rfl, rfl⟩ := ret_some hm
  exact q [] F1 H c (SameR _) ho W rfl
theorem ea_one (h : Ev te σ F A R m) : EvA (tCons te tNil) σ F A (arOne R) m := fun s b s' hm F1 H c O sm ho W Q q =>
  h s b s' hm F1 H c O sm ho W _ fun v F2 H2 c2 s2 o2 W2 r2 => q [v] F2 H2 c2 s2 o2 W2 ⟨v, rfl, r2⟩
theorem ea_cons (h : Ev te σ F A R m) (hr : EvA tr σ F A T m') : EvA (tCons te tr) σ F A (arC R T) (bnd m fun a => bnd m' fun b => ret (a, b)) := fun s b s' hm F1 H c O sm ho W Q q => by
  obtain ⟨a, s1, h1, hm⟩ := bnd_some hm
  obtain ⟨b1, s2, h2, hm⟩ := bnd_some hm
  obtain ⟨rfl, rfl⟩ := ret_some hm
  refine h s a s1 h1 F1 H c O sm ho W _ fun x F2 H2 c2 sm2 o2 W2 r2 => ?_
  refine hr s1 b1 _ h2 F2 H2 c2 O (sm.trans sm2) o2 W2 _ fun ys F3 H3 c3 sm3 o3 W3 r3 => ?_
  exact q _ F3 H3 c3 (sm2.trans sm3) o3 W3 ⟨x, ys, rfl, R.mono sm3 r2, r3⟩
theorem eal_nil : EvA tNil σ F A (arL R) (ret []) := fun s b s' hm F1 H c O sm ho W Q q => by
  obtain ⟨rfl, rfl⟩ := ret_some hm
  exact q [] F1 H c (SameR _) ho W .nil
theorem eal_cons {ms : M S (List α)} (h : Ev te σ F A R m) (hr : EvA tr σ F A (arL R) ms) : EvA (tCons te tr) σ F A (arL R) (bnd m fun a => bnd ms fun b => ret (a :: b)) := fun s b s' hm F1 H c O sm ho W Q q => by
  obtain ⟨a, s1, h1, hm⟩ := bnd_some hm
  obtain ⟨b1, s2, h2, hm⟩ := bnd_some hm
  obtain ⟨rfl, rfl⟩ := ret_some hm
  refine h s a s1 h1 F1 H c O sm ho W _ fun x F2 H2 c2 sm2 o2 W2 r2 => ?_
  refine hr s1 b1 _ h2 F2 H2 c2 O (sm.trans sm2) o2 W2 _ fun ys F3 H3 c3 sm3 o3 W3 r3 => ?_
  exact q _ F3 H3 c3 (sm2.trans sm3) o3 W3 (.cons (R.mono sm3 r2) r3)
theorem paired_len {P : α → β → Prop} : ∀ {xs : List α} {ys : List β}, Paired P xs ys → xs.length = ys.length
  | _, _, .nil => rfl
  | _, _, .cons _ t => by rw [List.length_cons, List.length_cons, paired_len t]
/-- the largest length that is spoken of -/
def lim : Nat := 1000000
theorem lim_le {n : Nat} (h : n < lim) : n < sizeLine := Nat.lt_of_lt_of_le h (by decide)
/-- a row of so many -/
class ArN {α : Type} (T : Ar α) (n : outParam Nat) : Prop where
  len : ∀ F vs x, T.r F vs x → vs.length = n
instance {α : Type} {R : Rl α} : ArN (arOne R) 1 := ⟨fun _ _ _ ⟨_, e, _⟩ => by rw [e]; rfl⟩
instance {α β : Type} {R : Rl α} {T : Ar β} {n : Nat} [h : ArN T n] : ArN (arC R T) (n + 1) := ⟨fun _ _ _ ⟨_, _, e, _, t⟩ => by rw [e, List.length_cons, h.len _ _ _ t]⟩
instance : ArN arNil 0 := ⟨fun _ _ _ e => by rw [show _ = _ from e]; rfl⟩
/-- displays -/
theorem ev_tup {n : Nat} [hz : ArN T n] (hn : n ≤ 100) (h : EvA ar σ F A T m') : Ev (tTup ar) σ F A (rTh T) m' := fun s b s' hm F1 H c O sm ho W Q q =>
  h s b s' hm F1 H c O sm ho W _ fun vs F2 H2 c2 s2 o2 W2 r2 => ⟨by rw [hz.len _ _ _ r2]; exact Nat.le_trans hn (by decide), fun p np =>
    q (.ref p) _ _ c2 (s2.trans (W2.sameF np)) (A.mono (W2.sameF np) o2) (W2.newF np) ⟨p, vs, rfl, upd_same, T.mono (W2.sameF np) r2⟩⟩
theorem ev_lsth {n : Nat} [hz : ArN T n] (hn : n ≤ 100) (h : EvA ar σ F A T m') : Ev (tLst ar) σ F A (rLh T) m' := fun s b s' hm F1 H c O sm ho W Q q =>
  h s b s' hm F1 H c O sm ho W _ fun vs F2 H2 c2 s2 o2 W2 r2 => ⟨by rw [hz.len _ _ _ r2]; exact Nat.le_trans hn (by decide), fun p np =>
    q (.ref p) _ _ c2 (s2.trans (W2.sameF np)) (A.mono (W2.sameF np) o2) (W2.newF np) ⟨p, vs, rfl, upd_same, T.mono (W2.sameF np) r2⟩⟩
/-- displays of things alike, n of them -/
def few {α : Type} (xs : List α) : Option (List α) := if xs.length ≤ 100 then some xs else none
theorem few_some {α : Type} {xs ys : List α} (h : few xs = some ys) : ys = xs ∧ xs.length ≤ 100 := by
  unfold few at h; split at h
  · cases h; exact ⟨rfl, by assumption⟩
  · cases h
theorem ev_tupl {ms : M S (List α)} (h : EvA ar σ F A (arL R) ms) : Ev (tTup ar) σ F A (rTup R) (bnd ms fun xs => lft (few xs)) := fun s b s' hm F1 H c O sm ho W Q q => by
  obtain ⟨xs, s1, h1, hm⟩ := bnd_some hm
  obtain ⟨h2, rfl⟩ := lft_some hm
  obtain ⟨rfl, hl⟩ := few_some h2
  exact h s _ _ h1 F1 H c O sm ho W _ fun vs F2 H2 c2 s2 o2 W2 r2 => ⟨by rw [paired_len r2]; exact Nat.le_trans hl (by decide), fun p np =>
    q (.ref p) _ _ c2 (s2.trans (W2.sameF np)) (A.mono (W2.sameF np) o2) (W2.newF np) ⟨p, vs, rfl, upd_same, paired_mono (fun _ _ => R.mono (W2.sameF np)) r2⟩⟩
theorem eo_lst {ms : M S (List α)} (h : EvA ar σ F A (arL R) ms) : EvO (tLst ar) σ F A (oLst R) (bnd ms fun xs => lft (few xs)) := fun s b s' hm F1 H c O sm ho W Q q => by
  obtain ⟨xs, s1, h1, hm⟩ := bnd_some hm
  obtain ⟨h2, rfl⟩ := lft_some hm
  obtain ⟨rfl, hl⟩ := few_some h2
  exact h s _ _ h1 F1 H c O sm ho W _ fun vs F2 H2 c2 s2 o2 W2 r2 => ⟨by rw [paired_len r2]; exact Nat.le_trans hl (by decide), fun p np =>
    q (.ref p) _ _ c2 [(p, .lst vs)] s2 o2 ⟨p, vs, rfl, rfl, r2⟩ (W2.newO np)⟩
/-- an owned list is frozen -/
theorem ev_frz {ms : M S (List α)} (h : EvO te σ F A (oLst R) ms) : Ev te σ F A (rLst R) ms := fun s b s' hm F1 H c O sm ho W Q q =>
  h s b s' hm F1 H c O sm ho W Q fun v F2 H2 c2 cb s2 o2 ob W2 => by
    obtain ⟨l, vs, rfl, rfl, rp⟩ := ob
    have W3 := Wd.frz W2
    have s3 := Wd.frzS W2
    exact q _ _ H2 c2 (s2.trans s3) (A.mono s3 o2) W3 ⟨l, vs, rfl, upd_same, paired_mono (fun _ _ => R.mono s3) rp⟩
/-! built-in functions -/
variable {rc : List V → Hp → VK → Prop}
theorem ev_cb {f : β → Option γ} (hr : VLc rc T U f) (h : EvA ar σ F A T m') : Ev (tCB rc ar) σ F A U (bnd m' fun x => lft (f x)) := fun s b s' hm F1 H c O sm ho W Q q => by
  obtain ⟨xs, s1, h1, hm⟩ := bnd_some hm
  obtain ⟨h2, rfl⟩ := lft_some hm
  refine h s _ _ h1 F1 H c O sm ho W _ fun vs F2 H2 c2 s2 o2 W2 r2 => ?_
  exact hr F2 H2 _ vs xs b W2 r2 h2 Q fun v F3 H3 s3 W3 r3 => q v F3 H3 c2 (s2.trans s3) (A.mono s3 o2) W3 r3
theorem eo_cb {f : β → Option γ} {B : V → Ow γ} (hr : VLo rc T B f) (h : EvA ar σ F A T m') : EvO (tCB rc ar) σ F A B (bnd m' fun x => lft (f x)) := fun s b s' hm F1 H c O sm ho W Q q => by
  obtain ⟨xs, s1, h1, hm⟩ := bnd_some hm
  obtain ⟨h2, rfl⟩ := lft_some hm
  refine h s _ _ h1 F1 H c O sm ho W _ fun vs F2 H2 c2 s2 o2 W2 r2 => ?_
  exact hr F2 H2 _ vs xs b W2 r2 h2 Q fun v F3 H3 cb s3 ob W3 => q v F3 H3 c2 cb (s2.trans s3) (A.mono s3 o2) ob W3
theorem eo_op {f : α → β → Option γ} {B : V → Ow γ} (hr : VLo2 r R R' B f) (ha : Ev ta σ F A R m) (hb : Ev tb σ F A R' m') : EvO (tOp r ta tb) σ F A B (bnd m fun a => bnd m' fun b => lft (f a b)) := fun s b s' hm F1 H c O sm ho W Q q => by
  obtain ⟨a, s1, h1, hm⟩ := bnd_some hm
  obtain ⟨b1, s2, h2, hm⟩ := bnd_some hm
  obtain ⟨h3, rfl⟩ := lft_some hm
  refine ha s a s1 h1 F1 H c O sm ho W _ fun x F2 H2 c2 sm2 o2 W2 r2 => ?_
  refine hb s1 b1 _ h2 F2 H2 c2 O (sm.trans sm2) o2 W2 _ fun y F3 H3 c3 sm3 o3 W3 r3 => ?_
  exact hr F3 H3 _ x y a b1 b W3 (R.mono sm3 r2) r3 h3 Q fun v F4 H4 cb sm4 ob W4 => q v F4 H4 c3 cb ((sm2.trans sm3).trans sm4) (A.mono sm4 o3) ob W4
/-! promises: of pure defs; of defs with owned state -/
def spP (T : Ar α) (U : Rl γ) (f : α → Option γ) : Sp := fun vs H Q _ => ∃ F O x b, T.r F vs x ∧ Wd F H O ∧ f x = some b ∧ ∀ v F' H', Same F F' → Wd F' H' O → U.r F' v b → Q v H'
def spS {ι : Type} (T : ι → Ar α) (B : ι → Ow S1) (U : Rl γ) (f : α → M S1 γ) : Sp := fun vs H Q _ => ∃ (i : ι) (F : Hp) (O c : Ch) (x : α) (s : S1) (b : γ) (s' : S1), (T i).r F vs x ∧ (B i).o F s c ∧ Wd F H (c ++ O) ∧ f x s = some (b, s') ∧
  ∀ v F' H' c', Same F F' → (B i).o F' s' c' → Wd F' H' (c' ++ O) → U.r F' v b → Q v H'
/-- a pure def whose result is a new owned thing -/
def spPo (T : Ar α) (B : V → Ow γ) (f : α → Option γ) : Sp := fun vs H Q _ => ∃ F O x b, T.r F vs x ∧ Wd F H O ∧ f x = some b ∧ ∀ v F' H' cb, Same F F' → (B v).o F' b cb → Wd F' H' (cb ++ O) → Q v H'
theorem ev_callP {f : β → Option γ} {E : XK} (h : EvA ar σ F A T m') : Ev (tCall (spP T U f) [] E ar) σ F A U (bnd m' fun x => lft (f x)) := fun s b s' hm F1 H c O sm ho W Q q => by
  obtain ⟨xs, s1, h1, hm⟩ := bnd_some hm
  obtain ⟨h2, rfl⟩ := lft_some hm
  refine h s _ _ h1 F1 H c O sm ho W _ fun vs F2 H2 c2 s2 o2 W2 r2 => ?_
  rw [List.append_nil]
  exact ⟨F2, _, xs, b, r2, W2, h2, fun v F3 H3 s3 W3 r3 => q v F3 H3 c2 (s2.trans s3) (A.mono s3 o2) W3 r3⟩
theorem eo_callP {f : β → Option γ} {B : V → Ow γ} {E : XK} (h : EvA ar σ F A T m') : EvO (tCall (spPo T B f) [] E ar) σ F A B (bnd m' fun x => lft (f x)) := fun s b s' hm F1 H c O sm ho W Q q => by
  obtain ⟨xs, s1, h1, hm⟩ := bnd_some hm
  obtain ⟨h2, rfl⟩ := lft_some hm
  refine h s _ _ h1 F1 H c O sm ho W _ fun vs F2 H2 c2 s2 o2 W2 r2 => ?_
  rw [List.append_nil]
  exact ⟨F2, _, xs, b, r2, W2, h2, fun v F3 H3 cb s3 ob W3 => q v F3 H3 c2 cb (s2.trans s3) (A.mono s3 o2) ob W3⟩
theorem ev_callS {ι : Type} (i : ι) {T : ι → Ar β} {B : ι → Ow S1} {f : β → M S1 γ} {E : XK} {g : S → S1} {p : S → S1 → S} (e : Emb A (B i) g p) (h : EvA ar σ F A (T i) m') :
    Ev (tCall (spS T B U f) [] E ar) σ F A U (bnd m' fun x => zm g p (f x)) := fun s b s' hm F1 H c O sm ho W Q q => by
  obtain ⟨xs, s1, h1, hm⟩ := bnd_some hm
  obtain ⟨t, h2, rfl⟩ := zm_some hm
  refine h s _ _ h1 F1 H c O sm ho W _ fun vs F2 H2 c2 s2 o2 W2 r2 => ?_
  obtain ⟨c3, c4, pm, ob, k⟩ := e.split o2
  rw [List.append_nil]
  refine ⟨i, F2, c4 ++ O, c3, xs, g s1, b, t, r2, ob, W2.perm ?_, h2, fun v F3 H3 c3' s3 o3 W3 r3 => ?_⟩
  · rw [← List.append_assoc]; exact pm.append_right O
  · obtain ⟨c', oc, pm'⟩ := k F3 t c3' s3 o3
    refine q v F3 H3 c' (s2.trans s3) oc (W3.perm ?_) r3
    rw [← List.append_assoc]; exact (pm'.append_right O).symm
/-! tests -/
theorem et_B {mb : M S Bool} (h : Ev te σ F A rBool mb) : EvT (tB te) σ F A mb := fun s b s' hm F1 H c O sm ho W Q q =>
  h s b s' hm F1 H c O sm ho W _ fun v F2 H2 c2 s2 o2 W2 r2 => ⟨b, r2, q F2 H2 c2 s2 o2 W2⟩
theorem et_test {mb : M S Bool} (h : Ev te σ F A rBool mb) : EvT (tTest te) σ F A mb := fun s b s' hm F1 H c O sm ho W Q q =>
  h s b s' hm F1 H c O sm ho W _ fun v F2 H2 c2 s2 o2 W2 r2 => ⟨b, r2, q F2 H2 c2 s2 o2 W2⟩
theorem et_not {mb : M S Bool} (h : EvT tt σ F A mb) : EvT (tNot tt) σ F A (bnd mb fun b => ret (!b)) := fun s b s' hm F1 H c O sm ho W Q q => by
  obtain ⟨a, s1, h1, hm⟩ := bnd_some hm
  obtain ⟨rfl, rfl⟩ := ret_some hm
  exact h s a _ h1 F1 H c O sm ho W _ fun F2 H2 c2 s2 o2 W2 => q F2 H2 c2 s2 o2 W2
theorem et_and {mb mc : M S Bool} (h : EvT tt σ F A mb) (h' : EvT tu σ F A mc) : EvT (tAnd tt tu) σ F A (bnd mb fun b => bif b then mc else ret false) := fun s b s' hm F1 H c O sm ho W Q q => by
  obtain ⟨a, s1, h1, hm⟩ := bnd_some hm
  refine h s a _ h1 F1 H c O sm ho W _ fun F2 H2 c2 s2 o2 W2 => ?_
  cases a with
  | true => exact iteT (h' s1 b s' hm F2 H2 c2 O (sm.trans s2) o2 W2 Q fun F3 H3 c3 s3 o3 W3 => q F3 H3 c3 (s2.trans s3) o3 W3)
  | false =>
    obtain ⟨rfl, rfl⟩ := ret_some hm
    exact iteF (q F2 H2 c2 s2 o2 W2)
theorem et_or {mb mc : M S Bool} (h : EvT tt σ F A mb) (h' : EvT tu σ F A mc) : EvT (tOr tt tu) σ F A (bnd mb fun b => bif b then ret true else mc) := fun s b s' hm F1 H c O sm ho W Q q => by
  obtain ⟨a, s1, h1, hm⟩ := bnd_some hm
  refine h s a _ h1 F1 H c O sm ho W _ fun F2 H2 c2 s2 o2 W2 => ?_
  cases a with
  | false => exact iteF (h' s1 b s' hm F2 H2 c2 O (sm.trans s2) o2 W2 Q fun F3 H3 c3 s3 o3 W3 => q F3 H3 c3 (s2.trans s3) o3 W3)
  | true =>
    obtain ⟨rfl, rfl⟩ := ret_some hm
    exact iteT (q F2 H2 c2 s2 o2 W2)
/-! and, or, not, if as values -/
theorem ev_not {mb : M S Bool} (h : Ev te σ F A rBool mb) : Ev (tNotV te) σ F A rBool (bnd mb fun b => ret (!b)) := fun s b s' hm F1 H c O sm ho W Q q => by
  obtain ⟨a, s1, h1, hm⟩ := bnd_some hm
  obtain ⟨rfl, rfl⟩ := ret_some hm
  exact h s a _ h1 F1 H c O sm ho W _ fun v F2 H2 c2 s2 o2 W2 r2 => ⟨a, r2, q _ F2 H2 c2 s2 o2 W2 rfl⟩
theorem ev_and {mb mc : M S Bool} (h : Ev ta σ F A rBool mb) (h' : Ev tb σ F A rBool mc) : Ev (tAndV ta tb) σ F A rBool (bnd mb fun b => bif b then mc else ret false) := fun s b s' hm F1 H c O sm ho W Q q => by
  obtain ⟨a, s1, h1, hm⟩ := bnd_some hm
  refine h s a _ h1 F1 H c O sm ho W _ fun v F2 H2 c2 s2 o2 W2 r2 => ⟨a, r2, ?_⟩
  cases a with
  | true => exact iteT (h' s1 b s' hm F2 H2 c2 O (sm.trans s2) o2 W2 Q fun v F3 H3 c3 s3 o3 W3 r3 => q v F3 H3 c3 (s2.trans s3) o3 W3 r3)
  | false =>
    obtain ⟨rfl, rfl⟩ := ret_some hm
    exact iteF (q _ F2 H2 c2 s2 o2 W2 rfl)
theorem ev_or {mb mc : M S Bool} (h : Ev ta σ F A rBool mb) (h' : Ev tb σ F A rBool mc) : Ev (tOrV ta tb) σ F A rBool (bnd mb fun b => bif b then ret true else mc) := fun s b s' hm F1 H c O sm ho W Q q => by
  obtain ⟨a, s1, h1, hm⟩ := bnd_some hm
  refine h s a _ h1 F1 H c O sm ho W _ fun v F2 H2 c2 s2 o2 W2 r2 => ⟨a, r2, ?_⟩
  cases a with
  | false => exact iteF (h' s1 b s' hm F2 H2 c2 O (sm.trans s2) o2 W2 Q fun v F3 H3 c3 s3 o3 W3 r3 => q v F3 H3 c3 (s2.trans s3) o3 W3 r3)
  | true =>
    obtain ⟨rfl, rfl⟩ := ret_some hm
    exact iteT (q _ F2 H2 c2 s2 o2 W2 rfl)
theorem ev_if {mb : M S Bool} {m2 : M S α} (h : EvT tt σ F A mb) (ha : Ev ta σ F A R m) (hb : Ev tb σ F A R m2) : Ev (tIf tt ta tb) σ F A R (bnd mb fun b => bif b then m else m2) := fun s b s' hm F1 H c O sm ho W Q q => by
  obtain ⟨a, s1, h1, hm⟩ := bnd_some hm
  refine h s a _ h1 F1 H c O sm ho W _ fun F2 H2 c2 s2 o2 W2 => ?_
  cases a with
  | true => exact iteT (ha s1 b s' hm F2 H2 c2 O (sm.trans s2) o2 W2 Q fun v F3 H3 c3 s3 o3 W3 r3 => q v F3 H3 c3 (s2.trans s3) o3 W3 r3)
  | false => exact iteF (hb s1 b s' hm F2 H2 c2 O (sm.trans s2) o2 W2 Q fun v F3 H3 c3 s3 o3 W3 r3 => q v F3 H3 c3 (s2.trans s3) o3 W3 r3)

/-! what is walked -/
def ItR (J : It) (F : Hp) (R : Rl α) (xs : List α) : Prop := ∃ (G : Hp → Prop) (Y : Nat → Hp → V → Hp → Prop), Walk J xs.length G Y ∧ (∀ F1 H, Same F F1 → Same F1 H → G H) ∧
  ∀ i H v H', i < xs.length → Y i H v H' → ∀ F1 O, Same F F1 → Wd F1 H O → ∃ F', Same F1 F' ∧ Wd F' H' O ∧ ∃ x, xs[i]? = some x ∧ R.r F' v x
def EvI (wi : TI) (σ : L2.St) (F : Hp) (A : Ow S) (R : Rl α) (m : M S (List α)) : Prop :=
  ∀ s xs s', m s = some (xs, s') → ∀ F1 H c O, Same F F1 → A.o F1 s c → Wd F1 H (c ++ O) → ∀ Q : It → Hp → Prop,
    (∀ J F' H' c', Same F1 F' → A.o F' s' c' → Wd F' H' (c' ++ O) → ItR J F' R xs → Q J H') → wi σ H Q
theorem paired_get {P : V → α → Prop} : ∀ {vs : List V} {xs : List α} {i : Nat} {v : V}, Paired P vs xs → vs[i]? = some v → ∃ x, xs[i]? = some x ∧ P v x
  | _, _, _, _, .nil, e => by simp at e
  | _, _, 0, _, .cons r _, e => by simp at e; subst e; exact ⟨_, rfl, r⟩
  | _, _, i + 1, v, .cons _ t, e => by
    obtain ⟨x, h1, h2⟩ := paired_get (i := i) t (by simpa using e)
    exact ⟨x, by simpa using h1, h2⟩
theorem paired_get' {P : V → α → Prop} : ∀ {vs : List V} {xs : List α} {i : Nat} {x : α}, Paired P vs xs → xs[i]? = some x → ∃ v, vs[i]? = some v ∧ P v x
  | _, _, _, _, .nil, e => by simp at e
  | _, _, 0, _, .cons r _, e => by simp at e; subst e; exact ⟨_, rfl, r⟩
  | _, _, i + 1, v, .cons _ t, e => by
    obtain ⟨x, h1, h2⟩ := paired_get' (i := i) t (by simpa using e)
    exact ⟨x, by simpa using h1, h2⟩
variable {K : PySem.W.Frag} {ml : M S (List α)}
theorem ei_tup (h : Ev te σ F A (rTup R) ml) : EvI (iTup K te) σ F A R ml := fun s b s' hm F1 H c O sm ho W Q q => by
  refine h s b s' hm F1 H c O sm ho W _ fun v F2 H2 c2 s2 o2 W2 r2 => ?_
  obtain ⟨p, vs, rfl, hp, rp⟩ := r2
  refine ⟨p, rfl, ⟨vs, SqT.of (W2.sub _ _ hp)⟩, q _ F2 H2 c2 s2 o2 W2 ?_⟩
  have hl := paired_len rp
  refine ⟨_, _, hl ▸ walk_tup (K := K) (a := p) (xs := vs), fun F3 H3 s3 s4 => SqT.of (s4 _ _ (s3 _ _ hp)), fun i H3 v H' hi y F3 O3 s3 W3 => ?_⟩
  obtain ⟨rfl, e⟩ := y
  obtain ⟨x, e1, r1⟩ := paired_get rp e
  exact ⟨F3, SameR _, W3, x, e1, R.mono s3 r1⟩
theorem ei_lst (h : Ev te σ F A (rLst R) ml) : EvI (iList K te) σ F A R ml := fun s b s' hm F1 H c O sm ho W Q q => by
  refine h s b s' hm F1 H c O sm ho W _ fun v F2 H2 c2 s2 o2 W2 r2 => ?_
  obtain ⟨p, vs, rfl, hp, rp⟩ := r2
  refine ⟨p, rfl, ⟨vs, SqL.of (W2.sub _ _ hp)⟩, q _ F2 H2 c2 s2 o2 W2 ?_⟩
  have hl := paired_len rp
  refine ⟨_, _, hl ▸ walk_list (K := K) (a := p) (xs := vs), fun F3 H3 s3 s4 => SqL.of (s4 _ _ (s3 _ _ hp)), fun i H3 v H' hi y F3 O3 s3 W3 => ?_⟩
  obtain ⟨rfl, e⟩ := y
  obtain ⟨x, e1, r1⟩ := paired_get rp e
  exact ⟨F3, SameR _, W3, x, e1, R.mono s3 r1⟩
/-- lo, lo + 1, .. (n of them) -/
def rngL (lo : Int) : Nat → List Int
  | 0 => []
  | n + 1 => lo :: rngL (lo + 1) n
theorem rngL_len : ∀ (lo : Int) (n : Nat), (rngL lo n).length = n
  | _, 0 => rfl
  | lo, n + 1 => by rw [rngL, List.length_cons, rngL_len]
theorem rngL_get : ∀ (lo : Int) (n i : Nat), i < n → (rngL lo n)[i]? = some (lo + i)
  | lo, n + 1, 0, _ => by simp [rngL]
  | lo, n + 1, i + 1, h => by
    rw [rngL, List.getElem?_cons_succ, rngL_get (lo + 1) n i (by omega)]
    congr 1; push_cast; omega
def rng (lo hi : Int) : Option (List Int) := if -1000000 ≤ lo ∧ lo ≤ 1000000 ∧ -1000000 ≤ hi ∧ hi ≤ 1000000 then some (rngL lo (hi - lo).toNat) else none
theorem itr_rng {lo : Int} {n : Nat} : ItR (Itr lo n) F rInt (rngL lo n) := by
  refine ⟨fun _ => True, YFn fun i => .int (lo + (i : Nat)), ?_, fun _ _ _ _ => trivial, fun i H v H' hi y F3 O3 s3 W3 => ?_⟩
  · rw [rngL_len]; exact walk_range
  · obtain ⟨rfl, rfl⟩ := y
    rw [rngL_len] at hi
    exact ⟨F3, SameR _, W3, lo + (i : Nat), rngL_get lo n i hi, rfl⟩
theorem rng_some {lo hi : Int} {xs : List Int} (h : rng lo hi = some xs) : xs = rngL lo (hi - lo).toNat ∧ -1000000 ≤ lo ∧ lo ≤ 1000000 ∧ -1000000 ≤ hi ∧ hi ≤ 1000000 := by
  unfold rng at h; split at h
  · cases h; exact ⟨rfl, by assumption⟩
  · cases h
theorem ei_rng1 {mi : M S Int} (h : Ev ta σ F A rInt mi) : EvI (iRng1 (tCons ta tNil)) σ F A rInt (bnd mi fun n => lft (rng 0 n)) := fun s b s' hm F1 H c O sm ho W Q q => by
  obtain ⟨n, s1, h1, hm⟩ := bnd_some hm
  obtain ⟨h2, rfl⟩ := lft_some hm
  obtain ⟨rfl, l1, l2, l3, l4⟩ := rng_some h2
  refine h s _ _ h1 F1 H c O sm ho W _ fun v F2 H2 c2 s2 o2 W2 r2 => ⟨n, by rw [show v = .int n from r2], by omega, by omega, q _ F2 H2 c2 s2 o2 W2 ?_⟩
  rw [show (n - 0).toNat = n.toNat by omega]
  exact itr_rng
theorem ei_rng2 {mi mj : M S Int} (h : Ev ta σ F A rInt mi) (h' : Ev tb σ F A rInt mj) : EvI (iRng2 (tCons ta (tCons tb tNil))) σ F A rInt (bnd mi fun n => bnd mj fun k => lft (rng n k)) := fun s b s' hm F1 H c O sm ho W Q q => by
  obtain ⟨n, s1, h1, hm⟩ := bnd_some hm
  obtain ⟨k, s2, h2, hm⟩ := bnd_some hm
  obtain ⟨h3, rfl⟩ := lft_some hm
  obtain ⟨rfl, l1, l2, l3, l4⟩ := rng_some h3
  refine h s _ _ h1 F1 H c O sm ho W _ fun v F2 H2 c2 sm2 o2 W2 r2 => ?_
  refine h' s1 _ _ h2 F2 H2 c2 O (sm.trans sm2) o2 W2 _ fun w F3 H3 c3 sm3 o3 W3 r3 => ⟨n, k, by rw [show v = .int n from r2, show w = .int k from r3], ⟨by omega, by omega, by omega, by omega⟩, q _ F3 H3 c3 (sm2.trans sm3) o3 W3 itr_rng⟩
/-- what a new pair of the i-th ones gives -/
theorem itr_pair {J : It} {G : Hp → Prop} {xs : List α} {ys : List β} {n : Nat} {f g : Nat → Option V} (hn : n = min xs.length ys.length) (w : Walk J n G (YPair f g)) (hG : ∀ F1 H, Same F F1 → Same F1 H → G H)
    (hf : ∀ i v, f i = some v → i < n → ∃ x, xs[i]? = some x ∧ R.r F v x) (hg : ∀ i v, g i = some v → i < n → ∃ x, ys[i]? = some x ∧ R'.r F v x) : ItR J F (rTh (arC R (arOne R'))) (xs.zip ys) := by
  subst hn
  refine ⟨G, YPair f g, by rw [List.length_zip]; exact w, hG, fun i H v H' hi y F3 O3 s3 W3 => ?_⟩
  obtain ⟨T, x, z, rfl, nT, rfl, e1, e2⟩ := y
  rw [List.length_zip] at hi
  obtain ⟨a, ha, ra⟩ := hf i x e1 hi
  obtain ⟨b, hb, rb⟩ := hg i z e2 hi
  have sF := W3.sameF (o := .tup [x, z]) nT
  refine ⟨_, sF, W3.newF nT, (a, b), ?_, T, [x, z], rfl, upd_same, x, [z], rfl, R.mono (s3.trans sF) ra, z, rfl, R'.mono (s3.trans sF) rb⟩
  rw [List.getElem?_zip_eq_some]; exact ⟨ha, hb⟩
def enumL (xs : List α) : List (Int × α) := (rngL 0 xs.length).zip xs
theorem ei_enum (h : Ev te σ F A (rLst R) ml) : EvI (iEnum K (tCons te tNil)) σ F A (rTh (arC rInt (arOne R))) (bnd ml fun xs => ret (enumL xs)) := fun s b s' hm F1 H c O sm ho W Q q => by
  obtain ⟨xs, s1, h1, hm⟩ := bnd_some hm
  obtain ⟨rfl, rfl⟩ := ret_some hm
  refine h s _ _ h1 F1 H c O sm ho W _ fun v F2 H2 c2 s2 o2 W2 r2 => ?_
  obtain ⟨p, vs, rfl, hp, rp⟩ := r2
  refine ⟨p, vs, rfl, SqL.of (W2.sub _ _ hp), q _ F2 H2 c2 s2 o2 W2 ?_⟩
  have hl := paired_len rp
  refine itr_pair (n := vs.length) (by rw [rngL_len, hl]; omega) (walk_enum (K := K) (a := p) (xs := vs)) (fun F3 H3 s3 s4 => SqL.of (s4 _ _ (s3 _ _ hp))) (fun i v e hi => ?_) (fun i v e hi => paired_get rp e)
  cases e
  exact ⟨(i : Int), by rw [rngL_get 0 _ i (by omega)]; simp, rfl⟩
theorem ei_zip {mr : M S (List β)} (h : Ev ta σ F A (rLst R) ml) (h' : Ev tb σ F A (rLst R') mr) : EvI (iZip K (tCons ta (tCons tb tNil))) σ F A (rTh (arC R (arOne R'))) (bnd ml fun xs => bnd mr fun ys => ret (xs.zip ys)) := fun s b s' hm F1 H c O sm ho W Q q => by
  obtain ⟨xs, s1, h1, hm⟩ := bnd_some hm
  obtain ⟨ys, s2, h2, hm⟩ := bnd_some hm
  obtain ⟨rfl, rfl⟩ := ret_some hm
  refine h s _ _ h1 F1 H c O sm ho W _ fun v F2 H2 c2 sm2 o2 W2 r2 => ?_
  refine h' s1 _ _ h2 F2 H2 c2 O (sm.trans sm2) o2 W2 _ fun w F3 H3 c3 sm3 o3 W3 r3 => ?_
  obtain ⟨p, vs, rfl, hp, rp⟩ := r2
  obtain ⟨p', ws, rfl, hp', rp'⟩ := r3
  have hp2 := sm3 _ _ hp
  refine ⟨p, p', vs, ws, rfl, SqL.of (W3.sub _ _ hp2), SqL.of (W3.sub _ _ hp'), q _ F3 H3 c3 (sm2.trans sm3) o3 W3 ?_⟩
  exact itr_pair (n := min vs.length ws.length) (by rw [paired_len rp, paired_len rp']) (walk_zip rfl) (fun F4 H4 s4 s5 => ⟨SqL.of (s5 _ _ (s4 _ _ hp2)), SqL.of (s5 _ _ (s4 _ _ hp'))⟩)
    (fun i v e hi => by obtain ⟨x, e1, r1⟩ := paired_get rp e; exact ⟨x, e1, R.mono sm3 r1⟩) (fun i v e hi => paired_get rp' e)

/-! targets -/
/-- the target g takes v at the slots w; K: what the slots may be then -/
def Go (g : TG) (v : V) (w : L2.St) (F : Hp) (k : L2.St → Prop) : Prop := ∀ F1 H O, Same F F1 → Wd F1 H O → ∀ Q : L2.St → Hp → Prop, (∀ σ2, k σ2 → Q σ2 H) → g v w H Q
theorem go_name {i : Nat} {w : L2.St} : Go (gName i) v w F (fun σ2 => σ2 = w.set i (some v)) := fun _ _ _ _ _ _ q => q _ rfl
theorem go_t2 {i j : Nat} {w : L2.St} {x : α × β} (h : (rTh (arC R (arOne R'))).r F v x) : Go (gTup K 2 (gCons (gName i) (gCons (gName j) gNil))) v w F (fun σ2 => ∃ v1 v2, R.r F v1 x.1 ∧ R'.r F v2 x.2 ∧ σ2 = (w.set i (some v1)).set j (some v2)) := fun F1 H O sm W Q q => by
  obtain ⟨p, vs, rfl, hp, v1, _, rfl, r1, v2, rfl, r2⟩ := h
  exact ⟨p, _, rfl, SqT.of (W.sub _ _ (sm _ _ hp)), rfl, v1, _, rfl, v2, _, rfl, rfl, q _ ⟨v1, v2, r1, r2, rfl⟩⟩
variable {R3 : Rl γ} {R4 : Rl δ} {ε ζ : Type} {R5 : Rl ε} {R6 : Rl ζ}
theorem go_t3 {i j k : Nat} {w : L2.St} {x : α × β × γ} (h : (rTh (arC R (arC R' (arOne R3)))).r F v x) : Go (gTup K 3 (gCons (gName i) (gCons (gName j) (gCons (gName k) gNil)))) v w F
    (fun σ2 => ∃ v1 v2 v3, R.r F v1 x.1 ∧ R'.r F v2 x.2.1 ∧ R3.r F v3 x.2.2 ∧ σ2 = ((w.set i (some v1)).set j (some v2)).set k (some v3)) := fun F1 H O sm W Q q => by
  obtain ⟨p, vs, rfl, hp, v1, _, rfl, r1, v2, _, rfl, r2, v3, rfl, r3⟩ := h
  exact ⟨p, _, rfl, SqT.of (W.sub _ _ (sm _ _ hp)), rfl, v1, _, rfl, v2, _, rfl, v3, _, rfl, rfl, q _ ⟨v1, v2, v3, r1, r2, r3, rfl⟩⟩
theorem go_t4 {i j k l : Nat} {w : L2.St} {x : α × β × γ × δ} (h : (rTh (arC R (arC R' (arC R3 (arOne R4))))).r F v x) : Go (gTup K 4 (gCons (gName i) (gCons (gName j) (gCons (gName k) (gCons (gName l) gNil))))) v w F
    (fun σ2 => ∃ v1 v2 v3 v4, R.r F v1 x.1 ∧ R'.r F v2 x.2.1 ∧ R3.r F v3 x.2.2.1 ∧ R4.r F v4 x.2.2.2 ∧ σ2 = (((w.set i (some v1)).set j (some v2)).set k (some v3)).set l (some v4)) := fun F1 H O sm W Q q => by
  obtain ⟨p, vs, rfl, hp, v1, _, rfl, r1, v2, _, rfl, r2, v3, _, rfl, r3, v4, rfl, r4⟩ := h
  exact ⟨p, _, rfl, SqT.of (W.sub _ _ (sm _ _ hp)), rfl, v1, _, rfl, v2, _, rfl, v3, _, rfl, v4, _, rfl, rfl, q _ ⟨v1, v2, v3, v4, r1, r2, r3, r4, rfl⟩⟩
theorem go_t6 {i j k l n o : Nat} {w : L2.St} {x : α × β × γ × δ × ε × ζ} (h : (rTh (arC R (arC R' (arC R3 (arC R4 (arC R5 (arOne R6))))))).r F v x) :
    Go (gTup K 6 (gCons (gName i) (gCons (gName j) (gCons (gName k) (gCons (gName l) (gCons (gName n) (gCons (gName o) gNil))))))) v w F
    (fun σ2 => ∃ v1 v2 v3 v4 v5 v6, R.r F v1 x.1 ∧ R'.r F v2 x.2.1 ∧ R3.r F v3 x.2.2.1 ∧ R4.r F v4 x.2.2.2.1 ∧ R5.r F v5 x.2.2.2.2.1 ∧ R6.r F v6 x.2.2.2.2.2 ∧
      σ2 = (((((w.set i (some v1)).set j (some v2)).set k (some v3)).set l (some v4)).set n (some v5)).set o (some v6)) := fun F1 H O sm W Q q => by
  obtain ⟨p, vs, rfl, hp, v1, _, rfl, r1, v2, _, rfl, r2, v3, _, rfl, r3, v4, _, rfl, r4, v5, _, rfl, r5, v6, rfl, r6⟩ := h
  exact ⟨p, _, rfl, SqT.of (W.sub _ _ (sm _ _ hp)), rfl, v1, _, rfl, v2, _, rfl, v3, _, rfl, v4, _, rfl, v5, _, rfl, v6, _, rfl, rfl, q _ ⟨v1, v2, v3, v4, v5, v6, r1, r2, r3, r4, r5, r6, rfl⟩⟩
theorem Go.up {g : TG} {w : L2.St} {k : L2.St → Prop} (h : Go g v w F k) (s : Same F F') : Go g v w F' k := fun F1 H O sm => h F1 H O (s.trans sm)

/-! comprehensions -/
def chk (xs : List α) : Option (List α) := if xs.length < lim then some xs else none
theorem chk_some {xs ys : List α} (h : chk xs = some ys) : ys = xs ∧ xs.length < lim := by
  unfold chk at h; split at h
  · cases h; exact ⟨rfl, by assumption⟩
  · cases h
def mpo (f : α → M S (Option β)) : List α → M S (List β)
  | [] => ret []
  | x :: xs => bnd (f x) fun o => bnd (mpo f xs) fun ys => ret (match o with | some y => y :: ys | none => ys)
theorem bnd_assoc {ε : Type} (m : M S α) (f : α → M S β) (g : β → S → Option ε) : bnd (bnd m f) g = bnd m fun a => bnd (f a) g := by
  funext s; unfold bnd; cases m s <;> rfl
theorem bnd_ret (a : α) (f : α → S → Option β) : bnd (ret a) f = f a := rfl
theorem mp_eq (f : α → M S β) : ∀ xs, mp f xs = mpo (fun x => bnd (f x) fun y => ret (some y)) xs
  | [] => rfl
  | x :: xs => by
    rw [mp, mpo, mp_eq f xs, bnd_assoc]; rfl
theorem mpf_eq (p : α → M S Bool) (f : α → M S β) : ∀ xs, mpf p f xs = mpo (fun x => bnd (p x) fun b => bif b then (bnd (f x) fun y => ret (some y)) else ret none) xs
  | [] => rfl
  | x :: xs => by
    rw [mpf, mpo, mpf_eq p f xs, bnd_assoc]
    congr 1; funext b
    cases b with
    | true => simp only [cond_true, bnd_assoc, bnd_ret]
    | false =>
      simp only [cond_false, bnd_ret]
      funext s; unfold bnd ret; generalize mpo _ xs s = r; cases r <;> rfl
/-- a comprehension's turn: the target, the test, the element -/
def Cb (g : TG) (tt : TT) (te : TE) (vs : List Nat) (v : V) (w : L2.St) (F : Hp) (A : Ow S) (T : Rl β) (m : M S (Option β)) : Prop :=
  ∀ s b s', m s = some (b, s') → ∀ F1 H c O, Same F F1 → A.o F1 s c → Wd F1 H (c ++ O) → ∀ (Qy : V → Hp → Prop) (Qn : Hp → Prop),
    (∀ F' H' c', Same F1 F' → A.o F' s' c' → Wd F' H' (c' ++ O) → match b with
      | none => Qn H'
      | some y => ∀ u, T.r F' u y → Qy u H') →
    g v w H fun σ2 H2 => wipe σ2 vs = w ∧ tt σ2 H2 fun b H3 => if b = true then te σ2 H3 Qy else Qn H3
variable {T' : Rl β} {g : TG} {vs : List Nat} {w : L2.St} {k : L2.St → Prop}
theorem cb_all (hg : Go g v w F k) (hw : ∀ σ2, k σ2 → wipe σ2 vs = w) (he : ∀ σ2, k σ2 → Ev te σ2 F A T' m') : Cb g tYes te vs v w F A T' (bnd m' fun y => ret (some y)) := fun s b s' hm F1 H c O sm ho W Qy Qn q => by
  obtain ⟨y, s1, h1, hm⟩ := bnd_some hm
  obtain ⟨rfl, rfl⟩ := ret_some hm
  exact hg F1 H _ sm W _ fun σ2 k2 => ⟨hw σ2 k2, iteT (B := Qn H) (he σ2 k2 s y _ h1 F1 H c O sm ho W _ fun u F2 H2 c2 s2 o2 W2 r2 => q F2 H2 c2 s2 o2 W2 u r2)⟩
theorem cb_if {mb : M S Bool} (hg : Go g v w F k) (hw : ∀ σ2, k σ2 → wipe σ2 vs = w) (ht : ∀ σ2, k σ2 → EvT tt σ2 F A mb) (he : ∀ σ2, k σ2 → Ev te σ2 F A T' m') :
    Cb g tt te vs v w F A T' (bnd mb fun b => bif b then (bnd m' fun y => ret (some y)) else ret none) := fun s b s' hm F1 H c O sm ho W Qy Qn q => by
  obtain ⟨t, s1, h1, hm⟩ := bnd_some hm
  refine hg F1 H _ sm W _ fun σ2 k2 => ⟨hw σ2 k2, ?_⟩
  refine ht σ2 k2 s t s1 h1 F1 H c O sm ho W _ fun F2 H2 c2 sm2 o2 W2 => ?_
  cases t with
  | true =>
    simp only [cond_true] at hm
    obtain ⟨y, s2, h2, hm⟩ := bnd_some hm
    obtain ⟨rfl, rfl⟩ := ret_some hm
    exact iteT (B := Qn H2) (he σ2 k2 s1 y _ h2 F2 H2 c2 O (sm.trans sm2) o2 W2 _ fun u F3 H3 c3 sm3 o3 W3 r3 => q F3 H3 c3 (sm2.trans sm3) o3 W3 u r3)
  | false =>
    simp only [cond_false] at hm
    obtain ⟨rfl, rfl⟩ := ret_some hm
    exact iteF (q F2 H2 c2 sm2 o2 W2)
theorem wipe_get : ∀ (σ : L2.St) (vs : List Nat) (i : Nat), (wipe σ vs)[i]? = if i ∈ vs then (if i < σ.length then some none else none) else σ[i]?
  | σ, [], i => by simp [wipe]
  | σ, v :: vs, i => by
    rw [wipe, List.getElem?_set, wipe_get σ vs i, wipe_length]
    by_cases h : v = i
    · subst h; by_cases h2 : v < σ.length <;> simp [h2]
    · have h' : ¬ i = v := fun e => h e.symm
      simp [h, h']
theorem wipe_s (σ : L2.St) (vs : List Nat) {i : Nat} {x : Option V} {τ : L2.St} (hi : i ∈ vs) (h : wipe τ vs = wipe σ vs) : wipe (τ.set i x) vs = wipe σ vs := by
  rw [← h]
  apply List.ext_getElem?
  intro j
  rw [wipe_get, wipe_get, List.length_set, List.getElem?_set]
  by_cases hj : j ∈ vs
  · simp [hj]
  · have : i ≠ j := fun e => hj (e ▸ hi)
    simp [hj, this]
theorem wipe_w (σ : L2.St) (vs : List Nat) : wipe (wipe σ vs) vs = wipe σ vs := by
  apply List.ext_getElem?
  intro j
  rw [wipe_get, wipe_get, wipe_length]
  by_cases hj : j ∈ vs <;> simp [hj, wipe_get]
theorem ev_σ {σ' : L2.St} (e : σ = σ') (h : Ev te σ' F A R m) : Ev te σ F A R m := e ▸ h
theorem et_σ {σ' : L2.St} {mb : M S Bool} (e : σ = σ') (h : EvT tt σ' F A mb) : EvT tt σ F A mb := e ▸ h
theorem perm_front (p : Addr × HO) (c O : Ch) : (p :: (c ++ O)).Perm (c ++ (p :: O)) := List.perm_middle.symm
theorem eo_lc {wi : TI} {f : α → M S (Option β)} (hi : EvI wi σ F A R ml) (hb : ∀ v x F', Same F F' → R.r F' v x → Cb g tt te vs v (wipe σ vs) F' A T' (f x)) :
    EvO (tLc wi g tt te vs) σ F A (oLst T') (bnd ml fun xs => bnd (lft (chk xs)) fun xs => mpo f xs) := fun s ys s' hm F1 H c O sm ho W Q q => by
  obtain ⟨xs0, s1, h1, hm⟩ := bnd_some hm
  obtain ⟨xs, s1', h2, hm2⟩ := bnd_some hm
  obtain ⟨h2', rfl⟩ := lft_some h2
  obtain ⟨rfl, hlen⟩ := chk_some h2'
  refine hi s _ _ h1 F1 H c O sm ho W _ fun J F2 H2 c2 sm2 o2 W2 ⟨G, Y, wk, hG, hY⟩ D hD => ?_
  refine lc_it wk (fun i H3 => ∃ zs ws t F3 c3 us, Same F2 F3 ∧ A.o F3 t c3 ∧ Wd F3 H3 ((D, .lst us) :: (c3 ++ O)) ∧ Paired (T'.r F3) us zs ∧ mpo f (xs.drop i) t = some (ws, s') ∧ ys = zs ++ ws ∧ zs.length ≤ i) ?_ ?_ ?_ ?_
  · exact ⟨[], ys, s1', F2, c2, [], SameR _, o2, W2.newO hD, .nil, hm2, rfl, Nat.le_refl _⟩
  · rintro i H3 _ ⟨zs, ws, t, F3, c3, us, s3, o3, W3, _⟩
    exact hG F3 H3 s3 W3.sub
  · rintro i x H3 H4 hi ⟨zs, ws, t, F3, c3, us, s3, o3, W3, rp, hmp, rfl, hzl⟩ y
    obtain ⟨F4, s4, W4, a, ha, ra⟩ := hY i H3 x H4 hi y F3 _ s3 W3
    have hd : xs.drop i = a :: xs.drop (i + 1) := by
      rw [List.drop_eq_getElem_cons hi]; congr 1; exact (List.getElem?_eq_some_iff.mp ha).2
    rw [hd] at hmp
    obtain ⟨o, t1, e1, hmp⟩ := bnd_some hmp
    obtain ⟨ws', t2, e2, hmp⟩ := bnd_some hmp
    obtain ⟨rfl, rfl⟩ := ret_some hmp
    refine hb x a F4 ((sm.trans sm2).trans (s3.trans s4)) ra t o t1 e1 F4 H4 c3 ((D, .lst us) :: O) (SameR _) (A.mono s4 o3) (W4.perm (perm_front _ _ _)) _ _ fun F5 H5 c5 s5 o5 W5 => ?_
    have W6 := W5.perm (perm_front _ _ _).symm
    cases o with
    | none => exact ⟨zs, ws', t1, F5, c5, us, s3.trans (s4.trans s5), o5, W6, paired_mono (fun _ _ => T'.mono (s4.trans s5)) rp, e2, rfl, by omega⟩
    | some b =>
      refine fun u ru => ⟨us, W6.hd, ?_, zs ++ [b], ws', t1, F5, c5, us ++ [u], s3.trans (s4.trans s5), o5, W6.set, (paired_mono (fun _ _ => T'.mono (s4.trans s5)) rp).snoc ru, e2, by simp, by simp; omega⟩
      rw [paired_len rp]; exact lim_le (by omega)
  · rintro H3 ⟨zs, ws, t, F3, c3, us, s3, o3, W3, rp, hmp, rfl, hzl⟩
    rw [List.drop_of_length_le (Nat.le_refl _)] at hmp
    obtain ⟨rfl, rfl⟩ := ret_some hmp
    refine q (.ref D) F3 H3 c3 [(D, .lst us)] (sm2.trans s3) o3 ⟨D, us, rfl, rfl, ?_⟩ W3
    simpa using rp
theorem eo_lcA {wi : TI} {f : α → M S β} (hi : EvI wi σ F A R ml) (hb : ∀ v x F', Same F F' → R.r F' v x → Cb g tYes te vs v (wipe σ vs) F' A T' (bnd (f x) fun y => ret (some y))) :
    EvO (tLc wi g tYes te vs) σ F A (oLst T') (bnd ml fun xs => bnd (lft (chk xs)) fun xs => mp f xs) := by
  have h := eo_lc hi hb
  rw [show (fun xs => bnd (lft (chk xs)) fun xs => mp f xs) = (fun xs : List α => bnd (lft (S := S) (chk xs)) fun xs => mpo (fun x => bnd (f x) fun y => ret (some y)) xs) from by funext xs; congr 1; funext ys; exact mp_eq f ys]
  exact h
theorem eo_lcF {wi : TI} {p : α → M S Bool} {f : α → M S β} (hi : EvI wi σ F A R ml) (hb : ∀ v x F', Same F F' → R.r F' v x → Cb g tt te vs v (wipe σ vs) F' A T' (bnd (p x) fun b => bif b then (bnd (f x) fun y => ret (some y)) else ret none)) :
    EvO (tLc wi g tt te vs) σ F A (oLst T') (bnd ml fun xs => bnd (lft (chk xs)) fun xs => mpf p f xs) := by
  have h := eo_lc hi hb
  rw [show (fun xs => bnd (lft (chk xs)) fun xs => mpf p f xs) = (fun xs : List α => bnd (lft (S := S) (chk xs)) fun xs => mpo (fun x => bnd (p x) fun b => bif b then (bnd (f x) fun y => ret (some y)) else ret none) xs) from by funext xs; congr 1; funext ys; exact mpf_eq p f ys]
  exact h
end
end T

/-! T3: blocks. -/
namespace T
open PySem L2
/-- what a block leaves, and what is wanted then -/
structure Post (Ω : Type) where
  p : Ω → Hp → Ch → Ends → Prop
  mono : ∀ {w : Ω} {F F' : Hp} {O : Ch} {D : Ends}, Same F F' → p w F O D → p w F' O D
section
variable {S S0 S1 T α β γ δ Z Ω ρ : Type}
def pRt (X : Ow S0) (R : Rl β) : Post (β × S0) where
  p := fun w F O D => ∀ v F' H' c', Same F F' → X.o F' w.2 c' → Wd F' H' (c' ++ O) → R.r F' v w.1 → D.rt v H'
  mono := fun s h v F' H' c' s' => h v F' H' c' (s.trans s')
def pNx (X : Ow S0) (Sl : Z → Hp → L2.St → Prop) : Post (Z × S0) where
  p := fun w F O D => ∀ F' H' c' σ', Same F F' → X.o F' w.2 c' → Wd F' H' (c' ++ O) → Sl w.1 F' σ' → D.nx σ' H'
  mono := fun s h F' H' c' σ' s' => h F' H' c' σ' (s.trans s')
def pFl (X : Ow S1) (Sl : Z → Hp → L2.St → Prop) (Y : Ow S0) (R : Rl β) : Post (Fl (Z × S1) (β × S0)) where
  p := fun w F O D => match w with
    | .nx q => (pNx X Sl).p q F O D
    | .rt b => (pRt Y R).p b F O D
  mono := fun {w F F' O D} s h => by
    cases w with
    | nx q => exact (pNx X Sl).mono s h
    | rt b => exact (pRt Y R).mono s h
/-- an owned new thing is handed back -/
def pRo (X : Ow S0) (Bf : V → Ow β) : Post (β × S0) where
  p := fun w F O D => ∀ v F' H' c' cb, Same F F' → X.o F' w.2 c' → (Bf v).o F' w.1 cb → Wd F' H' (cb ++ (c' ++ O)) → D.rt v H'
  mono := fun s h v F' H' c' cb s' => h v F' H' c' cb (s.trans s')
def B (t : TS) (σ : L2.St) (F : Hp) (A : Ow S) (P : Post Ω) (m : S → Option Ω) : Prop :=
  ∀ s w, m s = some w → ∀ F1 H c O, Same F F1 → A.o F1 s c → Wd F1 H (c ++ O) → ∀ D : Ends, P.p w F1 O D → t D σ H
/-- what is left of the owned state at an end -/
structure Pr (A : Ow S) (X : Ow S0) (π : S → S0) : Prop where
  pr : ∀ {F : Hp} {s : S} {c : Ch}, A.o F s c → ∃ c1 c2, c.Perm (c1 ++ c2) ∧ X.o F (π s) c1
theorem pr_id {A : Ow S} : Pr A A (fun s => s) := ⟨fun {F s c} h => ⟨c, [], by simp, h⟩⟩
theorem pr_emp {A : Ow S} : Pr A emp (fun _ => ()) := ⟨fun {F s c} _ => ⟨[], c, by simp, rfl⟩⟩
theorem pr_l {A : Ow S} {C : Ow T} {X : Ow S0} {π : S → S0} (h : Pr A X π) : Pr (star A C) X (fun s => π s.1) := ⟨fun {F s c} ⟨ca, cb, e, ha, hb⟩ => by
  obtain ⟨c1, c2, pm, hx⟩ := h.pr ha
  exact ⟨c1, c2 ++ cb, by rw [e, ← List.append_assoc]; exact pm.append_right cb, hx⟩⟩
theorem Wd.pr {A : Ow S} {X : Ow S0} {π : S → S0} (h : Pr A X π) {F H : Hp} {s : S} {c O : Ch} (ho : A.o F s c) (W : Wd F H (c ++ O)) : ∃ c1, X.o F (π s) c1 ∧ Wd F H (c1 ++ O) := by
  obtain ⟨c1, c2, pm, hx⟩ := h.pr ho
  refine ⟨c1, hx, (W.perm (pm.append_right O)).sublist ?_⟩
  exact List.Sublist.append (List.sublist_append_left c1 c2) (List.Sublist.refl O)
variable {te ta tb : TE} {tt : TT} {ar : TA} {σ : L2.St} {F F' : Hp} {A : Ow S} {R : Rl α} {R' : Rl β} {U : Rl γ} {m : M S α} {m' : M S β} {v : V} {u t e w : TS} {P : Post Ω} {K : PySem.W.Frag}
theorem B.up {h : S → Option Ω} (b : B u σ F A P h) (s : Same F F') : B u σ F' A P h := fun s0 w e F1 H c O sm => b s0 w e F1 H c O (s.trans sm)
theorem b_σ {σ' : L2.St} {h : S → Option Ω} (e : σ = σ') (b : B u σ' F A P h) : B u σ F A P h := e ▸ b
/-! simple statements, each with what follows -/
theorem b_set {i : Nat} {f : α → S → Option Ω} (he : Ev te σ F A R m) (k : ∀ v x F', Same F F' → R.r F' v x → B u (σ.set i (some v)) F' A P (f x)) : B (tSeq (tAsg te (gName i)) u) σ F A P (bnd m f) := fun s w hm F1 H c O sm ho W D q => by
  obtain ⟨x, s1, h1, hm⟩ := bnd_some hm
  exact he s x s1 h1 F1 H c O sm ho W _ fun v F2 H2 c2 s2 o2 W2 r2 => k v x F2 (sm.trans s2) r2 s1 w hm F2 H2 c2 O (SameR _) o2 W2 D (P.mono s2 q)
theorem b_unp {g : TG} {f : α → S → Option Ω} {k : V → α → Hp → L2.St → Prop} (he : Ev te σ F A R m) (hg : ∀ v x F', Same F F' → R.r F' v x → Go g v σ F' (k v x F')) (hk : ∀ v x F' σ2, Same F F' → R.r F' v x → k v x F' σ2 → B u σ2 F' A P (f x)) :
    B (tSeq (tAsg te g) u) σ F A P (bnd m f) := fun s w hm F1 H c O sm ho W D q => by
  obtain ⟨x, s1, h1, hm⟩ := bnd_some hm
  refine he s x s1 h1 F1 H c O sm ho W _ fun v F2 H2 c2 s2 o2 W2 r2 => ?_
  exact hg v x F2 (sm.trans s2) r2 F2 H2 _ (SameR _) W2 _ fun σ2 k2 => hk v x F2 σ2 (sm.trans s2) r2 k2 s1 w hm F2 H2 c2 O (SameR _) o2 W2 D (P.mono s2 q)
/-- a new owned thing at a name -/
def nw {S T Ω : Type} (k : S × T → Option Ω) (t : T) : S → Option Ω := fun s => k (s, t)
theorem b_new {i : Nat} {Bf : V → Ow β} {f : S × β → Option Ω} (he : EvO te σ F A Bf m') (k : ∀ v F', Same F F' → B u (σ.set i (some v)) F' (star A (Bf v)) P f) : B (tSeq (tAsg te (gName i)) u) σ F A P (bnd m' (nw f)) := fun s w hm F1 H c O sm ho W D q => by
  obtain ⟨x, s1, h1, hm⟩ := bnd_some hm
  refine he s x s1 h1 F1 H c O sm ho W _ fun v F2 H2 c2 cb s2 o2 ob W2 => ?_
  refine k v F2 (sm.trans s2) (s1, x) w hm F2 H2 (c2 ++ cb) O (SameR _) ⟨c2, cb, rfl, o2, ob⟩ (W2.perm ?_) D (P.mono s2 q)
  rw [← List.append_assoc]; exact List.perm_append_comm.append_right O
/-- the last owned list is frozen -/
def fz {S T Ω : Type} (k : T → S → Option Ω) : S × T → Option Ω := fun p => k p.2 p.1
theorem b_fz {v : V} {f : List α → S → Option Ω} (k : ∀ xs F', Same F F' → (rLst R).r F' v xs → B u σ F' A P (f xs)) : B u σ F (star A (oLst R v)) P (fz f) := fun s w hm F1 H c O sm ho W D q => by
  obtain ⟨c1, c2, rfl, o1, l, vs, rfl, rfl, rp⟩ := ho
  have W2 : Wd F1 H ((l, .lst vs) :: (c1 ++ O)) := W.perm (by simpa using (List.perm_middle (l₁ := c1) (a := (l, HO.lst vs)) (l₂ := O)))
  have s2 := Wd.frzS W2
  exact k s.2 _ (sm.trans s2) ⟨l, vs, rfl, upd_same, paired_mono (fun _ _ => R.mono s2) rp⟩ s.1 w hm _ H c1 O (SameR _) (A.mono s2 o1) (Wd.frz W2) D (P.mono s2 q)
/-- the last owned thing is not wanted any more -/
def dr {S T Ω : Type} (k : S → Option Ω) : S × T → Option Ω := fun p => k p.1
theorem b_dr {C : Ow T} {f : S → Option Ω} (k : B u σ F A P f) : B u σ F (star A C) P (dr f) := fun s w hm F1 H c O sm ho W D q => by
  obtain ⟨c1, c2, rfl, o1, _⟩ := ho
  exact k s.1 w hm F1 H c1 O sm o1 (W.sublist (List.Sublist.append (List.sublist_append_left c1 c2) (List.Sublist.refl O))) D q
theorem b_expr {f : α → S → Option Ω} (he : Ev te σ F A R m) (k : ∀ x F', Same F F' → B u σ F' A P (f x)) : B (tSeq (tDrop te) u) σ F A P (bnd m f) := fun s w hm F1 H c O sm ho W D q => by
  obtain ⟨x, s1, h1, hm⟩ := bnd_some hm
  exact he s x s1 h1 F1 H c O sm ho W _ fun v F2 H2 c2 s2 o2 W2 r2 => k x F2 (sm.trans s2) s1 w hm F2 H2 c2 O (SameR _) o2 W2 D (P.mono s2 q)
theorem b_ret {X : Ow S0} {π : S → S0} (pr : Pr A X π) (he : Ev te σ F A R m) : B (tSeq (tRet te) u) σ F A (pRt X R) (bnd m fun x s => some (x, π s)) := fun s w hm F1 H c O sm ho W D q => by
  obtain ⟨x, s1, h1, hm⟩ := bnd_some hm
  cases hm
  refine he s x s1 h1 F1 H c O sm ho W _ fun v F2 H2 c2 s2 o2 W2 r2 => ?_
  obtain ⟨c3, o3, W3⟩ := Wd.pr pr o2 W2
  exact q v F2 H2 c3 s2 o3 W3 r2
theorem b_reto {X : Ow S0} {π : S → S0} {Bf : V → Ow β} (pr : Pr A X π) (he : EvO te σ F A Bf m') : B (tSeq (tRet te) u) σ F A (pRo X Bf) (bnd m' fun x s => some (x, π s)) := fun s w hm F1 H c O sm ho W D q => by
  obtain ⟨x, s1, h1, hm⟩ := bnd_some hm
  cases hm
  refine he s x s1 h1 F1 H c O sm ho W _ fun v F2 H2 c2 cb s2 o2 ob W2 => ?_
  obtain ⟨c1, c4, pm, hx⟩ := pr.pr o2
  refine q v F2 H2 c1 cb s2 hx ob ((W2.perm ((pm.append_right O).append_left cb)).sublist ?_)
  exact List.Sublist.append (List.Sublist.refl cb) (List.Sublist.append (List.sublist_append_left c1 c4) (List.Sublist.refl O))
/-- the def's end without a return -/
theorem b_end {X : Ow S0} {π : S → S0} (pr : Pr A X π) : B tNext σ F A (pNx X fun _ _ _ => True) (fun s => some ((), π s)) := fun s w hm F1 H c O sm ho W D q => by
  cases hm
  obtain ⟨c3, o3, W3⟩ := Wd.pr pr ho W
  exact q F1 H c3 σ (SameR _) o3 W3 trivial
theorem b_nx {X : Ow S0} {π : S → S0} {Sl : Z → Hp → L2.St → Prop} {z : Z} (pr : Pr A X π) (h : ∀ F', Same F F' → Sl z F' σ) : B tNext σ F A (pNx X Sl) (fun s => some (z, π s)) := fun s w hm F1 H c O sm ho W D q => by
  cases hm
  obtain ⟨c3, o3, W3⟩ := Wd.pr pr ho W
  exact q F1 H c3 σ (SameR _) o3 W3 (h F1 sm)
theorem b_nxF {X : Ow S1} {Y : Ow S0} {π : S → S1} {Sl : Z → Hp → L2.St → Prop} {z : Z} {V' : Rl β} (pr : Pr A X π) (h : ∀ F', Same F F' → Sl z F' σ) : B tNext σ F A (pFl X Sl Y V') (fun s => some (.nx (z, π s))) := fun s w hm F1 H c O sm ho W D q => by
  cases hm
  obtain ⟨c3, o3, W3⟩ := Wd.pr pr ho W
  exact q F1 H c3 σ (SameR _) o3 W3 (h F1 sm)
/-- a block that returns, where others go on -/
def rtF {S κ ρ : Type} (m : S → Option ρ) : S → Option (Fl κ ρ) := fun s => (m s).map .rt
theorem b_rtF {X : Ow S1} {Y : Ow S0} {Sl : Z → Hp → L2.St → Prop} {V' : Rl β} {f : S → Option (β × S0)} (h : B u σ F A (pRt Y V') f) : B u σ F A (pFl X Sl Y V') (rtF f) := fun s w hm F1 H c O sm ho W D q => by
  unfold rtF at hm
  cases e1 : f s with
  | none => rw [e1] at hm; cases hm
  | some r => rw [e1] at hm; cases hm; exact h s r e1 F1 H c O sm ho W D q
/-- a block that goes on, where others return -/
def nxF {S κ ρ : Type} (m : S → Option κ) : S → Option (Fl κ ρ) := fun s => (m s).map .nx
theorem b_nxF' {X : Ow S1} {Y : Ow S0} {Sl : Z → Hp → L2.St → Prop} {V' : Rl β} {f : S → Option (Z × S1)} (h : B u σ F A (pNx X Sl) f) : B u σ F A (pFl X Sl Y V') (nxF f) := fun s w hm F1 H c O sm ho W D q => by
  unfold nxF at hm
  cases e1 : f s with
  | none => rw [e1] at hm; cases hm
  | some r => rw [e1] at hm; cases hm; exact h s r e1 F1 H c O sm ho W D q
/-! ifs -/
/-- a test that may lead to a return; else on -/
theorem b_ifR {mb : M S Bool} {X : Ow S0} {f g : S → Option (β × S0)} (hc : EvT tt σ F A mb) (ht : B t σ F A (pRt X R') f) (hw : B w σ F A (pRt X R') g) : B (tSeq (tIfS tt t tNext) w) σ F A (pRt X R') (bnd mb fun b => bif b then f else g) := fun s r hm F1 H c O sm ho W D q => by
  obtain ⟨b, s1, h1, hm⟩ := bnd_some hm
  refine hc s b s1 h1 F1 H c O sm ho W _ fun F2 H2 c2 s2 o2 W2 => ?_
  cases b with
  | true => exact iteT (ht s1 r hm F2 H2 c2 O (sm.trans s2) o2 W2 _ ((pRt X R').mono s2 q))
  | false => exact iteF (hw s1 r hm F2 H2 c2 O (sm.trans s2) o2 W2 D ((pRt X R').mono s2 q))
theorem b_ifRF {mb : M S Bool} {X : Ow S1} {Y : Ow S0} {Sl : Z → Hp → L2.St → Prop} {f : S → Option (β × S0)} {g : S → Option (Fl (Z × S1) (β × S0))} (hc : EvT tt σ F A mb) (ht : B t σ F A (pRt Y R') f) (hw : B w σ F A (pFl X Sl Y R') g) :
    B (tSeq (tIfS tt t tNext) w) σ F A (pFl X Sl Y R') (bnd mb fun b => bif b then rtF f else g) := fun s r hm F1 H c O sm ho W D q => by
  obtain ⟨b, s1, h1, hm⟩ := bnd_some hm
  refine hc s b s1 h1 F1 H c O sm ho W _ fun F2 H2 c2 s2 o2 W2 => ?_
  cases b with
  | true =>
    simp only [cond_true] at hm
    unfold rtF at hm
    cases e1 : f s1 with
    | none => rw [e1] at hm; cases hm
    | some r' => rw [e1] at hm; cases hm; exact iteT (ht s1 r' e1 F2 H2 c2 O (sm.trans s2) o2 W2 _ ((pRt Y R').mono s2 q))
  | false => exact iteF (hw s1 r hm F2 H2 c2 O (sm.trans s2) o2 W2 D ((pFl X Sl Y R').mono s2 q))
/-- both ways return -/
theorem b_if2 {mb : M S Bool} {X : Ow S0} {f g : S → Option (β × S0)} (hc : EvT tt σ F A mb) (ht : B t σ F A (pRt X R') f) (he : B e σ F A (pRt X R') g) : B (tSeq (tIfS tt t e) w) σ F A (pRt X R') (bnd mb fun b => bif b then f else g) := fun s r hm F1 H c O sm ho W D q => by
  obtain ⟨b, s1, h1, hm⟩ := bnd_some hm
  refine hc s b s1 h1 F1 H c O sm ho W _ fun F2 H2 c2 s2 o2 W2 => ?_
  cases b with
  | true => exact iteT (ht s1 r hm F2 H2 c2 O (sm.trans s2) o2 W2 _ ((pRt X R').mono s2 q))
  | false => exact iteF (he s1 r hm F2 H2 c2 O (sm.trans s2) o2 W2 _ ((pRt X R').mono s2 q))
/-- both ways go on to a common place -/
theorem b_ifJ {mb : M S Bool} {Sl : Z → Hp → L2.St → Prop} {f g : M S Z} {h : Z → S → Option Ω} (hc : EvT tt σ F A mb) (ht : B t σ F A (pNx A Sl) f) (he : B e σ F A (pNx A Sl) g) (k : ∀ z F' σ', Same F F' → Sl z F' σ' → B w σ' F' A P (h z)) :
    B (Evl.tCut (tIfS tt t e) w) σ F A P (bnd (bnd mb fun b => bif b then f else g) h) := fun s r hm F1 H c O sm ho W D q => by
  obtain ⟨z, s2, h1, hm⟩ := bnd_some hm
  obtain ⟨b, s1, h1, h2⟩ := bnd_some h1
  refine ⟨fun σ' H' => ∃ F' c', Same F1 F' ∧ A.o F' s2 c' ∧ Wd F' H' (c' ++ O) ∧ Sl z F' σ', ?_, fun σ' H' ⟨F', c', s', o', W', sl⟩ => k z F' σ' (sm.trans s') sl s2 r hm F' H' c' O (SameR _) o' W' D (P.mono s' q)⟩
  refine hc s b s1 h1 F1 H c O sm ho W _ fun F2 H2 c2 sm2 o2 W2 => ?_
  cases b with
  | true => exact iteT (ht s1 (z, s2) h2 F2 H2 c2 O (sm.trans sm2) o2 W2 _ fun F3 H3 c3 σ3 s3 o3 W3 sl => ⟨F3, c3, sm2.trans s3, o3, W3, sl⟩)
  | false => exact iteF (he s1 (z, s2) h2 F2 H2 c2 O (sm.trans sm2) o2 W2 _ fun F3 H3 c3 σ3 s3 o3 W3 sl => ⟨F3, c3, sm2.trans s3, o3, W3, sl⟩)
/-- ways that return, or go on to a common place -/
theorem b_ifE {mb : M S Bool} {Sl : Z → Hp → L2.St → Prop} {X : Ow S0} {f g : S → Option (Fl (Z × S) (β × S0))} {h : Z → S → Option (β × S0)} (hc : EvT tt σ F A mb) (ht : B t σ F A (pFl A Sl X R') f) (he : B e σ F A (pFl A Sl X R') g)
    (k : ∀ z F' σ', Same F F' → Sl z F' σ' → B w σ' F' A (pRt X R') (h z)) : B (Evl.tCut (tIfS tt t e) w) σ F A (pRt X R') (fthn (bnd mb fun b => bif b then f else g) h) := fun s r hm F1 H c O sm ho W D q => by
  unfold fthn at hm
  cases e0 : bnd mb (fun b => bif b then f else g) s with
  | none => rw [e0] at hm; cases hm
  | some fl =>
    rw [e0] at hm
    obtain ⟨b, s1, h1, h2⟩ := bnd_some e0
    cases fl with
    | nx z =>
      refine ⟨fun σ' H' => ∃ F' c', Same F1 F' ∧ A.o F' z.2 c' ∧ Wd F' H' (c' ++ O) ∧ Sl z.1 F' σ', ?_, fun σ' H' ⟨F', c', s', o', W', sl⟩ => k z.1 F' σ' (sm.trans s') sl z.2 r hm F' H' c' O (SameR _) o' W' D ((pRt X R').mono s' q)⟩
      refine hc s b s1 h1 F1 H c O sm ho W _ fun F2 H2 c2 sm2 o2 W2 => ?_
      cases b with
      | true => exact iteT (ht s1 _ h2 F2 H2 c2 O (sm.trans sm2) o2 W2 _ fun F3 H3 c3 σ3 s3 o3 W3 sl => ⟨F3, c3, sm2.trans s3, o3, W3, sl⟩)
      | false => exact iteF (he s1 _ h2 F2 H2 c2 O (sm.trans sm2) o2 W2 _ fun F3 H3 c3 σ3 s3 o3 W3 sl => ⟨F3, c3, sm2.trans s3, o3, W3, sl⟩)
    | rt b' =>
      obtain rfl : b' = r := Option.some.inj hm
      refine ⟨fun σ' H' => False, ?_, fun σ' H' f => f.elim⟩
      refine hc s b s1 h1 F1 H c O sm ho W _ fun F2 H2 c2 sm2 o2 W2 => ?_
      cases b with
      | true => exact iteT (ht s1 _ h2 F2 H2 c2 O (sm.trans sm2) o2 W2 _ ((pRt X R').mono sm2 q))
      | false => exact iteF (he s1 _ h2 F2 H2 c2 O (sm.trans sm2) o2 W2 _ ((pRt X R').mono sm2 q))
theorem b_ifEF {mb : M S Bool} {Z' : Type} {Sl : Z → Hp → L2.St → Prop} {Sl' : Z' → Hp → L2.St → Prop} {X : Ow S0} {Y : Ow S1} {f g : S → Option (Fl (Z × S) (β × S0))} {h : Z → S → Option (Fl (Z' × S1) (β × S0))} (hc : EvT tt σ F A mb) (ht : B t σ F A (pFl A Sl X R') f) (he : B e σ F A (pFl A Sl X R') g)
    (k : ∀ z F' σ', Same F F' → Sl z F' σ' → B w σ' F' A (pFl Y Sl' X R') (h z)) : B (Evl.tCut (tIfS tt t e) w) σ F A (pFl Y Sl' X R') (fthnF (bnd mb fun b => bif b then f else g) h) := fun s r hm F1 H c O sm ho W D q => by
  unfold fthnF at hm
  cases e0 : bnd mb (fun b => bif b then f else g) s with
  | none => rw [e0] at hm; cases hm
  | some fl =>
    rw [e0] at hm
    obtain ⟨b, s1, h1, h2⟩ := bnd_some e0
    cases fl with
    | nx z =>
      refine ⟨fun σ' H' => ∃ F' c', Same F1 F' ∧ A.o F' z.2 c' ∧ Wd F' H' (c' ++ O) ∧ Sl z.1 F' σ', ?_, fun σ' H' ⟨F', c', s', o', W', sl⟩ => k z.1 F' σ' (sm.trans s') sl z.2 r hm F' H' c' O (SameR _) o' W' D ((pFl Y Sl' X R').mono s' q)⟩
      refine hc s b s1 h1 F1 H c O sm ho W _ fun F2 H2 c2 sm2 o2 W2 => ?_
      cases b with
      | true => exact iteT (ht s1 _ h2 F2 H2 c2 O (sm.trans sm2) o2 W2 _ fun F3 H3 c3 σ3 s3 o3 W3 sl => ⟨F3, c3, sm2.trans s3, o3, W3, sl⟩)
      | false => exact iteF (he s1 _ h2 F2 H2 c2 O (sm.trans sm2) o2 W2 _ fun F3 H3 c3 σ3 s3 o3 W3 sl => ⟨F3, c3, sm2.trans s3, o3, W3, sl⟩)
    | rt b' =>
      obtain rfl : Fl.rt b' = r := Option.some.inj hm
      refine ⟨fun σ' H' => False, ?_, fun σ' H' f => f.elim⟩
      refine hc s b s1 h1 F1 H c O sm ho W _ fun F2 H2 c2 sm2 o2 W2 => ?_
      cases b with
      | true => exact iteT (ht s1 _ h2 F2 H2 c2 O (sm.trans sm2) o2 W2 _ ((pRt X R').mono sm2 q))
      | false => exact iteF (he s1 _ h2 F2 H2 c2 O (sm.trans sm2) o2 W2 _ ((pRt X R').mono sm2 q))
/-! for -/
def tGo (g : TG) (v : V) (t : TS) : TS := fun D σ H => g v σ H fun σ2 H2 => t D σ2 H2
theorem b_go {g : TG} {k : L2.St → Prop} {f : S → Option Ω} (hg : Go g v σ F k) (h : ∀ σ2, k σ2 → B u σ2 F A P f) : B (tGo g v u) σ F A P f := fun s r hm F1 H c O sm ho W D q =>
  hg F1 H _ sm W _ fun σ2 k2 => h σ2 k2 s r hm F1 H c O sm ho W D q
theorem fd_cons {f : Z → α → M S Z} {xs : List α} {x : α} {i : Nat} {z : Z} {s : S} {r : Z × S} (hx : xs[i]? = some x) (h : fd f z (xs.drop i) s = some r) : ∃ z' s', f z x s = some (z', s') ∧ fd f z' (xs.drop (i + 1)) s' = some r := by
  have hi := (List.getElem?_eq_some_iff.mp hx).1
  have hd : xs.drop i = x :: xs.drop (i + 1) := by
    rw [List.drop_eq_getElem_cons hi]; congr 1; exact (List.getElem?_eq_some_iff.mp hx).2
  rw [hd] at h
  exact bnd_some h
theorem b_for {wi : TI} {g : TG} {f : Z → α → M S Z} {z0 : Z} {Sl : Z → Hp → L2.St → Prop} {h : Z → S → Option Ω} {ml : M S (List α)} (hi : EvI wi σ F A R ml) (h0 : ∀ F', Same F F' → Sl z0 F' σ)
    (hb : ∀ z x v F' σ', Same F F' → Sl z F' σ' → R.r F' v x → B (tGo g v t) σ' F' A (pNx A Sl) (f z x)) (k : ∀ z F' σ', Same F F' → Sl z F' σ' → B w σ' F' A P (h z))
    (hS : ∀ z F F' σ', Same F F' → Sl z F σ' → Sl z F' σ') : B (tSeq (tFor wi g t) w) σ F A P (bnd ml fun xs => bnd (fd f z0 xs) h) := fun s r hm F1 H c O sm ho W D q => by
  obtain ⟨xs, s1, h1, hm⟩ := bnd_some hm
  obtain ⟨zf, sf, h2, hm⟩ := bnd_some hm
  refine hi s xs s1 h1 F1 H c O sm ho W _ fun J F2 H2 c2 sm2 o2 W2 ⟨G, Y, wk, hG, hY⟩ => ?_
  refine for_it wk (fun i σ3 H3 => ∃ z s3 F3 c3, Same F2 F3 ∧ A.o F3 s3 c3 ∧ Wd F3 H3 (c3 ++ O) ∧ Sl z F3 σ3 ∧ fd f z (xs.drop i) s3 = some (zf, sf)) ?_ ?_ ?_ ?_
  · exact ⟨z0, s1, F2, c2, SameR _, o2, W2, h0 F2 (sm.trans sm2), h2⟩
  · rintro i σ3 H3 _ ⟨z, s3, F3, c3, sm3, o3, W3, _⟩
    exact hG F3 H3 sm3 W3.sub
  · rintro i x σ3 H3 H4 hlt ⟨z, s3, F3, c3, sm3, o3, W3, sl, hfd⟩ y
    obtain ⟨F4, sm4, W4, a, ha, ra⟩ := hY i H3 x H4 hlt y F3 _ sm3 W3
    obtain ⟨z', s4, e1, e2⟩ := fd_cons ha hfd
    exact hb z a x F4 σ3 ((sm.trans sm2).trans (sm3.trans sm4)) (hS _ _ _ _ sm4 sl) ra s3 (z', s4) e1 F4 H4 c3 O (SameR _) (A.mono sm4 o3) W4 _ fun F5 H5 c5 σ5 s5 o5 W5 sl5 => ⟨z', s4, F5, c5, sm3.trans (sm4.trans s5), o5, W5, sl5, e2⟩
  · rintro σ3 H3 ⟨z, s3, F3, c3, sm3, o3, W3, sl, hfd⟩
    rw [List.drop_of_length_le (Nat.le_refl _)] at hfd
    cases hfd
    exact k _ F3 σ3 ((sm.trans sm2).trans sm3) sl _ r hm F3 H3 c3 O (SameR _) o3 W3 D (P.mono (sm2.trans sm3) q)
theorem fdE_cons {f : Z → α → S → Option (Fl (Z × S) ρ)} {xs : List α} {x : α} {i : Nat} {z : Z} {s : S} {r : Fl (Z × S) ρ} (hx : xs[i]? = some x) (h : fdE f z (xs.drop i) s = some r) :
    (∃ q, f z x s = some (.nx q) ∧ fdE f q.1 (xs.drop (i + 1)) q.2 = some r) ∨ ∃ b, f z x s = some (.rt b) ∧ r = .rt b := by
  have hi := (List.getElem?_eq_some_iff.mp hx).1
  have hd : xs.drop i = x :: xs.drop (i + 1) := by
    rw [List.drop_eq_getElem_cons hi]; congr 1; exact (List.getElem?_eq_some_iff.mp hx).2
  rw [hd] at h
  rw [fdE] at h
  cases e : f z x s with
  | none => rw [e] at h; cases h
  | some fl =>
    rw [e] at h
    cases fl with
    | nx q => exact .inl ⟨q, rfl, h⟩
    | rt b => exact .inr ⟨b, rfl, (Option.some.inj h).symm⟩
/-- a loop whose turns may return: what is wanted of an end is told by Pe -/
theorem for_E {wi : TI} {g : TG} {f : Z → α → S → Option (Fl (Z × S) (β × S0))} {z0 : Z} {Sl : Z → Hp → L2.St → Prop} {X : Ow S0} {ml : M S (List α)} (hi : EvI wi σ F A R ml) (h0 : ∀ F', Same F F' → Sl z0 F' σ)
    (hb : ∀ z x v F' σ', Same F F' → Sl z F' σ' → R.r F' v x → B (tGo g v t) σ' F' A (pFl A Sl X R') (f z x)) (hS : ∀ z F F' σ', Same F F' → Sl z F σ' → Sl z F' σ')
    {s s1 : S} {xs : List α} {fl : Fl (Z × S) (β × S0)} (h1 : ml s = some (xs, s1)) (h2 : fdE f z0 xs s1 = some fl) {F1 H : Hp} {c O : Ch} (sm : Same F F1) (ho : A.o F1 s c) (W : Wd F1 H (c ++ O)) (D : Ends)
    (q : match fl with
      | .nx z => ∀ F' H' c' σ', Same F1 F' → A.o F' z.2 c' → Wd F' H' (c' ++ O) → Sl z.1 F' σ' → D.nx σ' H'
      | .rt b => (pRt X R').p b F1 O D) : tFor wi g t D σ H := by
  refine hi s xs s1 h1 F1 H c O sm ho W _ fun J F2 H2 c2 sm2 o2 W2 ⟨G, Y, wk, hG, hY⟩ => ?_
  refine for_it wk (fun i σ3 H3 => ∃ z s3 F3 c3, Same F2 F3 ∧ A.o F3 s3 c3 ∧ Wd F3 H3 (c3 ++ O) ∧ Sl z F3 σ3 ∧ fdE f z (xs.drop i) s3 = some fl) ?_ ?_ ?_ ?_
  · exact ⟨z0, s1, F2, c2, SameR _, o2, W2, h0 F2 (sm.trans sm2), h2⟩
  · rintro i σ3 H3 _ ⟨z, s3, F3, c3, sm3, o3, W3, _⟩
    exact hG F3 H3 sm3 W3.sub
  · rintro i x σ3 H3 H4 hlt ⟨z, s3, F3, c3, sm3, o3, W3, sl, hfd⟩ y
    obtain ⟨F4, sm4, W4, a, ha, ra⟩ := hY i H3 x H4 hlt y F3 _ sm3 W3
    rcases fdE_cons ha hfd with ⟨q', e1, e2⟩ | ⟨b, e1, e2⟩
    · exact hb z a x F4 σ3 ((sm.trans sm2).trans (sm3.trans sm4)) (hS _ _ _ _ sm4 sl) ra s3 _ e1 F4 H4 c3 O (SameR _) (A.mono sm4 o3) W4 _ fun F5 H5 c5 σ5 s5 o5 W5 sl5 => ⟨q'.1, q'.2, F5, c5, sm3.trans (sm4.trans s5), o5, W5, sl5, e2⟩
    · subst e2
      exact hb z a x F4 σ3 ((sm.trans sm2).trans (sm3.trans sm4)) (hS _ _ _ _ sm4 sl) ra s3 _ e1 F4 H4 c3 O (SameR _) (A.mono sm4 o3) W4 _ ((pRt X R').mono (sm2.trans (sm3.trans sm4)) q)
  · rintro σ3 H3 ⟨z, s3, F3, c3, sm3, o3, W3, sl, hfd⟩
    rw [List.drop_of_length_le (Nat.le_refl _)] at hfd
    obtain rfl : Fl.nx (z, s3) = fl := by rw [fdE] at hfd; exact Option.some.inj hfd
    exact q F3 H3 c3 σ3 (sm2.trans sm3) o3 W3 sl
theorem b_forE {wi : TI} {g : TG} {f : Z → α → S → Option (Fl (Z × S) (β × S0))} {z0 : Z} {Sl : Z → Hp → L2.St → Prop} {X : Ow S0} {h : Z → S → Option (β × S0)} {ml : M S (List α)} (hi : EvI wi σ F A R ml) (h0 : ∀ F', Same F F' → Sl z0 F' σ)
    (hb : ∀ z x v F' σ', Same F F' → Sl z F' σ' → R.r F' v x → B (tGo g v t) σ' F' A (pFl A Sl X R') (f z x)) (k : ∀ z F' σ', Same F F' → Sl z F' σ' → B w σ' F' A (pRt X R') (h z))
    (hS : ∀ z F F' σ', Same F F' → Sl z F σ' → Sl z F' σ') : B (tSeq (tFor wi g t) w) σ F A (pRt X R') (bnd ml fun xs => fthn (fdE f z0 xs) h) := fun s r hm F1 H c O sm ho W D q => by
  obtain ⟨xs, s1, h1, hm⟩ := bnd_some hm
  unfold fthn at hm
  cases e0 : fdE f z0 xs s1 with
  | none => rw [e0] at hm; cases hm
  | some fl =>
    rw [e0] at hm
    refine for_E hi h0 hb hS h1 e0 sm ho W _ ?_
    cases fl with
    | nx z => exact fun F' H' c' σ' s' o' W' sl => k z.1 F' σ' (sm.trans s') sl z.2 r hm F' H' c' O (SameR _) o' W' D ((pRt X R').mono s' q)
    | rt b =>
      obtain rfl : b = r := Option.some.inj hm
      exact q
theorem b_forEF {Z' : Type} {wi : TI} {g : TG} {f : Z → α → S → Option (Fl (Z × S) (β × S0))} {z0 : Z} {Sl : Z → Hp → L2.St → Prop} {Sl' : Z' → Hp → L2.St → Prop} {X : Ow S0} {Y : Ow S1} {h : Z → S → Option (Fl (Z' × S1) (β × S0))} {ml : M S (List α)} (hi : EvI wi σ F A R ml) (h0 : ∀ F', Same F F' → Sl z0 F' σ)
    (hb : ∀ z x v F' σ', Same F F' → Sl z F' σ' → R.r F' v x → B (tGo g v t) σ' F' A (pFl A Sl X R') (f z x)) (k : ∀ z F' σ', Same F F' → Sl z F' σ' → B w σ' F' A (pFl Y Sl' X R') (h z))
    (hS : ∀ z F F' σ', Same F F' → Sl z F σ' → Sl z F' σ') : B (tSeq (tFor wi g t) w) σ F A (pFl Y Sl' X R') (bnd ml fun xs => fthnF (fdE f z0 xs) h) := fun s r hm F1 H c O sm ho W D q => by
  obtain ⟨xs, s1, h1, hm⟩ := bnd_some hm
  unfold fthnF at hm
  cases e0 : fdE f z0 xs s1 with
  | none => rw [e0] at hm; cases hm
  | some fl =>
    rw [e0] at hm
    refine for_E hi h0 hb hS h1 e0 sm ho W _ ?_
    cases fl with
    | nx z => exact fun F' H' c' σ' s' o' W' sl => k z.1 F' σ' (sm.trans s') sl z.2 r hm F' H' c' O (SameR _) o' W' D ((pFl Y Sl' X R').mono s' q)
    | rt b =>
      obtain rfl : Fl.rt b = r := Option.some.inj hm
      exact q
/-! while -/
theorem b_while {n : Nat} {z0 : Z} {cnd : Z → M S Bool} {f : Z → M S Z} {Sl : Z → Hp → L2.St → Prop} {h : Z → S → Option Ω} (h0 : ∀ F', Same F F' → Sl z0 F' σ) (hc : ∀ z F' σ', Same F F' → Sl z F' σ' → EvT tt σ' F' A (cnd z))
    (hb : ∀ z F' σ', Same F F' → Sl z F' σ' → B t σ' F' A (pNx A Sl) (f z)) (k : ∀ z F' σ', Same F F' → Sl z F' σ' → B w σ' F' A P (h z)) (hS : ∀ z F F' σ', Same F F' → Sl z F σ' → Sl z F' σ') :
    B (tSeq (tWhile tt t) w) σ F A P (bnd (whl cnd f n z0) h) := fun s r hm F1 H c O sm ho W D q => by
  obtain ⟨zf, sf, h1, hm⟩ := bnd_some hm
  refine ⟨fun j σ3 H3 => ∃ z s3 F3 c3, Same F1 F3 ∧ A.o F3 s3 c3 ∧ Wd F3 H3 (c3 ++ O) ∧ Sl z F3 σ3 ∧ whl cnd f j z s3 = some (zf, sf), ⟨n, z0, s, F1, c, SameR _, ho, W, h0 F1 sm, h1⟩, ?_⟩
  rintro j σ3 H3 ⟨z, s3, F3, c3, sm3, o3, W3, sl, hw⟩
  cases j with
  | zero => cases hw
  | succ j =>
    obtain ⟨b, s4, e1, hw⟩ := bnd_some hw
    refine hc z F3 σ3 (sm.trans sm3) sl s3 b s4 e1 F3 H3 c3 O (SameR _) o3 W3 _ fun F4 H4 c4 sm4 o4 W4 => ?_
    cases b with
    | true =>
      simp only [cond_true] at hw
      obtain ⟨z5, s5, e2, hw⟩ := bnd_some hw
      refine iteT ⟨fun σ5 H5 => ∃ F5 c5, Same F1 F5 ∧ A.o F5 s5 c5 ∧ Wd F5 H5 (c5 ++ O) ∧ Sl z5 F5 σ5, fun σ5 H5 ⟨F5, c5, sm5, o5, W5, sl5⟩ => ⟨j, Nat.lt_succ_self j, z5, s5, F5, c5, sm5, o5, W5, sl5, hw⟩, ?_⟩
      exact hb z F4 σ3 ((sm.trans sm3).trans sm4) (hS _ _ _ _ sm4 sl) s4 (z5, s5) e2 F4 H4 c4 O (SameR _) o4 W4 _ fun F5 H5 c5 σ5 s5 o5 W5 sl5 => ⟨F5, c5, (sm3.trans sm4).trans s5, o5, W5, sl5⟩
    | false =>
      obtain ⟨rfl, rfl⟩ := ret_some hw
      exact iteF (k _ F4 σ3 ((sm.trans sm3).trans sm4) (hS _ _ _ _ sm4 sl) _ r hm F4 H4 c4 O (SameR _) o4 W4 D (P.mono (sm3.trans sm4) q))
theorem b_whileE {n : Nat} {z0 : Z} {cnd : Z → M S Bool} {X : Ow S0} {f : Z → S → Option (Fl (Z × S) (β × S0))} {Sl : Z → Hp → L2.St → Prop} {h : Z → S → Option (β × S0)} (h0 : ∀ F', Same F F' → Sl z0 F' σ) (hc : ∀ z F' σ', Same F F' → Sl z F' σ' → EvT tt σ' F' A (cnd z))
    (hb : ∀ z F' σ', Same F F' → Sl z F' σ' → B t σ' F' A (pFl A Sl X R') (f z)) (k : ∀ z F' σ', Same F F' → Sl z F' σ' → B w σ' F' A (pRt X R') (h z)) (hS : ∀ z F F' σ', Same F F' → Sl z F σ' → Sl z F' σ') :
    B (tSeq (tWhile tt t) w) σ F A (pRt X R') (fthn (whlE cnd f n z0) h) := fun s r hm F1 H c O sm ho W D q => by
  unfold fthn at hm
  cases e0 : whlE cnd f n z0 s with
  | none => rw [e0] at hm; cases hm
  | some fl =>
    rw [e0] at hm
    refine ⟨fun j σ3 H3 => ∃ z s3 F3 c3, Same F1 F3 ∧ A.o F3 s3 c3 ∧ Wd F3 H3 (c3 ++ O) ∧ Sl z F3 σ3 ∧ whlE cnd f j z s3 = some fl, ⟨n, z0, s, F1, c, SameR _, ho, W, h0 F1 sm, e0⟩, ?_⟩
    rintro j σ3 H3 ⟨z, s3, F3, c3, sm3, o3, W3, sl, hw⟩
    cases j with
    | zero => cases hw
    | succ j =>
      obtain ⟨b, s4, e1, hw⟩ := bnd_some hw
      refine hc z F3 σ3 (sm.trans sm3) sl s3 b s4 e1 F3 H3 c3 O (SameR _) o3 W3 _ fun F4 H4 c4 sm4 o4 W4 => ?_
      cases b with
      | true =>
        simp only [cond_true] at hw
        cases e2 : f z s4 with
        | none => rw [e2] at hw; cases hw
        | some fl' =>
          rw [e2] at hw
          cases fl' with
          | nx z5 =>
            refine iteT ⟨fun σ5 H5 => ∃ F5 c5, Same F1 F5 ∧ A.o F5 z5.2 c5 ∧ Wd F5 H5 (c5 ++ O) ∧ Sl z5.1 F5 σ5, fun σ5 H5 ⟨F5, c5, sm5, o5, W5, sl5⟩ => ⟨j, Nat.lt_succ_self j, z5.1, z5.2, F5, c5, sm5, o5, W5, sl5, hw⟩, ?_⟩
            exact hb z F4 σ3 ((sm.trans sm3).trans sm4) (hS _ _ _ _ sm4 sl) s4 _ e2 F4 H4 c4 O (SameR _) o4 W4 _ fun F5 H5 c5 σ5 s5 o5 W5 sl5 => ⟨F5, c5, (sm3.trans sm4).trans s5, o5, W5, sl5⟩
          | rt b' =>
            obtain rfl : Fl.rt b' = fl := Option.some.inj hw
            obtain rfl : b' = r := Option.some.inj hm
            exact iteT ⟨fun _ _ => False, fun _ _ f => f.elim, hb z F4 σ3 ((sm.trans sm3).trans sm4) (hS _ _ _ _ sm4 sl) s4 _ e2 F4 H4 c4 O (SameR _) o4 W4 _ ((pRt X R').mono (sm3.trans sm4) q)⟩
      | false =>
        obtain rfl : Fl.nx (z, s4) = fl := Option.some.inj hw
        exact iteF (k _ F4 σ3 ((sm.trans sm3).trans sm4) (hS _ _ _ _ sm4 sl) _ r hm F4 H4 c4 O (SameR _) o4 W4 D ((pRt X R').mono (sm3.trans sm4) q))
end
end T

/-! T4: operations by values. -/
namespace T
open PySem L2
section
variable {S S1 T' α β γ Ω ρ : Type} {R : Rl α} {R' : Rl β} {U : Rl γ} {K : PySem.W.Frag} {σ : L2.St} {F : Hp} {A : Ow S} {te ta tb ti to : TE} {u : TS} {P : Post Ω}
/-! numbers -/
theorem vl_I0 {g : Int → Int → Int} : VL2 (rI0 fun i j => .int (g i j)) rInt rInt rInt (fun i j => some (g i j)) := fun F H O x y a b c W hx hy hf Q q => ⟨a, b, hx, hy, by cases hf; exact q _ F H (SameR _) W rfl⟩
theorem vl_add : VL2 (rI0 fun i j => .int (i + j)) rInt rInt rInt (fun i j => some (i + j)) := vl_I0 (g := fun i j => i + j)
theorem vl_sub : VL2 (rI0 fun i j => .int (i - j)) rInt rInt rInt (fun i j => some (i - j)) := vl_I0 (g := fun i j => i - j)
theorem vl_B0 {g : Int → Int → Bool} : VL2 (rI0 fun i j => .bl (g i j)) rInt rInt rBool (fun i j => some (g i j)) := fun F H O x y a b c W hx hy hf Q q => ⟨a, b, hx, hy, by cases hf; exact q _ F H (SameR _) W rfl⟩
theorem vl_lt : VL2 (rI0 fun i j => .bl (decide (i < j))) rInt rInt rBool (fun i j => some (decide (i < j))) := vl_B0 (g := fun i j => decide (i < j))
theorem vl_le : VL2 (rI0 fun i j => .bl (decide (i ≤ j))) rInt rInt rBool (fun i j => some (decide (i ≤ j))) := vl_B0 (g := fun i j => decide (i ≤ j))
theorem vl_gt : VL2 (rI0 fun i j => .bl (decide (j < i))) rInt rInt rBool (fun i j => some (decide (j < i))) := vl_B0 (g := fun i j => decide (j < i))
theorem vl_ge : VL2 (rI0 fun i j => .bl (decide (j ≤ i))) rInt rInt rBool (fun i j => some (decide (j ≤ i))) := vl_B0 (g := fun i j => decide (j ≤ i))
def mulI (i j : Int) : Option Int := if (-(2 ^ 64) < i ∧ i < 2 ^ 64) ∨ (-(2 ^ 64) < j ∧ j < 2 ^ 64) then some (i * j) else none
def divI (i j : Int) : Option Int := if 0 < j ∧ j.natAbs.log2 < 9000 then some (i / j) else none
def modI (i j : Int) : Option Int := if 0 < j then some (i % j) else none
def powI (i j : Int) : Option Int := if 0 ≤ j ∧ j ≤ 1000000 ∧ i.natAbs < 2 ^ 64 then some (i ^ j.toNat) else none
theorem vl_mul : VL2 (rI CMul fun i j => .int (i * j)) rInt rInt rInt mulI := fun F H O x y a b c W hx hy hf Q q => by
  unfold mulI at hf; split at hf
  · cases hf; exact ⟨a, b, hx, hy, by assumption, q _ F H (SameR _) W rfl⟩
  · cases hf
theorem vl_div : VL2 (rI CDivW fun i j => .int (i / j)) rInt rInt rInt divI := fun F H O x y a b c W hx hy hf Q q => by
  unfold divI at hf; split at hf
  · cases hf; exact ⟨a, b, hx, hy, by assumption, q _ F H (SameR _) W rfl⟩
  · cases hf
theorem vl_mod : VL2 (rI (fun _ j => 0 < j) fun i j => .int (i % j)) rInt rInt rInt modI := fun F H O x y a b c W hx hy hf Q q => by
  unfold modI at hf; split at hf
  · cases hf; exact ⟨a, b, hx, hy, by assumption, q _ F H (SameR _) W rfl⟩
  · cases hf
theorem vl_pow : VL2 (rI CPow fun i j => .int (i ^ j.toNat)) rInt rInt rInt powI := fun F H O x y a b c W hx hy hf Q q => by
  unfold powI at hf; split at hf
  · cases hf; exact ⟨a, b, hx, hy, by assumption, q _ F H (SameR _) W rfl⟩
  · cases hf
/-! == of scalars -/
theorem vl_eqV {f : α → V} {g : β → V} (hR : ∀ F v x, R.r F v x → v = f x) (hS : ∀ F v x, R'.r F v x → v = g x) (hs : ∀ a b, scal (f a) (g b) = true) : VL2 rEq R R' rBool (fun a b => some (decide (f a = g b))) := fun F H O x y a b c W hx hy hf Q q => by
  cases hf; rw [hR _ _ _ hx, hS _ _ _ hy]; exact ⟨hs a b, q _ F H (SameR _) W rfl⟩
theorem vl_neV {f : α → V} {g : β → V} (hR : ∀ F v x, R.r F v x → v = f x) (hS : ∀ F v x, R'.r F v x → v = g x) (hs : ∀ a b, scal (f a) (g b) = true) : VL2 rNe R R' rBool (fun a b => some (!decide (f a = g b))) := fun F H O x y a b c W hx hy hf Q q => by
  cases hf; rw [hR _ _ _ hx, hS _ _ _ hy]; exact ⟨hs a b, q _ F H (SameR _) W rfl⟩
theorem VL2.eq {r : R2} {f g : α → β → Option γ} (h : VL2 r R R' U f) (e : ∀ a b, f a b = g a b) : VL2 r R R' U g := by rw [show g = f from funext fun a => funext fun b => (e a b).symm]; exact h
theorem vl_eqI : VL2 rEq rInt rInt rBool (fun a b => some (decide (a = b))) := (vl_eqV (f := V.int) (g := V.int) (fun _ _ _ h => h) (fun _ _ _ h => h) (fun _ _ => rfl)).eq fun a b => by simp
theorem vl_neI : VL2 rNe rInt rInt rBool (fun a b => some (!decide (a = b))) := (vl_neV (f := V.int) (g := V.int) (fun _ _ _ h => h) (fun _ _ _ h => h) (fun _ _ => rfl)).eq fun a b => by simp
theorem vl_eqS : VL2 rEq rStr rStr rBool (fun a b => some (decide (a = b))) := (vl_eqV (f := V.str) (g := V.str) (fun _ _ _ h => h) (fun _ _ _ h => h) (fun _ _ => rfl)).eq fun a b => by simp
theorem vl_neS : VL2 rNe rStr rStr rBool (fun a b => some (!decide (a = b))) := (vl_neV (f := V.str) (g := V.str) (fun _ _ _ h => h) (fun _ _ _ h => h) (fun _ _ => rfl)).eq fun a b => by simp
theorem vl_eqB : VL2 rEq rBool rBool rBool (fun a b => some (decide (a = b))) := (vl_eqV (f := V.bl) (g := V.bl) (fun _ _ _ h => h) (fun _ _ _ h => h) (fun _ _ => rfl)).eq fun a b => by simp
theorem vl_neB : VL2 rNe rBool rBool rBool (fun a b => some (!decide (a = b))) := (vl_neV (f := V.bl) (g := V.bl) (fun _ _ _ h => h) (fun _ _ _ h => h) (fun _ _ => rfl)).eq fun a b => by simp
def vOI : Option Int → V
  | none => .non
  | some i => .int i
theorem vOI_of {F : Hp} {v : V} {x : Option Int} (h : (rOpt rInt).r F v x) : v = vOI x := by cases x <;> exact h
theorem vl_eqIO : VL2 rEq rInt (rOpt rInt) rBool (fun a b => some (decide (some a = b))) := (vl_eqV (f := V.int) (g := vOI) (fun _ _ _ h => h) (fun _ _ _ h => vOI_of h) (fun _ b => by cases b <;> rfl)).eq fun a b => by cases b <;> simp [vOI]
theorem vl_neIO : VL2 rNe rInt (rOpt rInt) rBool (fun a b => some (!decide (some a = b))) := (vl_neV (f := V.int) (g := vOI) (fun _ _ _ h => h) (fun _ _ _ h => vOI_of h) (fun _ b => by cases b <;> rfl)).eq fun a b => by cases b <;> simp [vOI]
theorem vl_eqOI : VL2 rEq (rOpt rInt) rInt rBool (fun a b => some (decide (a = some b))) := (vl_eqV (f := vOI) (g := V.int) (fun _ _ _ h => vOI_of h) (fun _ _ _ h => h) (fun a b => by cases a <;> rfl)).eq fun a b => by cases a <;> simp [vOI]
theorem vl_neOI : VL2 rNe (rOpt rInt) rInt rBool (fun a b => some (!decide (a = some b))) := (vl_neV (f := vOI) (g := V.int) (fun _ _ _ h => vOI_of h) (fun _ _ _ h => h) (fun a b => by cases a <;> rfl)).eq fun a b => by cases a <;> simp [vOI]
/-! is None -/
theorem vl_isN {r0 : Rl β} : VL2 (fun x y H Q => y = .non ∧ Q (.bl (decide (x = .non))) H) (rOpt R) rNone rBool (fun a _ => match a with | none => some true | some y => none) := fun F H O x y a b c W hx hy hf Q q => by
  cases a with
  | none => cases hf; exact ⟨hy, q _ F H (SameR _) W (by rw [show x = .non from hx]; rfl)⟩
  | some y => cases hf
/-- a thing that is not None -/
class NotNon (R : Rl α) : Prop where
  nn : ∀ F v x, R.r F v x → v ≠ .non
instance : NotNon rInt := ⟨fun _ _ _ h => by cases h; simp⟩
instance : NotNon rStr := ⟨fun _ _ _ h => by cases h; simp⟩
instance : NotNon rBool := ⟨fun _ _ _ h => by cases h; simp⟩
instance : NotNon (rTup R) := ⟨fun _ _ _ ⟨_, _, e, _⟩ => by subst e; simp⟩
instance : NotNon (rLst R) := ⟨fun _ _ _ ⟨_, _, e, _⟩ => by subst e; simp⟩
instance {T : Ar α} : NotNon (rTh T) := ⟨fun _ _ _ ⟨_, _, e, _⟩ => by subst e; simp⟩
instance {T : Ar α} : NotNon (rLh T) := ⟨fun _ _ _ ⟨_, _, e, _⟩ => by subst e; simp⟩
theorem vl_isNone [hn : NotNon R] : VL2 (fun x y H Q => y = .non ∧ Q (.bl (decide (x = .non))) H) (rOpt R) rNone rBool (fun a _ => some a.isNone) := fun F H O x y a b c W hx hy hf Q q => by
  cases hf
  refine ⟨hy, q _ F H (SameR _) W ?_⟩
  cases a with
  | none => rw [show x = .non from hx]; rfl
  | some z => show V.bl _ = V.bl _; rw [decide_eq_false (hn.nn F x z hx)]; rfl
theorem vl_notNone [hn : NotNon R] : VL2 (fun x y H Q => y = .non ∧ Q (.bl (!decide (x = .non))) H) (rOpt R) rNone rBool (fun a _ => some (!a.isNone)) := fun F H O x y a b c W hx hy hf Q q => by
  cases hf
  refine ⟨hy, q _ F H (SameR _) W ?_⟩
  cases a with
  | none => rw [show x = .non from hx]; rfl
  | some z => show V.bl _ = V.bl _; rw [decide_eq_false (hn.nn F x z hx)]; rfl
/-! == of data -/
def eqD (d e : PyData) : Option Bool := if SeqAt.shaped d = true ∧ SeqAt.shaped e = true then some (PyData.eqv d e) else none
def neD (d e : PyData) : Option Bool := if SeqAt.shaped d = true ∧ SeqAt.shaped e = true then some (!PyData.eqv d e) else none
mutual
theorem Dp.mono {K : PySem.W.Frag} {H H' : Hp} (s : Same H H') : ∀ {d : PyData} {v : V}, Dp K H v d → Dp K H' v d
  | .none, _, h => by cases h; exact .non
  | .bool _, _, h => by cases h; exact .bl _
  | .int _, _, h => by cases h; exact .int _
  | .str _, _, h => by cases h; exact .str _
  | .list ds, _, h => by cases h with | lst a b => exact .lst (Evl.ex_l s a) (DpAll.mono s b)
  | .tuple ds, _, h => by cases h with | tup a b => exact .tup (Evl.ex_t s a) (DpAll.mono s b)
  | .dict _, _, h => by cases h
theorem DpAll.mono {K : PySem.W.Frag} {H H' : Hp} (s : Same H H') : ∀ {ds : List PyData} {vs : List V}, DpAll K H vs ds → DpAll K H' vs ds
  | [], _, h => by cases h; exact .nil
  | d :: ds, _, h => by cases h with | cons a b => exact .cons (Dp.mono s a) (DpAll.mono s b)
end
theorem vl_eqD (D : RD R) (E : RD R') : VL2 (rEqD K) R R' rBool (fun a b => eqD (D.d a) (E.d b)) := fun F H O x y a b c W hx hy hf Q q => by
  simp only [eqD] at hf; split at hf
  · rename_i h; cases hf; exact ⟨_, _, Dp.mono W.sub (D.dp hx), Dp.mono W.sub (E.dp hy), h.1, h.2, q _ F H (SameR _) W rfl⟩
  · cases hf
theorem vl_neD (D : RD R) (E : RD R') : VL2 (rNeD K) R R' rBool (fun a b => neD (D.d a) (E.d b)) := fun F H O x y a b c W hx hy hf Q q => by
  simp only [neD] at hf; split at hf
  · rename_i h; cases hf; exact ⟨_, _, Dp.mono W.sub (D.dp hx), Dp.mono W.sub (E.dp hy), h.1, h.2, q _ F H (SameR _) W rfl⟩
  · cases hf
/-! subscripts -/
theorem atI_paired {Q : V → α → Prop} {vs : List V} {xs : List α} {i : Int} {x : α} (h : Paired Q vs xs) (e : atI xs i = some x) : ∃ v, atI vs i = some v ∧ Q v x := by
  unfold atI at e ⊢
  rw [paired_len h]
  cases e1 : ixN xs.length i with
  | none => rw [e1] at e; cases e
  | some j => rw [e1] at e; exact paired_get' h e
theorem vl_ixL : VL2 (rIxL K) (rLst R) rInt R (fun xs i => atI xs i) := fun F H O x y a b c W ⟨p, vs, ex, hp, rp⟩ hy hf Q q => by
  obtain ⟨v, e, r⟩ := atI_paired rp hf
  exact ⟨p, vs, b, v, ex, hy, SqL.of (W.sub _ _ hp), e, q v F H (SameR _) W r⟩
theorem vl_ixT : VL2 (rIxT K) (rTup R) rInt R (fun xs i => atI xs i) := fun F H O x y a b c W ⟨p, vs, ex, hp, rp⟩ hy hf Q q => by
  obtain ⟨v, e, r⟩ := atI_paired rp hf
  exact ⟨p, vs, b, v, ex, hy, SqT.of (W.sub _ _ hp), e, q v F H (SameR _) W r⟩
/-- the i-th of a row -/
structure Prj {α β : Type} (T : Ar α) (i : Nat) (R : Rl β) (f : α → β) : Prop where
  at_ : ∀ {F : Hp} {vs : List V} {x : α}, T.r F vs x → ∃ v, vs[i]? = some v ∧ R.r F v (f x)
theorem prj_0 {T : Ar β} : Prj (arC R T) 0 R (fun x => x.1) := ⟨fun ⟨v, r, e, h, _⟩ => ⟨v, by subst e; rfl, h⟩⟩
theorem prj_1 : Prj (arOne R) 0 R (fun x => x) := ⟨fun ⟨v, e, h⟩ => ⟨v, by subst e; rfl, h⟩⟩
theorem prj_s {T : Ar β} {i : Nat} {f : β → γ} (h : Prj T i U f) : Prj (arC R T) (i + 1) U (fun x => f x.2) := ⟨fun ⟨v, r, e, _, h2⟩ => by
  obtain ⟨w, e1, r1⟩ := h.at_ h2
  exact ⟨w, by subst e; exact e1, r1⟩⟩
theorem atI_ofNat {α : Type} {xs : List α} {i : Nat} {x : α} (h : xs[i]? = some x) : atI xs (i : Int) = some x := by
  have hi := (List.getElem?_eq_some_iff.mp h).1
  unfold atI ixN
  rw [if_pos (by omega), if_pos (by omega)]
  simpa using h
theorem ev_prj {X : Ar α} {i : Nat} {f : α → β} {m : M S α} {j : Int} (h : Prj X i R' f) (ha : Ev ta σ F A (rTh X) m) (hj : j = (i : Int) := by rfl) : Ev (tOp (rIxT K) ta (tC (.int j))) σ F A R' (bnd m fun x => ret (f x)) := fun s b s' hm F1 H c O sm ho W Q q => by
  obtain ⟨x, s1, h1, hm⟩ := bnd_some hm
  obtain ⟨rfl, rfl⟩ := ret_some hm
  refine ha s x _ h1 F1 H c O sm ho W _ fun v F2 H2 c2 s2 o2 W2 ⟨p, vs, e, hp, r⟩ => ?_
  obtain ⟨w, e1, r1⟩ := h.at_ r
  subst hj
  exact ⟨p, vs, _, w, e, rfl, SqT.of (W2.sub _ _ hp), atI_ofNat e1, q w F2 H2 c2 s2 o2 W2 r1⟩
theorem ev_prjL {X : Ar α} {i : Nat} {f : α → β} {m : M S α} {j : Int} (h : Prj X i R' f) (ha : Ev ta σ F A (rLh X) m) (hj : j = (i : Int) := by rfl) : Ev (tOp (rIxL K) ta (tC (.int j))) σ F A R' (bnd m fun x => ret (f x)) := fun s b s' hm F1 H c O sm ho W Q q => by
  obtain ⟨x, s1, h1, hm⟩ := bnd_some hm
  obtain ⟨rfl, rfl⟩ := ret_some hm
  refine ha s x _ h1 F1 H c O sm ho W _ fun v F2 H2 c2 s2 o2 W2 ⟨p, vs, e, hp, r⟩ => ?_
  obtain ⟨w, e1, r1⟩ := h.at_ r
  subst hj
  exact ⟨p, vs, _, w, e, rfl, SqL.of (W2.sub _ _ hp), atI_ofNat e1, q w F2 H2 c2 s2 o2 W2 r1⟩
/-! x in a row of flat things -/
theorem vl_in {neg : Bool} {f : α → V} (hR : ∀ F v x, R.r F v x → v = f x) (hf : ∀ x, flatV (f x) = true) [DecidableEq α] (he : ∀ a b, eqV (f b) (f a) = decide (b = a)) (lt : Bool) :
    VL2 (rIn K neg) R (bif lt then rTup R else rLst R) rBool (fun a xs => some (if neg then !xs.any (fun b => decide (b = a)) else xs.any fun b => decide (b = a))) := fun F H O x y a b c W hx hy hf' Q q => by
  have key : ∀ p vs, y = .ref p → (SqL K H p vs ∨ SqT K H p vs) → Paired (R.r F) vs b → rIn K neg x y H Q := fun p vs e hs rp => by
    have e1 : vs = b.map f := by
      clear hs hf' q hy
      induction rp with
      | nil => rfl
      | cons r t ih => rw [hR _ _ _ r, ih]; rfl
    refine ⟨p, vs, e, hs, by rw [hR _ _ _ hx]; exact hf a, by rw [e1, List.all_map]; exact List.all_eq_true.mpr fun z _ => hf z, ?_⟩
    have e2 : inV x vs = b.any fun z => decide (z = a) := by
      rw [hR _ _ _ hx, e1]; unfold inV; rw [List.any_map]; congr 1; funext z; exact he a z
    rw [e2]; cases hf'
    exact q _ F H (SameR _) W rfl
  cases lt with
  | true => obtain ⟨p, vs, e, hp, rp⟩ := hy; exact key p vs e (.inr (SqT.of (W.sub _ _ hp))) rp
  | false => obtain ⟨p, vs, e, hp, rp⟩ := hy; exact key p vs e (.inl (SqL.of (W.sub _ _ hp))) rp
theorem eqV_int (a b : Int) : eqV (.int b) (.int a) = decide (b = a) := rfl
theorem vl_inIT : VL2 (rIn K false) rInt (rTup rInt) rBool (fun a xs => some (xs.any fun b => decide (b = a))) := vl_in (f := V.int) (fun _ _ _ h => h) (fun _ => rfl) eqV_int true
theorem vl_niIT : VL2 (rIn K true) rInt (rTup rInt) rBool (fun a xs => some (!xs.any fun b => decide (b = a))) := vl_in (f := V.int) (fun _ _ _ h => h) (fun _ => rfl) eqV_int true
theorem vl_inIL : VL2 (rIn K false) rInt (rLst rInt) rBool (fun a xs => some (xs.any fun b => decide (b = a))) := vl_in (f := V.int) (fun _ _ _ h => h) (fun _ => rfl) eqV_int false
theorem vl_niIL : VL2 (rIn K true) rInt (rLst rInt) rBool (fun a xs => some (!xs.any fun b => decide (b = a))) := vl_in (f := V.int) (fun _ _ _ h => h) (fun _ => rfl) eqV_int false
/-! built-in functions of one sequence -/
abbrev rLen (K : PySem.W.Frag) : List V → Hp → VK → Prop := fun xs H Q => ∃ p ys, xs = [.ref p] ∧ (SqL K H p ys ∨ SqT K H p ys) ∧ Q (.int ys.length) H
theorem vl_lenT : VLc (rLen K) (arOne (rTup R)) rInt (fun xs => some (xs.length : Int)) := fun F H O xs a c W ⟨v, e, p, vs, ev, hp, rp⟩ hf Q q => by
  cases hf
  exact ⟨p, vs, by rw [e, ev], .inr (SqT.of (W.sub _ _ hp)), q _ F H (SameR _) W (by show V.int _ = V.int _; rw [paired_len rp])⟩
theorem vl_lenL : VLc (rLen K) (arOne (rLst R)) rInt (fun xs => some (xs.length : Int)) := fun F H O xs a c W ⟨v, e, p, vs, ev, hp, rp⟩ hf Q q => by
  cases hf
  exact ⟨p, vs, by rw [e, ev], .inl (SqL.of (W.sub _ _ hp)), q _ F H (SameR _) W (by show V.int _ = V.int _; rw [paired_len rp])⟩
theorem vs_int {F : Hp} {vs : List V} {a : List Int} (rp : Paired (rInt.r F) vs a) : vs = a.map V.int := by
  induction rp with
  | nil => rfl
  | cons r t ih => rw [show _ = _ from r, ih]; rfl
theorem vl_sumL : VLc (rSum K) (arOne (rLst rInt)) rInt (fun xs => some xs.sum) := fun F H O xs a c W ⟨v, e, p, vs, ev, hp, rp⟩ hf Q q => by
  cases hf
  exact ⟨p, a, by rw [e, ev], SqL.of (by rw [← vs_int rp]; exact W.sub _ _ hp), q _ F H (SameR _) W rfl⟩
theorem vs_bl {F : Hp} {vs : List V} {a : List Bool} (rp : Paired (rBool.r F) vs a) : vs = a.map V.bl := by
  induction rp with
  | nil => rfl
  | cons r t ih => rw [show _ = _ from r, ih]; rfl
theorem vl_allL : VLc (rAll K) (arOne (rLst rBool)) rBool (fun xs => some (xs.all id)) := fun F H O xs a c W ⟨v, e, p, vs, ev, hp, rp⟩ hf Q q => by
  cases hf
  exact ⟨p, a, by rw [e, ev], SqL.of (by rw [← vs_bl rp]; exact W.sub _ _ hp), q _ F H (SameR _) W rfl⟩
theorem vl_anyL : VLc (rAny K) (arOne (rLst rBool)) rBool (fun xs => some (xs.any id)) := fun F H O xs a c W ⟨v, e, p, vs, ev, hp, rp⟩ hf Q q => by
  cases hf
  exact ⟨p, a, by rw [e, ev], SqL.of (by rw [← vs_bl rp]; exact W.sub _ _ hp), q _ F H (SameR _) W rfl⟩
abbrev rTupleOf (K : PySem.W.Frag) : List V → Hp → VK → Prop := fun xs H Q => ∃ p ys, xs = [.ref p] ∧ ((SqL K H p ys ∧ ∀ l, H l = none → Q (.ref l) (upd H l (.tup ys))) ∨ (SqT K H p ys ∧ Q (.ref p) H))
theorem vl_tupleL : VLc (rTupleOf K) (arOne (rLst R)) (rTup R) (fun xs => some xs) := fun F H O xs a c W ⟨v, e, p, vs, ev, hp, rp⟩ hf Q q => by
  cases hf
  exact ⟨p, vs, by rw [e, ev], .inl ⟨SqL.of (W.sub _ _ hp), fun l nl => q _ _ _ (W.sameF nl) (W.newF nl) ⟨l, vs, rfl, upd_same, paired_mono (fun _ _ => R.mono (W.sameF nl)) rp⟩⟩⟩
theorem vl_tupleT : VLc (rTupleOf K) (arOne (rTup R)) (rTup R) (fun xs => some xs) := fun F H O xs a c W ⟨v, e, p, vs, ev, hp, rp⟩ hf Q q => by
  cases hf
  exact ⟨p, vs, by rw [e, ev], .inr ⟨SqT.of (W.sub _ _ hp), q _ F H (SameR _) W ⟨p, vs, rfl, hp, rp⟩⟩⟩
abbrev rListOf (K : PySem.W.Frag) : List V → Hp → VK → Prop := fun xs H Q => ∃ p ys, xs = [.ref p] ∧ (SqL K H p ys ∨ SqT K H p ys) ∧ ∀ l, H l = none → Q (.ref l) (upd H l (.lst ys))
theorem vo_listL : VLo (rListOf K) (arOne (rLst R)) (oLst R) (fun xs => some xs) := fun F H O xs a c W ⟨v, e, p, vs, ev, hp, rp⟩ hf Q q => by
  cases hf
  exact ⟨p, vs, by rw [e, ev], .inl (SqL.of (W.sub _ _ hp)), fun l nl => q _ F _ [(l, .lst vs)] (SameR _) ⟨l, vs, rfl, rfl, rp⟩ (W.newO nl)⟩
theorem vo_listT : VLo (rListOf K) (arOne (rTup R)) (oLst R) (fun xs => some xs) := fun F H O xs a c W ⟨v, e, p, vs, ev, hp, rp⟩ hf Q q => by
  cases hf
  exact ⟨p, vs, by rw [e, ev], .inr (SqT.of (W.sub _ _ hp)), fun l nl => q _ F _ [(l, .lst vs)] (SameR _) ⟨l, vs, rfl, rfl, rp⟩ (W.newO nl)⟩
def intB : Bool → Int
  | true => 1
  | false => 0
abbrev rIntOf : List V → Hp → VK → Prop := fun xs H Q => (∃ i, xs = [.int i] ∧ Q (.int i) H) ∨ ∃ k, xs = [.bl k] ∧ Q (.int (if k then 1 else 0)) H
theorem vl_intB : VLc rIntOf (arOne rBool) rInt (fun b => some (intB b)) := fun F H O xs a c W ⟨v, e, ev⟩ hf Q q => by
  cases hf
  exact .inr ⟨a, by rw [e, ev], q _ F H (SameR _) W (by cases a <;> rfl)⟩
abbrev rMin2 : List V → Hp → VK → Prop := fun xs H Q => ∃ i j, xs = [.int i, .int j] ∧ Q (.int (if j < i then j else i)) H
theorem vl_min2 : VLc rMin2 (arC rInt (arOne rInt)) rInt (fun x => some (if x.2 < x.1 then x.2 else x.1)) := fun F H O xs a c W ⟨v, r, e, ev, v2, e2, ev2⟩ hf Q q => by
  cases hf
  exact ⟨a.1, a.2, by rw [e, e2, ev, ev2], q _ F H (SameR _) W rfl⟩
abbrev rMax2 : List V → Hp → VK → Prop := fun xs H Q => ∃ i j, xs = [.int i, .int j] ∧ Q (.int (if j > i then j else i)) H
theorem vl_max2 : VLc rMax2 (arC rInt (arOne rInt)) rInt (fun x => some (if x.2 > x.1 then x.2 else x.1)) := fun F H O xs a c W ⟨v, r, e, ev, v2, e2, ev2⟩ hf Q q => by
  cases hf
  exact ⟨a.1, a.2, by rw [e, e2, ev, ev2], q _ F H (SameR _) W rfl⟩
abbrev rDivmod : List V → Hp → VK → Prop := fun xs H Q => ∃ i j, xs = [.int i, .int j] ∧ CDiv i j ∧ ∀ p, H p = none → Q (.ref p) (upd H p (.tup [.int (i / j), .int (i % j)]))
def dvm (x : Int × Int) : Option (Int × Int) := if 0 < x.2 ∧ x.2 < 1073741824 then some (x.1 / x.2, x.1 % x.2) else none
theorem vl_divmod : VLc rDivmod (arC rInt (arOne rInt)) (rTh (arC rInt (arOne rInt))) dvm := fun F H O xs a c W ⟨v, r, e, ev, v2, e2, ev2⟩ hf Q q => by
  unfold dvm at hf; split at hf
  · rename_i h; cases hf
    exact ⟨a.1, a.2, by rw [e, e2, ev, ev2], h, fun p np => q _ _ _ (W.sameF np) (W.newF np) ⟨p, _, rfl, upd_same, _, _, rfl, rfl, _, rfl, rfl⟩⟩
  · cases hf
/-! lists that are owned -/
def upL {S T : Type} (g : S → T) (p : S → T → S) (f : T → Option T) : M S Unit := fun s => (f (g s)).map fun t => ((), p s t)
def gtL {S T β : Type} (g : S → T) (f : T → Option β) : M S β := fun s => (f (g s)).map fun b => (b, s)
theorem upL_some {S T : Type} {g : S → T} {p : S → T → S} {f : T → Option T} {s s' : S} {b : Unit} (h : upL g p f s = some (b, s')) : ∃ t, f (g s) = some t ∧ s' = p s t := by
  unfold upL at h
  cases e : f (g s) with
  | none => rw [e] at h; cases h
  | some t => rw [e] at h; cases h; exact ⟨t, rfl, rfl⟩
theorem gtL_some {S T β : Type} {g : S → T} {f : T → Option β} {s s' : S} {b : β} (h : gtL g f s = some (b, s')) : f (g s) = some b ∧ s' = s := by
  unfold gtL at h
  cases e : f (g s) with
  | none => rw [e] at h; cases h
  | some t => rw [e] at h; cases h; exact ⟨rfl, rfl⟩
def app (xs : List α) (x : α) : Option (List α) := if xs.length < lim then some (xs ++ [x]) else none
theorem app_some {xs ys : List α} {x : α} (h : app xs x = some ys) : ys = xs ++ [x] ∧ xs.length < lim := by
  unfold app at h; split at h
  · cases h; exact ⟨rfl, by assumption⟩
  · cases h
def setI (xs : List α) (i : Int) (x : α) : Option (List α) := (ixN xs.length i).map fun j => xs.set j x
variable {v : V} {j : Nat} {g : S → List α} {p : S → List α → S} {m : M S α} {mi : M S Int}
/-- the world with an owned list in front -/
theorem emb_list {F H : Hp} {s : S} {c O : Ch} (e : Emb A (oLst R v) g p) (ho : A.o F s c) (W : Wd F H (c ++ O)) : ∃ l vs c2, v = .ref l ∧ Paired (R.r F) vs (g s) ∧ Wd F H ((l, .lst vs) :: (c2 ++ O)) ∧
    ∀ F' xs vs', Same F F' → Paired (R.r F') vs' xs → ∀ H', Wd F' H' ((l, .lst vs') :: (c2 ++ O)) → ∃ c', A.o F' (p s xs) c' ∧ Wd F' H' (c' ++ O) := by
  obtain ⟨c1, c2, pm, ⟨l, vs, e1, rfl, rp⟩, k⟩ := e.split ho
  refine ⟨l, vs, c2, e1, rp, (W.perm (pm.append_right O)), fun F' xs vs' s' rp' H' W' => ?_⟩
  obtain ⟨c', o', pm'⟩ := k F' xs [(l, .lst vs')] s' ⟨l, vs', e1, rfl, rp'⟩
  exact ⟨c', o', W'.perm (pm'.append_right O).symm⟩
theorem paired_set {Q : V → α → Prop} {vs : List V} {xs : List α} {u : V} {x : α} (h : Paired Q vs xs) (r : Q u x) : ∀ (i : Nat), Paired Q (vs.set i u) (xs.set i x) := by
  induction h with
  | nil => exact fun _ => .nil
  | cons a t ih => intro i; cases i with
    | zero => exact .cons r t
    | succ i => exact .cons a (ih i)
/-- x[i], x owned -/
theorem ev_ixO (hv : σ[j]? = some (some v)) (e : Emb A (oLst R v) g p) (hi : Ev ti σ F A rInt mi) : Ev (tOp (rIxL K) (tVar j) ti) σ F A R (bnd mi fun i => gtL g fun xs => atI xs i) := fun s b s' hm F1 H c O sm ho W Q q => by
  obtain ⟨i, s1, h1, hm⟩ := bnd_some hm
  obtain ⟨h2, rfl⟩ := gtL_some hm
  refine ⟨v, hv, hi s i _ h1 F1 H c O sm ho W _ fun y F2 H2 c2 s2 o2 W2 r2 => ?_⟩
  obtain ⟨l, vs, c3, rfl, rp, W3, k⟩ := emb_list e o2 W2
  obtain ⟨w, e1, r1⟩ := atI_paired rp h2
  exact ⟨l, vs, i, w, rfl, r2, SqL.of W3.hd, e1, q w F2 H2 c2 s2 o2 W2 r1⟩
/-- len(x), tuple(x), list(x), sum(x) .. of x owned: by what holds of a list that stands in H -/
def VH (r : List V → Hp → VK → Prop) (R : Rl α) (U : Rl β) (f : List α → Option β) : Prop := ∀ F H O l vs xs b, Wd F H O → H l = some (.lst vs) → Paired (R.r F) vs xs → f xs = some b →
  ∀ Q : VK, (∀ v F' H', Same F F' → Wd F' H' O → U.r F' v b → Q v H') → r [.ref l] H Q
theorem ev_cbO {r : List V → Hp → VK → Prop} {f : List α → Option β} (hr : VH r R R' f) (hv : σ[j]? = some (some v)) (e : Emb A (oLst R v) g p) : Ev (tCB r (tCons (tVar j) tNil)) σ F A R' (gtL g f) := fun s b s' hm F1 H c O sm ho W Q q => by
  obtain ⟨h2, rfl⟩ := gtL_some hm
  refine ⟨v, hv, ?_⟩
  obtain ⟨l, vs, c3, rfl, rp, W3, k⟩ := emb_list e ho W
  exact hr F1 H _ l vs _ b W W3.hd rp h2 Q fun v F' H' s' W' r' => q v F' H' c s' (A.mono s' ho) W' r'
theorem vh_len : VH (rLen K) R rInt (fun xs => some (xs.length : Int)) := fun F H O l vs xs b W h rp hf Q q => by
  cases hf
  exact ⟨l, vs, rfl, .inl (SqL.of h), q _ F H (SameR _) W (by show V.int _ = V.int _; rw [paired_len rp])⟩
theorem vh_tuple : VH (rTupleOf K) R (rTup R) (fun xs => some xs) := fun F H O l vs xs b W h rp hf Q q => by
  cases hf
  exact ⟨l, vs, rfl, .inl ⟨SqL.of h, fun l nl => q _ _ _ (W.sameF nl) (W.newF nl) ⟨l, vs, rfl, upd_same, paired_mono (fun _ _ => R.mono (W.sameF nl)) rp⟩⟩⟩
/-- x.append(e) -/
theorem b_app {f : S → Option Ω} (hv : σ[j]? = some (some v)) (e : Emb A (oLst R v) g p) (he : Ev te σ F A R m) (k : B u σ F A P f) : B (tSeq (tDrop (tBM K "list" rAppend (tVar j) (tCons te tNil))) u) σ F A P (bnd m fun x => bnd (upL g p fun xs => app xs x) fun _ => f) := fun s w hm F1 H c O sm ho W D q => by
  obtain ⟨x, s1, h1, hm⟩ := bnd_some hm
  obtain ⟨_, s2, h2, hm⟩ := bnd_some hm
  obtain ⟨xs, h2a, rfl⟩ := upL_some h2
  obtain ⟨rfl, hl⟩ := app_some h2a
  refine ⟨v, hv, ?_⟩
  obtain ⟨l0, vs0, c0, e0, _, W0, _⟩ := emb_list e ho W
  refine ⟨by rw [e0]; exact Or.inl ⟨rfl, vs0, SqL.of W0.hd⟩, ?_⟩
  refine he s x s1 h1 F1 H c O sm ho W _ fun y F2 H2 c2 sm2 o2 W2 r2 => ?_
  obtain ⟨l, vs, c3, rfl, rp, W3, kk⟩ := emb_list e o2 W2
  refine ⟨l, vs, y, rfl, rfl, W3.hd, by rw [paired_len rp]; exact lim_le hl, ?_⟩
  obtain ⟨c4, o4, W4⟩ := kk F2 _ (vs ++ [y]) (SameR _) (rp.snoc r2) _ W3.set
  exact k _ w hm F2 _ c4 O (sm.trans sm2) o4 W4 D (P.mono sm2 q)
theorem setI_some {xs ys : List α} {i : Int} {x : α} (h : setI xs i x = some ys) : ∃ j, ixN xs.length i = some j ∧ ys = xs.set j x := by
  unfold setI at h
  cases e : ixN xs.length i with
  | none => rw [e] at h; cases h
  | some j => rw [e] at h; cases h; exact ⟨j, rfl, rfl⟩
/-- x[i] = e -/
theorem b_setL {f : S → Option Ω} (hv : σ[j]? = some (some v)) (e : Emb A (oLst R v) g p) (he : Ev te σ F A R m) (hi : Ev ti σ F A rInt mi) (k : B u σ F A P f) : B (tSeq (tAsg te (gSub (tVar j) ti rSetL)) u) σ F A P (bnd m fun x => bnd mi fun i => bnd (upL g p fun xs => setI xs i x) fun _ => f) := fun s w hm F1 H c O sm ho W D q => by
  obtain ⟨x, s1, h1, hm⟩ := bnd_some hm
  obtain ⟨i, s2, h2, hm⟩ := bnd_some hm
  obtain ⟨_, s3, h3, hm⟩ := bnd_some hm
  obtain ⟨xs, h3a, rfl⟩ := upL_some h3
  obtain ⟨n, hn, rfl⟩ := setI_some h3a
  refine he s x s1 h1 F1 H c O sm ho W _ fun y F2 H2 c2 sm2 o2 W2 r2 => ⟨v, hv, ?_⟩
  refine hi s1 i s2 h2 F2 H2 c2 O (sm.trans sm2) o2 W2 _ fun z F3 H3 c3 sm3 o3 W3 r3 => ?_
  obtain ⟨l, vs, c4, rfl, rp, W4, kk⟩ := emb_list e o3 W3
  refine ⟨l, vs, i, n, rfl, r3, W4.hd, by rw [paired_len rp]; exact hn, ?_⟩
  obtain ⟨c5, o5, W5⟩ := kk F3 _ (vs.set n y) (SameR _) (paired_set rp (R.mono sm3 r2) n) _ W4.set
  exact k _ w hm F3 _ c5 O ((sm.trans sm2).trans sm3) o5 W5 D (P.mono (sm2.trans sm3) q)
/-- x[i] += e, ints -/
theorem b_augL {g : S → List Int} {p : S → List Int → S} {m : M S Int} {h : Int → Int → Int} {f : S → Option Ω} (hv : σ[j]? = some (some v)) (e : Emb A (oLst rInt v) g p) (hi : Ev ti σ F A rInt mi) (he : Ev te σ F A rInt m) (k : B u σ F A P f) :
    B (tSeq (tAugS (tVar j) ti te (rIxL K) (ipI h) rSetL) u) σ F A P (bnd mi fun i => bnd (gtL g fun xs => atI xs i) fun y => bnd m fun x => bnd (upL g p fun xs => setI xs i (h y x)) fun _ => f) := fun s w hm F1 H c O sm ho W D q => by
  obtain ⟨i, s1, h1, hm⟩ := bnd_some hm
  obtain ⟨y, s2, h2, hm2⟩ := bnd_some hm
  clear hm
  obtain ⟨h2a, e2⟩ := gtL_some h2
  subst e2
  obtain ⟨x, s3, h3, hm3⟩ := bnd_some hm2
  obtain ⟨_, s4, h4, hm⟩ := bnd_some hm3
  obtain ⟨xs, h4a, rfl⟩ := upL_some h4
  obtain ⟨n, hn, rfl⟩ := setI_some h4a
  refine ⟨v, hv, hi s i _ h1 F1 H c O sm ho W _ fun z F2 H2 c2 sm2 o2 W2 r2 => ?_⟩
  obtain ⟨l, vs, c4, e0, rp, W4, kk⟩ := emb_list e o2 W2
  obtain ⟨w', e1, r1⟩ := atI_paired rp h2a
  refine ⟨l, vs, i, w', e0, r2, SqL.of W4.hd, e1, ?_⟩
  refine he _ x s3 h3 F2 H2 c2 O (sm.trans sm2) o2 W2 _ fun z3 F3 H3 c3 sm3 o3 W3 r3 => ⟨y, x, r1, r3, ?_⟩
  obtain ⟨l, vs, c5, rfl, rp, W5, kk⟩ := emb_list e o3 W3
  refine ⟨l, vs, i, n, rfl, r2, W5.hd, by rw [paired_len rp]; exact hn, ?_⟩
  obtain ⟨c6, o6, W6⟩ := kk F3 _ (vs.set n _) (SameR _) (paired_set rp rfl n) _ W5.set
  exact k _ w hm F3 _ c6 O ((sm.trans sm2).trans sm3) o6 W6 D (P.mono (sm2.trans sm3) q)
/-- x += e, ints -/
theorem b_aug {x0 : Int} {m : M S Int} {h : Int → Int → Int} {f : Int → S → Option Ω} (hv : σ[j]? = some (some (.int x0))) (he : Ev te σ F A rInt m) (k : ∀ y F', Same F F' → B u (σ.set j (some (.int (h x0 y)))) F' A P (f (h x0 y))) :
    B (tSeq (tAug j te (ipI h)) u) σ F A P (bnd m fun y => f (h x0 y)) := fun s w hm F1 H c O sm ho W D q => by
  obtain ⟨y, s1, h1, hm⟩ := bnd_some hm
  refine ⟨_, hv, he s y s1 h1 F1 H c O sm ho W _ fun z F2 H2 c2 sm2 o2 W2 r2 => ⟨x0, y, rfl, r2, ?_⟩⟩
  exact k y F2 (sm.trans sm2) s1 w hm F2 H2 c2 O (SameR _) o2 W2 D (P.mono sm2 q)
/-! list + list, tuple + tuple, [x] * n -/
theorem paired_app {Q : V → α → Prop} {vs vs' : List V} {xs xs' : List α} (h : Paired Q vs xs) (h' : Paired Q vs' xs') : Paired Q (vs ++ vs') (xs ++ xs') := by
  induction h with
  | nil => exact h'
  | cons r t ih => exact .cons r ih
def catL (xs ys : List α) : Option (List α) := if xs.length + ys.length < lim then some (xs ++ ys) else none
theorem catL_some {xs ys zs : List α} (h : catL xs ys = some zs) : zs = xs ++ ys ∧ xs.length + ys.length < lim := by
  unfold catL at h; split at h
  · cases h; exact ⟨rfl, by assumption⟩
  · cases h
theorem vo_cat : VLo2 rCat (rLst R) (rLst R) (oLst R) catL := fun F H O x y a b c W ⟨p1, vs, ex, hp, rp⟩ ⟨p2, ws, ey, hq, rq⟩ hf Q q => by
  obtain ⟨rfl, hl⟩ := catL_some hf
  exact ⟨p1, p2, vs, ws, ex, ey, W.sub _ _ hp, W.sub _ _ hq, by rw [paired_len rp, paired_len rq]; exact Nat.le_of_lt (lim_le hl), fun l nl => q _ F _ [(l, .lst (vs ++ ws))] (SameR _) ⟨l, _, rfl, rfl, paired_app rp rq⟩ (W.newO nl)⟩
theorem vl_catT : VL2 (rCatA K) (rTup R) (rTup R) (rTup R) catL := fun F H O x y a b c W ⟨p1, vs, ex, hp, rp⟩ ⟨p2, ws, ey, hq, rq⟩ hf Q q => by
  obtain ⟨rfl, hl⟩ := catL_some hf
  refine ⟨p1, p2, vs, ws, ex, ey, SqT.of (W.sub _ _ hp), SqT.of (W.sub _ _ hq), by rw [paired_len rp, paired_len rq]; exact Nat.le_of_lt (lim_le hl), fun e => ?_, fun _ e => ?_, fun _ _ l nl => ?_⟩
  · subst e; cases rp; exact q _ F H (SameR _) W ⟨p2, ws, rfl, hq, rq⟩
  · subst e; cases rq; subst ex; exact q _ F H (SameR _) W ⟨p1, vs, rfl, hp, by rw [List.append_nil]; exact rp⟩
  · exact q _ _ _ (W.sameF nl) (W.newF nl) ⟨l, _, rfl, upd_same, paired_mono (fun _ _ => R.mono (W.sameF nl)) (paired_app rp rq)⟩
def repL (xs : List α) (k : Int) : Option (List α) := if k < 1000 ∧ -1000 < k ∧ xs.length < 100 then some (List.replicate k.toNat xs).flatten else none
theorem paired_rep {Q : V → α → Prop} {vs : List V} {xs : List α} (h : Paired Q vs xs) : ∀ n, Paired Q (List.replicate n vs).flatten (List.replicate n xs).flatten
  | 0 => .nil
  | n + 1 => by rw [List.replicate_succ, List.replicate_succ, List.flatten_cons, List.flatten_cons]; exact paired_app h (paired_rep h n)
theorem vo_rep : VLo2 rRep (rLst R) rInt (oLst R) repL := fun F H O x y a b c W ⟨p1, vs, ex, hp, rp⟩ hy hf Q q => by
  unfold repL at hf; split at hf
  · rename_i h; cases hf
    refine ⟨p1, b, vs, ex, hy, W.sub _ _ hp, by omega, by omega, ?_, fun l nl => q _ F _ [(l, _)] (SameR _) ⟨l, _, rfl, rfl, paired_rep rp _⟩ (W.newO nl)⟩
    rw [paired_len rp]
    refine Nat.le_trans (Nat.mul_le_mul (Nat.le_of_lt h.2.2) (show b.toNat ≤ 1000 by omega)) (by decide)
  · cases hf
/-! isinstance of things whose type is told by their row -/
theorem vl_isi {n : String} {bb : Bool} (ht : ∀ F H v x, Same F H → R.r F v x → ∃ t, TyX K H v (.type t) ∧ PySem.W.kitOne K (.type t) (.type n) = some bb) : VLc (rIsi K) (arC R (arOne (rV (.ty n)))) rBool (fun _ => some bb) := fun F H O xs a c W ⟨v, r, e, rv, v2, e2, ev2⟩ hf Q q => by
  cases hf
  obtain ⟨t, ty, kk⟩ := ht F H v a.1 W.sub rv
  exact ⟨v, .ty n, .type t, .type n, bb, by rw [e, e2, show v2 = _ from ev2], .ty n, ty, kk, q _ F H (SameR _) W rfl⟩
end
end T

/-! T5: the layer's rules with the written part told by K; a def's end. -/
namespace T
open PySem L2
section
variable {X : Cx} {K : PySem.W.Frag}
theorem kix_tup (e : X.K = K := by rfl) : IxR X (rIxT K) := by subst e; exact ix_tup
theorem kix_list (e : X.K = K := by rfl) : IxR X (rIxL K) := by subst e; exact ix_list
theorem kc_len (e : X.K = K := by rfl) : CallR X (.builtin "len") (rLen K) := by subst e; exact call_len_seq
theorem kc_tuple (e : X.K = K := by rfl) : CallR X (.type "tuple") (rTupleOf K) := by subst e; exact call_tuple_of
theorem kc_list (e : X.K = K := by rfl) : CallR X (.type "list") (rListOf K) := by subst e; exact call_list_of
theorem kc_sum (hc : X.calm = true) (e : X.K = K := by rfl) : CallR X (.builtin "sum") (rSum K) := by subst e; exact cr_sum hc
theorem kc_all (hc : X.calm = true) (e : X.K = K := by rfl) : CallR X (.builtin "all") (rAll K) := by subst e; exact cr_all hc
theorem kc_any (hc : X.calm = true) (e : X.K = K := by rfl) : CallR X (.builtin "any") (rAny K) := by subst e; exact cr_any hc
theorem kop_in (e : X.K = K := by rfl) : OpR X (compareOp .In) (rIn K false) := by subst e; exact op_in_seq
theorem kop_notIn (e : X.K = K := by rfl) : OpR X (compareOp .NotIn) (rIn K true) := by subst e; exact op_notIn_seq
theorem kop_eqD (hu : X.A.units + 64 < cLine) (e : X.K = K := by rfl) : OpR X (compareOp .Eq) (rEqD K) := by subst e; exact op_eqD hu
theorem kop_neD (hu : X.A.units + 64 < cLine) (e : X.K = K := by rfl) : OpR X (compareOp .NotEq) (rNeD K) := by subst e; exact op_neD hu
theorem ksl_tup (e : X.K = K := by rfl) : SlR X (rSlA K) := by subst e; exact sl_tupA
theorem ksl_list (e : X.K = K := by rfl) : SlR X (rSlL K) := by subst e; exact sl_list
theorem kop_catT (e : X.K = K := by rfl) : OpR X (binaryOp .Add) (rCatA K) := by subst e; exact op_catA
theorem kc_isi (e : X.K = K := by rfl) : CallR X (.builtin "isinstance") (rIsi K) := by subst e; exact call_isi
theorem kpg_tup {es : List Expr} {k : Nat} {t : TGs} {n : Nat} {pos : Pos} (hc : X.calm = true) (h : PGs X es t) (e : X.K = K := by rfl)
    (hn : (assignEach es X.env).length = n := by rfl) (hst : (assignEach es X.env).findIdx? (·.1) = none := by rfl) : PG X (.Tuple es k pos) (gTup K n t) := by subst e; exact pg_tup hc h hn hst
theorem kpi_tup {l tg : Expr} {tl : TE} (hl : PE X l tl) (e : X.K = K := by rfl) : PI X tg l (iTup K tl) := by subst e; exact pi_tup hl
theorem kpi_list {l tg : Expr} {tl : TE} (hl : PE X l tl) (e : X.K = K := by rfl) : PI X tg l (iList K tl) := by subst e; exact pi_list hl
theorem kpi_enum {ex : Expr} {ta : TA} {p pos tpos : Pos} {elts : List Expr} {kk : Nat} (hg : Gl X "enumerate") (hm : X.mg "enumerate" = none) (ha : PA X [ex] ta) (e : X.K = K := by rfl) (hs : starEach [ex] X.env = [(false, eval ex X.env)] := by rfl) :
    PI X (.Tuple elts kk tpos) (.Call (.Name "enumerate" p) [ex] [] pos) (iEnum K ta) := by subst e; exact pi_enum hg hm ha hs
theorem kpi_zip {ex e2 : Expr} {ta : TA} {p pos tpos : Pos} {elts : List Expr} {kk : Nat} (hg : Gl X "zip") (hm : X.mg "zip" = none) (ha : PA X [ex, e2] ta) (e : X.K = K := by rfl) (hs : starEach [ex, e2] X.env = (false, eval ex X.env) :: starEach [e2] X.env := by rfl) (hpl : (backTo pos (starEach [e2] X.env)).any (·.1) = false := by rfl) :
    PI X (.Tuple elts kk tpos) (.Call (.Name "zip" p) [ex, e2] [] pos) (iZip K ta) := by subst e; exact pi_zip hg hm ha hs hpl
end
section
variable {S S0 α β : Type}
theorem rn_some {β : Type} {m : M Unit β} {b : β} (h : rn m = some b) : m () = some (b, ()) := by
  unfold rn at h
  cases e : m () with
  | none => rw [e] at h; cases h
  | some p => rw [e] at h; cases h; rfl
/-- the end of a pure def -/
theorem ok_P {R : Rl β} {Q : VK} {t : TS} {σ : L2.St} {F H : Hp} {O : Ch} {b : β} {m : M Unit β} (W : Wd F H O) (hm : rn m = some b) (q : ∀ v F' H', Same F F' → Wd F' H' O → R.r F' v b → Q v H')
    (h : B t σ F emp (pRt emp R) m) : t { nx := fun _ H' => Q .non H', rt := Q } σ H :=
  h () (b, ()) (rn_some hm) F H [] O (SameR _) rfl W _ fun v F' H' c' s o w r => q v F' H' s (by rw [show c' = [] from o] at w; exact w) r
/-- .. whose result is owned -/
theorem ok_Po {Bf : V → Ow β} {Q : VK} {t : TS} {σ : L2.St} {F H : Hp} {O : Ch} {b : β} {m : M Unit β} (W : Wd F H O) (hm : rn m = some b) (q : ∀ v F' H' cb, Same F F' → (Bf v).o F' b cb → Wd F' H' (cb ++ O) → Q v H')
    (h : B t σ F emp (pRo emp Bf) m) : t { nx := fun _ H' => Q .non H', rt := Q } σ H :=
  h () (b, ()) (rn_some hm) F H [] O (SameR _) rfl W _ fun v F' H' c' cb s o ob w => q v F' H' cb s ob (by rw [show c' = [] from o] at w; exact w)
/-- the end of a def with owned state -/
theorem ok_S {A : Ow S} {R : Rl β} {Q : VK} {t : TS} {σ : L2.St} {F H : Hp} {c O : Ch} {s s' : S} {b : β} {m : M S β} (W : Wd F H (c ++ O)) (ho : A.o F s c) (hm : m s = some (b, s')) (q : ∀ v F' H' c', Same F F' → A.o F' s' c' → Wd F' H' (c' ++ O) → R.r F' v b → Q v H')
    (h : B t σ F A (pRt A R) m) : t { nx := fun _ H' => Q .non H', rt := Q } σ H :=
  h s (b, s') hm F H c O (SameR _) ho W _ q
/-- .. that returns nothing -/
theorem ok_SN {A : Ow S} {Q : VK} {t : TS} {σ : L2.St} {F H : Hp} {c O : Ch} {s s' : S} {m : M S Unit} (W : Wd F H (c ++ O)) (ho : A.o F s c) (hm : m s = some ((), s')) (q : ∀ v F' H' c', Same F F' → A.o F' s' c' → Wd F' H' (c' ++ O) → rNone.r F' v () → Q v H')
    (h : B t σ F A (pNx A fun _ _ _ => True) m) : t { nx := fun _ H' => Q .non H', rt := Q } σ H :=
  h s ((), s') hm F H c O (SameR _) ho W _ fun F' H' c' σ' s o w _ => q .non F' H' c' s o w rfl
end
end T

/-! T6: owned rows, freezing, known defs, the law's start. -/
namespace T
open PySem L2
section
variable {S S' S0 T' α β γ Ω ρ Z : Type} {R : Rl α} {R' : Rl β} {U : Rl γ} {K : PySem.W.Frag} {σ : L2.St} {F F' : Hp} {A : Ow S} {A' : Ow S'} {te ta tb ti to : TE} {u w t : TS} {P : Post Ω} {v : V} {j : Nat}
/-! a part is taken out -/
structure Rmv (A : Ow S) (A' : Ow S') (B : Ow T') (g : S → T') (π : S → S') : Prop where
  sp : ∀ {F : Hp} {s : S} {c : Ch}, A.o F s c → ∃ c1 c2, c.Perm (c1 ++ c2) ∧ B.o F (g s) c1 ∧ A'.o F (π s) c2
theorem rm_r {A : Ow S} {B : Ow T'} : Rmv (star A B) A B (fun s => s.2) (fun s => s.1) := ⟨fun ⟨c1, c2, e, a, b⟩ => ⟨c2, c1, by rw [e]; exact List.perm_append_comm, b, a⟩⟩
theorem rm_l {B : Ow T'} {C : Ow ρ} {g : S → T'} {π : S → S'} (h : Rmv A A' B g π) : Rmv (star A C) (star A' C) B (fun s => g s.1) (fun s => (π s.1, s.2)) := ⟨fun ⟨ca, cb, e, a, b⟩ => by
  obtain ⟨c1, c2, pm, hb, ha⟩ := h.sp a
  exact ⟨c1, c2 ++ cb, by rw [e, ← List.append_assoc]; exact pm.append_right cb, hb, c2, cb, rfl, ha, b⟩⟩
/-- an owned list is frozen -/
def fzL {S S' T Ω : Type} (g : S → T) (π : S → S') (k : T → S' → Option Ω) : S → Option Ω := fun s => k (g s) (π s)
theorem b_fzL {g : S → List α} {π : S → S'} {f : List α → S' → Option Ω} (h : Rmv A A' (oLst R v) g π) (k : ∀ xs F', Same F F' → (rLst R).r F' v xs → B u σ F' A' P (f xs)) : B u σ F A P (fzL g π f) := fun s w hm F1 H c O sm ho W D q => by
  obtain ⟨c1, c2, pm, ⟨l, vs, rfl, rfl, rp⟩, o2⟩ := h.sp ho
  have W2 : Wd F1 H ((l, .lst vs) :: (c2 ++ O)) := W.perm (pm.append_right O)
  have s2 := Wd.frzS W2
  exact k (g s) _ (sm.trans s2) ⟨l, vs, rfl, upd_same, paired_mono (fun _ _ => R.mono s2) rp⟩ (π s) w hm _ H c2 O (SameR _) (A'.mono s2 o2) (Wd.frz W2) D (P.mono s2 q)
/-- an owned thing is dropped -/
def drL {S S' Ω : Type} (π : S → S') (k : S' → Option Ω) : S → Option Ω := fun s => k (π s)
theorem b_drL {B' : Ow T'} {g : S → T'} {π : S → S'} {f : S' → Option Ω} (h : Rmv A A' B' g π) (k : B u σ F A' P f) : B u σ F A P (drL π f) := fun s w hm F1 H c O sm ho W D q => by
  obtain ⟨c1, c2, pm, _, o2⟩ := h.sp ho
  exact k (π s) w hm F1 H c2 O sm o2 ((W.perm (pm.append_right O)).sublist (List.Sublist.append (List.sublist_append_right c1 c2) (List.Sublist.refl O))) D q
/-! an owned row of unlike things -/
def oLh {α : Type} (T : Ar α) (v : V) : Ow α where
  o := fun F x c => ∃ l vs, v = .ref l ∧ c = [(l, .lst vs)] ∧ T.r F vs x
  mono := fun s ⟨l, vs, e, h, r⟩ => ⟨l, vs, e, h, T.mono s r⟩
theorem eo_lsth {ar : TA} {T : Ar β} {m' : M S β} {n : Nat} [hz : ArN T n] (hn : n ≤ 100) (h : EvA ar σ F A T m') : EvO (tLst ar) σ F A (oLh T) m' := fun s b s' hm F1 H c O sm ho W Q q =>
  h s b s' hm F1 H c O sm ho W _ fun vs F2 H2 c2 s2 o2 W2 r2 => ⟨by rw [hz.len _ _ _ r2]; exact Nat.le_trans hn (by decide), fun p np =>
    q (.ref p) _ _ c2 [(p, .lst vs)] s2 o2 ⟨p, vs, rfl, rfl, r2⟩ (W2.newO np)⟩
theorem ev_prjO {X : Ar α} {i : Nat} {f : α → β} {k : Int} {g : S → α} {p : S → α → S} (hv : σ[j]? = some (some v)) (e : Emb A (oLh X v) g p) (h : Prj X i R' f) (hk : k = (i : Int) := by rfl) : Ev (tOp (rIxL K) (tVar j) (tC (.int k))) σ F A R' (gtL g fun x => some (f x)) := fun s b s' hm F1 H c O sm ho W Q q => by
  obtain ⟨h2, rfl⟩ := gtL_some hm
  cases h2
  subst hk
  obtain ⟨c1, c2, pm, ⟨l, vs, rfl, rfl, rp⟩, _⟩ := e.split ho
  obtain ⟨w, e1, r1⟩ := h.at_ rp
  have W2 : Wd F1 H ((l, .lst vs) :: (c2 ++ O)) := W.perm (pm.append_right O)
  exact ⟨_, hv, l, vs, _, w, rfl, rfl, SqL.of W2.hd, atI_ofNat e1, q w F1 H c (SameR _) ho W r1⟩
/-- the i-th of a row may be stored -/
structure Pst {α β : Type} (T : Ar α) (i : Nat) (R : Rl β) (f : α → β → α) : Prop where
  st : ∀ {F : Hp} {vs : List V} {x : α} {v : V} {y : β}, T.r F vs x → R.r F v y → i < vs.length ∧ T.r F (vs.set i v) (f x y)
theorem pst_0 {T : Ar β} : Pst (arC R T) 0 R (fun x y => (y, x.2)) := ⟨fun ⟨v, r, e, h, t⟩ r' => by subst e; exact ⟨by simp, _, _, rfl, r', t⟩⟩
theorem pst_1 : Pst (arOne R) 0 R (fun x y => y) := ⟨fun ⟨v, e, h⟩ r' => by subst e; exact ⟨by simp, _, rfl, r'⟩⟩
theorem pst_s {T : Ar β} {i : Nat} {f : β → γ → β} (h : Pst T i U f) : Pst (arC R T) (i + 1) U (fun x y => (x.1, f x.2 y)) := ⟨fun ⟨v, r, e, h1, t⟩ r' => by
  obtain ⟨a, b⟩ := h.st t r'
  subst e
  exact ⟨by simpa using a, _, _, rfl, h1, b⟩⟩
theorem ixN_ofNat {n i : Nat} (h : i < n) : ixN n (i : Int) = some i := by
  unfold ixN; rw [if_pos (by omega), if_pos (by omega)]; simp
/-- x[k] = e of an owned row -/
theorem b_setH {X : Ar β} {i : Nat} {f : β → α → β} {k : Int} {g : S → β} {p : S → β → S} {m : M S α} {h : S → Option Ω} (hv : σ[j]? = some (some v)) (e : Emb A (oLh X v) g p) (hp : Pst X i R f) (he : Ev te σ F A R m) (hu : B u σ F A P h) (hk : k = (i : Int) := by rfl) :
    B (tSeq (tAsg te (gSub (tVar j) (tC (.int k)) rSetL)) u) σ F A P (bnd m fun x => bnd (upL g p fun y => some (f y x)) fun _ => h) := fun s w hm F1 H c O sm ho W D q => by
  subst hk
  obtain ⟨x, s1, h1, hm⟩ := bnd_some hm
  obtain ⟨_, s2, h2, hm⟩ := bnd_some hm
  obtain ⟨y, h2a, rfl⟩ := upL_some h2
  cases h2a
  refine he s x s1 h1 F1 H c O sm ho W _ fun z F2 H2 c2 sm2 o2 W2 r2 => ⟨v, hv, ?_⟩
  obtain ⟨c3, c4, pm, ⟨l, vs, e1, rfl, rp⟩, kk⟩ := e.split o2
  obtain ⟨hl, rp'⟩ := hp.st rp r2
  have W3 : Wd F2 H2 ((l, .lst vs) :: (c4 ++ O)) := W2.perm (pm.append_right O)
  refine ⟨l, vs, _, i, e1, rfl, W3.hd, ixN_ofNat hl, ?_⟩
  obtain ⟨c5, o5, pm5⟩ := kk F2 _ [(l, .lst (vs.set i z))] (SameR _) ⟨l, _, e1, rfl, rp'⟩
  exact hu _ w hm F2 _ c5 O (sm.trans sm2) o5 (W3.set.perm (pm5.append_right O).symm) D (P.mono sm2 q)
end
/-! known defs -/
structure Kn (P : Program) (w : World) (K : PySem.W.Frag) (mg : Str → Option Value) (base : Heap) (CX : CXT) (k : Nat) (x : Str) (ps : List Str) (sp : Sp) : Prop where
  ex : ∃ f fd, mg x = some (.ref f) ∧ PySem.W.keepIn K (.ref f) = true ∧ Binds K fd ps [] ∧ FnOk P w K mg base CX k f fd ps sp
section
variable {X : Cx}
theorem pe_kn {k j : Nat} {x : Str} {ps : List Str} {sp : Sp} {p pos : Pos} {e : Expr} {es : List Expr} {t : TA} (h : Kn X.prog X.w X.K X.mg X.base CX0 j x ps sp) (hr : Room k X.A) (hj : j ≤ k) (hg : Gl X x) (ha : PA X (e :: es) t) (hdb : (x == ("__debug__" : Str)) = false := by decide)
    (he : starEach (e :: es) X.env = (false, eval e X.env) :: starEach es X.env := by rfl) (hpl : (backTo pos (starEach es X.env)).any (·.1) = false := by rfl) : PE X (.Call (.Name x p) (e :: es) [] pos) (tCall sp [] E0 t) := by
  obtain ⟨f, fd, h1, h2, h3, h4⟩ := h.ex
  exact pe_call h4 (hr.mono hj) hg h1 h2 h3 .nil pass0 ha hdb he hpl
theorem pe_kn0 {k j : Nat} {x : Str} {ps : List Str} {sp : Sp} {p pos : Pos} (h : Kn X.prog X.w X.K X.mg X.base CX0 j x ps sp) (hr : Room k X.A) (hj : j ≤ k) (hg : Gl X x) (hdb : (x == ("__debug__" : Str)) = false := by decide) : PE X (.Call (.Name x p) [] [] pos) (tCall sp [] E0 tNil) := by
  obtain ⟨f, fd, h1, h2, h3, h4⟩ := h.ex
  exact pe_call0 h4 (hr.mono hj) hg h1 h2 h3 .nil pass0 hdb
end
/-! the law's first row: tape = [list(script), 0, 0] -/
def tapeA : Ar (List Int × Int × Int) := arC (rLst rInt) (arC rInt (arOne rInt))
abbrev Tape := List Int × Int × Int
theorem paired_map {α : Type} {Q : V → α → Prop} (f : α → V) (h : ∀ x, Q (f x) x) : ∀ xs : List α, Paired Q (xs.map f) xs
  | [] => .nil
  | x :: xs => .cons (h x) (paired_map f h xs)
theorem law_start {K : PySem.W.Frag} {a : Addr} {ns : List Int} {u : TS} {D : Ends} {H : Hp} {σ : L2.St} {i : Nat} {β : Type} {R : Rl β} {m : M Tape β} {b : β} {s' : Tape} (hσ : σ[0]? = some (some (.ref a))) (hS : SqL K H a (ns.map V.int))
    (hm : m (ns, 0, 0) = some (b, s')) (k : ∀ v F, B u (σ.set i (some v)) F (oLh tapeA v) (pRt (oLh tapeA v) R) m) (hD : ∀ v F' H', R.r F' v b → D.rt v H') :
    tSeq (tAsg (tLst (tCons (tCB (rListOf K) (tCons (tVar 0) tNil)) (tCons (tC (.int 0)) (tCons (tC (.int 0)) tNil)))) (gName i)) u D σ H := by
  refine ⟨_, hσ, a, _, rfl, .inl hS, fun l nl => ⟨by show 3 ≤ sizeLine; decide, fun p np => ?_⟩⟩
  have W0 : Wd (fun _ => none) H [] := ⟨fun _ _ e => (nomatch e), fun _ h => (nomatch h), List.nodup_nil⟩
  have W1 := W0.newF (o := .lst (ns.map V.int)) nl
  have W2 := W1.newO (o := .lst [.ref l, .int 0, .int 0]) np
  exact k (.ref p) _ (ns, 0, 0) (b, s') hm _ _ [(p, .lst [.ref l, .int 0, .int 0])] [] (SameR _) ⟨p, _, rfl, rfl, _, _, rfl, ⟨l, _, rfl, upd_same, paired_map V.int (fun _ => rfl) ns⟩, _, _, rfl, rfl, _, rfl, rfl⟩ W2 D
    fun v F' H' c' _ _ _ r => hD v F' H' r
end T

/-! T0: rules over the layer that it lacks: enumerate(tuple), sum(tuple), tuple * int at any count. -/
namespace T
open PySem L2 PySem.Spec PyProof.Rows
open AutoSeq1 (wpAny_loadPart')
theorem meets_enumerate_new1 {v : Value} {o : Obj} {H : Heap → Prop} (B : Begins v o H) :
    Meets (Builtin.«enumerate.__new__» ⟨[.type "enumerate", v], []⟩) (fun _ R s => H s.heap ∧
      R (.ok (.ret (.ref (s.heap.push o).objs.size))) { s with heap := (s.heap.push o).push { cls := .type "enumerate", data := .fields #[.none, .bool false, .ref s.heap.objs.size, rawInt 0, .none, .none] } }) :=
  .of_wp fun prog w A R s h => by
    obtain ⟨hp, g, d, tk, os⟩ := s; obtain ⟨h1, h⟩ := h
    have hsub := sub_enumerate
    have q1 : ∀ {A' : Around} {E : Value → Shared → Prop} {Q : Value → Shared → Prop}, Q (.ref hp.objs.size) ⟨hp.push o, g, d, tk, os⟩ → wpAny (model prog w) A' (pyIter v) Q E ⟨hp, g, d, tk, os⟩ :=
      fun q => B.iter prog w _ _ ⟨hp, g, d, tk, os⟩ _ h1 q
    wp_walk using q1
    refine wpAny_stack_any fun st => wpAny_pure ?_
    split
    · rename_i c _ _ _ _ _
      cases (c == Value.type "enumerate")
      · wp_walk using q1
        exact ⟨_, rfl, h⟩
      · wp_walk using q1
        exact ⟨_, rfl, h⟩
    · wp_walk using q1
      exact ⟨_, rfl, h⟩
section
variable {prog : Program} {w : World} {A : Around} {E : Value → Shared → Prop} {s : Shared}
theorem enum_begins1 {v : Value} {o : Obj} {H : Heap → Prop} {Q : Value → Shared → Prop} (B : Begins v o H) (h1 : H s.heap)
    (h : ∀ h', IsEnum h' (s.heap.objs.size + 1) s.heap.objs.size 0 .none → h'.get? s.heap.objs.size = some o → h'.objs.size = s.heap.objs.size + 2 →
      (∀ b o, s.heap.get? b = some o → h'.get? b = some o) → Q (.ref (s.heap.objs.size + 1)) { s with heap := h' }) :
    wpAny (model prog w) A (call (.type "enumerate") [v]) Q E s := by
  refine callType_new F.called_enumerate (by decide) (F.typeCall_enumerate_1 _) (F.newCall_enumerate_1 _) (fun obj => F.args_object_init_2 obj _) F.entry_enumerate_new
    (meets_enumerate_new1 B) ⟨h1, ?_⟩
  have hz : (s.heap.push o).objs.size = s.heap.objs.size + 1 := Heap.size_push ..
  show _ ∧ _
  rw [hz]
  have he : IsEnum ((s.heap.push o).push { cls := .type "enumerate", data := .fields #[.none, .bool false, .ref s.heap.objs.size, rawInt 0, .none, .none] }) (s.heap.objs.size + 1) s.heap.objs.size 0 .none := by
    have := Heap.get?_push_size (s.heap.push o) (o := { cls := .type "enumerate", data := .fields #[.none, .bool false, .ref s.heap.objs.size, rawInt 0, .none, .none] }) rfl
    rw [hz] at this; exact this
  refine ⟨⟨_, he, rfl⟩, h _ he (Heap.get?_push_of_some _ (Heap.get?_push_size _ B.free)) (by rw [Heap.size_push, hz]) fun b o x => Heap.get?_push_of_some _ (Heap.get?_push_of_some _ x)⟩
end
theorem wpAny_pyNext_enum_endT {prog : Program} {w : World} {A : Around} {E : Value → Shared → Prop} {s : Shared} {e it l : Addr} {i : Nat} {items : Array Value} {old : Value} {Q : Option Value → Shared → Prop} (hh : A.handled = none)
    (he : IsEnum s.heap e it i old) (hit : s.heap.IsTupleIter it l i) (hl : s.heap.IsTuple l items) (hx : items[i]? = none)
    (hQ : ∀ h', Heap.ExtBut it s.heap h' → Q none { s with heap := h' }) : wpAny (model prog w) A (pyNext (.ref e)) Q E s := by
  have hT : s.TypeIs (.ref e) "enumerate" := ⟨_, he, rfl⟩
  unfold pyNext
  refine wpAny_bind (wpAny_attempt (wpAny_callSpecial?_slot (name := Str.ofString "__next__") hT F.slot_enumerate_next
    (wpAny_call_entry F.slot_enumerate_next hT F.entry_enumerate_next ?_ (F.args_enumerate_next_1 _))))
  show wpAny _ _ (field (.ref e) 2 >>= _) _ _ _
  refine wpAny_bind (wpAny_field he rfl (x := .ref it) rfl ?_)
  refine wpAny_bind (wpAny_nextOf_tuple_end hh hit hl hx fun h' x he' hx' => ?_)
  obtain ⟨o, ho, hc⟩ := hx'
  refine wpAny_bind (wpAny_isInstance (T := "StopIteration") (b := true) ⟨o, ho, hc⟩ isSubtype_stop ?_)
  exact wpAny_pure (hQ _ he')
/-- the tuple at a, each item in a new pair with its place -/
def IteT (K : PySem.W.Frag) (a : Addr) : It :=
  ⟨fun i H => ∃ (xs : List V) (x : V), SqT K H a xs ∧ xs[i]? = some x, fun i H v H' => ∃ T x, v = .ref T ∧ H T = none ∧ H' = upd H T (.tup [.int (i : Nat), x]) ∧ ∀ xs, SqT K H a xs → xs[i]? = some x, fun i H => ∃ xs : List V, SqT K H a xs ∧ xs.length ≤ i⟩
theorem turn_enumT {P : Program} {w : World} {K : PySem.W.Frag} {elts : List Expr} {kk : Nat} {tpos : Pos} (a e it : Addr) :
    Turn P w K (.Tuple elts kk tpos) (IteT K a) [e, it] e (fun i h => (∃ old, IsEnum h e it ((i : Nat) : Int) old) ∧ h.IsTupleIter it a i ∧ e ≠ it) where
  mem := by simp
  obj := fun i h st b hb => by
    obtain ⟨⟨old, he⟩, ⟨o, ho, hc, hd⟩, _⟩ := st
    have e' : b = e ∨ b = it := by simpa using hb
    rcases e' with z | z
    · rw [z]; exact ⟨_, he, fun v q => nomatch q⟩
    · rw [z]; exact ⟨o, ho, fun v q => by rw [hd] at q; cases q⟩
  keep := fun i h h' st k => let ⟨⟨old, he⟩, hi, hne⟩ := st; ⟨⟨old, k e (by simp) _ he⟩, hi.at fun o q => k it (by simp) o q, hne⟩
  item := by
    intro X hP hw hK hc i pins s σ H E I hf st hg
    subst hP hw hK
    obtain ⟨⟨old, he⟩, hit, hne⟩ := st
    obtain ⟨xs, x, hq, hx⟩ := hg
    obtain ⟨its, rv, p, hz⟩ := I.tuple hq
    obtain ⟨u, hu, ru⟩ := rv.get hx
    have hel : e < s.heap.objs.size := Heap.lt_size he
    have hil : it < s.heap.objs.size := by obtain ⟨_, q, _⟩ := hit; exact Heap.lt_size q
    have hat : a ≠ it := by
      rintro rfl
      obtain ⟨o, ho, hc, _⟩ := hit
      obtain ⟨o', ho', hc', _⟩ := p
      rw [ho] at ho'; cases ho'; rw [hc] at hc'; simp at hc'
    have hae : e ≠ a := by
      rintro rfl
      obtain ⟨o', ho', hc', _⟩ := p
      rw [he] at ho'; cases ho'; simp at hc'
    have hlt : i < its.toArray.size := by
      have := (List.getElem?_eq_some_iff.mp hu).1
      simpa using this
    refine wpAny_pyNext_enum_itemD (Draws.tuple (prog := X.prog) (w := X.w) (A := X.A.in1) (I.ok.hd hc) it a hat its.toArray) he ⟨hit, p⟩ hlt hne (by simp [hne, hae]) fun u' h' tk hu' ho hit' hT hsz hk => ?_
    have eu : u' = u := by
      have h1 : its[i]? = some u' := by simpa using hu'
      rw [hu] at h1; exact (Option.some.inj h1).symm
    subst eu
    refine ⟨_, rfl, wpAny_letOwnedTupleGo_enum (s := { s with heap := h', toks := tk + 1 }) ho fun h'' he' sb => ?_⟩
    have hT2 : h''.get? s.heap.objs.size = some { cls := .type "tuple", data := .seq #[.int i tk, u'] } := (sb.2 _ (Nat.ne_of_gt hel)).trans hT
    have new : ObjOk X.prog X.w (upd H s.heap.objs.size (.tup [.int (i : Nat), x])) h'' s.heap.objs.size (.tup [.int (i : Nat), x]) :=
      ⟨by show 2 ≤ sizeLine; decide, [.int i tk, u'], .cons ⟨_, rfl⟩ (.cons ru .nil), ⟨_, hT2, rfl, _, rfl⟩⟩
    have I1 : Inv X pins σ (upd H s.heap.objs.size (.tup [.int (i : Nat), x])) { s with heap := h'', toks := tk + 1 } :=
      I.turnedNew (ch := [e, it]) (fun b ob hb q => (sb.2 b (fun z => hb (by simp [z]))).trans (hk b ob (fun z => hb (by simp [z])) (fun z => hb (by simp [z])) q)) hf (Nat.le_refl _) new
    refine ⟨.ref s.heap.objs.size, _, I1, rfl, ⟨_, x, rfl, I.hok.fresh (Nat.le_refl _), rfl, fun ys hy => by rw [I.tuple_inj hy hq]; exact hx⟩, ⟨⟨u', ?_⟩, hit'.1.at fun o q => (sb.2 it (Ne.symm hne)).trans q, hne⟩, fun b hb => ?_⟩
    · have e1 : ((i + 1 : Nat) : Int) = (i : Int) + 1 := by omega
      rw [e1]; exact he'
    · have hb' : b < s.heap.objs.size := by
        have e' : b = e ∨ b = it := by simpa using hb
        rcases e' with z | z
        · rw [z]; exact hel
        · rw [z]; exact hil
      rw [upd_ne (Nat.ne_of_lt hb')]
      exact (hf b hb).1
  done := by
    intro X hP hw hK hc i pins s σ H E I hf st hg
    subst hP hw hK
    obtain ⟨⟨old, he⟩, hit, hne⟩ := st
    obtain ⟨xs, hq, hx⟩ := hg
    obtain ⟨its, rv, p, hz⟩ := I.tuple hq
    obtain ⟨f0, f1, f2, f3, f4, f5⟩ := hf it (by simp)
    have hl := rv.length
    have hsz : its.toArray.size ≤ i := by simp; omega
    refine wpAny_pyNext_enum_endT (I.ok.hd hc) he hit p (by simp; simpa using hsz) fun h' eb => ⟨rfl, I.turned (t' := s.toks) (fun b o hb q => eb b o hb q) f0 f1 f3 f4 f5⟩
  self := fun A i s Q E st h => let ⟨⟨_, he⟩, _⟩ := st; wpAny_pyIter_enum he h
def iEnumT (K : PySem.W.Frag) (ta : TA) : TI := fun σ H R => ta σ H fun vs H1 => ∃ a xs, vs = [.ref a] ∧ SqT K H1 a xs ∧ R (IteT K a) H1
theorem pi_enumT {X : Cx} {e : Expr} {ta : TA} {p pos tpos : Pos} {elts : List Expr} {kk : Nat} (hg : Gl X "enumerate") (hm : X.mg "enumerate" = none) (ha : PA X [e] ta) (hs : starEach [e] X.env = [(false, eval e X.env)] := by rfl) :
    PI X (.Tuple elts kk tpos) (.Call (.Name "enumerate" p) [e] [] pos) (iEnumT X.K ta) := by
  refine ⟨fun pins s σ H R I h => ?_⟩
  refine Call_ (ld_blt I hg hm boot_enumerate (PyProof.Rows.callWith_type1 (thn (ha.run pos pins s σ H _ I h) fun us s1 ⟨vs, H1, I1, r1, q1⟩ => ?_) hs rfl))
  obtain ⟨a, xs, ex, hq, q⟩ := q1
  subst ex
  cases r1 with
  | cons r rr =>
    cases rr
    cases r
    obtain ⟨its, rv, p', hz⟩ := I1.tuple hq
    refine enum_begins1 (begins_tuple a its.toArray) p' fun h' he hit hsz hk => wpAny_pyIter_enum he ?_
    have I2 : Inv X pins σ H1 { s1 with heap := h' } := I1.kept (t' := s1.toks) hk
    refine ⟨s1.heap.objs.size + 1, [s1.heap.objs.size + 1, s1.heap.objs.size], _, _, H1, rfl, I2, turn_enumT a (s1.heap.objs.size + 1) s1.heap.objs.size, ⟨⟨.none, he⟩, ⟨_, hit, rfl, rfl⟩, Nat.succ_ne_self _⟩, fun b hb => ?_, q⟩
    have e' : b = s1.heap.objs.size + 1 ∨ b = s1.heap.objs.size := by simpa using hb
    have hle : s1.heap.objs.size ≤ b := by
      rcases e' with z | z
      · rw [z]; exact Nat.le_add_right _ _
      · rw [z]; exact Nat.le_refl _
    exact I1.fpOk hle (I1.hok.fresh hle)
theorem kpi_enumT {X : Cx} {K : PySem.W.Frag} {ex : Expr} {ta : TA} {p pos tpos : Pos} {elts : List Expr} {kk : Nat} (hg : Gl X "enumerate") (hm : X.mg "enumerate" = none) (ha : PA X [ex] ta) (e : X.K = K := by rfl) (hs : starEach [ex] X.env = [(false, eval ex X.env)] := by rfl) :
    PI X (.Tuple elts kk tpos) (.Call (.Name "enumerate" p) [ex] [] pos) (iEnumT K ta) := by subst e; exact pi_enumT hg hm ha hs
theorem walk_enumT {K : PySem.W.Frag} {a : Addr} {xs : List V} : Walk (IteT K a) xs.length (fun H => SqT K H a xs) (YPair (fun i => some (.int (i : Nat))) (fun i => xs[i]?)) := by
  refine ⟨fun i _ hi q => ⟨xs, xs[i], q, by simp [hi]⟩, fun _ q => ⟨xs, q, Nat.le_refl _⟩, fun i H v H' _ q y => ?_⟩
  obtain ⟨T, x, h1, h2, h3, h4⟩ := y
  exact ⟨T, .int (i : Nat), x, h1, h2, h3, rfl, h4 xs q⟩
theorem ei_enumT {S α : Type} {te : TE} {σ : L2.St} {F : Hp} {A : Ow S} {R : Rl α} {ml : M S (List α)} {K : PySem.W.Frag} (h : Ev te σ F A (rTup R) ml) : EvI (iEnumT K (tCons te tNil)) σ F A (rTh (arC rInt (arOne R))) (bnd ml fun xs => ret (enumL xs)) := fun s b s' hm F1 H c O sm ho W Q q => by
  obtain ⟨xs, s1, h1, hm⟩ := bnd_some hm
  obtain ⟨rfl, rfl⟩ := ret_some hm
  refine h s _ _ h1 F1 H c O sm ho W _ fun v F2 H2 c2 s2 o2 W2 r2 => ?_
  obtain ⟨p, vs, rfl, hp, rp⟩ := r2
  refine ⟨p, vs, rfl, SqT.of (W2.sub _ _ hp), q _ F2 H2 c2 s2 o2 W2 ?_⟩
  have hl := paired_len rp
  refine itr_pair (n := vs.length) (by rw [rngL_len, hl]; omega) (walk_enumT (K := K) (a := p) (xs := vs)) (fun F3 H3 s3 s4 => SqT.of (s4 _ _ (s3 _ _ hp))) (fun i v e hi => ?_) (fun i v e hi => paired_get rp e)
  cases e
  exact ⟨(i : Int), by rw [rngL_get 0 _ i (by omega)]; simp, rfl⟩
/-! sum(tuple) -/
def rSumT (K : PySem.W.Frag) : List V → Hp → VK → Prop := fun vs H Q => ∃ (a : Addr) (ns : List Int), vs = [V.ref a] ∧ SqT K H a (ns.map V.int) ∧ Q (.int ns.sum) H
theorem cr_sumT {X : Cx} (hc : X.calm = true) : CallR X (.builtin "sum") (rSumT X.K) := by
  intro pins s σ H vs us Q I r h
  obtain ⟨a, ns, rfl, hs, q⟩ := h
  obtain ⟨its, rv, hl, _⟩ := I.tuple hs
  rw [Vals.ref1 r]
  have hi := rv.ints
  obtain ⟨xs, hx⟩ := hi.allInts.items
  have hn : numsOf its.toArray.toList = ns := by rw [show its.toArray.toList = its from rfl, hi.numsOf]
  rw [hx] at hl hn
  rw [nums_intItems] at hn
  refine PySem.W.ktm_sumG (I.ok.hd hc) hl fun h' tk t' hk => ?_
  rw [preSum_eq, List.take_of_length_le (by simp), hn]
  exact ⟨.int _, H, I.kept hk, ⟨_, rfl⟩, q⟩
theorem kc_sumT {X : Cx} {K : PySem.W.Frag} (hc : X.calm = true) (e : X.K = K := by rfl) : CallR X (.builtin "sum") (rSumT K) := by subst e; exact cr_sumT hc
theorem vl_sumT {K : PySem.W.Frag} : VLc (rSumT K) (arOne (rTup rInt)) rInt (fun xs => some xs.sum) := fun F H O xs a c W ⟨v, e, p, vs, ev, hp, rp⟩ hf Q q => by
  cases hf
  exact ⟨p, a, by rw [e, ev], SqT.of (by rw [← vs_int rp]; exact W.sub _ _ hp), q _ F H (SameR _) W rfl⟩
/-! tuple * int -/
theorem tuple_mul1 (l : Addr) (items : Array Value) (n : Nat) (dd : Option Addr) (sl : Array (Option Value)) (x : Int) (u : Tok) (c0 : (decide (x < -(2 ^ 63)) || decide (x ≥ 2 ^ 63)) = false) (c1 : (items.isEmpty || x == 1) = true) :
    Meets (Builtin.«tuple.__mul__» ⟨[.ref l, .int x u], []⟩) (fun _ R s => s.heap.get? l = some { cls := .type "tuple", dict := dd, data := .seq items n, slots := sl } ∧
      R (.ok (.ret (Value.ref l))) s) :=
  .of_wp fun prog w A R s h => by
    obtain ⟨hp, g, d, tk, os⟩ := s
    obtain ⟨hl, h⟩ := h
    have f1 := AutoSeq1.idx_int
    wp_walk using wpAny_loadPart' hl
    repeat (first
      | (refine wpAny_ite_false (decide_eq_false (by rw [c0]; exact Bool.false_ne_true)) ?_; wp_walk using wpAny_loadPart' hl)
      | (refine wpAny_ite_true (decide_eq_true c1) ?_; wp_walk using wpAny_loadPart' hl))
    exact ⟨_, rfl, h⟩
def rRepT1 (K : PySem.W.Frag) : R2 := fun x y H Q => ∃ l xs, x = .ref l ∧ y = .int 1 ∧ SqT K H l xs ∧ Q (.ref l) H
theorem op_repT1 {X : Cx} : OpR X (binaryOp .Mult) (rRepT1 X.K) := by
  intro pins s σ H x y v u Q I rx ry h
  obtain ⟨l, xs, rfl, rfl, hT, q⟩ := h
  cases rx
  obtain ⟨t, rfl⟩ := ry
  obtain ⟨its, r, ⟨⟨cls, dd, data, sl⟩, ho, hc, n, hd⟩, hs⟩ := I.tuple hT
  simp only at hc hd
  subst hc hd
  refine wpAny_binaryOp_repeat_ref (T := "tuple") (U := "int") (by decide) ⟨_, ho, rfl⟩ (fun s' => typeIs_int s' 1 t) noFill_tuple_mul F.fills_int_mul F.slot_int_rmul repeat_tuple F.slot_int_index.lookup
    (call_meets F.slot_int_rmul (typeIs_int s 1 t) F.entry_int_rmul (F.args_int_rmul_2 _ _) (int_rmul_tuple 1 t l its.toArray n dd sl)
      ⟨ho, rfl, ⟨_, ho, rfl⟩, call_meets F.slot_tuple_mul ⟨_, ho, rfl⟩ F.entry_tuple_mul (F.args_tuple_mul_2 _ _) (tuple_mul1 l its.toArray n dd sl 1 t (by decide) (by simp)) ⟨ho, ?_⟩⟩)
  exact ⟨.ref l, H, I, rfl, q⟩
def rRepTT (K : PySem.W.Frag) : R2 := fun x y H Q => rRepT1 K x y H Q ∨ rRepT K x y H Q
theorem kop_repT {X : Cx} {K : PySem.W.Frag} (e : X.K = K := by rfl) : OpR X (binaryOp .Mult) (rRepTT K) := by subst e; exact op_repT1.or op_repT
def repT {α : Type} (xs : List α) (k : Int) : Option (List α) := match xs with
  | [] => none
  | x :: ys => if 1 ≤ k ∧ k < 1000 ∧ (x :: ys).length < 1000 then some (List.replicate k.toNat (x :: ys)).flatten else none
theorem vl_repT {α : Type} {R : Rl α} {K : PySem.W.Frag} : VL2 (rRepTT K) (rTup R) rInt (rTup R) repT := fun F H O x y a b c W ⟨p1, vs, ex, hp, rp⟩ hy hf Q q => by
  cases a with
  | nil => cases hf
  | cons x0 ys =>
    simp only [repT] at hf
    split at hf
    · rename_i h; cases hf
      have hne : vs ≠ [] := fun e => by subst e; cases rp
      by_cases h1 : b = 1
      · subst h1
        refine .inl ⟨p1, vs, ex, hy, SqT.of (W.sub _ _ hp), q _ F H (SameR _) W ⟨p1, vs, rfl, hp, ?_⟩⟩
        simpa using rp
      · refine .inr ⟨p1, b, vs, ex, hy, SqT.of (W.sub _ _ hp), hne, by omega, by omega, by rw [paired_len rp]; omega, fun p np => ?_⟩
        exact q _ _ _ (W.sameF np) (W.newF np) ⟨p, _, rfl, upd_same, paired_mono (fun _ _ => R.mono (W.sameF np)) (paired_rep rp _)⟩
    · cases hf
end T

/-! T7: more rules by values. -/
namespace T
open PySem L2
section
variable {S S' α β γ Ω : Type} {R : Rl α} {R' : Rl β} {U : Rl γ} {K : PySem.W.Frag} {σ : L2.St} {F : Hp} {A : Ow S} {te ta tb tc : TE} {u : TS} {P : Post Ω} {v : V} {j : Nat} {m : M S α}
theorem ri {F : Hp} (i : Int) : rInt.r F (.int i) i := rfl
theorem ev_neg {m : M S Int} (ha : Ev ta σ F A rInt m) : Ev (tUn (rU fun i => .int (-i)) ta) σ F A rInt (bnd m fun a => ret (-a)) := ev_un (fun F H x a h Q q => ⟨a, h, q _ rfl⟩) ha
theorem ev_ty {n : String} : Ev (tC (.ty n)) σ F A (rV (.ty n)) (ret ()) := ev_c fun _ => rfl
/-- x += e, ints, x told by its row -/
theorem b_augV {x0 : Int} {m : M S Int} {h : Int → Int → Int} {f : Int → S → Option Ω} (hr : rInt.r F v x0) (hv : σ[j]? = some (some v)) (he : Ev te σ F A rInt m) (k : ∀ y F', Same F F' → B u (σ.set j (some (.int (h x0 y)))) F' A P (f y)) :
    B (tSeq (tAug j te (ipI h)) u) σ F A P (bnd m f) := fun s w hm F1 H c O sm ho W D q => by
  obtain ⟨y, s1, h1, hm⟩ := bnd_some hm
  refine ⟨_, hv, he s y s1 h1 F1 H c O sm ho W _ fun z F2 H2 c2 sm2 o2 W2 r2 => ⟨x0, y, hr, r2, ?_⟩⟩
  exact k y F2 (sm.trans sm2) s1 w hm F2 H2 c2 O (SameR _) o2 W2 D (P.mono sm2 q)
theorem b_pass {f : S → Option Ω} (k : B u σ F A P f) : B (tSeq tNext u) σ F A P f := fun s w hm F1 H c O sm ho W D q => k s w hm F1 H c O sm ho W D q
/-! slices -/
theorem ep_none : EvP tNoPart σ F A (ret none : M S (Option Int)) := fun s b s' hm F1 H c O sm ho W Q q => by
  obtain ⟨rfl, rfl⟩ := ret_some hm
  exact q F1 H c (SameR _) ho W
theorem ep_some {m : M S Int} (h : Ev te σ F A rInt m) : EvP (tPart te) σ F A (bnd m fun x => ret (some x)) := fun s b s' hm F1 H c O sm ho W Q q => by
  obtain ⟨x, s1, h1, hm⟩ := bnd_some hm
  obtain ⟨rfl, rfl⟩ := ret_some hm
  exact h s x _ h1 F1 H c O sm ho W _ fun v F2 H2 c2 s2 o2 W2 r2 => ⟨x, r2, q F2 H2 c2 s2 o2 W2⟩
def cutV' (xs : List α) (lo hi : Option Int) : List α := (xs.drop (HT.sIx xs.length 0 lo)).take (HT.sIx xs.length xs.length hi - HT.sIx xs.length 0 lo)
theorem paired_drop {Q : V → α → Prop} : ∀ {vs : List V} {xs : List α} (n : Nat), Paired Q vs xs → Paired Q (vs.drop n) (xs.drop n)
  | _, _, 0, h => h
  | _, _, _ + 1, .nil => .nil
  | _, _, n + 1, .cons _ t => paired_drop n t
theorem paired_take {Q : V → α → Prop} : ∀ {vs : List V} {xs : List α} (n : Nat), Paired Q vs xs → Paired Q (vs.take n) (xs.take n)
  | _, _, 0, _ => .nil
  | _, _, _ + 1, .nil => .nil
  | _, _, n + 1, .cons r t => .cons r (paired_take n t)
theorem paired_cut {Q : V → α → Prop} {vs : List V} {xs : List α} (h : Paired Q vs xs) (lo hi : Option Int) : Paired Q (cutV vs lo hi) (cutV' xs lo hi) := by
  unfold cutV cutV'; rw [paired_len h]; exact paired_take _ (paired_drop _ h)
variable {tl th : TO} {ml mh : M S (Option Int)} {mx : M S (List α)}
theorem eo_slL (h : Ev te σ F A (rLst R) mx) (hl : EvP tl σ F A ml) (hh : EvP th σ F A mh) : EvO (tSl (rSlL K) te tl th) σ F A (oLst R) (bnd mx fun x => bnd ml fun lo => bnd mh fun hi => ret (cutV' x lo hi)) := fun s b s' hm F1 H c O sm ho W Q q => by
  obtain ⟨x, s1, h1, hm⟩ := bnd_some hm
  obtain ⟨lo, s2, h2, hm⟩ := bnd_some hm
  obtain ⟨hi, s3, h3, hm⟩ := bnd_some hm
  obtain ⟨rfl, rfl⟩ := ret_some hm
  refine h s x s1 h1 F1 H c O sm ho W _ fun v F2 H2 c2 sm2 o2 W2 ⟨p, vs, e, hp, rp⟩ => ?_
  refine hl s1 lo s2 h2 F2 H2 c2 O (sm.trans sm2) o2 W2 _ fun F3 H3 c3 sm3 o3 W3 => ?_
  refine hh s2 hi _ h3 F3 H3 c3 O ((sm.trans sm2).trans sm3) o3 W3 _ fun F4 H4 c4 sm4 o4 W4 => ?_
  have hp4 := sm4 _ _ (sm3 _ _ hp)
  exact ⟨p, vs, e, SqL.of (W4.sub _ _ hp4), fun l nl => q _ F4 _ c4 [(l, .lst (cutV vs lo hi))] ((sm2.trans sm3).trans sm4) o4 ⟨l, _, rfl, rfl, paired_mono (fun _ _ => R.mono (sm3.trans sm4)) (paired_cut rp lo hi)⟩ (W4.newO nl)⟩
theorem ev_slT (h : Ev te σ F A (rTup R) mx) (hl : EvP tl σ F A ml) (hh : EvP th σ F A mh) : Ev (tSl (rSlA K) te tl th) σ F A (rTup R) (bnd mx fun x => bnd ml fun lo => bnd mh fun hi => ret (cutV' x lo hi)) := fun s b s' hm F1 H c O sm ho W Q q => by
  obtain ⟨x, s1, h1, hm⟩ := bnd_some hm
  obtain ⟨lo, s2, h2, hm⟩ := bnd_some hm
  obtain ⟨hi, s3, h3, hm⟩ := bnd_some hm
  obtain ⟨rfl, rfl⟩ := ret_some hm
  refine h s x s1 h1 F1 H c O sm ho W _ fun v F2 H2 c2 sm2 o2 W2 ⟨p, vs, e, hp, rp⟩ => ?_
  refine hl s1 lo s2 h2 F2 H2 c2 O (sm.trans sm2) o2 W2 _ fun F3 H3 c3 sm3 o3 W3 => ?_
  refine hh s2 hi _ h3 F3 H3 c3 O ((sm.trans sm2).trans sm3) o3 W3 _ fun F4 H4 c4 sm4 o4 W4 => ?_
  have hp4 := sm4 _ _ (sm3 _ _ hp)
  have rp4 : Paired (R.r F4) vs x := paired_mono (fun _ _ => R.mono (sm3.trans sm4)) rp
  refine ⟨p, vs, e, SqT.of (W4.sub _ _ hp4), fun hw => ?_, fun _ l nl => ?_⟩
  · refine q _ F4 H4 c4 ((sm2.trans sm3).trans sm4) o4 W4 ⟨p, vs, rfl, hp4, ?_⟩
    have e1 : cutV' x lo hi = x := by
      unfold cutV'; rw [paired_len rp] at hw; rw [hw.1, hw.2]; simp
    rw [e1]; exact rp4
  · have sF := W4.sameF (o := .tup (cutV vs lo hi)) nl
    exact q _ _ _ c4 (((sm2.trans sm3).trans sm4).trans sF) (A.mono sF o4) (W4.newF nl) ⟨l, _, rfl, upd_same, paired_mono (fun _ _ => R.mono sF) (paired_cut rp4 lo hi)⟩
/-! lengths, texts -/
theorem vl_lenH {X : Ar α} {n : Nat} [hn : ArN X n] : VLc (rLen K) (arOne (rTh X)) rInt (fun _ => some (n : Int)) := fun F H O xs a c W ⟨v, e, p, vs, ev, hp, rp⟩ hf Q q => by
  cases hf
  exact ⟨p, vs, by rw [e, ev], .inr (SqT.of (W.sub _ _ hp)), q _ F H (SameR _) W (by show V.int _ = V.int _; rw [hn.len _ _ _ rp])⟩
abbrev rLenStr : List V → Hp → VK → Prop := fun xs H Q => ∃ z, xs = [.str z] ∧ z.length ≤ sizeLine ∧ Q (.int z.length) H
def lenS (z : Str) : Option Int := if z.length ≤ sizeLine then some (z.length : Int) else none
theorem vl_lenS : VLc rLenStr (arOne rStr) rInt lenS := fun F H O xs a c W ⟨v, e, ev⟩ hf Q q => by
  unfold lenS at hf; split at hf
  · rename_i h; cases hf; exact ⟨a, by rw [e, ev], h, q _ F H (SameR _) W rfl⟩
  · cases hf
def addS (x y : Str) : Option Str := if x.length + y.length ≤ sizeLine then some (x ++ y) else none
theorem vl_addS : VL2 (fun x y H Q => ∃ i j, x = .str i ∧ y = .str j ∧ i.length + j.length ≤ sizeLine ∧ Q (.str (i ++ j)) H) rStr rStr rStr addS := fun F H O x y a b c W hx hy hf Q q => by
  unfold addS at hf; split at hf
  · rename_i h; cases hf; exact ⟨a, b, hx, hy, h, q _ F H (SameR _) W rfl⟩
  · cases hf
/-! isinstance -/
theorem kit_bb {a b : String} {r : Bool} (h : kitB a b = some r) : PySem.W.kitOne K (.type a) (.type b) = some r := h
theorem isi_int {n : String} {bb : Bool} (h : kitB "int" n = some bb := by decide +kernel) : ∀ F H v x, Same F H → rInt.r F v x → ∃ t, TyX K H v (.type t) ∧ PySem.W.kitOne K (.type t) (.type n) = some bb := fun F H v x s r => ⟨"int", by rw [show v = .int x from r]; exact .base (.int _), kit_bb h⟩
theorem isi_bool {n : String} {bb : Bool} (h : kitB "bool" n = some bb := by decide +kernel) : ∀ F H v x, Same F H → rBool.r F v x → ∃ t, TyX K H v (.type t) ∧ PySem.W.kitOne K (.type t) (.type n) = some bb := fun F H v x s r => ⟨"bool", by rw [show v = .bl x from r]; exact .base (.bl _), kit_bb h⟩
theorem isi_str {n : String} {bb : Bool} (h : kitB "str" n = some bb := by decide +kernel) : ∀ F H v x, Same F H → rStr.r F v x → ∃ t, TyX K H v (.type t) ∧ PySem.W.kitOne K (.type t) (.type n) = some bb := fun F H v x s r => ⟨"str", by rw [show v = .str x from r]; exact .base (.str _), kit_bb h⟩
theorem isi_tuple {X : Ar α} {n : String} {bb : Bool} (h : kitB "tuple" n = some bb := by decide +kernel) : ∀ F H v x, Same F H → (rTh X).r F v x → ∃ t, TyX K H v (.type t) ∧ PySem.W.kitOne K (.type t) (.type n) = some bb := fun F H v x s ⟨p, vs, e, hp, _⟩ => ⟨"tuple", by rw [e]; exact .base (.tup (s _ _ hp)), kit_bb h⟩
theorem isi_tupleT {n : String} {bb : Bool} (h : kitB "tuple" n = some bb := by decide +kernel) : ∀ F H v x, Same F H → (rTup R).r F v x → ∃ t, TyX K H v (.type t) ∧ PySem.W.kitOne K (.type t) (.type n) = some bb := fun F H v x s ⟨p, vs, e, hp, _⟩ => ⟨"tuple", by rw [e]; exact .base (.tup (s _ _ hp)), kit_bb h⟩
theorem isi_list {n : String} {bb : Bool} (h : kitB "list" n = some bb := by decide +kernel) : ∀ F H v x, Same F H → (rLst R).r F v x → ∃ t, TyX K H v (.type t) ∧ PySem.W.kitOne K (.type t) (.type n) = some bb := fun F H v x s ⟨p, vs, e, hp, _⟩ => ⟨"list", by rw [e]; exact .base (.lst (s _ _ hp)), kit_bb h⟩
/-! chains of two comparisons -/
variable {r r' : R2} {f : α → β → Option Bool} {g : β → γ → Option Bool} {m' : M S β} {m'' : M S γ}
theorem ev_chain (hr : VL2 r R R' rBool f) (hr' : VL2 r' R' U rBool g) (ha : Ev ta σ F A R m) (hb : Ev tb σ F A R' m') (hc : Ev tc σ F A U m'') :
    Ev (tChain r r' ta tb tc) σ F A rBool (bnd m fun a => bnd m' fun b => bnd (lft (f a b)) fun d => bif d then (bnd m'' fun c => lft (g b c)) else ret false) := fun s b s' hm F1 H c O sm ho W Q q => by
  obtain ⟨a, s1, h1, hm⟩ := bnd_some hm
  obtain ⟨b1, s2, h2, hm⟩ := bnd_some hm
  obtain ⟨d, s3, h3, hm⟩ := bnd_some hm
  obtain ⟨h3a, e3⟩ := lft_some h3
  subst e3
  refine ha s a s1 h1 F1 H c O sm ho W _ fun x F2 H2 c2 sm2 o2 W2 r2 => ?_
  refine hb s1 b1 _ h2 F2 H2 c2 O (sm.trans sm2) o2 W2 _ fun y F3 H3 c3 sm3 o3 W3 r3 => ?_
  refine hr F3 H3 _ x y a b1 d W3 (R.mono sm3 r2) r3 h3a _ fun z F4 H4 sm4 W4 r4 => ⟨d, r4, ?_⟩
  cases d with
  | true =>
    simp only [cond_true] at hm
    obtain ⟨c1, s4, h4, hm⟩ := bnd_some hm
    obtain ⟨h5, rfl⟩ := lft_some hm
    refine iteT (hc s3 c1 _ h4 F4 H4 c3 O (((sm.trans sm2).trans sm3).trans sm4) (A.mono sm4 o3) W4 _ fun w F5 H5 c5 sm5 o5 W5 r5 => ?_)
    exact hr' F5 H5 _ y w b1 c1 b W5 (R'.mono (sm4.trans sm5) r3) r5 h5 Q fun v F6 H6 sm6 W6 r6 => q v F6 H6 c5 ((((sm2.trans sm3).trans sm4).trans sm5).trans sm6) (A.mono sm6 o5) W6 r6
  | false =>
    obtain ⟨rfl, rfl⟩ := ret_some hm
    exact iteF (q _ F4 H4 c3 ((sm2.trans sm3).trans sm4) (A.mono sm4 o3) W4 rfl)
end
section
variable {X : Cx} {K : PySem.W.Frag}
theorem pget_list : PGet X (rIxL X.K) := by
  intro pins s σ H x y v u Q I rx ry h
  obtain ⟨p, xs, i, z, rfl, rfl, hq, he, q⟩ := h
  cases rx
  obtain ⟨t, rfl⟩ := ry
  obtain ⟨its, r, pl, hz⟩ := I.list hq
  obtain ⟨j, h1, h2, h3, h4, h5⟩ := atI_get he
  obtain ⟨w, ew, rw'⟩ := r.get h2
  have hl := r.length
  have hn := line63
  have fin : EP X pins σ Q w s := ⟨z, H, I, rw', q⟩
  by_cases h0 : 0 ≤ i
  · have hj : i.toNat = j := by
      rw [seqIndex_of h0 h5] at h1
      exact Option.some.inj h1
    exact wpAny_getItem_list pl.isList h0 (by omega) (by rw [hj]; simpa using ew) fin
  · have hj : (i + (its.toArray.size : Int)).toNat = j := by
      rw [seqIndex_neg (by omega) h4] at h1
      rw [List.size_toArray, ← hl]
      exact Option.some.inj h1
    exact wpAny_getItem_list_neg pl.isList (by omega) (by rw [List.size_toArray] <;> omega) (by omega) (by rw [hj]; simpa using ew) fin
theorem kpget_list (e : X.K = K := by rfl) : PGet X (rIxL K) := by subst e; exact pget_list
theorem kpe_bm {o e : Expr} {es : List Expr} {to : TE} {t : TA} {name : Str} {apos cpos : Pos} {TT id : String} {r : V → List V → Hp → VK → Prop} (pa : PlainAttrs TT) (slot : Slot TT name id) (hty : typeOf (.builtin id) = pure (.type "method_descriptor")) (hm : MtM X id r) (ho : PE X o to) (ha : PA X (e :: es) t) (eK : X.K = K := by rfl)
    (hbase : attributeBase o name X.env (eval o X.env) = eval o X.env := by rfl)
    (hfew : ((backTo cpos (starEach (e :: es) X.env)).all (fun x => !x.1) && (backToKw cpos (keywordEach [] X.env)).all (fun x => x.1.isSome)
      && decide ((e :: es).length + ([] : List Keyword).length + (if ([] : List Keyword).isEmpty then 0 else 1) < 30)) = true := by rfl)
    (hline : (apos.endLine == cpos.line) = true := by rfl) (hs : starEach (e :: es) X.env = (false, eval e X.env) :: starEach es X.env := by rfl) (hplain : (backTo cpos (starEach es X.env)).any (·.1) = false := by rfl) :
    PE X (.Call (.Attribute o name apos) (e :: es) [] cpos) (tBM K TT r to t) := by subst eK; exact pe_bm pa slot hty hm ho ha hbase hfew hline hs hplain
end
end T

/-! T8: loops and joins where an owned thing is bound anew; unlike rows cut; lists unpacked; index; Pouring. -/
namespace T
open PySem L2
section
variable {S S0 S1 T' ι α β γ Z Ω ρ : Type} {R : Rl α} {R' : Rl β} {U : Rl γ} {K : PySem.W.Frag} {σ : L2.St} {F F' : Hp} {te ta tb : TE} {tt : TT} {t e u w : TS} {P : Post Ω} {v : V} {j : Nat}
def pNxI (A : ι → Ow S) (Sl : Z → ι → Hp → L2.St → Prop) : Post (Z × S) where
  p := fun w F O D => ∀ i F' H' c' σ', Same F F' → (A i).o F' w.2 c' → Wd F' H' (c' ++ O) → Sl w.1 i F' σ' → D.nx σ' H'
  mono := fun s h i F' H' c' σ' s' => h i F' H' c' σ' (s.trans s')
def pFlI (A : ι → Ow S) (Sl : Z → ι → Hp → L2.St → Prop) (Y : Ow S0) (R : Rl β) : Post (Fl (Z × S) (β × S0)) where
  p := fun w F O D => match w with
    | .nx q => (pNxI A Sl).p q F O D
    | .rt b => (pRt Y R).p b F O D
  mono := fun {w F F' O D} s h => by
    cases w with
    | nx q => exact (pNxI A Sl).mono s h
    | rt b => exact (pRt Y R).mono s h
theorem b_nxI {A' : Ow T'} {A : ι → Ow S} {π : T' → S} {Sl : Z → ι → Hp → L2.St → Prop} {z : Z} (i : ι) (pr : Pr A' (A i) π) (h : ∀ F', Same F F' → Sl z i F' σ) : B tNext σ F A' (pNxI A Sl) (fun s => some (z, π s)) := fun s w hm F1 H c O sm ho W D q => by
  cases hm
  obtain ⟨c3, o3, W3⟩ := Wd.pr pr ho W
  exact q i F1 H c3 σ (SameR _) o3 W3 (h F1 sm)
theorem b_nxFI {A' : Ow T'} {A : ι → Ow S} {Y : Ow S0} {π : T' → S} {Sl : Z → ι → Hp → L2.St → Prop} {z : Z} {V' : Rl β} (i : ι) (pr : Pr A' (A i) π) (h : ∀ F', Same F F' → Sl z i F' σ) : B tNext σ F A' (pFlI A Sl Y V') (fun s => some (.nx (z, π s))) := fun s w hm F1 H c O sm ho W D q => by
  cases hm
  obtain ⟨c3, o3, W3⟩ := Wd.pr pr ho W
  exact q i F1 H c3 σ (SameR _) o3 W3 (h F1 sm)
theorem b_rtFI {A' : Ow T'} {A : ι → Ow S} {Y : Ow S0} {Sl : Z → ι → Hp → L2.St → Prop} {V' : Rl β} {f : T' → Option (β × S0)} (h : B u σ F A' (pRt Y V') f) : B u σ F A' (pFlI A Sl Y V') (rtF f) := fun s w hm F1 H c O sm ho W D q => by
  unfold rtF at hm
  cases e1 : f s with
  | none => rw [e1] at hm; cases hm
  | some r => rw [e1] at hm; cases hm; exact h s r e1 F1 H c O sm ho W D q
theorem b_ifJI {A : ι → Ow S} {A0 : Ow S} {mb : M S Bool} {Sl : Z → ι → Hp → L2.St → Prop} {f g : S → Option (Z × S)} {h : Z → S → Option Ω} (hc : EvT tt σ F A0 mb) (ht : B t σ F A0 (pNxI A Sl) f) (he : B e σ F A0 (pNxI A Sl) g) (k : ∀ z i F' σ', Same F F' → Sl z i F' σ' → B w σ' F' (A i) P (h z)) :
    B (Evl.tCut (tIfS tt t e) w) σ F A0 P (bnd (bnd mb fun b => bif b then f else g) h) := fun s r hm F1 H c O sm ho W D q => by
  obtain ⟨z, s2, e0, hm⟩ := bnd_some hm
  obtain ⟨b, s1, h1, h2⟩ := bnd_some e0
  refine ⟨fun σ' H' => ∃ i F' c', Same F1 F' ∧ (A i).o F' s2 c' ∧ Wd F' H' (c' ++ O) ∧ Sl z i F' σ', ?_, fun σ' H' ⟨i, F', c', s', o', W', sl⟩ => k z i F' σ' (sm.trans s') sl s2 r hm F' H' c' O (SameR _) o' W' D (P.mono s' q)⟩
  refine hc s b s1 h1 F1 H c O sm ho W _ fun F2 H2 c2 sm2 o2 W2 => ?_
  cases b with
  | true => exact iteT (ht s1 (z, s2) h2 F2 H2 c2 O (sm.trans sm2) o2 W2 _ fun i F3 H3 c3 σ3 s3 o3 W3 sl => ⟨i, F3, c3, sm2.trans s3, o3, W3, sl⟩)
  | false => exact iteF (he s1 (z, s2) h2 F2 H2 c2 O (sm.trans sm2) o2 W2 _ fun i F3 H3 c3 σ3 s3 o3 W3 sl => ⟨i, F3, c3, sm2.trans s3, o3, W3, sl⟩)
theorem b_forI {A : ι → Ow S} (i0 : ι) {wi : TI} {g : TG} {f : Z → α → M S Z} {z0 : Z} {Sl : Z → ι → Hp → L2.St → Prop} {h : Z → S → Option Ω} {ml : M S (List α)} (hi : EvI wi σ F (A i0) R ml) (h0 : ∀ F', Same F F' → Sl z0 i0 F' σ)
    (hb : ∀ z i x v F' σ', Same F F' → Sl z i F' σ' → R.r F' v x → B (tGo g v t) σ' F' (A i) (pNxI A Sl) (f z x)) (k : ∀ z i F' σ', Same F F' → Sl z i F' σ' → B w σ' F' (A i) P (h z))
    (hS : ∀ z i F F' σ', Same F F' → Sl z i F σ' → Sl z i F' σ') : B (tSeq (tFor wi g t) w) σ F (A i0) P (bnd ml fun xs => bnd (fd f z0 xs) h) := fun s r hm F1 H c O sm ho W D q => by
  obtain ⟨xs, s1, h1, hm⟩ := bnd_some hm
  obtain ⟨zf, sf, h2, hm⟩ := bnd_some hm
  refine hi s xs s1 h1 F1 H c O sm ho W _ fun J F2 H2 c2 sm2 o2 W2 ⟨G, Y, wk, hG, hY⟩ => ?_
  refine for_it wk (fun n σ3 H3 => ∃ i z s3 F3 c3, Same F2 F3 ∧ (A i).o F3 s3 c3 ∧ Wd F3 H3 (c3 ++ O) ∧ Sl z i F3 σ3 ∧ fd f z (xs.drop n) s3 = some (zf, sf)) ?_ ?_ ?_ ?_
  · exact ⟨i0, z0, s1, F2, c2, SameR _, o2, W2, h0 F2 (sm.trans sm2), h2⟩
  · rintro n σ3 H3 _ ⟨i, z, s3, F3, c3, sm3, o3, W3, _⟩
    exact hG F3 H3 sm3 W3.sub
  · rintro n x σ3 H3 H4 hlt ⟨i, z, s3, F3, c3, sm3, o3, W3, sl, hfd⟩ y
    obtain ⟨F4, sm4, W4, a, ha, ra⟩ := hY n H3 x H4 hlt y F3 _ sm3 W3
    obtain ⟨z', s4, e1, e2⟩ := fd_cons ha hfd
    exact hb z i a x F4 σ3 ((sm.trans sm2).trans (sm3.trans sm4)) (hS _ _ _ _ _ sm4 sl) ra s3 (z', s4) e1 F4 H4 c3 O (SameR _) ((A i).mono sm4 o3) W4 _ fun i5 F5 H5 c5 σ5 s5 o5 W5 sl5 => ⟨i5, z', s4, F5, c5, sm3.trans (sm4.trans s5), o5, W5, sl5, e2⟩
  · rintro σ3 H3 ⟨i, z, s3, F3, c3, sm3, o3, W3, sl, hfd⟩
    rw [List.drop_of_length_le (Nat.le_refl _)] at hfd
    cases hfd
    exact k _ i F3 σ3 ((sm.trans sm2).trans sm3) sl _ r hm F3 H3 c3 O (SameR _) o3 W3 D (P.mono (sm2.trans sm3) q)
/-- an owned name is bound to a new owned thing: its old one goes -/
def swp {S S' T Ω : Type} (π : S → S') (k : S' × T → Option Ω) (t : T) : S → Option Ω := fun s => k (π s, t)
/-! unlike rows, cut -/
variable {A : Ow S}
structure Cut {α β : Type} (X : Ar α) (lo hi : Option Int) (Y : Ar β) (f : α → β) : Prop where
  cut : ∀ {F : Hp} {vs : List V} {x : α}, X.r F vs x → Y.r F (cutV vs lo hi) (f x) ∧ ¬ (HT.sIx vs.length 0 lo = 0 ∧ HT.sIx vs.length vs.length hi = vs.length)
theorem ev_slH {X : Ar α} {Y : Ar β} {f : α → β} {lo hi : Option Int} {tl th : TO} {m : M S α} (hc : Cut X lo hi Y f) (h : Ev te σ F A (rTh X) m) (hl : ∀ {F}, EvP tl σ F A (ret lo)) (hh : ∀ {F}, EvP th σ F A (ret hi)) : Ev (tSl (rSlA K) te tl th) σ F A (rTh Y) (bnd m fun x => ret (f x)) := fun s b s' hm F1 H c O sm ho W Q q => by
  obtain ⟨x, s1, h1, hm⟩ := bnd_some hm
  obtain ⟨rfl, rfl⟩ := ret_some hm
  refine h s x _ h1 F1 H c O sm ho W _ fun v F2 H2 c2 sm2 o2 W2 ⟨p, vs, e, hp, rp⟩ => ?_
  refine hl (F := F2) _ lo _ rfl F2 H2 c2 O (SameR _) o2 W2 _ fun F3 H3 c3 sm3 o3 W3 => ?_
  refine hh (F := F3) _ hi _ rfl F3 H3 c3 O (SameR _) o3 W3 _ fun F4 H4 c4 sm4 o4 W4 => ?_
  obtain ⟨r1, nw⟩ := hc.cut rp
  have sF := fun l nl => W4.sameF (p := l) (o := .tup (cutV vs lo hi)) nl
  exact ⟨p, vs, e, SqT.of (W4.sub _ _ (sm4 _ _ (sm3 _ _ hp))), fun hw => (nw hw).elim, fun _ l nl => q _ _ _ c4 (((sm2.trans sm3).trans sm4).trans (sF l nl)) (A.mono (sF l nl) o4) (W4.newF nl) ⟨l, _, rfl, upd_same, Y.mono ((sm3.trans sm4).trans (sF l nl)) r1⟩⟩
/-! a list of so many, unpacked -/
theorem kpg_unl {X : Cx} {es : List Expr} {k : Nat} {t : TGs} {n : Nat} {pos : Pos} (hc : X.calm = true) (h : PGs X es t) (e : X.K = K := by rfl)
    (hn : (assignEach es X.env).length = n := by rfl) (hst : (assignEach es X.env).findIdx? (·.1) = none := by rfl) : PG X (.Tuple es k pos) (gUnl K n t) := by subst e; exact pg_unl hc h hn hst
variable {R3 : Rl γ} {δ ε : Type} {R4 : Rl δ} {R5 : Rl ε}
theorem go_l2 {i j : Nat} {w : L2.St} {x : α × β} (h : (rLh (arC R (arOne R'))).r F v x) : Go (gUnl K 2 (gCons (gName i) (gCons (gName j) gNil))) v w F (fun σ2 => ∃ v1 v2, R.r F v1 x.1 ∧ R'.r F v2 x.2 ∧ σ2 = (w.set i (some v1)).set j (some v2)) := fun F1 H O sm W Q q => by
  obtain ⟨p, vs, rfl, hp, v1, _, rfl, r1, v2, rfl, r2⟩ := h
  exact ⟨p, _, rfl, SqL.of (W.sub _ _ (sm _ _ hp)), rfl, v1, _, rfl, v2, _, rfl, rfl, q _ ⟨v1, v2, r1, r2, rfl⟩⟩
theorem go_l3 {i j k : Nat} {w : L2.St} {x : α × β × γ} (h : (rLh (arC R (arC R' (arOne R3)))).r F v x) : Go (gUnl K 3 (gCons (gName i) (gCons (gName j) (gCons (gName k) gNil)))) v w F
    (fun σ2 => ∃ v1 v2 v3, R.r F v1 x.1 ∧ R'.r F v2 x.2.1 ∧ R3.r F v3 x.2.2 ∧ σ2 = ((w.set i (some v1)).set j (some v2)).set k (some v3)) := fun F1 H O sm W Q q => by
  obtain ⟨p, vs, rfl, hp, v1, _, rfl, r1, v2, _, rfl, r2, v3, rfl, r3⟩ := h
  exact ⟨p, _, rfl, SqL.of (W.sub _ _ (sm _ _ hp)), rfl, v1, _, rfl, v2, _, rfl, v3, _, rfl, rfl, q _ ⟨v1, v2, v3, r1, r2, r3, rfl⟩⟩
/-! xs.index(y), xs.count(y) -/
def idxO {α : Type} [DecidableEq α] (xs : List α) (y : α) : Option Int := (xs.findIdx? fun x => decide (x = y)).map fun (n : Nat) => (n : Int)
theorem mt_indexM {X : Cx} (e : X.K = K := by rfl) : MtR X "list.index" (rIndex K) := by subst e; exact mt_index
theorem kpe_bmR {X : Cx} {o e : Expr} {es : List Expr} {to : TE} {t : TA} {name : Str} {apos cpos : Pos} {TT id : String} {r : V → List V → Hp → VK → Prop} (pa : PlainAttrs TT) (slot : Slot TT name id) (hty : typeOf (.builtin id) = pure (.type "method_descriptor")) (hm : MtR X id r) (ho : PE X o to) (ha : PA X (e :: es) t) (eK : X.K = K := by rfl)
    (hbase : attributeBase o name X.env (eval o X.env) = eval o X.env := by rfl)
    (hfew : ((backTo cpos (starEach (e :: es) X.env)).all (fun x => !x.1) && (backToKw cpos (keywordEach [] X.env)).all (fun x => x.1.isSome)
      && decide ((e :: es).length + ([] : List Keyword).length + (if ([] : List Keyword).isEmpty then 0 else 1) < 30)) = true := by rfl)
    (hline : (apos.endLine == cpos.line) = true := by rfl) (hs : starEach (e :: es) X.env = (false, eval e X.env) :: starEach es X.env := by rfl) (hplain : (backTo cpos (starEach es X.env)).any (·.1) = false := by rfl) :
    PE X (.Call (.Attribute o name apos) (e :: es) [] cpos) (tBM K TT r to t) := by subst eK; exact pe_bm pa slot hty hm ho ha hbase hfew hline hs hplain
theorem vs_of {f : α → V} (hR : ∀ F v x, R.r F v x → v = f x) {vs : List V} {xs : List α} (rp : Paired (R.r F) vs xs) : vs = xs.map f := by
  induction rp with
  | nil => rfl
  | cons r t ih => rw [hR _ _ _ r, ih]; rfl
theorem ev_index [DecidableEq α] {f : α → V} (hR : ∀ F v x, R.r F v x → v = f x) (hf : ∀ x, flatV (f x) = true) (he : ∀ a b, eqV (f a) (f b) = decide (a = b)) {mx : M S (List α)} {my : M S α} (h : Ev ta σ F A (rLst R) mx) (h' : Ev tb σ F A R my) :
    Ev (tBM K "list" (rIndex K) ta (tCons tb tNil)) σ F A rInt (bnd mx fun xs => bnd my fun y => lft (idxO xs y)) := fun s b s' hm F1 H c O sm ho W Q q => by
  obtain ⟨xs, s1, h1, hm⟩ := bnd_some hm
  obtain ⟨y, s2, h2, hm⟩ := bnd_some hm
  obtain ⟨h3, rfl⟩ := lft_some hm
  refine h s xs s1 h1 F1 H c O sm ho W _ fun v F2 H2 c2 sm2 o2 W2 ⟨p, vs, e, hp, rp⟩ => ⟨by rw [e]; exact .inl ⟨rfl, vs, SqL.of (W2.sub _ _ hp)⟩, ?_⟩
  refine h' s1 y _ h2 F2 H2 c2 O (sm.trans sm2) o2 W2 _ fun u F3 H3 c3 sm3 o3 W3 r3 => ?_
  have e1 : vs = xs.map f := vs_of hR rp
  unfold idxO at h3
  cases ej : xs.findIdx? (fun x => decide (x = y)) with
  | none => rw [ej] at h3; cases h3
  | some n =>
    rw [ej] at h3; cases h3
    obtain ⟨hn, hyes, hno⟩ := List.findIdx?_eq_some_iff_getElem.mp ej
    refine ⟨p, vs, u, n, f xs[n], e, rfl, SqL.of (W3.sub _ _ (sm3 _ _ hp)), by rw [hR _ _ _ r3]; exact hf y, by rw [e1, List.all_map]; exact List.all_eq_true.mpr fun z _ => hf z, ?_, ?_, fun k z' hk hz => ?_, q _ F3 H3 c3 (sm2.trans sm3) o3 W3 rfl⟩
    · rw [e1]; simp [hn]
    · rw [hR _ _ _ r3, he]; exact hyes
    · rw [e1] at hz
      have hk2 : k < xs.length := by omega
      simp [hk2] at hz
      rw [← hz, hR _ _ _ r3, he]
      simpa using hno k hk
theorem eqV_str (a b : Str) : eqV (.str a) (.str b) = decide (a = b) := by
  show (a == b) = decide (a = b)
  by_cases h : a = b <;> simp [h]
theorem eqV_bl (a b : Bool) : eqV (.bl a) (.bl b) = decide (a = b) := by cases a <;> cases b <;> rfl
theorem ev_indexS {mx : M S (List Str)} {my : M S Str} (h : Ev ta σ F A (rLst rStr) mx) (h' : Ev tb σ F A rStr my) : Ev (tBM K "list" (rIndex K) ta (tCons tb tNil)) σ F A rInt (bnd mx fun xs => bnd my fun y => lft (idxO xs y)) :=
  ev_index (f := V.str) (fun _ _ _ h => h) (fun _ => rfl) eqV_str h h'
theorem ev_indexI {mx : M S (List Int)} {my : M S Int} (h : Ev ta σ F A (rLst rInt) mx) (h' : Ev tb σ F A rInt my) : Ev (tBM K "list" (rIndex K) ta (tCons tb tNil)) σ F A rInt (bnd mx fun xs => bnd my fun y => lft (idxO xs y)) :=
  ev_index (f := V.int) (fun _ _ _ h => h) (fun _ => rfl) (fun a b => rfl) h h'
theorem ev_indexB {mx : M S (List Bool)} {my : M S Bool} (h : Ev ta σ F A (rLst rBool) mx) (h' : Ev tb σ F A rBool my) : Ev (tBM K "list" (rIndex K) ta (tCons tb tNil)) σ F A rInt (bnd mx fun xs => bnd my fun y => lft (idxO xs y)) :=
  ev_index (f := V.bl) (fun _ _ _ h => h) (fun _ => rfl) eqV_bl h h'
end
/-! Pouring -/
abbrev Pour := List Int × Int
def oPour (C : Addr) (v : V) : Ow Pour where
  o := fun F s c => ∃ p dx l vs, v = .ref p ∧ c = [(p, .ins C dx [("later", .ref l), ("ground", .int s.2)]), (l, .lst vs)] ∧ Paired (rInt.r F) vs s.1
  mono := fun s ⟨p, dx, l, vs, e, h, r⟩ => ⟨p, dx, l, vs, e, h, paired_mono (fun _ _ => rInt.mono s) r⟩
structure PourT (K : PySem.W.Frag) (C : Addr) : Prop where
  cl : Cls K C
  nL : NoAttr K C "later"
  nG : NoAttr K C "ground"
section
variable {S α β Ω : Type} {K : PySem.W.Frag} {C : Addr} {σ : L2.St} {F : Hp} {A : Ow S} {v : V} {j : Nat} {g : S → Pour} {p : S → Pour → S} {te : TE}
theorem emb_pour {F H : Hp} {s : S} {c O : Ch} (e : Emb A (oPour C v) g p) (ho : A.o F s c) (W : Wd F H (c ++ O)) : ∃ a dx l vs c2, v = .ref a ∧ Paired (rInt.r F) vs (g s).1 ∧ Wd F H ((a, .ins C dx [("later", .ref l), ("ground", .int (g s).2)]) :: (l, .lst vs) :: (c2 ++ O)) := by
  obtain ⟨c1, c2, pm, ⟨a, dx, l, vs, e1, rfl, rp⟩, k⟩ := e.split ho
  exact ⟨a, dx, l, vs, c2, e1, rp, W.perm (pm.append_right O)⟩
/-- pouring.ground -/
theorem ev_pground (T : PourT K C) (hv : σ[j]? = some (some v)) (e : Emb A (oPour C v) g p) : Ev (tFld K (tVar j) "ground") σ F A rInt (gtL g fun s => some s.2) := fun s b s' hm F1 H c O sm ho W Q q => by
  obtain ⟨h2, rfl⟩ := gtL_some hm
  cases h2
  obtain ⟨a, dx, l, vs, c2, rfl, rp, W2⟩ := emb_pour e ho W
  exact ⟨_, hv, a, C, dx, _, _, rfl, W2.hd, T.cl, T.nG, rfl, q _ F1 H c (SameR _) ho W rfl⟩
/-- tuple(pouring.later) -/
theorem ev_plater (T : PourT K C) (hv : σ[j]? = some (some v)) (e : Emb A (oPour C v) g p) : Ev (tCB (rTupleOf K) (tCons (tFld K (tVar j) "later") tNil)) σ F A (rTup rInt) (gtL g fun s => some s.1) := fun s b s' hm F1 H c O sm ho W Q q => by
  obtain ⟨h2, rfl⟩ := gtL_some hm
  cases h2
  obtain ⟨a, dx, l, vs, c2, rfl, rp, W2⟩ := emb_pour e ho W
  refine ⟨_, hv, a, C, dx, _, _, rfl, W2.hd, T.cl, T.nL, rfl, l, vs, rfl, .inl ⟨SqL.of W2.tl.hd, fun q' nq => ?_⟩⟩
  exact q _ _ _ c (W.sameF nq) (A.mono (W.sameF nq) ho) (W.newF nq) ⟨q', vs, rfl, upd_same, paired_mono (fun _ _ => rInt.mono (W.sameF nq)) rp⟩
/-- Pouring(n): __init__'s promise -/
def spPourInit (C : Addr) : Sp := fun vs H Q _ => ∃ (p dx : Addr) (F : Hp) (O : Ch) (n : Int) (b : List Int), vs = [.ref p, .int n] ∧ Wd F H ((p, .ins C dx []) :: O) ∧ repL [0] n = some b ∧
  ∀ (H' : Hp) (cb : Ch), (oPour C (.ref p)).o F (b, 0) cb → Wd F H' (cb ++ O) → Q .non H'
def pourNew (n : Int) : Option Pour := (repL [0] n).map fun b => (b, 0)
theorem eo_pour {E : XK} {m : M S Int} (h : Ev te σ F A rInt m) : EvO (tMake C (spPourInit C) [] E (tCons te tNil)) σ F A (oPour C) (bnd m fun n => lft (pourNew n)) := fun s b s' hm F1 H c O sm ho W Q q => by
  obtain ⟨n, s1, h1, hm⟩ := bnd_some hm
  obtain ⟨h2, rfl⟩ := lft_some hm
  unfold pourNew at h2
  cases e1 : repL [(0 : Int)] n with
  | none => rw [e1] at h2; cases h2
  | some l =>
    rw [e1] at h2; cases h2
    refine h s n _ h1 F1 H c O sm ho W _ fun v F2 H2 c2 sm2 o2 W2 r2 => fun x dx nx ndx ne => ?_
    have W3 : Wd F2 (upd (upd H2 dx (.own x)) x (.ins C dx [])) ((x, .ins C dx []) :: (c2 ++ O)) := (W2.junk ndx).newO (by rw [upd_ne (Ne.symm ne)]; exact nx)
    exact ⟨x, dx, F2, _, n, l, by rw [show v = .int n from r2]; rfl, W3, e1, fun H' cb ob W' => ⟨rfl, q _ F2 H' c2 cb sm2 o2 ob W'⟩⟩
def mPourGive (t : Option Int) (a : Int) : M Pour Unit := fun s => match t with
  | none => some ((), (s.1, s.2 + a))
  | some k => (atI s.1 k).bind fun y => (setI s.1 k (y + a)).map fun l => ((), (l, s.2))
abbrev spPourGive (C : Addr) : Sp := spS (fun v => arC (rV v) (arC (rOpt rInt) (arOne rInt))) (oPour C) rNone (fun x => mPourGive x.2.1 x.2.2)
/-- a method of an owned object whose head is an instance -/
structure InsHd {T : Type} (Bf : V → Ow T) (C : Addr) (m : Str) : Prop where
  hd : ∀ {F : Hp} {v : V} {s : T} {c : Ch}, (Bf v).o F s c → ∃ p dx fs rest, v = .ref p ∧ c = (p, .ins C dx fs) :: rest ∧ fs.lookup m = none
theorem hd_pour (m : Str) (h1 : ("later" : Str) ≠ m := by decide +kernel) (h2 : ("ground" : Str) ≠ m := by decide +kernel) : InsHd (oPour C) C m := ⟨fun ⟨p, dx, l, vs, e, h, _⟩ => ⟨p, dx, _, _, e, h, by
  rw [List.lookup_cons, List.lookup_cons]
  have a1 : (m == "later") = false := by rw [beq_eq_false_iff_ne]; exact fun e => h1 e.symm
  have a2 : (m == "ground") = false := by rw [beq_eq_false_iff_ne]; exact fun e => h2 e.symm
  rw [a1, a2]; rfl⟩⟩
theorem ev_methS {T γ : Type} {mn : Str} {X : Ar α} {Bf : V → Ow T} {U : Rl γ} {f : α → M T γ} {E : XK} {g : S → T} {p : S → T → S} {ar : TA} {ma : M S α} (hh : InsHd Bf C mn) (hv : σ[j]? = some (some v)) (e : Emb A (Bf v) g p) (h : EvA ar σ F A X ma) :
    Ev (tMeth C mn (spS (fun v => arC (rV v) X) Bf U (fun x => f x.2)) [] E (tVar j) ar) σ F A U (bnd ma fun x => zm g p (f x)) := fun s b s' hm F1 H c O sm ho W Q q => by
  obtain ⟨xs, s1, h1, hm⟩ := bnd_some hm
  obtain ⟨t, h2, rfl⟩ := zm_some hm
  obtain ⟨c3, c4, pm, ob, k⟩ := e.split ho
  obtain ⟨p0, dx, fs, rest, rfl, rfl, hl⟩ := hh.hd ob
  have W0 : Wd F1 H ((p0, .ins C dx fs) :: (rest ++ (c4 ++ O))) := by
    refine W.perm ((pm.append_right O).trans ?_)
    simp
  refine ⟨_, hv, p0, dx, fs, rfl, W0.hd, hl, ?_⟩
  refine h s _ _ h1 F1 H c O sm ho W _ fun vs F2 H2 c2 s2 o2 W2 r2 => ?_
  obtain ⟨c3', c4', pm', ob', k'⟩ := e.split o2
  rw [List.append_nil]
  refine ⟨.ref p0, F2, c4' ++ O, c3', ((), xs), g s1, b, t, ⟨_, _, rfl, rfl, r2⟩, ob', W2.perm ?_, h2, fun v F3 H3 c5 s3 o3 W3 r3 => ?_⟩
  · rw [← List.append_assoc]; exact pm'.append_right O
  · obtain ⟨c', oc, pm2⟩ := k' F3 t c5 s3 o3
    refine q v F3 H3 c' (s2.trans s3) oc (W3.perm ?_) r3
    rw [← List.append_assoc]; exact (pm2.append_right O).symm
end
end T

/-! T9: names bound anew to owned things; known classes and methods. -/
namespace T
open PySem L2
section
variable {S S' T' U' α β Ω : Type} {σ : L2.St} {F : Hp} {te : TE} {u : TS} {P : Post Ω}
structure Rpl (A A' : Ow S) (B' : Ow T') (p : S → T' → S) : Prop where
  rp : ∀ {F F' : Hp} {s : S} {t : T'} {c cb : Ch}, Same F F' → A.o F s c → B'.o F' t cb → ∃ c' r, A'.o F' (p s t) c' ∧ (cb ++ c).Perm (c' ++ r)
theorem rpl_0 {A : Ow T'} {B' : Ow T'} : Rpl A B' B' (fun _ t => t) := ⟨fun {F F' s t c cb} sm ha hb => ⟨cb, c, hb, List.Perm.refl _⟩⟩
theorem rpl_r {A : Ow S} {B : Ow T'} {B' : Ow T'} : Rpl (star A B) (star A B') B' (fun s t => (s.1, t)) := ⟨fun {F F' s t c cb} sm ⟨c1, c2, e, a, b⟩ hb => ⟨c1 ++ cb, c2, ⟨c1, cb, rfl, A.mono sm a, hb⟩, by
  rw [e, ← List.append_assoc]; exact List.perm_append_comm.append_right c2⟩⟩
theorem rpl_l {A A' : Ow S} {C : Ow U'} {B' : Ow T'} {p : S → T' → S} (h : Rpl A A' B' p) : Rpl (star A C) (star A' C) B' (fun s t => (p s.1 t, s.2)) := ⟨fun {F F' s t c cb} sm ⟨c1, c2, e, a, b⟩ hb => by
  obtain ⟨c', r, h1, pm⟩ := h.rp sm a hb
  refine ⟨c' ++ c2, r, ⟨c', c2, rfl, h1, C.mono sm b⟩, ?_⟩
  rw [e, ← List.append_assoc]
  refine (pm.append_right c2).trans ?_
  rw [List.append_assoc, List.append_assoc]
  exact List.perm_append_comm.append_left c'⟩
def rb {S T Ω : Type} (p : S → T → S) (f : S → Option Ω) (x : T) : S → Option Ω := fun s => f (p s x)
theorem b_rb {i : Nat} {A : Ow S} {A' : V → Ow S} {Bf : V → Ow T'} {p : S → T' → S} {m : M S T'} {f : S → Option Ω} (he : EvO te σ F A Bf m) (hr : ∀ v, Rpl A (A' v) (Bf v) p) (k : ∀ v F', Same F F' → B u (σ.set i (some v)) F' (A' v) P f) :
    B (tSeq (tAsg te (gName i)) u) σ F A P (bnd m (rb p f)) := fun s w hm F1 H c O sm ho W D q => by
  obtain ⟨x, s1, h1, hm⟩ := bnd_some hm
  refine he s x s1 h1 F1 H c O sm ho W _ fun v F2 H2 c2 cb s2 o2 ob W2 => ?_
  obtain ⟨c', r, h2, pm⟩ := (hr v).rp (SameR _) o2 ob
  refine k v F2 (sm.trans s2) (p s1 x) w hm F2 H2 c' O (SameR _) h2 ?_ D (P.mono s2 q)
  have W3 : Wd F2 H2 ((c' ++ r) ++ O) := W2.perm (by rw [← List.append_assoc]; exact pm.append_right O)
  exact W3.sublist (List.Sublist.append (List.sublist_append_left c' r) (List.Sublist.refl O))
end
/-- x + e, x owned -/
theorem eo_catO {S α : Type} {R : Rl α} {σ : L2.St} {F : Hp} {A : Ow S} {tb : TE} {v : V} {j : Nat} {g : S → List α} {p : S → List α → S} {m : M S (List α)} (hv : σ[j]? = some (some v)) (e : Emb A (oLst R v) g p) (hb : Ev tb σ F A (rLst R) m) :
    EvO (tOp rCat (tVar j) tb) σ F A (oLst R) (bnd m fun ys => gtL g fun xs => catL xs ys) := fun s b s' hm F1 H c O sm ho W Q q => by
  obtain ⟨ys, s1, h1, hm⟩ := bnd_some hm
  obtain ⟨h2, e2⟩ := gtL_some hm
  subst e2
  obtain ⟨rfl, hl⟩ := catL_some h2
  refine ⟨v, hv, hb s ys _ h1 F1 H c O sm ho W _ fun y F2 H2 c2 sm2 o2 W2 ⟨p2, ws, ey, hq, rq⟩ => ?_⟩
  obtain ⟨l, vs, c3, e1, rp, W3, k⟩ := emb_list e o2 W2
  refine ⟨l, p2, vs, ws, e1, ey, W3.hd, W2.sub _ _ hq, by rw [paired_len rp, paired_len rq]; exact Nat.le_of_lt (lim_le hl), fun l' nl => ?_⟩
  exact q _ F2 _ c2 [(l', .lst (vs ++ ws))] sm2 o2 ⟨l', _, rfl, rfl, paired_app rp rq⟩ (W2.newO nl)
/-! known classes and methods -/
structure KnC (P : Program) (w : World) (K : PySem.W.Frag) (mg : Str → Option Value) (base : Heap) (CX : CXT) (k : Nat) (x : Str) (C : Addr) (ps : List Str) (sp : Sp) : Prop where
  mgC : mg x = some (.ref C)
  ex : ∃ f fd, Mk K C f ∧ Binds K fd ps [] ∧ FnOk P w K mg base CX k f fd ps sp
structure KnM (P : Program) (w : World) (K : PySem.W.Frag) (mg : Str → Option Value) (base : Heap) (CX : CXT) (k : Nat) (m : Str) (C : Addr) (ps : List Str) (sp : Sp) : Prop where
  cl : Cls K C
  ex : ∃ f fd, Meth K C m f ∧ Binds K fd ps [] ∧ FnOk P w K mg base CX k f fd ps sp
section
variable {X : Cx} {k j : Nat} {x m : Str} {C : Addr} {ps : List Str} {sp : Sp} {p pos apos : Pos} {e o : Expr} {es : List Expr} {ta : TE} {t : TA}
theorem pe_knC (h : KnC X.prog X.w X.K X.mg X.base CX0 j x C ps sp) (hr : Room k X.A) (hj : j + 1 ≤ k) (hg : Gl X x) (ha : PA X (e :: es) t) (hdb : (x == ("__debug__" : Str)) = false := by decide)
    (he : starEach (e :: es) X.env = (false, eval e X.env) :: starEach es X.env := by rfl) (hpl : (backTo pos (starEach es X.env)).any (·.1) = false := by rfl) : PE X (.Call (.Name x p) (e :: es) [] pos) (tMake C sp [] E0 t) := by
  obtain ⟨f, fd, h1, h2, h3⟩ := h.ex
  exact pe_make h1 h3 (hr.mono hj) hg h.mgC h2 .nil pass0 ha hdb he hpl
theorem pe_knM {pl : Sem Bool} (ho : PE X o ta) (h : KnM X.prog X.w X.K X.mg X.base CX0 j m C ps sp) (hr : Room k X.A) (hj : j ≤ k) (ha : PA X (e :: es) t)
    (hst : starEach (e :: es) X.env = (false, eval e X.env) :: starEach es X.env := by rfl) (hpl : (backTo pos (starEach es X.env)).any (·.1) = false := by rfl)
    (ht : eval (.Call (.Attribute o m apos) (e :: es) [] pos) X.env = (do
      let ov ← eval o X.env
      standAt apos.atName
      let (f, first) ← holding [ov] (getMethod ov m pl)
      callWith pos f first (backTo pos (starEach (e :: es) X.env)) (backToKw pos (keywordEach [] X.env))) := by rfl) :
    PE X (.Call (.Attribute o m apos) (e :: es) [] pos) (tMeth C m sp [] E0 ta t) := by
  obtain ⟨f, fd, h1, h2, h3⟩ := h.ex
  exact pe_meth ho h.cl h1 h3 (hr.mono hj) h2 .nil pass0 ha hst hpl ht
theorem kpe_fld {K : PySem.W.Frag} {f : Str} (he : PE X o ta) (eK : X.K = K := by rfl) (hb : attributeBase o f X.env (eval o X.env) = eval o X.env := by rfl) : PE X (.Attribute o f pos) (tFld K ta f) := by subst eK; exact pe_fld he hb
end
end T

/-! T10: the bodies of Pouring. -/
namespace T
open PySem L2
theorem Wd.less {F F2 H : Hp} {O : Ch} (W : Wd F2 H O) (s : Same F F2) : Wd F H O := ⟨s.trans W.sub, fun q hq => ⟨(W.own q hq).1, by
  cases e : F q.1 with
  | none => rfl
  | some u => rw [← (W.own q hq).2, s _ _ e]⟩, W.nd⟩
/-- the law's promise -/
def spLaw (K : PySem.W.Frag) : Sp := fun vs H Q _ => ∃ (a : Addr) (ns : List Int), vs = [.ref a] ∧ SqL K H a (ns.map V.int) ∧ ns.length ≤ 63 ∧ ∀ H', Q (.bl true) H'
theorem putF_past {f g : Str} {v x : V} {r : List (Str × V)} (h : ¬ g = f) : putF f v ((g, x) :: r) = (g, x) :: putF f v r := by
  show (if g = f then _ else _) = _
  rw [if_neg h]
abbrev rIs0 : R2 := fun x y H Q => y = .non ∧ Q (.bl (decide (x = .non))) H
def tPI (K : PySem.W.Frag) : TS := tSeq (sFld K (tVar 0) (tOp rRep (tLst (tCons (tC (.int 0)) tNil)) (tVar 1)) "later") (sFld K (tVar 0) (tC (.int 0)) "ground")
def tPG (K : PySem.W.Frag) : TS := tIfS (tTest (tOp rIs0 (tVar 1) (tC .non))) (sFldAug K (tVar 0) (tVar 2) rAdd "ground") (tAugS (tFld K (tVar 0) "later") (tVar 1) (tVar 2) (rIxL K) (ipI fun i j => i + j) rSetL)
theorem pour_init {K : PySem.W.Frag} {C : Addr} (TP : PourT K C) {vs : List V} {H : Hp} {Q : VK} {E : XK} (h : spPourInit C vs H Q E) : tPI K { nx := fun _ H' => Q .non H', rt := Q } (start ["self", "many"] vs) H := by
  obtain ⟨p, dx, F, O, n, b, rfl, W, hb, k⟩ := h
  have e : EvO (S := Unit) (tOp rRep (tLst (tCons (tC (.int 0)) tNil)) (tVar 1)) [some (.ref p), some (.int n)] F emp (oLst rInt) _ := eo_op vo_rep (ev_frz (eo_lst (eal_cons ev_int eal_nil))) (ev_var (i := 1) (R := rInt) (x := n) rfl rfl)
  have e0 : few [(0 : Int)] = some [0] := by decide
  have he : (bnd (bnd (bnd (ret 0) fun a => bnd (ret []) fun b => ret (a :: b)) fun xs => lft (few xs)) fun a => bnd (ret n) fun b => lft (repL a b)) () = some (b, ()) := by
    simp [bnd, ret, lft, e0, hb]
  refine e () b () he F H [] _ (SameR _) rfl W _ fun v F2 H2 c2 cb s2 o2 ob W2 => ?_
  obtain ⟨l, ws, rfl, rfl, rp⟩ := ob
  cases o2
  have W3 : Wd F2 H2 ((p, .ins C dx []) :: (l, .lst ws) :: O) := W2.perm (List.Perm.swap _ _ _)
  refine ⟨_, rfl, p, C, dx, [], rfl, W3.hd, TP.cl, TP.nL, (by show 0 < 1000; decide), ?_⟩
  have W4 := W3.set (o' := .ins C dx (putF "later" (.ref l) []))
  refine ⟨_, rfl, p, C, dx, _, rfl, W4.hd, TP.cl, TP.nG, (by show 1 < 1000; decide), ?_⟩
  have W5 := W4.set (o' := .ins C dx (putF "ground" (.int 0) (putF "later" (.ref l) [])))
  refine k _ [(p, .ins C dx [("later", .ref l), ("ground", .int 0)]), (l, .lst ws)] ⟨p, dx, l, ws, rfl, rfl, paired_mono (fun _ _ h => h) rp⟩ ?_
  have e1 : putF "ground" (.int 0) (putF "later" (.ref l) []) = ([("later", .ref l), ("ground", .int 0)] : List (Str × V)) := putF_past (by decide +kernel)
  rw [e1] at W5
  exact W5.less s2
theorem pour_give {K : PySem.W.Frag} {C : Addr} (TP : PourT K C) {vs : List V} {H : Hp} {Q : VK} {E : XK} (h : spPourGive C vs H Q E) : tPG K { nx := fun _ H' => Q .non H', rt := Q } (start ["self", "target", "amount"] vs) H := by
  obtain ⟨i, F, O, c, ⟨u, t, a⟩, s, b, s1, ⟨v0, _, rfl, r0, v1, _, rfl, r1, v2, rfl, r2⟩, ⟨p, dx, l, ws, rfl, rfl, rp⟩, W, hm, k⟩ := h
  obtain rfl : v0 = .ref p := r0
  obtain rfl : v2 = .int a := r2
  replace r1 : (rOpt rInt).r F v1 t := r1
  replace hm : mPourGive t a s = some (b, s1) := hm
  obtain ⟨s1a, s1b⟩ := s
  have lk1 : List.lookup ("later" : Str) ([("later", V.ref l), ("ground", V.int s1b)] : List (Str × V)) = some (.ref l) := rfl
  have ne1 : (("ground" : Str) == ("later" : Str)) = false := by decide +kernel
  have lk2 : List.lookup ("ground" : Str) ([("later", V.ref l), ("ground", V.int s1b)] : List (Str × V)) = some (.int s1b) := by
    rw [List.lookup_cons, ne1]; rfl
  cases t with
  | none =>
    obtain rfl : v1 = .non := r1
    cases hm
    refine ⟨_, rfl, rfl, true, rfl, iteT ?_⟩
    refine ⟨_, rfl, p, C, dx, _, _, rfl, W.hd, TP.cl, TP.nG, lk2, _, rfl, s1b, a, rfl, rfl, dx, _, W.hd, (by show 2 < 1000; decide), ?_⟩
    have W2 := W.set (o' := .ins C dx (putF "ground" (.int (s1b + a)) [("later", .ref l), ("ground", .int s1b)]))
    have e1 : putF "ground" (.int (s1b + a)) [("later", .ref l), ("ground", .int s1b)] = ([("later", .ref l), ("ground", .int (s1b + a))] : List (Str × V)) := (putF_past (by decide +kernel)).trans rfl
    refine k .non F _ [(p, .ins C dx [("later", .ref l), ("ground", .int (s1b + a))]), (l, .lst ws)] (SameR _) ⟨p, dx, l, ws, rfl, rfl, rp⟩ ?_ rfl
    rw [e1] at W2 ⊢
    exact W2
  | some j =>
    obtain rfl : v1 = .int j := r1
    unfold mPourGive at hm
    cases e0 : atI s1a j with
    | none => simp [e0] at hm
    | some y =>
      cases e3 : setI s1a j (y + a) with
      | none => simp [e0, e3] at hm
      | some z =>
        simp [e0, e3] at hm
        obtain ⟨_, rfl⟩ := hm
        obtain ⟨n, hn, rfl⟩ := setI_some e3
        obtain ⟨w', e4, r4⟩ := atI_paired rp e0
        obtain rfl : w' = .int y := r4
        refine ⟨_, rfl, rfl, false, rfl, iteF ?_⟩
        have Wl : Wd F H ((l, .lst ws) :: (p, .ins C dx [("later", .ref l), ("ground", .int s1b)]) :: O) := W.perm (List.Perm.swap _ _ _)
        refine ⟨_, rfl, p, C, dx, _, _, rfl, W.hd, TP.cl, TP.nL, lk1, _, rfl, l, ws, j, .int y, rfl, rfl, SqL.of Wl.hd, e4, _, rfl, y, a, rfl, rfl, l, ws, j, n, rfl, rfl, Wl.hd, by rw [paired_len rp]; exact hn, ?_⟩
        have W5 := (Wl.set (o' := .lst (ws.set n (.int (y + a))))).perm (List.Perm.swap _ _ _)
        exact k .non F _ _ (SameR _) ⟨p, dx, l, _, rfl, rfl, paired_set rp rfl n⟩ W5 rfl
/-! the head -/
theorem fun_of_D {K : PySem.W.Frag} {x q : Str} {st : Stmt} {f : Addr} {fd : FuncData} (F : FunD K x q (defArgs st) (defBody st) (defScope st) [] [] f fd) : Fun K x q st f fd := by
  obtain ⟨oc, od, dV, kV, doc, pm, an, cdv, ct, osl, rfl, lk, hcd, hD, _⟩ := F.ex
  rcases hD with ⟨_, rfl⟩ | ⟨e, _⟩
  · exact ⟨⟨oc, od, kV, doc, pm, an, cdv, ct, osl, rfl, lk, hcd⟩, F.kp⟩
  · exact absurd rfl e
theorem kn_of {P : Program} {w : World} {K : PySem.W.Frag} {mg : Str → Option Value} {base : Heap} {CX : CXT} {k : Nat} {x x1 q : Str} {st : Stmt} {ps : List Str} {sp : Sp} {f : Addr} {fd : FuncData} (F : Fun K x1 q st f fd) (g : mg x = some (.ref f)) (b : Binds K fd ps []) (o : FnOk P w K mg base CX k f fd ps sp) : Kn P w K mg base CX k x ps sp := ⟨_, _, g, F.kp, b, o⟩
def dd (at_ : Str × Option Str) (name qual : Str) (s : Stmt) : He.DefD := ⟨at_, name, qual, defArgs s, defBody s, defScope s, [], []⟩
end T

/-! P1: plain laws of mirrors: a run that ends, and what then holds. -/
namespace T
open PySem L2
def Tot {S Ω : Type} (m : S → Option Ω) (s : S) (Q : Ω → Prop) : Prop := ∃ w, m s = some w ∧ Q w
section
variable {S S' T α β γ Z Ω ρ : Type} {s : S}
theorem Tot.mono {m : S → Option Ω} {Q R : Ω → Prop} (h : Tot m s Q) (k : ∀ w, Q w → R w) : Tot m s R := by
  obtain ⟨w, e, q⟩ := h; exact ⟨w, e, k w q⟩
theorem tot_bnd {m : M S α} {f : α → S → Option Ω} {Q : Ω → Prop} : Tot (bnd m f) s Q ↔ Tot m s (fun w => Tot (f w.1) w.2 Q) := by
  unfold Tot bnd
  constructor
  · rintro ⟨w, e, q⟩
    cases h : m s with
    | none => rw [h] at e; cases e
    | some p => rw [h] at e; exact ⟨p, rfl, w, e, q⟩
  · rintro ⟨p, h, w, e, q⟩
    exact ⟨w, by rw [h]; exact e, q⟩
theorem tot_ret {b : β} {Q : β × S → Prop} : Tot (ret b) s Q ↔ Q (b, s) := ⟨fun ⟨w, e, q⟩ => by cases e; exact q, fun q => ⟨_, rfl, q⟩⟩
theorem tot_some {h : S → Ω} {Q : Ω → Prop} : Tot (fun s => some (h s)) s Q ↔ Q (h s) := ⟨fun ⟨w, e, q⟩ => by cases e; exact q, fun q => ⟨_, rfl, q⟩⟩
theorem tot_lft {o : Option β} {Q : β × S → Prop} : Tot (lft o) s Q ↔ ∃ b, o = some b ∧ Q (b, s) := by
  unfold Tot lft
  constructor
  · rintro ⟨w, e, q⟩
    cases o with
    | none => cases e
    | some b => cases e; exact ⟨b, rfl, q⟩
  · rintro ⟨b, rfl, q⟩; exact ⟨_, rfl, q⟩
theorem tot_lftS {b : β} {Q : β × S → Prop} : Tot (lft (some b)) s Q ↔ Q (b, s) := by rw [tot_lft]; exact ⟨fun ⟨c, e, q⟩ => by cases e; exact q, fun q => ⟨_, rfl, q⟩⟩
theorem tot_zm {g : S → T} {p : S → T → S} {m : M T β} {Q : β × S → Prop} : Tot (zm g p m) s Q ↔ Tot m (g s) (fun w => Q (w.1, p s w.2)) := by
  unfold Tot zm
  constructor
  · rintro ⟨w, e, q⟩
    cases h : m (g s) with
    | none => rw [h] at e; cases e
    | some c => rw [h] at e; cases e; exact ⟨c, rfl, q⟩
  · rintro ⟨c, e, q⟩; exact ⟨_, by rw [e]; rfl, q⟩
theorem tot_nw {k : S × T → Option Ω} {t : T} {Q : Ω → Prop} : Tot (nw k t) s Q ↔ Tot k (s, t) Q := Iff.rfl
theorem tot_rb {p : S → T → S} {f : S → Option Ω} {x : T} {Q : Ω → Prop} : Tot (rb p f x) s Q ↔ Tot f (p s x) Q := Iff.rfl
theorem tot_fzL {g : S → T} {π : S → S'} {k : T → S' → Option Ω} {Q : Ω → Prop} : Tot (fzL g π k) s Q ↔ Tot (k (g s)) (π s) Q := Iff.rfl
theorem tot_drL {π : S → S'} {k : S' → Option Ω} {Q : Ω → Prop} : Tot (drL π k) s Q ↔ Tot k (π s) Q := Iff.rfl
theorem tot_gtL {g : S → T} {f : T → Option β} {Q : β × S → Prop} : Tot (gtL g f) s Q ↔ ∃ b, f (g s) = some b ∧ Q (b, s) := by
  unfold Tot gtL
  constructor
  · rintro ⟨w, e, q⟩
    cases h : f (g s) with
    | none => rw [h] at e; cases e
    | some c => rw [h] at e; cases e; exact ⟨c, rfl, q⟩
  · rintro ⟨c, e, q⟩; exact ⟨_, by rw [e]; rfl, q⟩
theorem tot_gtLS {g : S → T} {f : T → β} {Q : β × S → Prop} : Tot (gtL g fun t => some (f t)) s Q ↔ Q (f (g s), s) := by rw [tot_gtL]; exact ⟨fun ⟨c, e, q⟩ => by cases e; exact q, fun q => ⟨_, rfl, q⟩⟩
theorem tot_upL {g : S → T} {p : S → T → S} {f : T → Option T} {Q : Unit × S → Prop} : Tot (upL g p f) s Q ↔ ∃ t, f (g s) = some t ∧ Q ((), p s t) := by
  unfold Tot upL
  constructor
  · rintro ⟨w, e, q⟩
    cases h : f (g s) with
    | none => rw [h] at e; cases e
    | some c => rw [h] at e; cases e; exact ⟨c, rfl, q⟩
  · rintro ⟨c, e, q⟩; exact ⟨_, by rw [e]; rfl, q⟩
theorem tot_upLS {g : S → T} {p : S → T → S} {f : T → T} {Q : Unit × S → Prop} : Tot (upL g p fun t => some (f t)) s Q ↔ Q ((), p s (f (g s))) := by rw [tot_upL]; exact ⟨fun ⟨c, e, q⟩ => by cases e; exact q, fun q => ⟨_, rfl, q⟩⟩
theorem tot_bif {b : Bool} {f g : S → Option Ω} {Q : Ω → Prop} : Tot (bif b then f else g) s Q ↔ (b = true → Tot f s Q) ∧ (b = false → Tot g s Q) := by cases b <;> simp
theorem tot_rtF {κ : Type} {m : S → Option ρ} {Q : Fl κ ρ → Prop} : Tot (rtF m) s Q ↔ Tot m s (fun w => Q (.rt w)) := by
  unfold Tot rtF
  constructor
  · rintro ⟨w, e, q⟩
    cases h : m s with
    | none => rw [h] at e; cases e
    | some c => rw [h] at e; cases e; exact ⟨c, rfl, q⟩
  · rintro ⟨c, e, q⟩; exact ⟨_, by rw [e]; rfl, q⟩
theorem tot_fthn {m : S → Option (Fl (Z × S) ρ)} {h : Z → S → Option ρ} {Q : ρ → Prop} : Tot (fthn m h) s Q ↔ Tot m s (fun r => match r with | .nx q => Tot (h q.1) q.2 Q | .rt b => Q b) := by
  unfold Tot fthn
  constructor
  · rintro ⟨w, e, q⟩
    cases h1 : m s with
    | none => rw [h1] at e; cases e
    | some c =>
      rw [h1] at e
      cases c with
      | nx z => exact ⟨_, rfl, w, e, q⟩
      | rt b => cases e; exact ⟨_, rfl, q⟩
  · rintro ⟨c, e, q⟩
    cases c with
    | nx z => obtain ⟨w, e2, q⟩ := q; exact ⟨w, by rw [e]; exact e2, q⟩
    | rt b => exact ⟨b, by rw [e]; rfl, q⟩
theorem tot_rn {m : M Unit β} {b : β} : rn m = some b ↔ Tot m () (fun w => w.1 = b) := by
  unfold rn Tot
  constructor
  · intro h
    cases e : m () with
    | none => rw [e] at h; cases h
    | some w => rw [e] at h; cases h; exact ⟨w, rfl, rfl⟩
  · rintro ⟨w, e, rfl⟩; rw [e]; rfl
/-- a loop: I done-so-far z s -/
theorem tot_fd {f : Z → α → M S Z} {Q : Z × S → Prop} (I : List α → Z → S → Prop) {xs : List α} {z0 : Z} (h0 : I [] z0 s) (hs : ∀ pre x post z s1, xs = pre ++ x :: post → I pre z s1 → Tot (f z x) s1 (fun w => I (pre ++ [x]) w.1 w.2)) (hq : ∀ z s1, I xs z s1 → Q (z, s1)) :
    Tot (fd f z0 xs) s Q := by
  have go : ∀ post pre z s1, xs = pre ++ post → I pre z s1 → Tot (fd f z post) s1 Q := by
    intro post
    induction post with
    | nil => intro pre z s1 e i; rw [List.append_nil] at e; subst e; exact ⟨_, rfl, hq _ _ i⟩
    | cons x post ih =>
      intro pre z s1 e i
      show Tot (bnd (f z x) fun z' => fd f z' post) s1 Q
      rw [tot_bnd]
      exact (hs pre x post z s1 e i).mono fun w i2 => ih (pre ++ [x]) w.1 w.2 (by rw [e]; simp) i2
  exact go xs [] z0 s rfl h0
/-- a loop that may return: here it never does -/
theorem tot_fdE {f : Z → α → S → Option (Fl (Z × S) ρ)} {Q : Fl (Z × S) ρ → Prop} (I : List α → Z → S → Prop) {xs : List α} {z0 : Z} (h0 : I [] z0 s) (hs : ∀ pre x post z s1, xs = pre ++ x :: post → I pre z s1 → Tot (f z x) s1 (fun r => match r with | .nx w => I (pre ++ [x]) w.1 w.2 | .rt b => Q (.rt b)))
    (hq : ∀ z s1, I xs z s1 → Q (.nx (z, s1))) : Tot (fdE f z0 xs) s Q := by
  have go : ∀ post pre z s1, xs = pre ++ post → I pre z s1 → Tot (fdE f z post) s1 Q := by
    intro post
    induction post with
    | nil => intro pre z s1 e i; rw [List.append_nil] at e; subst e; exact ⟨_, rfl, hq _ _ i⟩
    | cons x post ih =>
      intro pre z s1 e i
      obtain ⟨r, e1, q1⟩ := hs pre x post z s1 e i
      cases r with
      | nx w =>
        obtain ⟨w2, e2, q2⟩ := ih (pre ++ [x]) w.1 w.2 (by rw [e]; simp) q1
        exact ⟨w2, by show (f z x s1).bind _ = _; rw [e1]; exact e2, q2⟩
      | rt b => exact ⟨.rt b, by show (f z x s1).bind _ = _; rw [e1]; rfl, q1⟩
  exact go xs [] z0 s rfl h0
theorem tot_mp {f : α → M S β} {Q : List β × S → Prop} (I : List α → List β → S → Prop) {xs : List α} (h0 : I [] [] s) (hs : ∀ pre x post ys s1, xs = pre ++ x :: post → I pre ys s1 → Tot (f x) s1 (fun w => I (pre ++ [x]) (ys ++ [w.1]) w.2)) (hq : ∀ ys s1, I xs ys s1 → Q (ys, s1)) :
    Tot (mp f xs) s Q := by
  have go : ∀ post pre ys s1, xs = pre ++ post → I pre ys s1 → Tot (mp f post) s1 (fun w => I xs (ys ++ w.1) w.2) := by
    intro post
    induction post with
    | nil => intro pre ys s1 e i; rw [List.append_nil] at e; subst e; exact ⟨_, rfl, by simpa using i⟩
    | cons x post ih =>
      intro pre ys s1 e i
      show Tot (bnd (f x) fun y => bnd (mp f post) fun ys => ret (y :: ys)) s1 _
      rw [tot_bnd]
      refine (hs pre x post ys s1 e i).mono fun w i2 => ?_
      rw [tot_bnd]
      refine (ih (pre ++ [x]) (ys ++ [w.1]) w.2 (by rw [e]; simp) i2).mono fun w2 i3 => ?_
      rw [tot_ret]
      simpa using i3
  exact (go xs [] [] s rfl h0).mono fun w i => hq _ _ i
theorem tot_mp_pure {f : α → M S β} {Q : List β × S → Prop} (g : α → β) {xs : List α} (h : ∀ x ∈ xs, ∀ s1, f x s1 = some (g x, s1)) (q : Q (xs.map g, s)) : Tot (mp f xs) s Q := by
  refine tot_mp (fun pre ys s1 => ys = pre.map g ∧ s1 = s) ⟨rfl, rfl⟩ ?_ ?_
  · rintro pre x post ys s1 e ⟨rfl, rfl⟩
    exact ⟨_, h x (by rw [e]; simp) _, by simp, rfl⟩
  · rintro ys s1 ⟨rfl, rfl⟩; exact q
theorem tot_mpf_pure {p : α → M S Bool} {f : α → M S β} {Q : List β × S → Prop} (b : α → Bool) (g : α → β) {xs : List α} (hp : ∀ x ∈ xs, ∀ s1, p x s1 = some (b x, s1)) (h : ∀ x ∈ xs, ∀ s1, f x s1 = some (g x, s1)) (q : Q ((xs.filter b).map g, s)) : Tot (mpf p f xs) s Q := by
  have go : ∀ xs : List α, (∀ x ∈ xs, ∀ s1, p x s1 = some (b x, s1)) → (∀ x ∈ xs, ∀ s1, f x s1 = some (g x, s1)) → mpf p f xs s = some ((xs.filter b).map g, s) := by
    intro xs
    induction xs with
    | nil => intro _ _; rfl
    | cons x xs ih =>
      intro hp h
      have i := ih (fun y hy => hp y (List.mem_cons_of_mem _ hy)) (fun y hy => h y (List.mem_cons_of_mem _ hy))
      show bnd (p x) _ s = _
      unfold bnd
      rw [hp x List.mem_cons_self]
      cases e : b x with
      | true => simp [e, h x List.mem_cons_self, i, ret]
      | false => simp [e, i]
  exact ⟨_, go xs hp h, q⟩
/-! partial operators -/
theorem atI_ok {xs : List α} {i : Int} (h0 : 0 ≤ i) (h1 : i < xs.length) : ∃ b, atI xs i = some b ∧ b ∈ xs ∧ xs[i.toNat]? = some b := by
  have h2 : i.toNat < xs.length := by omega
  refine ⟨xs[i.toNat], ?_, List.getElem_mem h2, by simp [h2]⟩
  unfold atI ixN
  rw [if_pos h0, if_pos (by omega)]
  simp [h2]
theorem atI_nat {xs : List α} {k : Nat} {x : α} (h : xs[k]? = some x) : atI xs (k : Int) = some x := by
  have h2 : k < xs.length := (List.getElem?_eq_some_iff.mp h).1
  unfold atI ixN
  rw [if_pos (by omega), if_pos (by omega)]
  simpa using h
theorem setI_nat {xs : List α} {k : Nat} {x : α} (h : k < xs.length) : setI xs (k : Int) x = some (xs.set k x) := by
  unfold setI ixN
  rw [if_pos (by omega), if_pos (by omega)]
  simp
theorem setI_ok {xs : List α} {i : Int} {x : α} (h0 : 0 ≤ i) (h1 : i < xs.length) : setI xs i x = some (xs.set i.toNat x) := by
  unfold setI ixN
  rw [if_pos h0, if_pos (by omega)]; rfl
theorem app_ok {xs : List α} {x : α} (h : xs.length < lim) : app xs x = some (xs ++ [x]) := if_pos h
theorem chk_ok {xs : List α} (h : xs.length < lim) : chk xs = some xs := if_pos h
theorem few_ok {xs : List α} (h : xs.length ≤ 100) : few xs = some xs := if_pos h
theorem catL_ok {xs ys : List α} (h : xs.length + ys.length < lim) : catL xs ys = some (xs ++ ys) := if_pos h
theorem rng_ok {n : Nat} (h : n ≤ 1000000) : rng 0 (n : Int) = some (rngL 0 n) := by
  unfold rng; rw [if_pos (by omega)]; simp
theorem rngL_eq : ∀ (lo : Int) (n : Nat), rngL lo n = (List.range n).map fun (k : Nat) => lo + (k : Int)
  | lo, 0 => rfl
  | lo, n + 1 => by
    rw [List.range_succ_eq_map, List.map_cons, List.map_map]
    show lo :: rngL (lo + 1) n = _
    rw [rngL_eq (lo + 1) n]
    simp only [Int.natCast_zero, Int.add_zero, List.cons.injEq, true_and]
    refine List.map_congr_left fun k _ => ?_
    simp only [Function.comp, Nat.succ_eq_add_one]; omega
theorem mulI_ok {i j : Int} (h : (-(2 ^ 64) < i ∧ i < 2 ^ 64) ∨ (-(2 ^ 64) < j ∧ j < 2 ^ 64)) : mulI i j = some (i * j) := if_pos h
theorem log2_lt {j : Int} (h : 0 < j) (h2 : j < 2 ^ 64) : j.natAbs.log2 < 9000 := by
  have e : j.natAbs < 2 ^ 64 := by omega
  have h3 : j.natAbs ≠ 0 := by omega
  exact Nat.lt_of_lt_of_le ((Nat.log2_lt h3).mpr e) (by decide)
theorem divI_ok {i j : Int} (h : 0 < j) (h2 : j < 2 ^ 64) : divI i j = some (i / j) := if_pos ⟨h, log2_lt h h2⟩
theorem modI_ok {i j : Int} (h : 0 < j) : modI i j = some (i % j) := if_pos h
theorem dvm_ok {i j : Int} (h : 0 < j) (h2 : j < 1073741824) : dvm (i, j) = some (i / j, i % j) := if_pos ⟨h, h2⟩
theorem repL_ok {xs : List α} {n : Nat} (h : n < 1000) (h2 : xs.length < 100) : repL xs (n : Int) = some (List.replicate n xs).flatten := by
  unfold repL; rw [if_pos (by omega)]; simp
end
theorem ex_some {α : Type} {x : α} {p : α → Prop} : (∃ b, some x = some b ∧ p b) ↔ p x := ⟨fun ⟨_, e, q⟩ => by cases e; exact q, fun q => ⟨_, rfl, q⟩⟩
theorem ex_someT {α : Type} {x : α} : (∃ b, some x = some b) ↔ True := ⟨fun _ => trivial, fun _ => ⟨_, rfl⟩⟩
theorem few0 {α : Type} : few ([] : List α) = some [] := rfl
theorem few1 {α : Type} {a : α} : few [a] = some [a] := rfl
theorem few2 {α : Type} {a b : α} : few [a, b] = some [a, b] := rfl
theorem few3 {α : Type} {a b c : α} : few [a, b, c] = some [a, b, c] := rfl
theorem tot_cut {S α Ω : Type} {s : S} {m : S → Option (α × S)} {f : α → S → Option Ω} {Q : Ω → Prop} (R : α × S → Prop) (h : Tot m s R) (k : ∀ a s1, R (a, s1) → Tot (f a) s1 Q) : Tot (bnd m f) s Q := tot_bnd.mpr (h.mono fun w r => k w.1 w.2 r)
/-- an index in a display -/
theorem at_in {α : Type} {xs : List α} {i : Int} {Q : α → Prop} (P : α → Prop) (h0 : 0 ≤ i) (h1 : i < xs.length) (hp : ∀ x ∈ xs, P x) (k : ∀ x, P x → Q x) : ∃ b, atI xs i = some b ∧ Q b := by
  obtain ⟨b, hb, hm, _⟩ := atI_ok h0 h1
  exact ⟨b, hb, k b (hp b hm)⟩
theorem tot_seq {S α Ω : Type} {s : S} {m : S → Option (α × S)} {f : α → S → Option Ω} {Q : Ω → Prop} (a : α) (s1 : S) (h : Tot m s (fun w => w = (a, s1))) (k : Tot (f a) s1 Q) : Tot (bnd m f) s Q := tot_cut _ h fun b s2 e => by cases e; exact k
theorem tot_eq {S Ω : Type} {s : S} {m : S → Option Ω} {a : Ω} : Tot m s (fun w => w = a) ↔ m s = some a := ⟨fun ⟨_, e, h⟩ => by rw [e, h], fun e => ⟨_, e, rfl⟩⟩
/-! loops by index -/
section
variable {S α β Z : Type} {s : S}
theorem tot_fd_ix {f : Z → α → M S Z} {Q : Z × S → Prop} (I : Nat → Z → S → Prop) {xs : List α} {z0 : Z} (h0 : I 0 z0 s) (hs : ∀ k x z s1, xs[k]? = some x → I k z s1 → Tot (f z x) s1 (fun w => I (k + 1) w.1 w.2)) (hq : ∀ z s1, I xs.length z s1 → Q (z, s1)) : Tot (fd f z0 xs) s Q := by
  refine tot_fd (fun pre z s1 => I pre.length z s1) h0 ?_ hq
  intro pre x post z s1 e i
  have hx : xs[pre.length]? = some x := by rw [e]; simp
  exact (hs pre.length x z s1 hx i).mono fun w i2 => by simpa using i2
theorem rngL_at {n k : Nat} {x : Int} (h : (rngL 0 n)[k]? = some x) : x = (k : Int) ∧ k < n := by
  rw [rngL_eq] at h
  have hl : k < n := by
    have := (List.getElem?_eq_some_iff.mp h).1
    simpa using this
  simp [hl] at h
  exact ⟨h.symm, hl⟩
theorem tot_fd_rng {f : Z → Int → M S Z} {Q : Z × S → Prop} (I : Nat → Z → S → Prop) {n : Nat} {z0 : Z} (h0 : I 0 z0 s) (hs : ∀ k z s1, k < n → I k z s1 → Tot (f z (k : Int)) s1 (fun w => I (k + 1) w.1 w.2)) (hq : ∀ z s1, I n z s1 → Q (z, s1)) : Tot (fd f z0 (rngL 0 n)) s Q := by
  refine tot_fd_ix I h0 ?_ ?_
  · intro k x z s1 hx i
    obtain ⟨rfl, hl⟩ := rngL_at hx
    exact hs k z s1 hl i
  · intro z s1 i
    rw [rngL_len] at i
    exact hq z s1 i
theorem enumL_at {xs : List α} {k : Nat} {q : Int × α} (h : (enumL xs)[k]? = some q) : q.1 = (k : Int) ∧ xs[k]? = some q.2 := by
  unfold enumL at h
  rw [List.getElem?_zip_eq_some] at h
  exact ⟨(rngL_at h.1).1, h.2⟩
theorem enumL_len {xs : List α} : (enumL xs).length = xs.length := by
  unfold enumL; rw [List.length_zip, rngL_len]; omega
theorem tot_fd_enum {f : Z → Int × α → M S Z} {Q : Z × S → Prop} (I : Nat → Z → S → Prop) {xs : List α} {z0 : Z} (h0 : I 0 z0 s) (hs : ∀ k x z s1, xs[k]? = some x → I k z s1 → Tot (f z ((k : Int), x)) s1 (fun w => I (k + 1) w.1 w.2)) (hq : ∀ z s1, I xs.length z s1 → Q (z, s1)) : Tot (fd f z0 (enumL xs)) s Q := by
  refine tot_fd_ix I h0 ?_ ?_
  · rintro k ⟨a, x⟩ z s1 hx i
    obtain ⟨e, e2⟩ := enumL_at hx
    dsimp only at e e2
    rw [e]
    exact hs k x z s1 e2 i
  · intro z s1 i
    rw [enumL_len] at i
    exact hq z s1 i
theorem tot_mp_rng {f : Int → M S β} {Q : List β × S → Prop} (g : Nat → β) {n : Nat} (h : ∀ k, k < n → ∀ s1, Tot (f (k : Int)) s1 (fun w => w = (g k, s1))) (q : Q ((List.range n).map g, s)) : Tot (mp f (rngL 0 n)) s Q := by
  have := tot_mp_pure (f := f) (Q := Q) (s := s) (xs := rngL 0 n) (fun i => g i.toNat) (fun x hx s1 => by
    obtain ⟨k, hk⟩ := List.getElem?_of_mem hx
    obtain ⟨rfl, hl⟩ := rngL_at hk
    obtain ⟨w, e, rfl⟩ := h k hl s1
    simpa using e) (by
    have e : ((fun i : Int => g i.toNat) ∘ fun k : Nat => (0 : Int) + (k : Int)) = g := by funext k; simp
    rw [rngL_eq, List.map_map, e]
    exact q)
  exact this
theorem tot_mp_fn {f : α → M S β} {Q : List β × S → Prop} (g : α → β) {xs : List α} (h : ∀ x ∈ xs, ∀ s1, Tot (f x) s1 (fun w => w = (g x, s1))) (q : Q (xs.map g, s)) : Tot (mp f xs) s Q :=
  tot_mp_pure g (fun x hx s1 => by obtain ⟨w, e, rfl⟩ := h x hx s1; exact e) q
theorem tot_mpf_fn {p : α → M S Bool} {f : α → M S β} {Q : List β × S → Prop} (b : α → Bool) (g : α → β) {xs : List α} (hp : ∀ x ∈ xs, ∀ s1, Tot (p x) s1 (fun w => w = (b x, s1))) (h : ∀ x ∈ xs, ∀ s1, Tot (f x) s1 (fun w => w = (g x, s1))) (q : Q ((xs.filter b).map g, s)) : Tot (mpf p f xs) s Q :=
  tot_mpf_pure b g (fun x hx s1 => by obtain ⟨w, e, rfl⟩ := hp x hx s1; exact e) (fun x hx s1 => by obtain ⟨w, e, rfl⟩ := h x hx s1; exact e) q
theorem get_at {xs : List α} {k : Nat} (d : α) (h : k < xs.length) : xs[k]? = some (xs.getD k d) := by
  rw [List.getElem?_eq_some_iff]; exact ⟨h, by simp [List.getD, h]⟩
theorem atI_d {xs : List α} {k : Nat} (d : α) (h : k < xs.length) : atI xs (k : Int) = some (xs.getD k d) := atI_nat (get_at d h)
theorem atI_dI {xs : List α} {i : Int} (d : α) (h0 : 0 ≤ i) (h : i < xs.length) : atI xs i = some (xs.getD i.toNat d) := by
  have := atI_d (xs := xs) (k := i.toNat) d (by omega)
  rwa [Int.toNat_of_nonneg h0] at this
theorem getD_of {xs : List α} {k : Nat} {x d : α} (h : xs[k]? = some x) : xs.getD k d = x := by simp [List.getD, h]
end
/-! data: equal things -/
structure DE {α : Type} {R : Rl α} (D : RD R) (n : Nat) : Prop where
  lay : ∀ x, (D.d x).canLay0 = true
  dep : ∀ x, (D.d x).depth ≤ n
  eq : ∀ x y, PyData.eqv (D.d x) (D.d y) = true ↔ x = y
structure DEA {α : Type} {A : Ar α} (D : AD A) (n : Nat) : Prop where
  lay : ∀ x, PyData.canLayAll0 (D.d x) = true
  dep : ∀ x, PyData.depthAll (D.d x) ≤ n
  eq : ∀ x y, PyData.eqvAll (D.d x) (D.d y) = true ↔ x = y
theorem de_int : DE dInt 1 := ⟨fun _ => rfl, fun x => by simp [dInt, PyData.depth], fun x y => by simp [dInt, PyData.eqv]⟩
theorem de_bool : DE dBool 1 := ⟨fun _ => rfl, fun x => by simp [dBool, PyData.depth], fun x y => by simp [dBool, PyData.eqv]⟩
theorem de_tup {α : Type} {R : Rl α} {D : RD R} {n : Nat} (h : DE D n) : DE (dTup D) (n + 1) := by
  refine ⟨fun xs => ?_, fun xs => ?_, fun xs ys => ?_⟩
  · show PyData.canLay0 (.tuple (xs.map D.d)) = true
    rw [PyData.canLay0]
    induction xs with
    | nil => rfl
    | cons x xs ih => rw [List.map_cons, PyData.canLayAll0, h.lay x, ih]; rfl
  · show PyData.depth (.tuple (xs.map D.d)) ≤ n + 1
    rw [PyData.depth]
    have : PyData.depthAll (xs.map D.d) ≤ n := by
      induction xs with
      | nil => simp [PyData.depthAll]
      | cons x xs ih => rw [List.map_cons, PyData.depthAll]; have := h.dep x; omega
    omega
  · show PyData.eqv (.tuple (xs.map D.d)) (.tuple (ys.map D.d)) = true ↔ _
    rw [PyData.eqv]
    induction xs generalizing ys with
    | nil => cases ys <;> simp [PyData.eqvAll]
    | cons x xs ih =>
      cases ys with
      | nil => simp [PyData.eqvAll]
      | cons y ys => rw [List.map_cons, List.map_cons, PyData.eqvAll, Bool.and_eq_true, h.eq, ih]; simp
theorem de_lst {α : Type} {R : Rl α} {D : RD R} {n : Nat} (h : DE D n) : DE (dLst D) (n + 1) := by
  refine ⟨fun xs => ?_, fun xs => ?_, fun xs ys => ?_⟩
  · show PyData.canLay0 (.list (xs.map D.d)) = true
    rw [PyData.canLay0]
    induction xs with
    | nil => rfl
    | cons x xs ih => rw [List.map_cons, PyData.canLayAll0, h.lay x, ih]; rfl
  · show PyData.depth (.list (xs.map D.d)) ≤ n + 1
    rw [PyData.depth]
    have : PyData.depthAll (xs.map D.d) ≤ n := by
      induction xs with
      | nil => simp [PyData.depthAll]
      | cons x xs ih => rw [List.map_cons, PyData.depthAll]; have := h.dep x; omega
    omega
  · show PyData.eqv (.list (xs.map D.d)) (.list (ys.map D.d)) = true ↔ _
    rw [PyData.eqv]
    induction xs generalizing ys with
    | nil => cases ys <;> simp [PyData.eqvAll]
    | cons x xs ih =>
      cases ys with
      | nil => simp [PyData.eqvAll]
      | cons y ys => rw [List.map_cons, List.map_cons, PyData.eqvAll, Bool.and_eq_true, h.eq, ih]; simp
theorem dea_one {α : Type} {R : Rl α} {D : RD R} {n : Nat} (h : DE D n) : DEA (daOne D) n := by
  refine ⟨fun x => ?_, fun x => ?_, fun x y => ?_⟩
  · show PyData.canLayAll0 [D.d x] = true
    rw [PyData.canLayAll0, h.lay]; rfl
  · show PyData.depthAll [D.d x] ≤ n
    rw [PyData.depthAll, PyData.depthAll]; have := h.dep x; omega
  · show PyData.eqvAll [D.d x] [D.d y] = true ↔ _
    rw [PyData.eqvAll, Bool.and_eq_true, h.eq]; simp [PyData.eqvAll]
theorem dea_c {α β : Type} {R : Rl α} {D : RD R} {A : Ar β} {E : AD A} {n : Nat} (h : DE D n) (k : DEA E n) : DEA (daC D E) n := by
  refine ⟨fun x => ?_, fun x => ?_, fun x y => ?_⟩
  · show PyData.canLayAll0 (D.d x.1 :: E.d x.2) = true
    rw [PyData.canLayAll0, h.lay, k.lay]; rfl
  · show PyData.depthAll (D.d x.1 :: E.d x.2) ≤ n
    rw [PyData.depthAll]; have := h.dep x.1; have := k.dep x.2; omega
  · show PyData.eqvAll (D.d x.1 :: E.d x.2) (D.d y.1 :: E.d y.2) = true ↔ _
    rw [PyData.eqvAll, Bool.and_eq_true, h.eq, k.eq, Prod.ext_iff]
theorem de_th {β : Type} {A : Ar β} {E : AD A} {n : Nat} (k : DEA E n) : DE (dTh E) (n + 1) := by
  refine ⟨fun x => ?_, fun x => ?_, fun x y => ?_⟩
  · show PyData.canLay0 (.tuple (E.d x)) = true
    rw [PyData.canLay0, k.lay]
  · show PyData.depth (.tuple (E.d x)) ≤ n + 1
    rw [PyData.depth]; have := k.dep x; omega
  · show PyData.eqv (.tuple (E.d x)) (.tuple (E.d y)) = true ↔ _
    rw [PyData.eqv, k.eq]
theorem DE.up {α : Type} {R : Rl α} {D : RD R} {n m : Nat} (h : DE D n) (l : n ≤ m) : DE D m := ⟨h.lay, fun x => Nat.le_trans (h.dep x) l, h.eq⟩
theorem de_shaped {α : Type} {R : Rl α} {D : RD R} {n : Nat} (h : DE D n) (l : n ≤ 64) (x : α) : SeqAt.shaped (D.d x) = true := by
  unfold SeqAt.shaped; rw [h.lay, decide_eq_true (Nat.le_trans (h.dep x) l)]; rfl
theorem eqD_same {α : Type} {R : Rl α} {D : RD R} {n : Nat} (h : DE D n) (l : n ≤ 64) (x : α) : eqD (D.d x) (D.d x) = some true := by
  unfold eqD; rw [if_pos ⟨de_shaped h l x, de_shaped h l x⟩, (h.eq x x).mpr rfl]
theorem neD_same {α : Type} {R : Rl α} {D : RD R} {n : Nat} (h : DE D n) (l : n ≤ 64) (x : α) : neD (D.d x) (D.d x) = some false := by
  unfold neD; rw [if_pos ⟨de_shaped h l x, de_shaped h l x⟩, (h.eq x x).mpr rfl]; rfl
theorem eqD_dec {α : Type} [DecidableEq α] {R : Rl α} {D : RD R} {n : Nat} (h : DE D n) (l : n ≤ 64) (x y : α) : eqD (D.d x) (D.d y) = some (decide (x = y)) := by
  unfold eqD; rw [if_pos ⟨de_shaped h l x, de_shaped h l y⟩]
  by_cases e : x = y
  · rw [decide_eq_true e, (h.eq x y).mpr e]
  · rw [decide_eq_false e]
    cases q : PyData.eqv (D.d x) (D.d y) with
    | true => exact absurd ((h.eq x y).mp q) e
    | false => rfl
theorem neD_dec {α : Type} [DecidableEq α] {R : Rl α} {D : RD R} {n : Nat} (h : DE D n) (l : n ≤ 64) (x y : α) : neD (D.d x) (D.d y) = some (!decide (x = y)) := by
  have e := eqD_dec h l x y
  unfold eqD at e; unfold neD
  rw [if_pos ⟨de_shaped h l x, de_shaped h l y⟩] at e ⊢
  rw [Option.some.inj e]
end T

/-! T11: Tipwell's types; attributes as targets; a Run's heap. -/
namespace T
open PySem L2
abbrev Out := Option Int × Int
abbrev Act := Str × Int
abbrev Vessel := Int × Int × List Out × Bool × Option Int × List Act
abbrev Spout := Int × Int × Bool
abbrev Net := List Vessel × List Spout
abbrev State := List Int × List Int × List Bool
abbrev rOut := rTh (arC (rOpt rInt) (arOne rInt))
abbrev rAct := rTh (arC rStr (arOne rInt))
abbrev rVessel := rTh (arC rInt (arC rInt (arC (rTup rOut) (arC rBool (arC (rOpt rInt) (arOne (rTup rAct)))))))
abbrev rSpout := rTh (arC rInt (arC rInt (arOne rBool)))
abbrev rNet := rTh (arC (rTup rVessel) (arOne (rTup rSpout)))
abbrev rState := rTh (arC (rTup rInt) (arC (rTup rInt) (arOne (rTup rBool))))
def dOut : RD rOut := dTh (daC (dOpt dInt) (daOne dInt))
def dAct : RD rAct := dTh (daC dStr (daOne dInt))
def dVessel : RD rVessel := dTh (daC dInt (daC dInt (daC (dTup dOut) (daC dBool (daC (dOpt dInt) (daOne (dTup dAct)))))))
def dSpout : RD rSpout := dTh (daC dInt (daC dInt (daOne dBool)))
def dNet : RD rNet := dTh (daC (dTup dVessel) (daOne (dTup dSpout)))
def dState : RD rState := dTh (daC (dTup dInt) (daC (dTup dInt) (daOne (dTup dBool))))
/-- one of two -/
def rSum {α β : Type} (R : Rl α) (R' : Rl β) : Rl (α ⊕ β) where
  r := fun F v x => match x with
    | .inl a => R.r F v a
    | .inr b => R'.r F v b
  mono := fun {F F' v x} s h => by
    cases x with
    | inl a => exact R.mono s h
    | inr b => exact R'.mono s h
abbrev TipAt := Int × Int
abbrev rTipAt := rTh (arC rInt (arOne rInt))
abbrev RRow := Str × Int × (Int ⊕ List TipAt)
abbrev rRRow := rTh (arC rStr (arC rInt (arOne (rSum rInt (rTup rTipAt)))))
abbrev Elder := State × List Int × (Int × Int × Int) × List Int
abbrev rElder := rTh (arC rState (arC (rTup rInt) (arC (rTh (arC rInt (arC rInt (arOne rInt)))) (arOne (rLst rInt)))))
/-! an attribute as a target -/
def gFld (K : PySem.W.Frag) (ta : TE) (f : Str) : TG := fun v σ H Q => ta σ H fun x H2 => ∃ a C dx fs, x = .ref a ∧ H2 a = some (.ins C dx fs) ∧ Cls K C ∧ NoAttr K C f ∧ fs.length < 1000 ∧ Q σ (upd H2 a (.ins C dx (putF f v fs)))
theorem pg_fld {X : Cx} {o : Expr} {f : Str} {pos : Pos} {ta : TE} (ha : PE X o ta) : PG X (.Attribute o f pos) (gFld X.K ta f) := by
  refine ⟨fun pins s σ H v u Q I r h => ?_⟩
  rw [assign_Attribute]
  refine wpAny_bind (wpAny_holding (thn (ha.run pins s σ H _ I h) fun ov s2 ⟨x, H2, I2, rx, a, C, dx, fs, ex, ea, c, n, l, q2⟩ => ?_))
  subst ex
  obtain rfl : ov = Value.ref a := rx
  refine wpAny_bind (wpAny_standAt (wpAny_bind (wpAny_holding (setattr_ok I2 ea c n l r fun s3 I3 => ?_))))
  exact wpAny_release ⟨σ, _, I3, q2⟩
theorem kpg_fld {X : Cx} {K : PySem.W.Frag} {o : Expr} {f : Str} {pos : Pos} {ta : TE} (ha : PE X o ta) (e : X.K = K := by rfl) : PG X (.Attribute o f pos) (gFld K ta f) := by subst e; exact pg_fld ha
theorem kps_fld {X : Cx} {K : PySem.W.Frag} {o value : Expr} {f : Str} {pos pos' : Pos} {ta tv : TE} (ha : PE X o ta) (hv : PE X value tv) (hs : swapsWith value (some (.Attribute o f pos')) pos.line X.env = pure false) (e : X.K = K := by rfl) : PS X (.Assign [.Attribute o f pos'] value pos) (sFld K ta tv f) := by subst e; exact ps_fld ha hv hs
theorem kps_fldaug {X : Cx} {K : PySem.W.Frag} {o value : Expr} {f : Str} {pos tpos : Pos} {ta tv : TE} {op : Operator} {rd : V → V → Hp → VK → Prop} (ha : PE X o ta) (hv : PE X value tv) (hop : InOp X op rd) (e : X.K = K := by rfl) : PS X (.AugAssign (.Attribute o f tpos) op value pos) (sFldAug K ta tv rd f) := by subst e; exact ps_fldaug ha hv hop
/-! a statement that is never reached -/
def tDead : TS := fun _ _ _ => False
theorem ps_dead {X : Cx} {s : Stmt} : PS X s tDead := ⟨fun _ _ _ _ _ _ h => h.elim⟩
section
variable {S S' T' α β γ Ω : Type} {R : Rl α} {R' : Rl β} {U : Rl γ} {K : PySem.W.Frag} {C : Addr} {σ : L2.St} {F : Hp} {A : Ow S} {te te0 ti ta : TE} {u : TS} {P : Post Ω} {v w : V} {j : Nat} {m : M S α} {mi : M S Int}
theorem b_dead : B (tSeq tDead u) σ F A P (fun _ => none) := fun s w hm => by cases hm
/-! an expression that gives a value, and does nothing -/
def Rd (te : TE) (σ : L2.St) (A : Ow S) (v : V) : Prop := ∀ (F H : Hp) (s : S) (c O : Ch), A.o F s c → Wd F H (c ++ O) → ∀ Q : VK, Q v H → te σ H Q
theorem rd_var (hv : σ[j]? = some (some v)) : Rd (tVar j) σ A v := fun F H s c O ho W Q q => ⟨v, hv, q⟩
theorem ev_ixR {g : S → List α} {p : S → List α → S} (hv : Rd te0 σ A v) (e : Emb A (oLst R v) g p) (hi : Ev ti σ F A rInt mi) : Ev (tOp (rIxL K) te0 ti) σ F A R (bnd mi fun i => gtL g fun xs => atI xs i) := fun s b s' hm F1 H c O sm ho W Q q => by
  obtain ⟨i, s1, h1, hm⟩ := bnd_some hm
  obtain ⟨h2, rfl⟩ := gtL_some hm
  refine hv F1 H _ c O ho W _ (hi _ i _ h1 F1 H c O sm ho W _ fun y F2 H2 c2 s2 o2 W2 r2 => ?_)
  obtain ⟨l, vs, c3, rfl, rp, W3, k⟩ := emb_list e o2 W2
  obtain ⟨w, e1, r1⟩ := atI_paired rp h2
  exact ⟨l, vs, i, w, rfl, r2, SqL.of W3.hd, e1, q w F2 H2 c2 s2 o2 W2 r1⟩
theorem ev_cbR {r : List V → Hp → VK → Prop} {f : List α → Option β} {g : S → List α} {p : S → List α → S} (hr : VH r R R' f) (hv : Rd te0 σ A v) (e : Emb A (oLst R v) g p) : Ev (tCB r (tCons te0 tNil)) σ F A R' (gtL g f) := fun s b s' hm F1 H c O sm ho W Q q => by
  obtain ⟨h2, rfl⟩ := gtL_some hm
  refine hv F1 H _ c O ho W _ ?_
  obtain ⟨l, vs, c3, rfl, rp, W3, k⟩ := emb_list e ho W
  exact hr F1 H _ l vs _ b W W3.hd rp h2 Q fun v F' H' s' W' r' => q v F' H' c s' (A.mono s' ho) W' r'
theorem b_appR {g : S → List α} {p : S → List α → S} {f : S → Option Ω} (hv : Rd te0 σ A v) (e : Emb A (oLst R v) g p) (he : Ev te σ F A R m) (k : B u σ F A P f) : B (tSeq (tDrop (tBM K "list" rAppend te0 (tCons te tNil))) u) σ F A P (bnd m fun x => bnd (upL g p fun xs => app xs x) fun _ => f) := fun s w hm F1 H c O sm ho W D q => by
  obtain ⟨x, s1, h1, hm⟩ := bnd_some hm
  obtain ⟨_, s2, h2, hm⟩ := bnd_some hm
  obtain ⟨xs, h2a, rfl⟩ := upL_some h2
  obtain ⟨rfl, hl⟩ := app_some h2a
  refine hv F1 H s c O ho W _ ?_
  obtain ⟨l0, vs0, c0, e0, _, W0, _⟩ := emb_list e ho W
  refine ⟨by rw [e0]; exact Or.inl ⟨rfl, vs0, SqL.of W0.hd⟩, ?_⟩
  refine he s x s1 h1 F1 H c O sm ho W _ fun y F2 H2 c2 sm2 o2 W2 r2 => ?_
  obtain ⟨l, vs, c3, rfl, rp, W3, kk⟩ := emb_list e o2 W2
  refine ⟨l, vs, y, rfl, rfl, W3.hd, by rw [paired_len rp]; exact lim_le hl, ?_⟩
  obtain ⟨c4, o4, W4⟩ := kk F2 _ (vs ++ [y]) (SameR _) (rp.snoc r2) _ W3.set
  exact k _ w hm F2 _ c4 O (sm.trans sm2) o4 W4 D (P.mono sm2 q)
theorem b_augR {g : S → List Int} {p : S → List Int → S} {m : M S Int} {h : Int → Int → Int} {f : S → Option Ω} (hv : Rd te0 σ A v) (e : Emb A (oLst rInt v) g p) (hi : Ev ti σ F A rInt mi) (he : Ev te σ F A rInt m) (k : B u σ F A P f) :
    B (tSeq (tAugS te0 ti te (rIxL K) (ipI h) rSetL) u) σ F A P (bnd mi fun i => bnd (gtL g fun xs => atI xs i) fun y => bnd m fun x => bnd (upL g p fun xs => setI xs i (h y x)) fun _ => f) := fun s w hm F1 H c O sm ho W D q => by
  obtain ⟨i, s1, h1, hm⟩ := bnd_some hm
  obtain ⟨y, s2, h2, hm2⟩ := bnd_some hm
  clear hm
  obtain ⟨h2a, e2⟩ := gtL_some h2
  subst e2
  obtain ⟨x, s3, h3, hm3⟩ := bnd_some hm2
  obtain ⟨_, s4, h4, hm⟩ := bnd_some hm3
  obtain ⟨xs, h4a, rfl⟩ := upL_some h4
  obtain ⟨n, hn, rfl⟩ := setI_some h4a
  refine hv F1 H s c O ho W _ (hi s i _ h1 F1 H c O sm ho W _ fun z F2 H2 c2 sm2 o2 W2 r2 => ?_)
  obtain ⟨l, vs, c4, e0, rp, W4, kk⟩ := emb_list e o2 W2
  obtain ⟨w', e1, r1⟩ := atI_paired rp h2a
  refine ⟨l, vs, i, w', e0, r2, SqL.of W4.hd, e1, ?_⟩
  refine he _ x s3 h3 F2 H2 c2 O (sm.trans sm2) o2 W2 _ fun z3 F3 H3 c3 sm3 o3 W3 r3 => ⟨y, x, r1, r3, ?_⟩
  obtain ⟨l, vs, c5, rfl, rp, W5, kk⟩ := emb_list e o3 W3
  refine ⟨l, vs, i, n, rfl, r2, W5.hd, by rw [paired_len rp]; exact hn, ?_⟩
  obtain ⟨c6, o6, W6⟩ := kk F3 _ (vs.set n _) (SameR _) (paired_set rp rfl n) _ W5.set
  exact k _ w hm F3 _ c6 O ((sm.trans sm2).trans sm3) o6 W6 D (P.mono (sm2.trans sm3) q)
end
/-! ### a Run -/
abbrev RCore := Net × State × Int × Int × Int
def runFs (vn vs vh vt vr ve : V) (g c d : Int) : List (Str × V) := [("net", vn), ("now", vs), ("hand", vh), ("many_gone", .int g), ("all_tips", vt), ("all_came", .int c), ("all_ground", .int d), ("rows", vr), ("elder", ve)]
theorem lk_ne {k a : Str} {b : V} {l : List (Str × V)} (h : (k == a) = false := by decide +kernel) : List.lookup k ((a, b) :: l) = List.lookup k l := by rw [List.lookup_cons, h]
theorem lk_eq {k : Str} {b : V} {l : List (Str × V)} : List.lookup k ((k, b) :: l) = some b := by rw [List.lookup_cons, beq_self_eq_true]
theorem putF_hit {f : Str} {v x : V} {r : List (Str × V)} : putF f v ((f, x) :: r) = (f, v) :: r := if_pos rfl
def oCore (C : Addr) (v vh vt vr ve : V) : Ow RCore where
  o := fun F s c => ∃ p dx vn vs, v = .ref p ∧ c = [(p, .ins C dx (runFs vn vs vh vt vr ve s.2.2.1 s.2.2.2.1 s.2.2.2.2))] ∧ rNet.r F vn s.1 ∧ rState.r F vs s.2.1
  mono := fun s ⟨p, dx, vn, vs, e, h, r1, r2⟩ => ⟨p, dx, vn, vs, e, h, rNet.mono s r1, rState.mono s r2⟩
/-- a list of lists, all owned -/
def oLL {α : Type} (R : Rl α) (v : V) : Ow (List (List α)) where
  o := fun F s c => ∃ l, ∃ ts : List (Addr × List V), v = .ref l ∧ c = (l, .lst (ts.map fun q => V.ref q.1)) :: ts.map (fun q => (q.1, HO.lst q.2)) ∧ Paired (fun (q : Addr × List V) xs => Paired (R.r F) q.2 xs) ts s
  mono := fun s ⟨l, ts, e, h, r⟩ => ⟨l, ts, e, h, r.mono fun _ _ q => paired_mono (fun _ _ => R.mono s) q⟩
structure RunT (K : PySem.W.Frag) (C : Addr) : Prop where
  cl : Cls K C
  net : NoAttr K C "net"
  now : NoAttr K C "now"
  hand : NoAttr K C "hand"
  many_gone : NoAttr K C "many_gone"
  all_tips : NoAttr K C "all_tips"
  all_came : NoAttr K C "all_came"
  all_ground : NoAttr K C "all_ground"
  rows : NoAttr K C "rows"
  elder : NoAttr K C "elder"
abbrev RunS := (((RCore × List Int) × List (List Int)) × List RRow) × List Elder
abbrev oParts (C : Addr) (v vh vt vr ve : V) : Ow RunS := star (star (star (star (oCore C v vh vt vr ve) (oLst rInt vh)) (oLL rInt vt)) (oLst rRRow vr)) (oLst rElder ve)
def oRun (C : Addr) (v : V) : Ow RunS where
  o := fun F s c => ∃ vh vt vr ve, (oParts C v vh vt vr ve).o F s c
  mono := fun s ⟨vh, vt, vr, ve, h⟩ => ⟨vh, vt, vr, ve, (oParts C v vh vt vr ve).mono s h⟩
section
variable {S S' T' α β γ Ω : Type} {K : PySem.W.Frag} {C : Addr} {σ : L2.St} {F : Hp} {A : Ow S} {te te0 ti ta : TE} {u : TS} {P : Post Ω} {v w vh vt vr ve : V} {j : Nat} {g : S → RCore} {p : S → RCore → S}
theorem b_open {f : RunS → Option Ω} (h : ∀ vh vt vr ve, B u σ F (oParts C v vh vt vr ve) P f) : B u σ F (oRun C v) P f := fun s w hm F1 H c O sm ⟨vh, vt, vr, ve, ho⟩ W D q => h vh vt vr ve s w hm F1 H c O sm ho W D q
theorem pr_run : Pr (oParts C v vh vt vr ve) (oRun C v) (fun s => s) := ⟨fun {F s c} h => ⟨c, [], by simp, vh, vt, vr, ve, h⟩⟩
theorem emb_core {F H : Hp} {s : S} {c O : Ch} (e : Emb A (oCore C v vh vt vr ve) g p) (ho : A.o F s c) (W : Wd F H (c ++ O)) : ∃ a dx vn vs c2, v = .ref a ∧ rNet.r F vn (g s).1 ∧ rState.r F vs (g s).2.1 ∧ Wd F H ((a, .ins C dx (runFs vn vs vh vt vr ve (g s).2.2.1 (g s).2.2.2.1 (g s).2.2.2.2)) :: (c2 ++ O)) ∧
    ∀ F' vn' vs' (t : RCore), Same F F' → rNet.r F' vn' t.1 → rState.r F' vs' t.2.1 → ∀ H', Wd F' H' ((a, .ins C dx (runFs vn' vs' vh vt vr ve t.2.2.1 t.2.2.2.1 t.2.2.2.2)) :: (c2 ++ O)) → ∃ c', A.o F' (p s t) c' ∧ Wd F' H' (c' ++ O) := by
  obtain ⟨c1, c2, pm, ⟨a, dx, vn, vs, e1, rfl, r1, r2⟩, k⟩ := e.split ho
  refine ⟨a, dx, vn, vs, c2, e1, r1, r2, W.perm (pm.append_right O), fun F' vn' vs' t s' r1' r2' H' W' => ?_⟩
  obtain ⟨c', o', pm'⟩ := k F' t _ s' ⟨a, dx, vn', vs', e1, rfl, r1', r2'⟩
  exact ⟨c', o', W'.perm (pm'.append_right O).symm⟩
theorem lk_net {vn vs : V} {a b c : Int} : List.lookup ("net" : Str) (runFs vn vs vh vt vr ve a b c) = some vn := lk_eq
theorem lk_now {vn vs : V} {a b c : Int} : List.lookup ("now" : Str) (runFs vn vs vh vt vr ve a b c) = some vs := (lk_ne).trans lk_eq
theorem lk_hand {vn vs : V} {a b c : Int} : List.lookup ("hand" : Str) (runFs vn vs vh vt vr ve a b c) = some vh := (lk_ne).trans ((lk_ne).trans lk_eq)
theorem lk_gone {vn vs : V} {a b c : Int} : List.lookup ("many_gone" : Str) (runFs vn vs vh vt vr ve a b c) = some (.int a) := (lk_ne).trans ((lk_ne).trans ((lk_ne).trans lk_eq))
theorem lk_tips {vn vs : V} {a b c : Int} : List.lookup ("all_tips" : Str) (runFs vn vs vh vt vr ve a b c) = some vt := (lk_ne).trans ((lk_ne).trans ((lk_ne).trans ((lk_ne).trans lk_eq)))
theorem lk_came {vn vs : V} {a b c : Int} : List.lookup ("all_came" : Str) (runFs vn vs vh vt vr ve a b c) = some (.int b) := (lk_ne).trans ((lk_ne).trans ((lk_ne).trans ((lk_ne).trans ((lk_ne).trans lk_eq))))
theorem lk_ground {vn vs : V} {a b c : Int} : List.lookup ("all_ground" : Str) (runFs vn vs vh vt vr ve a b c) = some (.int c) := (lk_ne).trans ((lk_ne).trans ((lk_ne).trans ((lk_ne).trans ((lk_ne).trans ((lk_ne).trans lk_eq)))))
theorem lk_rows {vn vs : V} {a b c : Int} : List.lookup ("rows" : Str) (runFs vn vs vh vt vr ve a b c) = some vr := (lk_ne).trans ((lk_ne).trans ((lk_ne).trans ((lk_ne).trans ((lk_ne).trans ((lk_ne).trans ((lk_ne).trans lk_eq))))))
theorem lk_elder {vn vs : V} {a b c : Int} : List.lookup ("elder" : Str) (runFs vn vs vh vt vr ve a b c) = some ve := (lk_ne).trans ((lk_ne).trans ((lk_ne).trans ((lk_ne).trans ((lk_ne).trans ((lk_ne).trans ((lk_ne).trans ((lk_ne).trans lk_eq)))))))
theorem ev_net (T : RunT K C) (hv : Rd te0 σ A v) (e : Emb A (oCore C v vh vt vr ve) g p) : Ev (tFld K te0 "net") σ F A rNet (gtL g fun s => some s.1) := fun s b s' hm F1 H c O sm ho W Q q => by
  obtain ⟨h2, rfl⟩ := gtL_some hm
  cases h2
  obtain ⟨a, dx, vn, vs, c2, rfl, r1, r2, W2, _⟩ := emb_core e ho W
  exact hv F1 H _ c O ho W _ ⟨a, C, dx, _, _, rfl, W2.hd, T.cl, T.net, lk_net, q _ F1 H c (SameR _) ho W r1⟩
theorem ev_now (T : RunT K C) (hv : Rd te0 σ A v) (e : Emb A (oCore C v vh vt vr ve) g p) : Ev (tFld K te0 "now") σ F A rState (gtL g fun s => some s.2.1) := fun s b s' hm F1 H c O sm ho W Q q => by
  obtain ⟨h2, rfl⟩ := gtL_some hm
  cases h2
  obtain ⟨a, dx, vn, vs, c2, rfl, r1, r2, W2, _⟩ := emb_core e ho W
  exact hv F1 H _ c O ho W _ ⟨a, C, dx, _, _, rfl, W2.hd, T.cl, T.now, lk_now, q _ F1 H c (SameR _) ho W r2⟩
theorem ev_gone (T : RunT K C) (hv : Rd te0 σ A v) (e : Emb A (oCore C v vh vt vr ve) g p) : Ev (tFld K te0 "many_gone") σ F A rInt (gtL g fun s => some s.2.2.1) := fun s b s' hm F1 H c O sm ho W Q q => by
  obtain ⟨h2, rfl⟩ := gtL_some hm
  cases h2
  obtain ⟨a, dx, vn, vs, c2, rfl, r1, r2, W2, _⟩ := emb_core e ho W
  exact hv F1 H _ c O ho W _ ⟨a, C, dx, _, _, rfl, W2.hd, T.cl, T.many_gone, lk_gone, q _ F1 H c (SameR _) ho W rfl⟩
theorem ev_came (T : RunT K C) (hv : Rd te0 σ A v) (e : Emb A (oCore C v vh vt vr ve) g p) : Ev (tFld K te0 "all_came") σ F A rInt (gtL g fun s => some s.2.2.2.1) := fun s b s' hm F1 H c O sm ho W Q q => by
  obtain ⟨h2, rfl⟩ := gtL_some hm
  cases h2
  obtain ⟨a, dx, vn, vs, c2, rfl, r1, r2, W2, _⟩ := emb_core e ho W
  exact hv F1 H _ c O ho W _ ⟨a, C, dx, _, _, rfl, W2.hd, T.cl, T.all_came, lk_came, q _ F1 H c (SameR _) ho W rfl⟩
theorem ev_ground (T : RunT K C) (hv : Rd te0 σ A v) (e : Emb A (oCore C v vh vt vr ve) g p) : Ev (tFld K te0 "all_ground") σ F A rInt (gtL g fun s => some s.2.2.2.2) := fun s b s' hm F1 H c O sm ho W Q q => by
  obtain ⟨h2, rfl⟩ := gtL_some hm
  cases h2
  obtain ⟨a, dx, vn, vs, c2, rfl, r1, r2, W2, _⟩ := emb_core e ho W
  exact hv F1 H _ c O ho W _ ⟨a, C, dx, _, _, rfl, W2.hd, T.cl, T.all_ground, lk_ground, q _ F1 H c (SameR _) ho W rfl⟩
theorem rd_hand (T : RunT K C) (hv : Rd te0 σ A v) (e : Emb A (oCore C v vh vt vr ve) g p) : Rd (tFld K te0 "hand") σ A vh := fun F1 H s c O ho W Q q => by
  obtain ⟨a, dx, vn, vs, c2, rfl, r1, r2, W2, _⟩ := emb_core e ho W
  exact hv F1 H s c O ho W _ ⟨a, C, dx, _, _, rfl, W2.hd, T.cl, T.hand, lk_hand, q⟩
theorem rd_tips (T : RunT K C) (hv : Rd te0 σ A v) (e : Emb A (oCore C v vh vt vr ve) g p) : Rd (tFld K te0 "all_tips") σ A vt := fun F1 H s c O ho W Q q => by
  obtain ⟨a, dx, vn, vs, c2, rfl, r1, r2, W2, _⟩ := emb_core e ho W
  exact hv F1 H s c O ho W _ ⟨a, C, dx, _, _, rfl, W2.hd, T.cl, T.all_tips, lk_tips, q⟩
theorem rd_rows (T : RunT K C) (hv : Rd te0 σ A v) (e : Emb A (oCore C v vh vt vr ve) g p) : Rd (tFld K te0 "rows") σ A vr := fun F1 H s c O ho W Q q => by
  obtain ⟨a, dx, vn, vs, c2, rfl, r1, r2, W2, _⟩ := emb_core e ho W
  exact hv F1 H s c O ho W _ ⟨a, C, dx, _, _, rfl, W2.hd, T.cl, T.rows, lk_rows, q⟩
theorem rd_elder (T : RunT K C) (hv : Rd te0 σ A v) (e : Emb A (oCore C v vh vt vr ve) g p) : Rd (tFld K te0 "elder") σ A ve := fun F1 H s c O ho W Q q => by
  obtain ⟨a, dx, vn, vs, c2, rfl, r1, r2, W2, _⟩ := emb_core e ho W
  exact hv F1 H s c O ho W _ ⟨a, C, dx, _, _, rfl, W2.hd, T.cl, T.elder, lk_elder, q⟩
end
end T

/-! T12: a Run's writes, and its methods' bodies. -/
namespace T
open PySem L2
section
variable {S S' T' α β γ Ω ι : Type} {R : Rl α} {K : PySem.W.Frag} {C : Addr} {σ : L2.St} {F : Hp} {A : Ow S} {te te0 ti ta : TE} {u : TS} {P : Post Ω} {v w vh vt vr ve : V} {i j k : Nat} {g : S → RCore} {p : S → RCore → S}
theorem lx {vn vs : V} {a b c : Int} : (runFs vn vs vh vt vr ve a b c).length < 1000 := by show 9 < 1000; decide
theorem pt_now {vn vs w : V} {a b c : Int} : putF "now" w (runFs vn vs vh vt vr ve a b c) = runFs vn w vh vt vr ve a b c := (putF_past (by decide +kernel)).trans (congrArg _ putF_hit)
theorem pt_hand {vn vs w : V} {a b c : Int} : putF "hand" w (runFs vn vs vh vt vr ve a b c) = runFs vn vs w vt vr ve a b c := by
  unfold runFs
  rw [putF_past (by decide +kernel), putF_past (by decide +kernel), putF_hit]
theorem pt_gone {vn vs : V} {a b c d : Int} : putF "many_gone" (.int d) (runFs vn vs vh vt vr ve a b c) = runFs vn vs vh vt vr ve d b c := by
  unfold runFs
  rw [putF_past (by decide +kernel), putF_past (by decide +kernel), putF_past (by decide +kernel), putF_hit]
theorem pt_came {vn vs : V} {a b c d : Int} : putF "all_came" (.int d) (runFs vn vs vh vt vr ve a b c) = runFs vn vs vh vt vr ve a d c := by
  unfold runFs
  rw [putF_past (by decide +kernel), putF_past (by decide +kernel), putF_past (by decide +kernel), putF_past (by decide +kernel), putF_past (by decide +kernel), putF_hit]
theorem pt_ground {vn vs : V} {a b c d : Int} : putF "all_ground" (.int d) (runFs vn vs vh vt vr ve a b c) = runFs vn vs vh vt vr ve a b d := by
  unfold runFs
  rw [putF_past (by decide +kernel), putF_past (by decide +kernel), putF_past (by decide +kernel), putF_past (by decide +kernel), putF_past (by decide +kernel), putF_past (by decide +kernel), putF_hit]
/-- self.f += e, of the three sums -/
structure SumF (K : PySem.W.Frag) (C : Addr) (f : Str) (get : RCore → Int) (put : RCore → Int → RCore) : Prop where
  no : NoAttr K C f
  lk : ∀ {vn vs vh vt vr ve : V} {t : RCore}, List.lookup f (runFs vn vs vh vt vr ve t.2.2.1 t.2.2.2.1 t.2.2.2.2) = some (.int (get t))
  pt : ∀ {vn vs vh vt vr ve : V} {t : RCore} {d : Int}, putF f (.int d) (runFs vn vs vh vt vr ve t.2.2.1 t.2.2.2.1 t.2.2.2.2) = runFs vn vs vh vt vr ve (put t d).2.2.1 (put t d).2.2.2.1 (put t d).2.2.2.2
  s1 : ∀ t d, (put t d).1 = t.1
  s2 : ∀ t d, (put t d).2.1 = t.2.1
theorem sf_gone (T : RunT K C) : SumF K C "many_gone" (fun t => t.2.2.1) (fun t d => (t.1, t.2.1, d, t.2.2.2.1, t.2.2.2.2)) := ⟨T.many_gone, lk_gone, pt_gone, fun _ _ => rfl, fun _ _ => rfl⟩
theorem sf_came (T : RunT K C) : SumF K C "all_came" (fun t => t.2.2.2.1) (fun t d => (t.1, t.2.1, t.2.2.1, d, t.2.2.2.2)) := ⟨T.all_came, lk_came, pt_came, fun _ _ => rfl, fun _ _ => rfl⟩
theorem sf_ground (T : RunT K C) : SumF K C "all_ground" (fun t => t.2.2.2.2) (fun t d => (t.1, t.2.1, t.2.2.1, t.2.2.2.1, d)) := ⟨T.all_ground, lk_ground, pt_ground, fun _ _ => rfl, fun _ _ => rfl⟩
theorem b_sum {f : Str} {get : RCore → Int} {put : RCore → Int → RCore} {m : M S Int} {h : S → Option Ω} (T : RunT K C) (sf : SumF K C f get put) (hv : Rd te0 σ A v) (e : Emb A (oCore C v vh vt vr ve) g p) (hd : ∀ s y s1, m s = some (y, s1) → get (g s1) = get (g s)) (he : Ev te σ F A rInt m) (k : B u σ F A P h) :
    B (tSeq (sFldAug K te0 te rAdd f) u) σ F A P (bnd m fun y => bnd (upL g p fun t => some (put t (get t + y))) fun _ => h) := fun s w hm F1 H c O sm ho W D q => by
  obtain ⟨y, s1, h1, hm⟩ := bnd_some hm
  obtain ⟨_, s2, h2, hm⟩ := bnd_some hm
  obtain ⟨t, h2a, rfl⟩ := upL_some h2
  cases h2a
  refine hv F1 H s c O ho W _ ?_
  obtain ⟨a, dx, vn, vs, c2, rfl, r1, r2, W2, _⟩ := emb_core e ho W
  refine ⟨a, C, dx, _, _, rfl, W2.hd, T.cl, sf.no, sf.lk, he s y s1 h1 F1 H c O sm ho W _ fun z F3 H3 c3 sm3 o3 W3 r3 => ?_⟩
  obtain ⟨a', dx', vn', vs', c4, e', r1', r2', W4, kk⟩ := emb_core e o3 W3
  cases e'
  refine ⟨_, y, rfl, r3, dx', _, W4.hd, lx, ?_⟩
  rw [← hd s y s1 h1, sf.pt]
  have W5 := W4.set (o' := .ins C dx' (runFs vn' vs' vh vt vr ve (put (g s1) (get (g s1) + y)).2.2.1 (put (g s1) (get (g s1) + y)).2.2.2.1 (put (g s1) (get (g s1) + y)).2.2.2.2))
  obtain ⟨c5, o5, W6⟩ := kk F3 vn' vs' (put (g s1) (get (g s1) + y)) (SameR _) (by rw [sf.s1]; exact r1') (by rw [sf.s2]; exact r2') _ W5
  exact k _ w hm F3 _ c5 O (sm.trans sm3) o5 W6 D (P.mono sm3 q)
/-- self.now, x, y, z = e -/
abbrev rTick := rTh (arC rState (arC (rTup rInt) (arC rInt (arOne rInt))))
theorem b_unpNow {i1 i2 i3 : Nat} {m : M S (State × List Int × Int × Int)} {h : State × List Int × Int × Int → S → Option Ω} (T : RunT K C) (h0 : σ[j]? = some (some v)) (e : Emb A (oCore C v vh vt vr ve) g p) (he : Ev te σ F A rTick m)
    (k : ∀ v1 v2 v3 x F', Same F F' → (rTup rInt).r F' v1 x.2.1 → rInt.r F' v2 x.2.2.1 → rInt.r F' v3 x.2.2.2 → B u (((σ.set i1 (some v1)).set i2 (some v2)).set i3 (some v3)) F' A P (h x)) :
    B (tSeq (tAsg te (gTup K 4 (gCons (gFld K (tVar j) "now") (gCons (gName i1) (gCons (gName i2) (gCons (gName i3) gNil)))))) u) σ F A P (bnd m fun x => bnd (upL g p fun t => some (t.1, x.1, t.2.2)) fun _ => h x) := fun s w hm F1 H c O sm ho W D q => by
  obtain ⟨x, s1, h1, hm⟩ := bnd_some hm
  obtain ⟨_, s2, h2, hm⟩ := bnd_some hm
  obtain ⟨t, h2a, rfl⟩ := upL_some h2
  cases h2a
  refine he s x s1 h1 F1 H c O sm ho W _ fun z F2 H2 c2 sm2 o2 W2 ⟨a, vs, ez, hp, v0, _, e1, r0, v1, _, e2, r1, v2, _, e3, r2, v3, e4, r3⟩ => ?_
  subst e4 e3 e2 e1
  refine ⟨a, _, ez, SqT.of (W2.sub _ _ hp), rfl, v0, _, rfl, ?_⟩
  obtain ⟨b, dx, vn, vs, c3, rfl, q1, q2, W3, kk⟩ := emb_core e o2 W2
  refine ⟨_, h0, b, C, dx, _, rfl, W3.hd, T.cl, T.now, lx, ?_⟩
  rw [pt_now]
  refine ⟨v1, _, rfl, v2, _, rfl, v3, _, rfl, rfl, ?_⟩
  have W4 := W3.set (o' := .ins C dx (runFs vn v0 vh vt vr ve (g s1).2.2.1 (g s1).2.2.2.1 (g s1).2.2.2.2))
  obtain ⟨c5, o5, W5⟩ := kk F2 vn v0 ((g s1).1, x.1, (g s1).2.2) (SameR _) q1 r0 _ W4
  exact k v1 v2 v3 x F2 (sm.trans sm2) r1 r2 r3 _ w hm F2 _ c5 O (SameR _) o5 W5 D (P.mono sm2 q)
/-- a part whose address may be bound anew -/
structure EmbF {T : Type} (A : V → Ow S) (B : V → Ow T) (g : S → T) (p : S → T → S) : Prop where
  split : ∀ {F : Hp} {s : S} {c : Ch} {i : V}, (A i).o F s c → ∃ c1 c2, c.Perm (c1 ++ c2) ∧ (B i).o F (g s) c1 ∧ ∀ i' F' t c1', Same F F' → (B i').o F' t c1' → ∃ c', (A i').o F' (p s t) c' ∧ c'.Perm (c1' ++ c2)
theorem embF_id {T : Type} {A : V → Ow T} : EmbF A A (fun s => s) (fun _ t => t) := ⟨fun {F s c i} h => ⟨c, [], by simp, h, fun i' F' t c1' _ h' => ⟨c1', h', by simp⟩⟩⟩
theorem embF_l {U : Type} {A : V → Ow S} {B : Ow T'} {C : V → Ow U} {g : S → U} {p : S → U → S} (e : EmbF A C g p) : EmbF (fun i => star (A i) B) C (fun s => g s.1) (fun s t => (p s.1 t, s.2)) := ⟨fun {F s c i} ⟨ca, cb, ec, ha, hb⟩ => by
  obtain ⟨c1, c2, pm, h1, k⟩ := e.split ha
  refine ⟨c1, c2 ++ cb, by rw [ec, ← List.append_assoc]; exact pm.append_right cb, h1, fun i' F' t c1' sm h' => ?_⟩
  obtain ⟨c', h2, pm2⟩ := k i' F' t c1' sm h'
  exact ⟨c' ++ cb, ⟨c', cb, rfl, h2, B.mono sm hb⟩, by rw [← List.append_assoc]; exact pm2.append_right cb⟩⟩
/-- self.hand = a new list -/
theorem b_hand {A : V → Ow S} {g : S → RCore × List Int} {p : S → RCore × List Int → S} {m : M S (List Int)} {h : S → Option Ω} (T : RunT K C) (h0 : σ[j]? = some (some v)) (e : EmbF A (fun i => star (oCore C v i vt vr ve) (oLst rInt i)) g p) (he : EvO te σ F (A vh) (oLst rInt) m) (k : ∀ vh' F', Same F F' → B u σ F' (A vh') P h) :
    B (tSeq (sFld K (tVar j) te "hand") u) σ F (A vh) P (bnd m fun x => bnd (upL g p fun t => some (t.1, x)) fun _ => h) := fun s w hm F1 H c O sm ho W D q => by
  obtain ⟨x, s1, h1, hm⟩ := bnd_some hm
  obtain ⟨_, s2, h2, hm⟩ := bnd_some hm
  obtain ⟨t, h2a, rfl⟩ := upL_some h2
  cases h2a
  refine he s x s1 h1 F1 H c O sm ho W _ fun z F2 H2 c2 cb sm2 o2 ob W2 => ⟨_, h0, ?_⟩
  obtain ⟨c3, c4, pm, ⟨c5, c6, rfl, ⟨a, dx, vn, vs, e1, rfl, r1, r2⟩, l2, vs2, e2, rfl, rp2⟩, kk⟩ := e.split o2
  obtain ⟨l, ws, rfl, rfl, rp⟩ := ob
  subst e1
  have W3 : Wd F2 H2 ((a, .ins C dx (runFs vn vs vh vt vr ve (g s1).1.2.2.1 (g s1).1.2.2.2.1 (g s1).1.2.2.2.2)) :: ((l2, .lst vs2) :: (l, .lst ws) :: (c4 ++ O))) := by
    refine W2.perm ?_
    have p1 : ([(l, HO.lst ws)] ++ (c2 ++ O)).Perm ([(l, HO.lst ws)] ++ ((([(a, HO.ins C dx (runFs vn vs vh vt vr ve (g s1).1.2.2.1 (g s1).1.2.2.2.1 (g s1).1.2.2.2.2))] ++ [(l2, HO.lst vs2)]) ++ c4) ++ O)) := (pm.append_right O).append_left _
    refine p1.trans ?_
    simp only [List.append_assoc, List.cons_append, List.nil_append]
    exact (List.Perm.swap _ _ _).trans (List.Perm.cons _ (List.Perm.swap _ _ _))
  refine ⟨a, C, dx, _, rfl, W3.hd, T.cl, T.hand, lx, ?_⟩
  rw [pt_hand]
  have W4 := (W3.set (o' := .ins C dx (runFs vn vs (.ref l) vt vr ve (g s1).1.2.2.1 (g s1).1.2.2.2.1 (g s1).1.2.2.2.2))).sublist (List.Sublist.cons_cons _ (List.Sublist.cons _ (List.Sublist.refl _)))
  obtain ⟨c7, o7, pm7⟩ := kk (.ref l) F2 ((g s1).1, x) _ (SameR _) ⟨_, _, rfl, ⟨a, dx, vn, vs, rfl, rfl, r1, r2⟩, l, ws, rfl, rfl, rp⟩
  refine k (.ref l) F2 (sm.trans sm2) _ w hm F2 _ c7 O (SameR _) o7 (W4.perm ?_) D (P.mono sm2 q)
  exact ((pm7.append_right O).trans (by simp)).symm
/-! the list of lists -/
theorem emb_ll {g : S → List (List α)} {p : S → List (List α) → S} {F H : Hp} {s : S} {c O : Ch} (e : Emb A (oLL R v) g p) (ho : A.o F s c) (W : Wd F H (c ++ O)) : ∃ l, ∃ ts : List (Addr × List V), ∃ c2, v = .ref l ∧ Paired (fun (q : Addr × List V) xs => Paired (R.r F) q.2 xs) ts (g s) ∧ Wd F H ((l, .lst (ts.map fun q => V.ref q.1)) :: (ts.map (fun q => (q.1, HO.lst q.2)) ++ (c2 ++ O))) ∧
    ∀ F' (ts' : List (Addr × List V)) xs, Same F F' → Paired (fun (q : Addr × List V) xs => Paired (R.r F') q.2 xs) ts' xs → ∀ H', Wd F' H' ((l, .lst (ts'.map fun q => V.ref q.1)) :: (ts'.map (fun q => (q.1, HO.lst q.2)) ++ (c2 ++ O))) → ∃ c', A.o F' (p s xs) c' ∧ Wd F' H' (c' ++ O) := by
  obtain ⟨c1, c2, pm, ⟨l, ts, e1, rfl, rp⟩, k⟩ := e.split ho
  refine ⟨l, ts, c2, e1, rp, by simpa using W.perm (pm.append_right O), fun F' ts' xs s' rp' H' W' => ?_⟩
  obtain ⟨c', o', pm'⟩ := k F' xs _ s' ⟨l, ts', e1, rfl, rp'⟩
  exact ⟨c', o', W'.perm (by simpa using (pm'.append_right O).symm)⟩
theorem wd_mem {F H : Hp} {O : Ch} {a : Addr} {o : HO} (W : Wd F H O) (h : (a, o) ∈ O) : H a = some o := (W.own (a, o) h).1
theorem paired_len2 {X Y : Type} {Q : X → Y → Prop} {xs : List X} {ys : List Y} (h : Paired Q xs ys) : xs.length = ys.length := by
  induction h with
  | nil => rfl
  | cons _ _ ih => simp [ih]
theorem pget_ll {X Y : Type} {Q : X → Y → Prop} {xs : List X} {ys : List Y} (h : Paired Q xs ys) : ∀ {n : Nat} {y : Y}, ys[n]? = some y → ∃ x, xs[n]? = some x ∧ Q x y := by
  induction h with
  | nil => intro n y e; simp at e
  | cons r t ih =>
    intro n y e
    cases n with
    | zero => simp at e; subst e; exact ⟨_, by simp, r⟩
    | succ n => simp at e; obtain ⟨x, hx, rx⟩ := ih e; exact ⟨x, by simpa using hx, rx⟩
theorem pset_ll {X Y : Type} {Q : X → Y → Prop} {xs : List X} {ys : List Y} {x : X} {y : Y} (h : Paired Q xs ys) (r : Q x y) : ∀ (i : Nat), Paired Q (xs.set i x) (ys.set i y) := by
  induction h with
  | nil => exact fun _ => .nil
  | cons a t ih => intro i; cases i with
    | zero => exact .cons r t
    | succ i => exact .cons a (ih i)
/-- x[i] of a list of lists, as a list: copied -/
theorem eo_copyLL {g : S → List (List α)} {p : S → List (List α) → S} {mi : M S Int} (hv : Rd te0 σ A v) (e : Emb A (oLL R v) g p) (hi : Ev ti σ F A rInt mi) :
    EvO (tCB (rListOf K) (tCons (tOp (rIxL K) te0 ti) tNil)) σ F A (oLst R) (bnd mi fun i => gtL g fun xs => atI xs i) := fun s b s' hm F1 H c O sm ho W Q q => by
  obtain ⟨i, s1, h1, hm⟩ := bnd_some hm
  obtain ⟨h2, rfl⟩ := gtL_some hm
  refine hv F1 H s c O ho W _ (hi _ i _ h1 F1 H c O sm ho W _ fun y F2 H2 c2 s2 o2 W2 r2 => ?_)
  obtain ⟨l, ts, c3, rfl, rp, W3, kk⟩ := emb_ll e o2 W2
  obtain ⟨n, hn, hx⟩ := Option.bind_eq_some_iff.mp h2
  obtain ⟨t, ht, rt⟩ := pget_ll rp hx
  have hat : atI (ts.map fun q => V.ref q.1) i = some (.ref t.1) := by
    unfold atI
    rw [List.length_map, paired_len2 rp, hn]
    simp [ht]
  refine ⟨l, _, i, .ref t.1, rfl, r2, SqL.of W3.hd, hat, t.1, t.2, rfl, .inl (SqL.of (wd_mem W3 (List.mem_cons_of_mem _ (List.mem_append_left _ (List.mem_map.mpr ⟨t, List.mem_of_getElem? ht, rfl⟩))))), fun d nd => ?_⟩
  exact q (.ref d) F2 _ c2 [(d, .lst t.2)] s2 o2 ⟨d, t.2, rfl, rfl, rt⟩ (W2.newO nd)
end
end T

/-! T13: lists of lists written; a Run made. -/
namespace T
open PySem L2
section
variable {S S' T' α β γ Ω ι : Type} {R : Rl α} {R' : Rl β} {K : PySem.W.Frag} {C : Addr} {σ : L2.St} {F : Hp} {A : Ow S} {te te0 ti ta : TE} {u : TS} {P : Post Ω} {v w vh vt vr ve : V} {i j k : Nat} {g : S → RCore} {p : S → RCore → S}
/-- read, and nothing else -/
def Ev0 (te : TE) (σ : L2.St) (A : Ow S) (R : Rl β) (f : S → Option β) : Prop := ∀ s b, f s = some b → ∀ F1 H c O, A.o F1 s c → Wd F1 H (c ++ O) → ∀ Q : VK, (∀ v, R.r F1 v b → Q v H) → te σ H Q
theorem ev0_gone (T : RunT K C) (hv : Rd te0 σ A v) (e : Emb A (oCore C v vh vt vr ve) g p) : Ev0 (tFld K te0 "many_gone") σ A rInt (fun s => some (g s).2.2.1) := fun s b hm F1 H c O ho W Q q => by
  cases hm
  obtain ⟨a, dx, vn, vs, c2, rfl, r1, r2, W2, _⟩ := emb_core e ho W
  exact hv F1 H s c O ho W _ ⟨a, C, dx, _, _, rfl, W2.hd, T.cl, T.many_gone, lk_gone, q _ rfl⟩
/-- x[i].append(e), x a list of lists -/
theorem b_appLL {g : S → List (List α)} {p : S → List (List α) → S} {mi : M S Int} {fx : S → Option α} {f : S → Option Ω} (hv : Rd te0 σ A v) (e : Emb A (oLL R v) g p) (hi : Ev ti σ F A rInt mi) (hx : Ev0 te σ A R fx) (k : B u σ F A P f) :
    B (tSeq (tDrop (tBM K "list" rAppend (tOp (rIxL K) te0 ti) (tCons te tNil))) u) σ F A P (bnd mi fun i => bnd (gtL (fun s => s) fx) fun x => bnd (upL g p fun xs => (atI xs i).bind fun ys => (app ys x).bind fun zs => setI xs i zs) fun _ => f) := fun s w hm F1 H c O sm ho W D q => by
  obtain ⟨i, s1, h1, hm⟩ := bnd_some hm
  obtain ⟨x, s2, h2, hm2⟩ := bnd_some hm
  obtain ⟨h2a, rfl⟩ := gtL_some h2
  obtain ⟨_, s3, h3, hm3⟩ := bnd_some hm2
  obtain ⟨xs, h3a, rfl⟩ := upL_some h3
  obtain ⟨ys, hy, h4⟩ := Option.bind_eq_some_iff.mp h3a
  obtain ⟨zs, hz, h5⟩ := Option.bind_eq_some_iff.mp h4
  obtain ⟨rfl, hl⟩ := app_some hz
  obtain ⟨n, hn, rfl⟩ := setI_some h5
  refine hv F1 H s c O ho W _ (hi s i _ h1 F1 H c O sm ho W _ fun y F2 H2 c2 sm2 o2 W2 r2 => ?_)
  obtain ⟨l, ts, c3, rfl, rp, W3, kk⟩ := emb_ll e o2 W2
  obtain ⟨n', hn', hxx⟩ := Option.bind_eq_some_iff.mp hy
  rw [hn] at hn'; cases hn'
  obtain ⟨t, ht, rt⟩ := pget_ll rp hxx
  have hat : atI (ts.map fun q => V.ref q.1) i = some (.ref t.1) := by
    unfold atI
    rw [List.length_map, paired_len2 rp, hn]
    simp [ht]
  have hmem : (t.1, HO.lst t.2) ∈ ts.map (fun q => (q.1, HO.lst q.2)) := List.mem_map.mpr ⟨t, List.mem_of_getElem? ht, rfl⟩
  have hH : H2 t.1 = some (.lst t.2) := wd_mem W3 (List.mem_cons_of_mem _ (List.mem_append_left _ hmem))
  refine ⟨l, _, i, .ref t.1, rfl, r2, SqL.of W3.hd, hat, Or.inl ⟨rfl, t.2, SqL.of hH⟩, ?_⟩
  refine hx _ x h2a F2 H2 c2 O o2 W2 _ fun z rz => ⟨t.1, t.2, z, rfl, rfl, hH, by rw [paired_len rt]; exact lim_le hl, ?_⟩
  have hnl : n < ts.length := (List.getElem?_eq_some_iff.mp ht).1
  have htn : ts[n] = t := (List.getElem?_eq_some_iff.mp ht).2
  -- the inner list in front
  have spl : ts.map (fun q => (q.1, HO.lst q.2)) = (ts.take n).map (fun q => (q.1, HO.lst q.2)) ++ (t.1, HO.lst t.2) :: (ts.drop (n + 1)).map (fun q => (q.1, HO.lst q.2)) := by
    conv => lhs; rw [← List.take_append_drop n ts, List.drop_eq_getElem_cons hnl, htn]
    simp
  have spl2 : (ts.set n (t.1, t.2 ++ [z])).map (fun q => (q.1, HO.lst q.2)) = (ts.take n).map (fun q => (q.1, HO.lst q.2)) ++ (t.1, HO.lst (t.2 ++ [z])) :: (ts.drop (n + 1)).map (fun q => (q.1, HO.lst q.2)) := by
    rw [List.set_eq_take_append_cons_drop, if_pos hnl]
    simp
  have hrf : (ts.set n (t.1, t.2 ++ [z])).map (fun q => V.ref q.1) = ts.map fun q => V.ref q.1 := by
    rw [List.map_set]
    show (ts.map fun q => V.ref q.1).set n (V.ref t.1) = _
    refine List.ext_getElem (by simp) fun m h1 h2 => ?_
    rw [List.getElem_set]
    split
    · rename_i e; subst e; simp [htn]
    · rfl
  have W4 : Wd F2 H2 ((t.1, .lst t.2) :: ((l, .lst (ts.map fun q => V.ref q.1)) :: ((ts.take n).map (fun q => (q.1, HO.lst q.2)) ++ (ts.drop (n + 1)).map (fun q => (q.1, HO.lst q.2)) ++ (c3 ++ O)))) := by
    refine W3.perm ?_
    rw [spl]
    refine (List.Perm.cons _ ((List.perm_middle).append_right _)).trans ?_
    exact (List.Perm.swap _ _ _).trans (by simp)
  have W5 := W4.set (o' := .lst (t.2 ++ [z]))
  obtain ⟨c6, o6, W6⟩ := kk F2 (ts.set n (t.1, t.2 ++ [z])) _ (SameR _) (pset_ll rp (y := ys ++ [x]) (rt.snoc rz) n) (upd H2 t.1 (.lst (t.2 ++ [z]))) (W5.perm (by
    rw [hrf, spl2]
    refine ((List.Perm.cons _ ((List.perm_middle).append_right _)).trans ?_).symm
    exact (List.Perm.swap _ _ _).trans (by simp)))
  exact k _ w hm3 F2 _ c6 O (sm.trans sm2) o6 W6 D (P.mono sm2 q)
theorem paired_lens {F : Hp} {ts : List (Addr × List V)} {xs : List (List Int)} (h : Paired (fun (q : Addr × List V) xs => Paired (rInt.r F) q.2 xs) ts xs) : Paired (rInt.r F) (ts.map fun q => V.int (q.2.length : Int)) (xs.map fun ys => (ys.length : Int)) := by
  induction h with
  | nil => exact .nil
  | cons r t ih => exact .cons (by show V.int _ = V.int _; rw [paired_len r]) ih
theorem ll_at {g : S → List (List α)} {p : S → List (List α) → S} {F : Hp} {s : S} {c : Ch} (e : Emb A (oLL R v) g p) (ho : A.o F s c) : ∃ l, ∃ ts : List (Addr × List V), v = .ref l ∧ Paired (fun (q : Addr × List V) xs => Paired (R.r F) q.2 xs) ts (g s) ∧ (l, HO.lst (ts.map fun q => V.ref q.1)) ∈ c ∧ ∀ t ∈ ts, (t.1, HO.lst t.2) ∈ c := by
  obtain ⟨c1, c2, pm, ⟨l, ts, e1, rfl, rp⟩, k⟩ := e.split ho
  exact ⟨l, ts, e1, rp, pm.symm.subset (List.mem_append_left _ List.mem_cons_self), fun t ht => pm.symm.subset (List.mem_append_left _ (List.mem_cons_of_mem _ (List.mem_map.mpr ⟨t, ht, rfl⟩)))⟩
/-- [len(x) for x in xs], xs a list of lists -/
theorem eo_lens {g : S → List (List Int)} {p : S → List (List Int) → S} {n : Nat} (hv : Rd te0 σ A v) (e : Emb A (oLL rInt v) g p) (hn : n < σ.length) (hw : ∀ x, wipe ((wipe σ [n]).set n (some x)) [n] = wipe σ [n]) :
    EvO (tLc (iList K te0) (gName n) tYes (tCB (rLen K) (tCons (tVar n) tNil)) [n]) σ F A (oLst rInt) (bnd (gtL g fun xs => chk xs) fun xs => ret (xs.map fun ys => (ys.length : Int))) := fun s b s' hm F1 H c O sm ho W Q q => by
  obtain ⟨xs, s1, h1, hm⟩ := bnd_some hm
  obtain ⟨h1a, rfl⟩ := gtL_some h1
  obtain ⟨rfl, hlen⟩ := chk_some h1a
  obtain ⟨rfl, rfl⟩ := ret_some hm
  refine hv F1 H _ c O ho W _ ?_
  obtain ⟨l, ts, rfl, rp, hm0, hm1⟩ := ll_at e ho
  have hl := paired_len2 rp
  have hml : ∀ {H' : Hp} {o : HO} {a : Addr} {D : Addr} {od : HO}, Wd F1 H' ((D, od) :: (c ++ O)) → (a, o) ∈ c → H' a = some o := fun W' hm => wd_mem W' (List.mem_cons_of_mem _ (List.mem_append_left _ hm))
  refine ⟨l, rfl, ⟨_, SqL.of (wd_mem W (List.mem_append_left _ hm0))⟩, fun D nD => ?_⟩
  refine lc_list (K := K) (a := l) (xs := ts.map fun q => V.ref q.1) (fun i H' => Wd F1 H' ((D, .lst ((ts.take i).map fun q => V.int (q.2.length : Int))) :: (c ++ O))) (W.newO nD) ?_ ?_ ?_
  · intro i H' _ W'
    exact SqL.of (hml W' hm0)
  · intro i x H' hx W'
    rw [List.getElem?_map] at hx
    obtain ⟨t, ht, rfl⟩ := Option.map_eq_some_iff.mp hx
    have hH' : H' t.1 = some (.lst t.2) := hml W' (hm1 t (List.mem_of_getElem? ht))
    have hts : ts.take (i + 1) = ts.take i ++ [t] := by rw [List.take_succ, ht]; rfl
    have hlt : i < ts.length := (List.getElem?_eq_some_iff.mp ht).1
    refine ⟨hw _, ?_⟩
    refine iteT (B := Wd F1 H' ((D, .lst ((ts.take (i + 1)).map fun q => V.int (q.2.length : Int))) :: (c ++ O))) ?_
    refine ⟨.ref t.1, by rw [List.getElem?_set_self (by rw [wipe_length]; exact hn)], t.1, t.2, rfl, .inl (SqL.of hH'), _, W'.hd, ?_, ?_⟩
    · rw [List.length_map, List.length_take]
      have : ts.length < lim := by rw [hl]; exact hlen
      exact lim_le (by omega)
    · rw [hts, List.map_append]
      exact W'.set
  · intro H' W'
    rw [List.length_map, List.take_length] at W'
    refine q (.ref D) F1 H' c [(D, _)] (SameR _) ho ⟨D, _, rfl, rfl, ?_⟩ W'
    exact paired_lens rp
end
end T

/-! T14: a Run made; its methods. -/
namespace T
open PySem L2
section
variable {S S' T' α β γ Ω ι : Type} {R : Rl α} {R' : Rl β} {K : PySem.W.Frag} {C : Addr} {σ : L2.St} {F : Hp} {A : Ow S} {te te0 ti ta : TE} {u : TS} {P : Post Ω} {v w vh vt vr ve : V} {i j k : Nat} {g : S → RCore} {p : S → RCore → S}
/-- [[] for x in xs] -/
theorem eo_nils {wi : TI} {ml : M S (List α)} {n : Nat} (hi : EvI wi σ F A R ml) (hw : ∀ x, wipe ((wipe σ [n]).set n (some x)) [n] = wipe σ [n]) :
    EvO (tLc wi (gName n) tYes (tLst tNil) [n]) σ F A (oLL R') (bnd ml fun xs => bnd (lft (chk xs)) fun xs => ret (xs.map fun _ => ([] : List β))) := fun s ys s' hm F1 H c O sm ho W Q q => by
  obtain ⟨xs0, s1, h1, hm⟩ := bnd_some hm
  obtain ⟨xs, s1', h2, hm2⟩ := bnd_some hm
  obtain ⟨h2', rfl⟩ := lft_some h2
  obtain ⟨rfl, hlen⟩ := chk_some h2'
  obtain ⟨rfl, rfl⟩ := ret_some hm2
  refine hi s _ _ h1 F1 H c O sm ho W _ fun J F2 H2 c2 sm2 o2 W2 ⟨G, Y, wk, hG, hY⟩ D hD => ?_
  refine lc_it wk (fun i H3 => ∃ F3, ∃ ts : List (Addr × List V), Same F2 F3 ∧ Wd F3 H3 ((D, .lst (ts.map fun q => V.ref q.1)) :: (ts.map (fun q => (q.1, HO.lst q.2)) ++ (c2 ++ O))) ∧ ts.length = i ∧ ∀ t ∈ ts, t.2 = []) ?_ ?_ ?_ ?_
  · exact ⟨F2, [], SameR _, W2.newO hD, rfl, fun _ h => nomatch h⟩
  · rintro i H3 _ ⟨F3, ts, s3, W3, _⟩
    exact hG F3 H3 s3 W3.sub
  · rintro i x H3 H4 hlt ⟨F3, ts, s3, W3, hl, hts⟩ y
    obtain ⟨F4, s4, W4, a, ha, ra⟩ := hY i H3 x H4 hlt y F3 _ s3 W3
    refine ⟨hw _, ?_⟩
    refine iteT (B := ∃ F3, ∃ ts : List (Addr × List V), Same F2 F3 ∧ Wd F3 H4 ((D, .lst (ts.map fun q => V.ref q.1)) :: (ts.map (fun q => (q.1, HO.lst q.2)) ++ (c2 ++ O))) ∧ ts.length = i + 1 ∧ ∀ t ∈ ts, t.2 = []) ?_
    refine ⟨by show 0 ≤ sizeLine; decide, fun p np => ?_⟩
    have W5 := W4.newO (o := .lst []) np
    refine ⟨_, (W5.tl).hd, ?_, F4, ts ++ [(p, [])], s3.trans s4, ?_, by simp [hl], ?_⟩
    · rw [List.length_map, hl]; exact lim_le (by omega)
    · have W6 := (W5.perm (List.Perm.swap _ _ _)).set (o' := .lst (ts.map (fun q => V.ref q.1) ++ [.ref p]))
      refine (W6.perm ?_)
      rw [List.map_append, List.map_append]
      refine List.Perm.cons _ ?_
      show ((p, HO.lst []) :: (ts.map (fun q => (q.1, HO.lst q.2)) ++ (c2 ++ O))).Perm ((ts.map (fun q => (q.1, HO.lst q.2)) ++ [(p, HO.lst [])]) ++ (c2 ++ O))
      rw [List.append_assoc]
      exact (List.perm_middle (l₁ := ts.map (fun q => (q.1, HO.lst q.2)))).symm
    · intro t ht
      rcases List.mem_append.mp ht with ht | ht
      · exact hts t ht
      · rw [List.mem_singleton.mp ht]
  · rintro H3 ⟨F3, ts, s3, W3, hl, hts⟩
    refine q (.ref D) F3 H3 c2 (_ :: ts.map (fun q => (q.1, HO.lst q.2))) (sm2.trans s3) (A.mono s3 o2) ⟨D, ts, rfl, rfl, ?_⟩ (by simpa using W3)
    have go : ∀ (ts : List (Addr × List V)) (xs : List α), ts.length = xs.length → (∀ t ∈ ts, t.2 = []) → Paired (fun (q : Addr × List V) zs => Paired (R'.r F3) q.2 zs) ts (xs.map fun _ => ([] : List β)) := by
      intro ts
      induction ts with
      | nil => intro xs h _; cases xs with
        | nil => exact .nil
        | cons _ _ => simp at h
      | cons t ts ih =>
        intro xs h h2
        cases xs with
        | nil => simp at h
        | cons x xs => exact .cons (by rw [h2 t List.mem_cons_self]; exact .nil) (ih xs (by simpa using h) fun t ht => h2 t (List.mem_cons_of_mem _ ht))
    exact go ts xs hl hts
/-- an instance with these attributes -/
def oIns (C : Addr) (v : V) (fs : List (Str × V)) : Ow Unit where
  o := fun F _ c => ∃ p dx, v = .ref p ∧ c = [(p, .ins C dx fs)]
  mono := fun _ h => h
theorem b_put {f : Str} {fs : List (Str × V)} {B0 : Ow S} {m : M (Unit × S) α} {h : α → Unit × S → Option Ω} (cl : Cls K C) (nf : NoAttr K C f) (hl : fs.length < 1000) (h0 : σ[j]? = some (some v)) (he : Ev te σ F (star (oIns C v fs) B0) R m)
    (k : ∀ w x F', Same F F' → R.r F' w x → B u σ F' (star (oIns C v (putF f w fs)) B0) P (h x)) : B (tSeq (sFld K (tVar j) te f) u) σ F (star (oIns C v fs) B0) P (bnd m h) := fun s w hm F1 H c O sm ho W D q => by
  obtain ⟨x, s1, h1, hm⟩ := bnd_some hm
  refine he s x s1 h1 F1 H c O sm ho W _ fun z F2 H2 c2 sm2 ⟨c3, c4, ec, ⟨p, dx, ev, ei⟩, o4⟩ W2 r2 => ⟨_, h0, ?_⟩
  subst ev ei ec
  refine ⟨p, C, dx, fs, rfl, W2.hd, cl, nf, hl, ?_⟩
  exact k z x F2 (sm.trans sm2) r2 s1 w hm F2 _ _ O (SameR _) ⟨[(p, _)], c4, rfl, ⟨p, dx, rfl, rfl⟩, o4⟩ W2.set D (P.mono sm2 q)
def nwp {S T' Ω : Type} (h : Unit × (S × T') → Option Ω) (x : T') : Unit × S → Option Ω := fun s => h (s.1, (s.2, x))
theorem b_putO {f : Str} {fs : List (Str × V)} {B0 : Ow S} {Bf : V → Ow T'} {m : M (Unit × S) T'} {h : Unit × (S × T') → Option Ω} (cl : Cls K C) (nf : NoAttr K C f) (hl : fs.length < 1000) (h0 : σ[j]? = some (some v)) (he : EvO te σ F (star (oIns C v fs) B0) Bf m)
    (k : ∀ w F', Same F F' → B u σ F' (star (oIns C v (putF f w fs)) (star B0 (Bf w))) P h) : B (tSeq (sFld K (tVar j) te f) u) σ F (star (oIns C v fs) B0) P (bnd m (nwp h)) := fun s w hm F1 H c O sm ho W D q => by
  obtain ⟨x, s1, h1, hm⟩ := bnd_some hm
  refine he s x s1 h1 F1 H c O sm ho W _ fun z F2 H2 c2 cb sm2 ⟨c3, c4, ec, ⟨p, dx, ev, ei⟩, o4⟩ ob W2 => ⟨_, h0, ?_⟩
  subst ev ei ec
  have W3 : Wd F2 H2 ((p, .ins C dx fs) :: ((c4 ++ cb) ++ O)) := by
    refine W2.perm ?_
    simp only [List.cons_append, List.nil_append, List.append_assoc]
    refine (List.perm_middle).trans (List.Perm.cons _ ?_)
    rw [← List.append_assoc, ← List.append_assoc]
    exact List.perm_append_comm.append_right O
  refine ⟨p, C, dx, fs, rfl, W3.hd, cl, nf, hl, ?_⟩
  exact k z F2 (sm.trans sm2) _ w hm F2 _ (_ :: (c4 ++ cb)) O (SameR _) ⟨[(p, _)], c4 ++ cb, rfl, ⟨p, dx, rfl, rfl⟩, c4, cb, rfl, o4, ob⟩ W3.set D (P.mono sm2 q)
end
/-! ### Run(net) -/
section
variable {K : PySem.W.Frag} {C : Addr}
/-- the attributes stand so behind __init__ -/
theorem run_fs (vn vs vh vt vr ve : V) (g c d : Int) : putF "elder" ve (putF "rows" vr (putF "all_ground" (.int d) (putF "all_came" (.int c) (putF "all_tips" vt (putF "many_gone" (.int g) (putF "hand" vh (putF "now" vs (putF "net" vn [])))))))) = runFs vn vs vh vt vr ve g c d := by
  have n0 : putF "net" vn [] = ([("net", vn)] : List (Str × V)) := rfl
  rw [n0]
  have n1 : putF "now" vs ([("net", vn)] : List (Str × V)) = ([("net", vn), ("now", vs)] : List (Str × V)) := (putF_past (by decide +kernel)).trans rfl
  rw [n1]
  have n2 : putF "hand" vh ([("net", vn), ("now", vs)] : List (Str × V)) = ([("net", vn), ("now", vs), ("hand", vh)] : List (Str × V)) := by
    rw [putF_past (by decide +kernel), putF_past (by decide +kernel)]; rfl
  rw [n2]
  have n3 : putF "many_gone" (.int g) ([("net", vn), ("now", vs), ("hand", vh)] : List (Str × V)) = ([("net", vn), ("now", vs), ("hand", vh), ("many_gone", .int g)] : List (Str × V)) := by
    rw [putF_past (by decide +kernel), putF_past (by decide +kernel), putF_past (by decide +kernel)]; rfl
  rw [n3]
  have n4 : putF "all_tips" vt ([("net", vn), ("now", vs), ("hand", vh), ("many_gone", .int g)] : List (Str × V)) = ([("net", vn), ("now", vs), ("hand", vh), ("many_gone", .int g), ("all_tips", vt)] : List (Str × V)) := by
    rw [putF_past (by decide +kernel), putF_past (by decide +kernel), putF_past (by decide +kernel), putF_past (by decide +kernel)]; rfl
  rw [n4]
  have n5 : putF "all_came" (.int c) ([("net", vn), ("now", vs), ("hand", vh), ("many_gone", .int g), ("all_tips", vt)] : List (Str × V)) = ([("net", vn), ("now", vs), ("hand", vh), ("many_gone", .int g), ("all_tips", vt), ("all_came", .int c)] : List (Str × V)) := by
    rw [putF_past (by decide +kernel), putF_past (by decide +kernel), putF_past (by decide +kernel), putF_past (by decide +kernel), putF_past (by decide +kernel)]; rfl
  rw [n5]
  have n6 : putF "all_ground" (.int d) ([("net", vn), ("now", vs), ("hand", vh), ("many_gone", .int g), ("all_tips", vt), ("all_came", .int c)] : List (Str × V)) = ([("net", vn), ("now", vs), ("hand", vh), ("many_gone", .int g), ("all_tips", vt), ("all_came", .int c), ("all_ground", .int d)] : List (Str × V)) := by
    rw [putF_past (by decide +kernel), putF_past (by decide +kernel), putF_past (by decide +kernel), putF_past (by decide +kernel), putF_past (by decide +kernel), putF_past (by decide +kernel)]; rfl
  rw [n6]
  have n7 : putF "rows" vr ([("net", vn), ("now", vs), ("hand", vh), ("many_gone", .int g), ("all_tips", vt), ("all_came", .int c), ("all_ground", .int d)] : List (Str × V)) = ([("net", vn), ("now", vs), ("hand", vh), ("many_gone", .int g), ("all_tips", vt), ("all_came", .int c), ("all_ground", .int d), ("rows", vr)] : List (Str × V)) := by
    rw [putF_past (by decide +kernel), putF_past (by decide +kernel), putF_past (by decide +kernel), putF_past (by decide +kernel), putF_past (by decide +kernel), putF_past (by decide +kernel), putF_past (by decide +kernel)]; rfl
  rw [n7]
  rw [putF_past (by decide +kernel), putF_past (by decide +kernel), putF_past (by decide +kernel), putF_past (by decide +kernel), putF_past (by decide +kernel), putF_past (by decide +kernel), putF_past (by decide +kernel), putF_past (by decide +kernel)]; rfl
end
end T

/-! T15: a Run's methods. -/
namespace T
open PySem L2
section
variable {S S' T' α β γ Ω ι : Type} {R : Rl α} {R' : Rl β} {K : PySem.W.Frag} {C : Addr} {σ : L2.St} {F : Hp} {A : Ow S} {te te0 ti ta : TE} {tt : TT} {u : TS} {P : Post Ω} {v w vh vt vr ve : V} {i j k : Nat}
theorem b_ifDead {mb : M S Bool} {f : S → Option Ω} (hc : EvT tt σ F A mb) (k : ∀ F', Same F F' → B u σ F' A P f) : B (tSeq (tIfS tt tDead tNext) u) σ F A P (bnd mb fun b => bif b then (fun _ => none) else f) := fun s w hm F1 H c O sm ho W D q => by
  obtain ⟨b, s1, h1, h2⟩ := bnd_some hm
  refine hc s b s1 h1 F1 H c O sm ho W _ fun F2 H2 c2 sm2 o2 W2 => ?_
  cases b with
  | true => cases h2
  | false => exact iteF (k F2 (sm.trans sm2) s1 w h2 F2 H2 c2 O (SameR _) o2 W2 D (P.mono sm2 q))
theorem ev_open {m : M RunS α} (h : ∀ vh vt vr ve, Ev te σ F (oParts C v vh vt vr ve) R m) : Ev te σ F (oRun C v) R m := fun s b s' hm F1 H c O sm ⟨vh, vt, vr, ve, ho⟩ W Q q => h vh vt vr ve s b s' hm F1 H c O sm ho W Q fun z F2 H2 c2 s2 o2 => q z F2 H2 c2 s2 ⟨vh, vt, vr, ve, o2⟩
theorem eC : Emb (oParts C v vh vt vr ve) (oCore C v vh vt vr ve) (fun s => s.1.1.1.1) (fun s t => ((((t, s.1.1.1.2), s.1.1.2), s.1.2), s.2)) := emb_l (emb_l (emb_l (emb_l emb_id)))
theorem eH : Emb (oParts C v vh vt vr ve) (oLst rInt vh) (fun s => s.1.1.1.2) (fun s t => ((((s.1.1.1.1, t), s.1.1.2), s.1.2), s.2)) := emb_l (emb_l (emb_l (emb_r emb_id)))
theorem eT : Emb (oParts C v vh vt vr ve) (oLL rInt vt) (fun s => s.1.1.2) (fun s t => (((s.1.1.1, t), s.1.2), s.2)) := emb_l (emb_l (emb_r emb_id))
theorem eR : Emb (oParts C v vh vt vr ve) (oLst rRRow vr) (fun s => s.1.2) (fun s t => ((s.1.1, t), s.2)) := emb_l (emb_r emb_id)
theorem eE : Emb (oParts C v vh vt vr ve) (oLst rElder ve) (fun s => s.2) (fun s t => (s.1, t)) := emb_r emb_id
/-- a method without arguments, of an owned instance -/
theorem ev_meth0S {T γ : Type} {mn : Str} {Bf : V → Ow T} {U : Rl γ} {f : M T γ} {E : XK} {g : S → T} {p : S → T → S} (hh : InsHd Bf C mn) (hv : σ[j]? = some (some v)) (e : Emb A (Bf v) g p) :
    Ev (tMeth C mn (spS (fun v => arOne (rV v)) Bf U (fun _ => f)) [] E (tVar j) tNil) σ F A U (zm g p f) := fun s b s' hm F1 H c O sm ho W Q q => by
  obtain ⟨t, h2, rfl⟩ := zm_some hm
  obtain ⟨c3, c4, pm, ob, k⟩ := e.split ho
  obtain ⟨p0, dx, fs, rest, rfl, rfl, hl⟩ := hh.hd ob
  have W0 : Wd F1 H ((p0, .ins C dx fs) :: (rest ++ (c4 ++ O))) := by
    refine W.perm ((pm.append_right O).trans ?_)
    simp
  refine ⟨_, hv, p0, dx, fs, rfl, W0.hd, hl, ?_⟩
  refine ⟨.ref p0, F1, c4 ++ O, (p0, .ins C dx fs) :: rest, (), g s, b, t, ⟨_, rfl, rfl⟩, ob, W.perm ?_, h2, fun v F3 H3 c5 s3 o3 W3 r3 => ?_⟩
  · rw [← List.append_assoc]; exact pm.append_right O
  · obtain ⟨c', oc, pm2⟩ := k F3 t c5 s3 o3
    refine q v F3 H3 c' s3 oc (W3.perm ?_) r3
    rw [← List.append_assoc]; exact (pm2.append_right O).symm
theorem hd_run (m : Str) (h : ∀ vn vs vh vt vr ve g c d, List.lookup m (runFs vn vs vh vt vr ve g c d) = none) : InsHd (oRun C) C m := ⟨fun ⟨vh, vt, vr, ve, c1, c2, e1, ⟨c3, c4, e2, ⟨c5, c6, e3, ⟨c7, c8, e4, ⟨p, dx, vn, vs, ev, ec, _⟩, _⟩, _⟩, _⟩, _⟩ => by
  subst e1 e2 e3 e4 ec
  exact ⟨p, dx, _, _, ev, by simp only [List.cons_append, List.nil_append, List.append_assoc]; rfl, h _ _ _ _ _ _ _ _ _⟩⟩
theorem nolk {m : Str} (h : (["net", "now", "hand", "many_gone", "all_tips", "all_came", "all_ground", "rows", "elder"] : List Str).all (fun k => !(m == k)) = true) : ∀ vn vs vh vt vr ve g c d, List.lookup m (runFs vn vs vh vt vr ve g c d) = none := by
  intro vn vs vh vt vr ve g c d
  simp only [List.all_cons, List.all_nil, Bool.and_eq_true, Bool.not_eq_true', Bool.and_true] at h
  obtain ⟨h1, h2, h3, h4, h5, h6, h7, h8, h9⟩ := h
  unfold runFs
  rw [lk_ne h1, lk_ne h2, lk_ne h3, lk_ne h4, lk_ne h5, lk_ne h6, lk_ne h7, lk_ne h8, lk_ne h9]; rfl
/-! the small ones -/
def mRunTick : M RunS Int := bnd (gtL (fun s => s.1.1.1.1) fun s => some s.2.2.1) fun x s => some (x, s)
def mRunState : M RunS State := bnd (gtL (fun s => s.1.1.1.1) fun s => some s.2.1) fun x s => some (x, s)
def mRunCame : M RunS Int := bnd (gtL (fun s => s.1.1.1.1) fun s => some s.2.2.2.1) fun x s => some (x, s)
def mRunGrounded : M RunS Int := bnd (gtL (fun s => s.1.1.1.1) fun s => some s.2.2.2.2) fun x s => some (x, s)
theorem run_tick (T : RunT K C) : B (tSeq (tRet (tFld K (tVar 0) "many_gone")) tNext) [some v] F (oRun C v) (pRt (oRun C v) rInt) mRunTick := b_open fun vh vt vr ve => b_ret pr_run (ev_gone T (rd_var rfl) eC)
theorem run_state (T : RunT K C) : B (tSeq (tRet (tFld K (tVar 0) "now")) tNext) [some v] F (oRun C v) (pRt (oRun C v) rState) mRunState := b_open fun vh vt vr ve => b_ret pr_run (ev_now T (rd_var rfl) eC)
theorem run_came (T : RunT K C) : B (tSeq (tRet (tFld K (tVar 0) "all_came")) tNext) [some v] F (oRun C v) (pRt (oRun C v) rInt) mRunCame := b_open fun vh vt vr ve => b_ret pr_run (ev_came T (rd_var rfl) eC)
theorem run_grounded (T : RunT K C) : B (tSeq (tRet (tFld K (tVar 0) "all_ground")) tNext) [some v] F (oRun C v) (pRt (oRun C v) rInt) mRunGrounded := b_open fun vh vt vr ve => b_ret pr_run (ev_ground T (rd_var rfl) eC)
/-! with need_vessel -/
abbrev spNV (nv : Net → Int → Option Unit) : Sp := spP (arC rNet (arOne rInt)) rNone (fun x => nv x.1 x.2)
def mNV (nv : Net → Int → Option Unit) (x : Int) : M RunS Unit := bnd (bnd (gtL (fun s => s.1.1.1.1) fun s => some s.1) fun a => bnd (ret x) fun b => ret (a, b)) fun a => lft (nv a.1 a.2)
abbrev tNV (K : PySem.W.Frag) (nv : Net → Int → Option Unit) : TS := tDrop (tCall (spNV nv) [] E0 (tCons (tFld K (tVar 0) "net") (tCons (tVar 1) tNil)))
theorem ev_NV {nv : Net → Int → Option Unit} (T : RunT K C) (h0 : σ[0]? = some (some v)) (h1 : σ[1]? = some (some w)) {x : Int} (r : rInt.r F w x) : Ev (tCall (spNV nv) [] E0 (tCons (tFld K (tVar 0) "net") (tCons (tVar 1) tNil))) σ F (oParts C v vh vt vr ve) rNone (mNV nv x) :=
  ev_callP (ea_cons (ev_net T (rd_var h0) eC) (ea_one (ev_var r h1)))
def mRunPoured (nv : Net → Int → Option Unit) (x : Int) : M RunS Int := bnd (mNV nv x) fun _ => bnd (bnd (ret x) fun i => gtL (fun s => s.1.1.1.2) fun xs => atI xs i) fun x s => some (x, s)
theorem run_poured {nv : Net → Int → Option Unit} (T : RunT K C) {x : Int} (r : rInt.r F w x) : B (tSeq (tNV K nv) (tSeq (tRet (tOp (rIxL K) (tFld K (tVar 0) "hand") (tVar 1))) tNext)) [some v, some w] F (oRun C v) (pRt (oRun C v) rInt) (mRunPoured nv x) :=
  b_open fun vh vt vr ve => b_expr (ev_NV T rfl rfl r) fun _ F' s' => b_ret pr_run (ev_ixR (rd_hand T (rd_var rfl) eC) eH (ev_var (rInt.mono s' r) rfl))
def mRunTips (nv : Net → Int → Option Unit) (x : Int) : M RunS (List Int) := bnd (mNV nv x) fun _ => bnd (bnd (ret x) fun i => gtL (fun s => s.1.1.2) fun xs => atI xs i) fun x s => some (x, s)
theorem run_tips {nv : Net → Int → Option Unit} (T : RunT K C) {x : Int} (r : rInt.r F w x) : B (tSeq (tNV K nv) (tSeq (tRet (tCB (rListOf K) (tCons (tOp (rIxL K) (tFld K (tVar 0) "all_tips") (tVar 1)) tNil))) tNext)) [some v, some w] F (oRun C v) (pRt (oRun C v) (rLst rInt)) (mRunTips nv x) :=
  b_open fun vh vt vr ve => b_expr (ev_NV T rfl rfl r) fun _ F' s' => b_ret pr_run (ev_frz (eo_copyLL (rd_tips T (rd_var rfl) eC) eT (ev_var (rInt.mono s' r) rfl)))
end
end T

/-! T16: a Run's keep, pour, go, and its making. -/
namespace T
open PySem L2
section
variable {S S' T' α β γ Ω ι : Type} {R : Rl α} {R' : Rl β} {K : PySem.W.Frag} {C : Addr} {σ : L2.St} {F : Hp} {A : Ow S} {te te0 ti ta : TE} {tt : TT} {u : TS} {P : Post Ω} {v w vh vt vr ve : V} {i j k : Nat}
theorem ev_inl {m : M S α} (h : Ev te σ F A R m) : Ev te σ F A (rSum R R') (bnd m fun x => ret (.inl x)) := fun s b s' hm F1 H c O sm ho W Q q => by
  obtain ⟨x, s1, h1, hm⟩ := bnd_some hm
  obtain ⟨rfl, rfl⟩ := ret_some hm
  exact h s x _ h1 F1 H c O sm ho W _ fun v F2 H2 c2 s2 o2 W2 r2 => q v F2 H2 c2 s2 o2 W2 r2
theorem ev_inr {m : M S β} (h : Ev te σ F A R' m) : Ev te σ F A (rSum R R') (bnd m fun x => ret (.inr x)) := fun s b s' hm F1 H c O sm ho W Q q => by
  obtain ⟨x, s1, h1, hm⟩ := bnd_some hm
  obtain ⟨rfl, rfl⟩ := ret_some hm
  exact h s x _ h1 F1 H c O sm ho W _ fun v F2 H2 c2 s2 o2 W2 r2 => q v F2 H2 c2 s2 o2 W2 r2
abbrev gC : RunS → RCore := fun s => s.1.1.1.1
abbrev rSums := rTh (arC rInt (arC rInt (arOne rInt)))
/-! keep -/
def mRunKeep : M RunS Unit := bnd (bnd (gtL gC fun s => some s.2.2.1) fun a => bnd (bnd (gtL gC fun s => some s.2.2.2.1) fun a => bnd (gtL gC fun s => some s.2.2.2.2) fun b => ret (a, b)) fun b => ret (a, b)) fun x =>
  bnd (bnd (gtL gC fun s => some s.2.1) fun a => bnd (bnd (gtL (fun s => s.1.1.1.2) fun xs => some xs) fun a => bnd (bnd (ret x) fun a => bnd (bnd (gtL (fun s => s.1.1.2) fun xs => chk xs) fun xs => ret (xs.map fun ys => (ys.length : Int))) fun b => ret (a, b)) fun b => ret (a, b)) fun b => ret (a, b)) fun y =>
  bnd (upL (fun s => s.2) (fun s t => (s.1, t)) fun xs => app xs y) fun _ => fun s => some ((), s)
abbrev tTicks (K : PySem.W.Frag) : TE := tLc (iList K (tFld K (tVar 0) "all_tips")) (gName 2) tYes (tCB (rLen K) (tCons (tVar 2) tNil)) [2]
def tRunKeep (K : PySem.W.Frag) : TS := tSeq (tAsg (tTup (tCons (tFld K (tVar 0) "many_gone") (tCons (tFld K (tVar 0) "all_came") (tCons (tFld K (tVar 0) "all_ground") tNil)))) (gName 1))
  (tSeq (tDrop (tBM K "list" rAppend (tFld K (tVar 0) "elder") (tCons (tTup (tCons (tFld K (tVar 0) "now") (tCons (tCB (rTupleOf K) (tCons (tFld K (tVar 0) "hand") tNil)) (tCons (tVar 1) (tCons (tTicks K) tNil))))) tNil))) tNext)
theorem run_keep (T : RunT K C) : B (tRunKeep K) [some v, none, none] F (oRun C v) (pNx (oRun C v) fun _ _ _ => True) mRunKeep :=
  b_open fun vh vt vr ve => b_set (R := rSums) (ev_tup (by decide) (ea_cons (ev_gone T (rd_var rfl) eC) (ea_cons (ev_came T (rd_var rfl) eC) (ea_one (ev_ground T (rd_var rfl) eC))))) fun w x F' s' r =>
    b_σ (σ' := [some v, some w, none]) rfl (b_appR (rd_elder T (rd_var rfl) eC) eE (ev_tup (by decide) (ea_cons (ev_now T (rd_var rfl) eC) (ea_cons (ev_cbR vh_tuple (rd_hand T (rd_var rfl) eC) eH) (ea_cons (ev_var r rfl) (ea_one (ev_frz (eo_lens (rd_tips T (rd_var rfl) eC) eT (by show 2 < 3; decide) (fun _ => wipe_s _ _ (by decide) (wipe_w _ _)))))))))
      (b_end pr_run))
/-! pour -/
abbrev spKeep (C : Addr) : Sp := spS (fun v => arOne (rV v)) (oRun C) rNone (fun _ => mRunKeep)
def mRunPour (nv : Net → Int → Option Unit) (x y : Int) : M RunS Unit := bnd (mNV nv x) fun _ => bnd (zm (fun s => s) (fun _ t => t) mRunKeep) fun _ =>
  bnd (bnd (ret ("pour" : Str)) fun a => bnd (bnd (ret x) fun a => bnd (bnd (ret y) fun x => ret (Sum.inl x)) fun b => ret (a, b)) fun b => ret (a, b)) fun r =>
  bnd (upL (fun s => s.1.2) (fun s t => ((s.1.1, t), s.2)) fun xs => app xs r) fun _ =>
  bnd (ret x) fun i => bnd (gtL (fun s => s.1.1.1.2) fun xs => atI xs i) fun a => bnd (ret y) fun b => bnd (upL (fun s => s.1.1.1.2) (fun s t => ((((s.1.1.1.1, t), s.1.1.2), s.1.2), s.2)) fun xs => setI xs i (a + b)) fun _ => fun s => some ((), s)
def tRunPour (K : PySem.W.Frag) (C : Addr) (nv : Net → Int → Option Unit) : TS := tSeq (tNV K nv) (tSeq (tDrop (tMeth C "keep" (spKeep C) [] E0 (tVar 0) tNil))
  (tSeq (tDrop (tBM K "list" rAppend (tFld K (tVar 0) "rows") (tCons (tTup (tCons (tC (.str "pour")) (tCons (tVar 1) (tCons (tVar 2) tNil)))) tNil)))
  (tSeq (tAugS (tFld K (tVar 0) "hand") (tVar 1) (tVar 2) (rIxL K) (ipI fun i j => i + j) rSetL) tNext)))
theorem run_pour {nv : Net → Int → Option Unit} {w2 : V} {x y : Int} (T : RunT K C) (r : rInt.r F w x) (r2 : rInt.r F w2 y) : B (tRunPour K C nv) [some v, some w, some w2] F (oRun C v) (pNx (oRun C v) fun _ _ _ => True) (mRunPour nv x y) :=
  b_expr (ev_open fun vh vt vr ve => ev_NV T rfl rfl r) fun _ F1 s1 => b_expr (ev_meth0S (hd_run "keep" (nolk (by decide +kernel))) rfl emb_id) fun _ F2 s2 => b_open fun vh vt vr ve =>
    b_appR (rd_rows T (rd_var rfl) eC) eR (ev_tup (by decide) (ea_cons ev_str (ea_cons (ev_var (rInt.mono (s1.trans s2) r) rfl) (ea_one (ev_inl (ev_var (rInt.mono (s1.trans s2) r2) rfl))))))
      (b_augR (h := fun i j => i + j) (rd_hand T (rd_var rfl) eC) eH (ev_var (rInt.mono (s1.trans s2) r) rfl) (ev_var (rInt.mono (s1.trans s2) r2) rfl) (b_end pr_run))
end
end T

/-! T17: a Run's go, and its making. -/
namespace T
open PySem L2
section
variable {S S' T' α β γ Ω ι : Type} {R : Rl α} {R' : Rl β} {K : PySem.W.Frag} {C : Addr} {σ : L2.St} {F : Hp} {A : Ow S} {te te0 ti ta : TE} {tt : TT} {u : TS} {P : Post Ω} {v w vh vt vr ve : V} {i j k : Nat}
abbrev TickW := Net → State → List Int → Option Int → Option (State × List Int × Int × Int)
abbrev spTW (tw : TickW) : Sp := spP (arC rNet (arC rState (arC (rTup rInt) (arOne (rOpt rInt))))) rTick (fun x => tw x.1 x.2.1 x.2.2.1 x.2.2.2)
abbrev spDry (dry : Net → Option (List Int)) : Sp := spP (arOne rNet) (rTup rInt) (fun x => dry x)
abbrev GoS := RunS × List TipAt
/-- what a tipping does to the books -/
def mGoTip (n : Int) : M GoS Unit := bnd (ret n) fun i => bnd (gtL (fun s => s) fun s => some s.1.1.1.1.1.2.2.1) fun x => bnd (upL (fun s => s.1.1.1.2) (fun s t => ((((s.1.1.1.1, t), s.1.1.2), s.1.2), s.2)) fun xs => (atI xs i).bind fun ys => (app ys x).bind fun zs => setI xs i zs) fun _ =>
  bnd (bnd (gtL (fun s => s.1.1.1.1.1) fun s => some s.2.2.1) fun a => bnd (ret n) fun b => ret (a, b)) fun r => bnd (upL (fun s => s.2) (fun s t => (s.1, t)) fun xs => app xs r) fun _ => fun s => some ((), s)
def putC (s : GoS) (t : RCore) : GoS := (((((t, s.1.1.1.1.2), s.1.1.1.2), s.1.1.2), s.1.2), s.2)
def mGoTurn (tw : TickW) (dry : Net → Option (List Int)) : M GoS Unit := bnd (bnd (bnd (gtL (fun s => s.1.1.1.1.1) fun s => some s.1) fun a => bnd (bnd (gtL (fun s => s.1.1.1.1.1) fun s => some s.2.1) fun a => bnd (bnd (gtL (fun s => s.1.1.1.1.2) fun xs => some xs) fun a => bnd (ret none) fun b => ret (a, b)) fun b => ret (a, b)) fun b => ret (a, b)) fun x => lft (tw x.1 x.2.1 x.2.2.1 x.2.2.2)) fun x =>
  bnd (upL (fun s => s.1.1.1.1.1) putC fun t => some (t.1, x.1, t.2.2)) fun _ =>
  bnd (bnd (bnd (gtL (fun s => s.1.1.1.1.1) fun s => some s.1) fun a => lft (dry a)) fun a => lft (some a)) fun h =>
  bnd (upL (fun s => s.1.1.1.1) (fun s t => ((((t, s.1.1.1.2), s.1.1.2), s.1.2), s.2)) fun t => some (t.1, h)) fun _ =>
  bnd (ret x.2.1) fun ns => bnd (fd (fun (_ : Unit) n => mGoTip n) () ns) fun _ =>
  bnd (ret x.2.2.1) fun y => bnd (upL (fun s => s.1.1.1.1.1) putC fun t => some (t.1, t.2.1, t.2.2.1, t.2.2.2.1, t.2.2.2.2 + y)) fun _ =>
  bnd (ret x.2.2.2) fun y => bnd (upL (fun s => s.1.1.1.1.1) putC fun t => some (t.1, t.2.1, t.2.2.1, t.2.2.2.1 + y, t.2.2.2.2)) fun _ =>
  bnd (ret 1) fun y => bnd (upL (fun s => s.1.1.1.1.1) putC fun t => some (t.1, t.2.1, t.2.2.1 + y, t.2.2.2.1, t.2.2.2.2)) fun _ => fun s => some ((), s)
def mRunGo (tw : TickW) (dry : Net → Option (List Int)) (many : Int) : M RunS Unit := bnd (zm (fun s => s) (fun _ t => t) mRunKeep) fun _ => bnd (bnd (ret ([] : List TipAt)) fun xs => lft (few xs)) (nw (
  bnd (bnd (ret many) fun n => lft (rng 0 n)) fun xs => bnd (fd (fun (_ : Unit) _ => mGoTurn tw dry) () xs) fun _ =>
  bnd (bnd (ret ("go" : Str)) fun a => bnd (bnd (ret many) fun a => bnd (bnd (gtL (fun s => s.2) fun xs => some xs) fun x => ret (Sum.inr x)) fun b => ret (a, b)) fun b => ret (a, b)) fun r =>
  bnd (upL (fun s => s.1.1.2) (fun s t => (((s.1.1.1, t), s.1.2), s.2)) fun xs => app xs r) fun _ => fun s => some ((), s.1)))
abbrev tSelf (K : PySem.W.Frag) (f : Str) : TE := tFld K (tVar 0) f
def tGoTip (K : PySem.W.Frag) : TS := tSeq (tDrop (tBM K "list" rAppend (tOp (rIxL K) (tSelf K "all_tips") (tVar 7)) (tCons (tSelf K "many_gone") tNil)))
  (tSeq (tDrop (tBM K "list" rAppend (tVar 2) (tCons (tTup (tCons (tSelf K "many_gone") (tCons (tVar 7) tNil))) tNil))) tNext)
def tGoTurn (K : PySem.W.Frag) (tw : TickW) (dry : Net → Option (List Int)) : TS :=
  tSeq (tAsg (tCall (spTW tw) [] E0 (tCons (tSelf K "net") (tCons (tSelf K "now") (tCons (tCB (rTupleOf K) (tCons (tSelf K "hand") tNil)) (tCons (tC .non) tNil))))) (gTup K 4 (gCons (gFld K (tVar 0) "now") (gCons (gName 4) (gCons (gName 5) (gCons (gName 6) gNil))))))
  (tSeq (sFld K (tVar 0) (tCB (rListOf K) (tCons (tCall (spDry dry) [] E0 (tCons (tSelf K "net") tNil)) tNil)) "hand")
  (tSeq (tFor (iTup K (tVar 4)) (gName 7) (tGoTip K))
  (tSeq (sFldAug K (tVar 0) (tVar 5) rAdd "all_ground") (tSeq (sFldAug K (tVar 0) (tVar 6) rAdd "all_came") (tSeq (sFldAug K (tVar 0) (tC (.int 1)) rAdd "many_gone") tNext)))))
def tRunGo (K : PySem.W.Frag) (C : Addr) (tw : TickW) (dry : Net → Option (List Int)) : TS := tSeq (tDrop (tMeth C "keep" (spKeep C) [] E0 (tVar 0) tNil)) (tSeq (tAsg (tLst tNil) (gName 2))
  (tSeq (tFor (iRng1 (tCons (tVar 1) tNil)) (gName 3) (tGoTurn K tw dry))
  (tSeq (tDrop (tBM K "list" rAppend (tSelf K "rows") (tCons (tTup (tCons (tC (.str "go")) (tCons (tVar 1) (tCons (tCB (rTupleOf K) (tCons (tVar 2) tNil)) tNil)))) tNil))) tNext)))
abbrev oGo (C : Addr) (v vt vr ve va vh : V) : Ow GoS := star (oParts C v vh vt vr ve) (oLst rTipAt va)
variable {va : V}
theorem gCo : Emb (oGo C v vt vr ve va vh) (oCore C v vh vt vr ve) (fun s => s.1.1.1.1.1) putC := emb_l eC
theorem gHa : Emb (oGo C v vt vr ve va vh) (oLst rInt vh) (fun s => s.1.1.1.1.2) (fun s t => (((((s.1.1.1.1.1, t), s.1.1.1.2), s.1.1.2), s.1.2), s.2)) := emb_l eH
theorem gTi : Emb (oGo C v vt vr ve va vh) (oLL rInt vt) (fun s => s.1.1.1.2) (fun s t => ((((s.1.1.1.1, t), s.1.1.2), s.1.2), s.2)) := emb_l eT
theorem gRo : Emb (oGo C v vt vr ve va vh) (oLst rRRow vr) (fun s => s.1.1.2) (fun s t => (((s.1.1.1, t), s.1.2), s.2)) := emb_l eR
theorem gAl : Emb (oGo C v vt vr ve va vh) (oLst rTipAt va) (fun s => s.2) (fun s t => (s.1, t)) := emb_r emb_id
theorem run_goTip (T : RunT K C) {vm : V} {x4 x5 x6 : Option V} {x3 : Option V} {n : Int} {x7 : V} (r : rInt.r F x7 n) : B (tGoTip K) [some v, some vm, some va, x3, x4, x5, x6, some x7] F (oGo C v vt vr ve va vh) (pNx (oGo C v vt vr ve va vh) fun (_ : Unit) _ σ => ∃ u, σ = [some v, some vm, some va, x3, x4, x5, x6, u]) (mGoTip n) :=
  b_appLL (rd_tips T (rd_var rfl) gCo) gTi (ev_var r rfl) (ev0_gone T (rd_var rfl) gCo)
    (b_app rfl gAl (ev_tup (by decide) (ea_cons (ev_gone T (rd_var rfl) gCo) (ea_one (ev_var r rfl)))) (b_nx pr_id fun _ _ => ⟨_, rfl⟩))
theorem run_goTurn {tw : TickW} {dry : Net → Option (List Int)} (T : RunT K C) {vm : V} {x3 x4 x5 x6 x7 : Option V} :
    B (tGoTurn K tw dry) [some v, some vm, some va, x3, x4, x5, x6, x7] F (oGo C v vt vr ve va vh) (pNxI (fun i => oGo C v vt vr ve va i) fun (_ : Unit) _ _ σ => ∃ u3 u4 u5 u6 u7, σ = [some v, some vm, some va, u3, u4, u5, u6, u7]) (mGoTurn tw dry) :=
  b_unpNow T rfl gCo (ev_callP (ea_cons (ev_net T (rd_var rfl) gCo) (ea_cons (ev_now T (rd_var rfl) gCo) (ea_cons (ev_cbR vh_tuple (rd_hand T (rd_var rfl) gCo) gHa) (ea_one ev_nonO))))) fun v1 v2 v3 x F1 s1 r1 r2 r3 =>
  b_σ (σ' := [some v, some vm, some va, x3, some v1, some v2, some v3, x7]) rfl
  (b_hand (A := fun i => oGo C v vt vr ve va i) T rfl (embF_l (embF_l (embF_l (embF_l embF_id)))) (eo_cb vo_listT (ea_one (ev_callP (ea_one (ev_net T (rd_var rfl) gCo))))) fun vh' F2 s2 =>
  b_for (z0 := ()) (Sl := fun _ _ σ => ∃ u, σ = [some v, some vm, some va, x3, some v1, some v2, some v3, u]) (ei_tup (ev_var ((rTup rInt).mono s2 r1) rfl)) (fun _ _ => ⟨_, rfl⟩)
    (fun z n w F' σ' s' ⟨u, e⟩ r => by subst e; exact b_go go_name (fun _ k => by subst k; exact b_σ (σ' := [some v, some vm, some va, x3, some v1, some v2, some v3, some w]) rfl (run_goTip T r)))
    (fun z F' σ' s' ⟨u, e⟩ => by
      subst e
      exact b_sum T (sf_ground T) (rd_var rfl) gCo (fun s y s1 h => by cases h; rfl) (ev_var (rInt.mono (s2.trans s') r2) rfl)
        (b_sum T (sf_came T) (rd_var rfl) gCo (fun s y s1 h => by cases h; rfl) (ev_var (rInt.mono (s2.trans s') r3) rfl)
        (b_sum T (sf_gone T) (rd_var rfl) gCo (fun s y s1 h => by cases h; rfl) ev_int (b_nxI vh' pr_id fun _ _ => ⟨_, _, _, _, _, rfl⟩))))
    (fun _ _ _ _ _ h => h))
theorem run_go {tw : TickW} {dry : Net → Option (List Int)} (T : RunT K C) {n : Int} (r : rInt.r F w n) : B (tRunGo K C tw dry) [some v, some w, none, none, none, none, none, none] F (oRun C v) (pNx (oRun C v) fun _ _ _ => True) (mRunGo tw dry n) :=
  b_expr (ev_meth0S (hd_run "keep" (nolk (by decide +kernel))) rfl emb_id) fun _ F1 s1 => b_open fun vh vt vr ve =>
  b_new (eo_lst eal_nil) fun va F2 s2 => b_σ (σ' := [some v, some w, some va, none, none, none, none, none]) rfl
  (b_forI (A := fun i => oGo C v vt vr ve va i) vh (z0 := ()) (Sl := fun _ _ _ σ => ∃ u3 u4 u5 u6 u7, σ = [some v, some w, some va, u3, u4, u5, u6, u7]) (ei_rng1 (ev_var (rInt.mono (s1.trans s2) r) rfl)) (fun _ _ => ⟨_, _, _, _, _, rfl⟩)
    (fun z i x y F' σ' s' ⟨u3, u4, u5, u6, u7, e⟩ r => by subst e; exact b_go go_name (fun _ k => by subst k; exact b_σ (σ' := [some v, some w, some va, some y, u4, u5, u6, u7]) rfl (run_goTurn T)))
    (fun z i F' σ' s' ⟨u3, u4, u5, u6, u7, e⟩ => by
      subst e
      exact b_appR (rd_rows T (rd_var rfl) gCo) gRo (ev_tup (by decide) (ea_cons ev_str (ea_cons (ev_var (rInt.mono ((s1.trans s2).trans s') r) rfl) (ea_one (ev_inr (ev_cbR vh_tuple (rd_var rfl) gAl)))))) (b_end (pr_l pr_run)))
    (fun _ _ _ _ _ _ h => h))
end
end T

/-! T18: a Run made. -/
namespace T
open PySem L2
section
variable {S S' T' α β γ Ω ι : Type} {R : Rl α} {R' : Rl β} {K : PySem.W.Frag} {C : Addr} {σ : L2.St} {F : Hp} {A : Ow S} {te te0 ti ta : TE} {tt : TT} {u : TS} {P : Post Ω} {v w vh vt vr ve : V} {i j k : Nat}
theorem lenZ : ([] : List (Str × V)).length ≤ 0 := Nat.le_refl _
theorem lenP {f : Str} {x : V} {fs : List (Str × V)} {n : Nat} (h : fs.length ≤ n) : (putF f x fs).length ≤ n + 1 := Nat.le_trans (length_putF f x fs) (Nat.succ_le_succ h)
theorem lp {fs : List (Str × V)} {n : Nat} (h : fs.length ≤ n) (hn : n < 1000 := by decide) : fs.length < 1000 := Nat.lt_of_le_of_lt h hn
def run0 (net : Net) (st : State) (d : List Int) : RunS := (((((net, st, 0, 0, 0), d), net.1.map fun _ => []), []), [])
def runNew (isn : Net → Option Bool) (fst : Net → Option State) (dry : Net → Option (List Int)) (net : Net) : Option RunS :=
  (isn net).bind fun b => bif b then (fst net).bind fun st => (dry net).bind fun d => (chk net.1).bind fun _ => some (run0 net st d) else none
abbrev spN (f : Net → Option Bool) : Sp := spP (arOne rNet) rBool (fun x => f x)
abbrev spF (f : Net → Option State) : Sp := spP (arOne rNet) rState (fun x => f x)
/-- __init__'s promise -/
def spRunInit (C : Addr) (isn : Net → Option Bool) (fst : Net → Option State) (dry : Net → Option (List Int)) : Sp := fun vs H Q _ => ∃ (p dx : Addr) (F : Hp) (O : Ch) (vn : V) (net : Net) (b : RunS), vs = [.ref p, vn] ∧ rNet.r F vn net ∧ Wd F H ((p, .ins C dx []) :: O) ∧ runNew isn fst dry net = some b ∧
  ∀ (F' H' : Hp) (cb : Ch), Same F F' → (oRun C (.ref p)).o F' b cb → Wd F' H' (cb ++ O) → Q .non H'
theorem eo_run {isn : Net → Option Bool} {fst : Net → Option State} {dry : Net → Option (List Int)} {E : XK} {m : M S Net} (h : Ev te σ F A rNet m) : EvO (tMake C (spRunInit C isn fst dry) [] E (tCons te tNil)) σ F A (oRun C) (bnd m fun n => lft (runNew isn fst dry n)) := fun s b s' hm F1 H c O sm ho W Q q => by
  obtain ⟨n, s1, h1, hm⟩ := bnd_some hm
  obtain ⟨h2, rfl⟩ := lft_some hm
  refine h s n _ h1 F1 H c O sm ho W _ fun v F2 H2 c2 s2 o2 W2 r2 => fun x dx nx ndx ne => ?_
  have W3 : Wd F2 (upd (upd H2 dx (.own x)) x (.ins C dx [])) ((x, .ins C dx []) :: (c2 ++ O)) := (W2.junk ndx).newO (by rw [upd_ne (Ne.symm ne)]; exact nx)
  exact ⟨x, dx, F2, _, v, n, b, rfl, r2, W3, h2, fun F3 H3 cb s3 ob W4 => ⟨rfl, q _ F3 H3 c2 cb (s2.trans s3) (A.mono s3 o2) ob W4⟩⟩
abbrev tCN (f : Net → Option Bool) : TE := tCall (spN f) [] E0 (tCons (tVar 1) tNil)
def tRunInit (K : PySem.W.Frag) (isn : Net → Option Bool) (fst : Net → Option State) (dry : Net → Option (List Int)) : TS :=
  tSeq (tIfS (tNot (tB (tCN isn))) tDead tNext) (tSeq (sFld K (tVar 0) (tVar 1) "net") (tSeq (sFld K (tVar 0) (tCall (spF fst) [] E0 (tCons (tVar 1) tNil)) "now")
  (tSeq (sFld K (tVar 0) (tCB (rListOf K) (tCons (tCall (spDry dry) [] E0 (tCons (tVar 1) tNil)) tNil)) "hand") (tSeq (sFld K (tVar 0) (tC (.int 0)) "many_gone")
  (tSeq (sFld K (tVar 0) (tLc (iTup K (tOp (rIxT K) (tVar 1) (tC (.int 0)))) (gName 2) tYes (tLst tNil) [2]) "all_tips") (tSeq (sFld K (tVar 0) (tC (.int 0)) "all_came") (tSeq (sFld K (tVar 0) (tC (.int 0)) "all_ground")
  (tSeq (sFld K (tVar 0) (tLst tNil) "rows") (tSeq (sFld K (tVar 0) (tLst tNil) "elder") tNext)))))))))
abbrev InS := Unit × (((((Unit × List Int) × List (List Int)) × List RRow) × List Elder))
def pin (net : Net) (st : State) (g c d : Int) (s : InS) : RunS := (((((net, st, g, c, d), s.2.1.1.1.2), s.2.1.1.2), s.2.1.2), s.2.2)
theorem b_inEnd {p : Addr} {vn vs : V} {net : Net} {st : State} {g c d : Int} (r1 : rNet.r F vn net) (r2 : rState.r F vs st) :
    B tNext σ F (star (oIns C (.ref p) (runFs vn vs vh vt vr ve g c d)) (star (star (star (star emp (oLst rInt vh)) (oLL rInt vt)) (oLst rRRow vr)) (oLst rElder ve))) (pNx (oRun C (.ref p)) fun _ _ _ => True) (fun s => some ((), pin net st g c d s)) := fun s w hm F1 H c O sm ⟨c1, c2, e1, ⟨p0, dx, ep, ec⟩, c3, c4, e3, ⟨c5, c6, e5, ⟨c7, c8, e7, ⟨c9, c10, e9, o9, o10⟩, o8⟩, o6⟩, o4⟩ W D q => by
  cases hm
  cases ep
  cases o9
  subst e9 e7 e5 e3 ec e1
  refine q F1 H _ _ (SameR _) ⟨vh, vt, vr, ve, _, _, rfl, ⟨_, _, rfl, ⟨_, _, rfl, ⟨_, _, rfl, ⟨p, dx, vn, vs, rfl, rfl, rNet.mono sm r1, rState.mono sm r2⟩, o10⟩, o8⟩, o6⟩, o4⟩ ?_ trivial
  simp only [List.append_assoc, List.cons_append, List.nil_append] at W ⊢
  exact W
def mRunInit (isn : Net → Option Bool) (fst : Net → Option State) (dry : Net → Option (List Int)) (net : Net) : Unit × Unit → Option (Unit × RunS) :=
  bnd (bnd (bnd (ret net) fun x => lft (isn x)) fun b => ret (!b)) fun b => bif b then (fun _ => none) else
  bnd (ret net) fun nt => bnd (bnd (ret net) fun x => lft (fst x)) fun st =>
  bnd (bnd (bnd (ret net) fun x => lft (dry x)) fun x => lft (some x)) (nwp (bnd (ret (0 : Int)) fun g =>
  bnd (bnd (bnd (ret net) fun a => ret a.1) fun xs => bnd (lft (chk xs)) fun xs => ret (xs.map fun _ => ([] : List Int))) (nwp (bnd (ret (0 : Int)) fun c => bnd (ret (0 : Int)) fun d =>
  bnd (bnd (ret ([] : List RRow)) fun xs => lft (few xs)) (nwp (bnd (bnd (ret ([] : List Elder)) fun xs => lft (few xs)) (nwp fun s => some ((), pin nt st g c d s))))))))
theorem run_init {isn : Net → Option Bool} {fst : Net → Option State} {dry : Net → Option (List Int)} {p : Addr} {net : Net} (T : RunT K C) (r : rNet.r F w net) :
    B (tRunInit K isn fst dry) [some (.ref p), some w, none] F (star (oIns C (.ref p) []) emp) (pNx (oRun C (.ref p)) fun _ _ _ => True) (mRunInit isn fst dry net) :=
  b_ifDead (et_not (et_B (ev_callP (ea_one (ev_var r rfl))))) fun F1 s1 =>
  b_put T.cl T.net (by show 0 < 1000; decide) rfl (ev_var (rNet.mono s1 r) rfl) fun wn nt F2 s2 r2 =>
  b_put T.cl T.now (lp (n := 1) (lenP lenZ)) rfl (ev_callP (ea_one (ev_var (rNet.mono (s1.trans s2) r) rfl))) fun ws st F3 s3 r3 =>
  b_putO T.cl T.hand (lp (n := 2) (lenP (lenP lenZ))) rfl (eo_cb vo_listT (ea_one (ev_callP (ea_one (ev_var (rNet.mono ((s1.trans s2).trans s3) r) rfl))))) fun wh F4 s4 =>
  b_put T.cl T.many_gone (lp (n := 3) (lenP (lenP (lenP lenZ)))) rfl ev_int fun wg g F5 s5 r5 =>
  b_putO T.cl T.all_tips (lp (n := 4) (lenP (lenP (lenP (lenP lenZ))))) rfl (eo_nils (ei_tup (ev_prj prj_0 (ev_var (rNet.mono ((((s1.trans s2).trans s3).trans s4).trans s5) r) rfl))) (fun _ => wipe_s _ _ (by decide) (wipe_w _ _))) fun wt F6 s6 =>
  b_put T.cl T.all_came (lp (n := 5) (lenP (lenP (lenP (lenP (lenP lenZ)))))) rfl ev_int fun wc c F7 s7 r7 =>
  b_put T.cl T.all_ground (lp (n := 6) (lenP (lenP (lenP (lenP (lenP (lenP lenZ))))))) rfl ev_int fun wd d F8 s8 r8 =>
  b_putO T.cl T.rows (lp (n := 7) (lenP (lenP (lenP (lenP (lenP (lenP (lenP lenZ)))))))) rfl (eo_lst eal_nil) fun wr F9 s9 =>
  b_putO T.cl T.elder (lp (n := 8) (lenP (lenP (lenP (lenP (lenP (lenP (lenP (lenP lenZ))))))))) rfl (eo_lst eal_nil) fun we F10 s10 => by
  obtain rfl : wg = .int g := r5
  obtain rfl : wc = .int c := r7
  obtain rfl : wd = .int d := r8
  rw [run_fs]
  exact b_inEnd (rNet.mono (((((((s3.trans s4).trans s5).trans s6).trans s7).trans s8).trans s9).trans s10) r2) (rState.mono ((((((s4.trans s5).trans s6).trans s7).trans s8).trans s9).trans s10) r3)
theorem mRunInit_eq {isn : Net → Option Bool} {fst : Net → Option State} {dry : Net → Option (List Int)} {net : Net} {b : RunS} (h : runNew isn fst dry net = some b) : mRunInit isn fst dry net ((), ()) = some ((), b) := by
  unfold runNew at h
  obtain ⟨t, e1, h⟩ := Option.bind_eq_some_iff.mp h
  cases t with
  | false => cases h
  | true =>
    obtain ⟨st, e2, h⟩ := Option.bind_eq_some_iff.mp (show (fst net).bind _ = some b from h)
    obtain ⟨d, e3, h⟩ := Option.bind_eq_some_iff.mp h
    obtain ⟨xs, e4, h⟩ := Option.bind_eq_some_iff.mp h
    cases h
    obtain ⟨rfl, _⟩ := chk_some e4
    unfold mRunInit
    simp [bnd, ret, lft, nwp, e1, e2, e3, e4, few, pin, run0]
theorem runInit_ok {isn : Net → Option Bool} {fst : Net → Option State} {dry : Net → Option (List Int)} (T : RunT K C) {vs : List V} {H : Hp} {Q : VK} {E : XK} (h : spRunInit C isn fst dry vs H Q E) : tRunInit K isn fst dry { nx := fun _ H' => Q .non H', rt := Q } (start ["self", "net", "vessel"] vs) H := by
  obtain ⟨p, dx, F, O, vn, net, b, rfl, r, W, hb, k⟩ := h
  exact run_init T r ((), ()) ((), b) (mRunInit_eq hb) F H [(p, .ins C dx [])] O (SameR _) ⟨[(p, .ins C dx [])], [], rfl, ⟨p, dx, rfl, rfl⟩, rfl⟩ W _ fun F' H' c' σ' s' o' W' _ => k F' H' c' s' o' W'
end
end T

/-! T19: what the generator needs of Runs, of constants that are tuples; a head that tells such constants. -/
namespace T
open PySem L2
section
variable {S α β γ : Type} {R : Rl α} {K : PySem.W.Frag} {σ : L2.St} {F : Hp} {A : Ow S} {te : TE}
theorem ev_unopt {m : M S (Option α)} (h : Ev te σ F A (rOpt R) m) : Ev te σ F A R (bnd m fun o => lft o) := fun s b s' hm F1 H c O sm ho W Q q => by
  obtain ⟨o, s1, h1, hm⟩ := bnd_some hm
  obtain ⟨rfl, rfl⟩ := lft_some hm
  exact h s (some b) _ h1 F1 H c O sm ho W _ fun v F2 H2 c2 s2 o2 W2 r2 => q v F2 H2 c2 s2 o2 W2 r2
/-- x in a constant tuple of texts -/
theorem ev_inW {a : Addr} {ws : List Str} {m : M S Str} (hs : ∀ H, SqT K H a (ws.map V.str)) (h : Ev te σ F A rStr m) : Ev (tOp (rIn K false) te (tC (.ref a))) σ F A rBool (bnd m fun x => ret (ws.any fun b => decide (b = x))) := fun s b s' hm F1 H c O sm ho W Q q => by
  obtain ⟨x, s1, h1, hm⟩ := bnd_some hm
  obtain ⟨rfl, rfl⟩ := ret_some hm
  refine h s x _ h1 F1 H c O sm ho W _ fun v F2 H2 c2 s2 o2 W2 r2 => ⟨a, _, rfl, .inr (hs H2), by rw [show v = .str x from r2]; rfl, by rw [List.all_map]; exact List.all_eq_true.mpr fun z _ => rfl, ?_⟩
  have e2 : inV v (ws.map V.str) = ws.any fun z => decide (z = x) := by
    rw [show v = .str x from r2]; unfold inV; rw [List.any_map]; congr 1 <;> funext z <;> exact eqV_str z x
  rw [e2]
  exact q _ F2 H2 c2 s2 o2 W2 rfl
theorem ok_PN {Q : VK} {t : TS} {F H : Hp} {O : Ch} {b : Unit} {m : M Unit Unit} (W : Wd F H O) (hm : rn m = some b) (q : ∀ v F' H', Same F F' → Wd F' H' O → rNone.r F' v b → Q v H') (h : B t σ F emp (pNx emp fun _ _ _ => True) m) : t { nx := fun _ H' => Q .non H', rt := Q } σ H :=
  h () (b, ()) (rn_some hm) F H [] O (SameR _) rfl W _ fun F' H' c' σ' s o w _ => q .non F' H' s (by rw [show c' = [] from o] at w; exact w) rfl
end
section
variable {X : Cx} {k j : Nat} {m : Str} {C : Addr} {ps : List Str} {sp : Sp} {pos apos : Pos} {o : Expr} {ta : TE}
theorem pe_knM0 {pl : Sem Bool} (ho : PE X o ta) (h : KnM X.prog X.w X.K X.mg X.base CX0 j m C ps sp) (hr : Room k X.A) (hj : j ≤ k)
    (ht : eval (.Call (.Attribute o m apos) [] [] pos) X.env = (do
      let ov ← eval o X.env
      standAt apos.atName
      let (f, first) ← holding [ov] (getMethod ov m pl)
      callWith pos f first (backTo pos (starEach [] X.env)) (backToKw pos (keywordEach [] X.env))) := by rfl) :
    PE X (.Call (.Attribute o m apos) [] [] pos) (tMeth C m sp [] E0 ta tNil) := by
  obtain ⟨f, fd, h1, h2, h3⟩ := h.ex
  exact pe_meth0 ho h.cl h1 h3 (hr.mono hj) h2 .nil pass0 ht
end
theorem vh_sum {K : PySem.W.Frag} : VH (L2.rSum K) rInt rInt (fun xs => some xs.sum) := fun F H O l vs xs b W h rp hf Q q => by
  cases hf
  exact ⟨l, xs, rfl, SqL.of (by rw [← vs_int rp]; exact h), q _ F H (SameR _) W rfl⟩
/-! promises of a Run's methods -/
abbrev spRun0 {γ : Type} (C : Addr) (U : Rl γ) (f : M RunS γ) : Sp := spS (fun v => arOne (rV v)) (oRun C) U (fun _ => f)
abbrev spRun1 {γ : Type} (C : Addr) (U : Rl γ) (f : Int → M RunS γ) : Sp := spS (fun v => arC (rV v) (arOne rInt)) (oRun C) U (fun x => f x.2)
abbrev spRun2 {γ : Type} (C : Addr) (U : Rl γ) (f : Int → Int → M RunS γ) : Sp := spS (fun v => arC (rV v) (arC rInt (arOne rInt))) (oRun C) U (fun x => f x.2.1 x.2.2)
theorem pe_globI {X : Cx} {x : Str} {i : Int} {pos : Pos} (hg : Gl X x) (hm : ∃ t, X.mg x = some (.int i t)) (hd : (x == ("__debug__" : Str)) = false := by decide) : PE X (.Name x pos) (tC (.int i)) := by
  obtain ⟨t, h⟩ := hm
  exact pe_glob hg h ⟨t, rfl⟩ hd
/-! a loop whose turns may return and bind an owned name anew -/
section
variable {S S0 S1 ι α β γ Z Ω : Type} {R : Rl α} {R' : Rl β} {σ : L2.St} {F : Hp} {t w : TS}
theorem b_forEI {A : ι → Ow S} (i0 : ι) {wi : TI} {g : TG} {f : Z → α → S → Option (Fl (Z × S) (β × S0))} {z0 : Z} {Sl : Z → ι → Hp → L2.St → Prop} {X : Ow S0} {h : Z → S → Option (β × S0)} {ml : M S (List α)} (hi : EvI wi σ F (A i0) R ml) (h0 : ∀ F', Same F F' → Sl z0 i0 F' σ)
    (hb : ∀ z i x v F' σ', Same F F' → Sl z i F' σ' → R.r F' v x → B (tGo g v t) σ' F' (A i) (pFlI A Sl X R') (f z x)) (k : ∀ z i F' σ', Same F F' → Sl z i F' σ' → B w σ' F' (A i) (pRt X R') (h z))
    (hS : ∀ z i F F' σ', Same F F' → Sl z i F σ' → Sl z i F' σ') : B (tSeq (tFor wi g t) w) σ F (A i0) (pRt X R') (bnd ml fun xs => fthn (fdE f z0 xs) h) := fun s r hm F1 H c O sm ho W D q => by
  obtain ⟨xs, s1, h1, hm⟩ := bnd_some hm
  unfold fthn at hm
  cases e0 : fdE f z0 xs s1 with
  | none => rw [e0] at hm; cases hm
  | some fl =>
    rw [e0] at hm
    refine hi s xs s1 h1 F1 H c O sm ho W _ fun J F2 H2 c2 sm2 o2 W2 ⟨G, Y, wk, hG, hY⟩ => ?_
    refine for_it wk (fun n σ3 H3 => ∃ i z s3 F3 c3, Same F2 F3 ∧ (A i).o F3 s3 c3 ∧ Wd F3 H3 (c3 ++ O) ∧ Sl z i F3 σ3 ∧ fdE f z (xs.drop n) s3 = some fl) ?_ ?_ ?_ ?_
    · exact ⟨i0, z0, s1, F2, c2, SameR _, o2, W2, h0 F2 (sm.trans sm2), e0⟩
    · rintro n σ3 H3 _ ⟨i, z, s3, F3, c3, sm3, o3, W3, _⟩
      exact hG F3 H3 sm3 W3.sub
    · rintro n x σ3 H3 H4 hlt ⟨i, z, s3, F3, c3, sm3, o3, W3, sl, hfd⟩ y
      obtain ⟨F4, sm4, W4, a, ha, ra⟩ := hY n H3 x H4 hlt y F3 _ sm3 W3
      rcases fdE_cons ha hfd with ⟨q', e1, e2⟩ | ⟨b, e1, e2⟩
      · exact hb z i a x F4 σ3 ((sm.trans sm2).trans (sm3.trans sm4)) (hS _ _ _ _ _ sm4 sl) ra s3 _ e1 F4 H4 c3 O (SameR _) ((A i).mono sm4 o3) W4 _ fun i5 F5 H5 c5 σ5 s5 o5 W5 sl5 => ⟨i5, q'.1, q'.2, F5, c5, sm3.trans (sm4.trans s5), o5, W5, sl5, e2⟩
      · subst e2
        obtain rfl : b = r := Option.some.inj hm
        exact hb z i a x F4 σ3 ((sm.trans sm2).trans (sm3.trans sm4)) (hS _ _ _ _ _ sm4 sl) ra s3 _ e1 F4 H4 c3 O (SameR _) ((A i).mono sm4 o3) W4 _ ((pRt X R').mono (sm2.trans (sm3.trans sm4)) q)
    · rintro σ3 H3 ⟨i, z, s3, F3, c3, sm3, o3, W3, sl, hfd⟩
      rw [List.drop_of_length_le (Nat.le_refl _)] at hfd
      obtain rfl : Fl.nx (z, s3) = fl := by rw [fdE] at hfd; exact Option.some.inj hfd
      exact k z i F3 σ3 ((sm.trans sm2).trans sm3) sl s3 r hm F3 H3 c3 O (SameR _) o3 W3 D ((pRt X R').mono (sm2.trans sm3) q)
end
section
variable {S γ : Type} {U : Rl γ} {C : Addr} {σ : L2.St} {F : Hp} {A : Ow S} {mn : Str} {v : V} {j : Nat} {E : XK} {g : S → RunS} {p : S → RunS → S}
theorem ev_run0 {f : M RunS γ} (hl : InsHd (oRun C) C mn) (hv : σ[j]? = some (some v)) (e : Emb A (oRun C v) g p) : Ev (tMeth C mn (spRun0 C U f) [] E (tVar j) tNil) σ F A U (zm g p f) := ev_meth0S hl hv e
theorem ev_run1 {f : Int → M RunS γ} {ar : TA} {ma : M S Int} (hl : InsHd (oRun C) C mn) (hv : σ[j]? = some (some v)) (e : Emb A (oRun C v) g p) (h : EvA ar σ F A (arOne rInt) ma) : Ev (tMeth C mn (spRun1 C U f) [] E (tVar j) ar) σ F A U (bnd ma fun x => zm g p (f x)) := ev_methS (f := f) hl hv e h
theorem ev_run2 {f : Int → Int → M RunS γ} {ar : TA} {ma : M S (Int × Int)} (hl : InsHd (oRun C) C mn) (hv : σ[j]? = some (some v)) (e : Emb A (oRun C v) g p) (h : EvA ar σ F A (arC rInt (arOne rInt)) ma) : Ev (tMeth C mn (spRun2 C U f) [] E (tVar j) ar) σ F A U (bnd ma fun x => zm g p (f x.1 x.2)) := ev_methS (f := fun x => f x.1 x.2) hl hv e h
end
section
variable {S S0 S1 ι β Z : Type} {R' : Rl β} {σ : L2.St} {F : Hp} {A : Ow S} {tt : TT} {t w : TS}
theorem b_ifRFI {mb : M S Bool} {X : ι → Ow S1} {Y : Ow S0} {Sl : Z → ι → Hp → L2.St → Prop} {f : S → Option (β × S0)} {g : S → Option (Fl (Z × S1) (β × S0))} (hc : EvT tt σ F A mb) (ht : B t σ F A (pRt Y R') f) (hw : B w σ F A (pFlI X Sl Y R') g) :
    B (tSeq (tIfS tt t tNext) w) σ F A (pFlI X Sl Y R') (bnd mb fun b => bif b then rtF f else g) := fun s r hm F1 H c O sm ho W D q => by
  obtain ⟨b, s1, h1, hm⟩ := bnd_some hm
  refine hc s b s1 h1 F1 H c O sm ho W _ fun F2 H2 c2 s2 o2 W2 => ?_
  cases b with
  | true =>
    simp only [cond_true] at hm
    unfold rtF at hm
    cases e1 : f s1 with
    | none => rw [e1] at hm; cases hm
    | some r' => rw [e1] at hm; cases hm; exact iteT (ht s1 r' e1 F2 H2 c2 O (sm.trans s2) o2 W2 _ ((pRt Y R').mono s2 q))
  | false => exact iteF (hw s1 r hm F2 H2 c2 O (sm.trans s2) o2 W2 D ((pFlI X Sl Y R').mono s2 q))
end
/-! a head that tells constants, too -/
def obsT (tb : List (Str × List He.Dv)) (fa : List He.Fa) (fn : List He.DefD) (K : PySem.W.Frag) : Bool × He.AlD := (tb.all fun q => He.tupB K q.1 q.2, He.obsD fa fn K)
def valT (fn : List He.DefD) : Bool × He.AlD := (true, He.valD fn)
def SaysT (tb : List (Str × List He.Dv)) (fa : List He.Fa) (fn : List He.DefD) (K : PySem.W.Frag) : Prop := obsT tb fa fn K = valT fn
def hookT (n : Nat) (tb : List (Str × List He.Dv)) (fa : List He.Fa) (fn : List He.DefD) : PySem.W.Hook where
  α := Bool × He.AlD
  obs s := obsT tb fa fn (He.frG s.heap.get? (He.asD s.heap.get? n))
  val _ := valT fn
  says _ h := ∃ K1 : PySem.W.Frag, K1.In h ∧ SaysT tb fa fn K1
  of _ _ e := ⟨_, He.frG_in, e⟩
  keeps _ _ _ z k := by
    obtain ⟨K1, h1, c1⟩ := z
    exact ⟨K1, PySem.W.Frag.In.keeps h1 k, c1⟩
theorem obsT_eq {n : Nat} {tb : List (Str × List He.Dv)} {fa : List He.Fa} {fn : List He.DefD} {g : Addr → Option Obj} {s : Shared} (h : ∀ a, g a = s.heap.get? a) : obsT tb fa fn (He.frG g (He.asD g n)) = (hookT n tb fa fn).obs s := by
  obtain rfl : g = s.heap.get? := funext h
  rfl
theorem SaysT.D {tb : List (Str × List He.Dv)} {fa : List He.Fa} {fn : List He.DefD} {K : PySem.W.Frag} (c : SaysT tb fa fn K) : He.SaysD fa fn K := congrArg Prod.snd c
theorem SaysT.tup {tb : List (Str × List He.Dv)} {fa : List He.Fa} {fn : List He.DefD} {K : PySem.W.Frag} (c : SaysT tb fa fn K) (i : Nat) {x : Str} {vs : List He.Dv} (h : tb[i]? = some (x, vs) := by rfl) (H : Hp) : SqT K H (He.ga K x) (vs.map (He.Dv.v K)) := by
  have c1 : (tb.all fun q => He.tupB K q.1 q.2) = true := congrArg Prod.fst c
  exact He.tupB_ok (List.all_eq_true.mp c1 (x, vs) (List.mem_of_getElem? h)) H
end T

/-! T20: pools: many owned things of one kind, told by their places. -/
namespace T
open PySem L2
section
variable {T' : Type}
def poolO (Bf : V → Ow T') : List V → Hp → List T' → Ch → Prop
  | [], _, xs, c => xs = [] ∧ c = []
  | v :: vs, F, xs, c => ∃ x xr c1 c2, xs = x :: xr ∧ c = c1 ++ c2 ∧ (Bf v).o F x c1 ∧ poolO Bf vs F xr c2
theorem poolO_mono {Bf : V → Ow T'} {F F' : Hp} (s : Same F F') : ∀ {vs xs c}, poolO Bf vs F xs c → poolO Bf vs F' xs c
  | [], _, _, h => h
  | v :: vs, _, _, ⟨x, xr, c1, c2, e1, e2, h, r⟩ => ⟨x, xr, c1, c2, e1, e2, (Bf v).mono s h, poolO_mono s r⟩
def oPool (Bf : V → Ow T') (ps : List V) : Ow (List T') := ⟨fun F xs c => poolO Bf ps F xs c, fun s h => poolO_mono s h⟩
theorem pool_at {Bf : V → Ow T'} {F : Hp} {v : V} : ∀ {ps xs c} {k : Nat}, poolO Bf ps F xs c → ps[k]? = some v → ∃ x, xs[k]? = some x ∧ ∃ c1 c2, c.Perm (c1 ++ c2) ∧ (Bf v).o F x c1 ∧
    ∀ F' x' c1', Same F F' → (Bf v).o F' x' c1' → ∃ c', poolO Bf ps F' (xs.set k x') c' ∧ c'.Perm (c1' ++ c2)
  | [], _, _, k, _, e => by simp at e
  | w :: vs, _, _, 0, ⟨x, xr, c1, c2, e1, e2, h, r⟩, e => by
    obtain rfl : w = v := by simpa using e
    subst e1 e2
    exact ⟨x, rfl, c1, c2, List.Perm.refl _, h, fun F' x' c1' s h' => ⟨c1' ++ c2, ⟨x', xr, c1', c2, rfl, rfl, h', poolO_mono s r⟩, List.Perm.refl _⟩⟩
  | w :: vs, _, _, k + 1, ⟨x, xr, c1, c2, e1, e2, h, r⟩, e => by
    subst e1 e2
    obtain ⟨y, hy, d1, d2, pm, hb, kk⟩ := pool_at r (by simpa using e)
    refine ⟨y, by simpa using hy, d1, c1 ++ d2, ?_, hb, fun F' x' c1' s h' => ?_⟩
    · exact ((pm.append_left c1).trans (by rw [← List.append_assoc, ← List.append_assoc]; exact List.perm_append_comm.append_right d2))
    · obtain ⟨c', o', pm'⟩ := kk F' x' c1' s h'
      refine ⟨c1 ++ c', ⟨x, _, c1, c', by simp, rfl, (Bf w).mono s h, o'⟩, ?_⟩
      exact ((pm'.append_left c1).trans (by rw [← List.append_assoc, ← List.append_assoc]; exact List.perm_append_comm.append_right d2))
theorem pool_push {Bf : V → Ow T'} {F F' : Hp} {v : V} {x : T'} {cb : Ch} (s : Same F F') (hb : (Bf v).o F' x cb) : ∀ {ps xs c}, poolO Bf ps F xs c → poolO Bf (ps ++ [v]) F' (xs ++ [x]) (c ++ cb)
  | [], _, _, ⟨e1, e2⟩ => by subst e1 e2; exact ⟨x, [], cb, [], rfl, by simp, hb, rfl, rfl⟩
  | w :: vs, _, _, ⟨y, xr, c1, c2, e1, e2, h, r⟩ => by subst e1 e2; exact ⟨y, xr ++ [x], c1, c2 ++ cb, by simp, by simp, (Bf w).mono s h, pool_push s hb r⟩
theorem pool_len {Bf : V → Ow T'} {F : Hp} : ∀ {ps xs c}, poolO Bf ps F xs c → xs.length = ps.length
  | [], _, _, ⟨e1, _⟩ => by subst e1; rfl
  | w :: vs, _, _, ⟨y, xr, c1, c2, e1, e2, h, r⟩ => by subst e1; simp [pool_len r]
/-- the k-th of a pool -/
def rRef (ps : List V) : Rl Int := ⟨fun _ v k => 0 ≤ k ∧ ps[k.toNat]? = some v, fun _ h => h⟩
theorem rref_up {ps qs : List V} {F : Hp} {v : V} {k : Int} (h : (rRef ps).r F v k) : (rRef (ps ++ qs)).r F v k := ⟨h.1, by
  have := (List.getElem?_eq_some_iff.mp h.2).1
  rw [List.getElem?_append_left this]; exact h.2⟩
end
def zmI {S T β : Type} (g : S → List T) (p : S → List T → S) (k : Int) (m : M T β) : M S β := fun s => ((g s)[k.toNat]?).bind fun t => (m t).map fun q => (q.1, p s ((g s).set k.toNat q.2))
theorem zmI_some {S T β : Type} {g : S → List T} {p : S → List T → S} {k : Int} {m : M T β} {s s' : S} {b : β} (h : zmI g p k m s = some (b, s')) : ∃ t t', (g s)[k.toNat]? = some t ∧ m t = some (b, t') ∧ s' = p s ((g s).set k.toNat t') := by
  unfold zmI at h
  cases e : (g s)[k.toNat]? with
  | none => rw [e] at h; cases h
  | some t =>
    rw [e] at h
    cases e2 : m t with
    | none => simp [e2] at h
    | some q => simp [e2] at h; obtain ⟨rfl, rfl⟩ := h; exact ⟨t, q.2, rfl, e2, rfl⟩
section
variable {S T' α β γ Ω : Type} {R : Rl α} {R' : Rl β} {U : Rl γ} {K : PySem.W.Frag} {σ : L2.St} {F : Hp} {A : Ow S} {te te0 ti ta : TE} {ar : TA} {u : TS} {P : Post Ω} {Bf : V → Ow T'} {ps : List V} {g : S → List T'} {p : S → List T' → S} {m0 : M S Int} {m : M S α} {C : Addr} {mn : Str} {E : XK}
/-- the k-th one taken out of the owned state -/
theorem emb_pool {F : Hp} {s : S} {c : Ch} {v : V} {k : Int} (e : Emb A (oPool Bf ps) g p) (ho : A.o F s c) (hk : (rRef ps).r F v k) : ∃ x, (g s)[k.toNat]? = some x ∧ ∃ c1 c2, c.Perm (c1 ++ c2) ∧ (Bf v).o F x c1 ∧
    ∀ F' x' c1', Same F F' → (Bf v).o F' x' c1' → ∃ c', A.o F' (p s ((g s).set k.toNat x')) c' ∧ c'.Perm (c1' ++ c2) := by
  obtain ⟨c1, c2, pm, ob, kk⟩ := e.split ho
  obtain ⟨x, hx, d1, d2, pm2, hb, kk2⟩ := pool_at ob hk.2
  refine ⟨x, hx, d1, d2 ++ c2, ?_, hb, fun F' x' c1' s' h' => ?_⟩
  · rw [← List.append_assoc]; exact pm.trans (pm2.append_right c2)
  · obtain ⟨c3, o3, pm3⟩ := kk2 F' x' c1' s' h'
    obtain ⟨c4, o4, pm4⟩ := kk F' _ c3 s' o3
    refine ⟨c4, o4, ?_⟩
    rw [← List.append_assoc]; exact pm4.trans (pm3.append_right c2)
theorem ev_methP {X : Ar α} {f : α → M T' γ} {ma : M S α} (hh : InsHd Bf C mn) (h0 : Ev te0 σ F A (rRef ps) m0) (e : Emb A (oPool Bf ps) g p) (h : EvA ar σ F A X ma) :
    Ev (tMeth C mn (spS (fun v => arC (rV v) X) Bf U (fun x => f x.2)) [] E te0 ar) σ F A U (bnd m0 fun k => bnd ma fun x => zmI g p k (f x)) := fun s b s' hm F1 H c O sm ho W Q q => by
  obtain ⟨k, s0, h0m, hm⟩ := bnd_some hm
  obtain ⟨xs, s1, h1, hm⟩ := bnd_some hm
  obtain ⟨t, t', ht, hf, rfl⟩ := zmI_some hm
  refine h0 s k s0 h0m F1 H c O sm ho W _ fun v F0 H0 c0 s0' o0 W0 r0 => ?_
  obtain ⟨x0, _, c3, c4, pm, ob, _⟩ := emb_pool e o0 r0
  obtain ⟨p0, dx, fs, rest, rfl, rfl, hl⟩ := hh.hd ob
  have W0' : Wd F0 H0 ((p0, .ins C dx fs) :: (rest ++ (c4 ++ O))) := by
    refine W0.perm ((pm.append_right O).trans ?_)
    simp
  refine ⟨p0, dx, fs, rfl, W0'.hd, hl, ?_⟩
  refine h s0 _ _ h1 F0 H0 c0 O (sm.trans s0') o0 W0 _ fun vs F2 H2 c2 s2 o2 W2 r2 => ?_
  obtain ⟨x, hx, c3', c4', pm', ob', k'⟩ := emb_pool e o2 ((rRef ps).mono s2 r0)
  rw [hx] at ht
  cases ht
  rw [List.append_nil]
  refine ⟨.ref p0, F2, c4' ++ O, c3', ((), xs), _, b, t', ⟨_, _, rfl, rfl, r2⟩, ob', W2.perm ?_, hf, fun v F3 H3 c5 s3 o3 W3 r3 => ?_⟩
  · rw [← List.append_assoc]; exact pm'.append_right O
  · obtain ⟨c', oc, pm2⟩ := k' F3 t' c5 s3 o3
    refine q v F3 H3 c' (s0'.trans (s2.trans s3)) oc (W3.perm ?_) r3
    rw [← List.append_assoc]; exact (pm2.append_right O).symm
theorem ev_meth0P {f : M T' γ} (hh : InsHd Bf C mn) (h0 : Ev te0 σ F A (rRef ps) m0) (e : Emb A (oPool Bf ps) g p) :
    Ev (tMeth C mn (spS (fun v => arOne (rV v)) Bf U (fun _ => f)) [] E te0 tNil) σ F A U (bnd m0 fun k => zmI g p k f) := fun s b s' hm F1 H c O sm ho W Q q => by
  obtain ⟨k, s0, h0m, hm⟩ := bnd_some hm
  obtain ⟨t, t', ht, hf, rfl⟩ := zmI_some hm
  refine h0 s k s0 h0m F1 H c O sm ho W _ fun v F0 H0 c0 s0' o0 W0 r0 => ?_
  obtain ⟨x0, hx, c3, c4, pm, ob, k'⟩ := emb_pool e o0 r0
  obtain ⟨p0, dx, fs, rest, rfl, rfl, hl⟩ := hh.hd ob
  rw [hx] at ht
  cases ht
  have W0' : Wd F0 H0 ((p0, .ins C dx fs) :: (rest ++ (c4 ++ O))) := by
    refine W0.perm ((pm.append_right O).trans ?_)
    simp
  refine ⟨p0, dx, fs, rfl, W0'.hd, hl, ?_⟩
  refine ⟨.ref p0, F0, c4 ++ O, (p0, .ins C dx fs) :: rest, (), _, b, t', ⟨_, rfl, rfl⟩, ob, W0.perm ?_, hf, fun v F3 H3 c5 s3 o3 W3 r3 => ?_⟩
  · rw [← List.append_assoc]; exact pm.append_right O
  · obtain ⟨c', oc, pm2⟩ := k' F3 t' c5 s3 o3
    refine q v F3 H3 c' (s0'.trans s3) oc (W3.perm ?_) r3
    rw [← List.append_assoc]; exact (pm2.append_right O).symm
/-- a def handed the k-th one -/
theorem ev_callP_at {X : Ar α} {X' : V → Ar β} {f : β → M T' γ} {ma : M S α} (ix : α → Int) (cv : α → β) (hc : ∀ F vs x, X.r F vs x → ∃ v, (rRef ps).r F v (ix x) ∧ (X' v).r F vs (cv x)) (e : Emb A (oPool Bf ps) g p) (h : EvA ar σ F A X ma) :
    Ev (tCall (spS X' Bf U f) [] E ar) σ F A U (bnd ma fun x => zmI g p (ix x) (f (cv x))) := fun s b s' hm F1 H c O sm ho W Q q => by
  obtain ⟨xs, s1, h1, hm⟩ := bnd_some hm
  obtain ⟨t, t', ht, hf, rfl⟩ := zmI_some hm
  refine h s _ _ h1 F1 H c O sm ho W _ fun vs F2 H2 c2 s2 o2 W2 r2 => ?_
  obtain ⟨v, rv, r3⟩ := hc F2 vs xs r2
  obtain ⟨x, hx, c3', c4', pm', ob', k'⟩ := emb_pool e o2 rv
  rw [hx] at ht
  cases ht
  rw [List.append_nil]
  refine ⟨v, F2, c4' ++ O, c3', cv xs, _, b, t', r3, ob', W2.perm ?_, hf, fun v F3 H3 c5 s3 o3 W3 r3 => ?_⟩
  · rw [← List.append_assoc]; exact pm'.append_right O
  · obtain ⟨c', oc, pm2⟩ := k' F3 t' c5 s3 o3
    refine q v F3 H3 c' (s2.trans s3) oc (W3.perm ?_) r3
    rw [← List.append_assoc]; exact (pm2.append_right O).symm
/-! new ones -/
/-- the pool, with one more behind -/
theorem emb_push {A' : Ow S} {F F' : Hp} {s : S} {c cb : Ch} {v : V} {x : T'} (hp : ∀ {F : Hp} {s : S} {c : Ch}, A.o F s c → ∃ c1 c2, c.Perm (c1 ++ c2) ∧ poolO Bf ps F (g s) c1 ∧ ∀ F' t c1', Same F F' → poolO Bf (ps ++ [v]) F' t c1' → ∃ c', A'.o F' (p s t) c' ∧ c'.Perm (c1' ++ c2))
    (sm : Same F F') (ho : A.o F s c) (hb : (Bf v).o F' x cb) : ∃ c', A'.o F' (p s (g s ++ [x])) c' ∧ c'.Perm (c ++ cb) := by
  obtain ⟨c1, c2, pm, hpo, k⟩ := hp ho
  obtain ⟨c', o', pm'⟩ := k F' _ _ sm (pool_push sm hb hpo)
  refine ⟨c', o', pm'.trans ?_⟩
  have p1 : (c1 ++ cb ++ c2).Perm (c1 ++ c2 ++ cb) := by
    rw [List.append_assoc, List.append_assoc]; exact List.perm_append_comm.append_left c1
  exact p1.trans (pm.symm.append_right cb)
end
/-- an empty pool -/
def wp {S T Ω : Type} (f : S × List T → Option Ω) : S → Option Ω := fun s => f (s, [])
theorem b_pool {S T' Ω : Type} {σ : L2.St} {F : Hp} {A : Ow S} {u : TS} {P : Post Ω} {f : S × List T' → Option Ω} (Bf : V → Ow T') (k : B u σ F (star A (oPool Bf [])) P f) : B u σ F A P (wp f) := fun s w hm F1 H c O sm ho W D q =>
  k (s, []) w hm F1 H c O sm ⟨c, [], by simp, ho, rfl, rfl⟩ W D q
/-- A with a pool, the pool's places open -/
structure EmbP {S T' : Type} (A : List V → Ow S) (Bf : V → Ow T') (g : S → List T') (p : S → List T' → S) : Prop where
  split : ∀ {ps : List V} {F : Hp} {s : S} {c : Ch}, (A ps).o F s c → ∃ c1 c2, c.Perm (c1 ++ c2) ∧ poolO Bf ps F (g s) c1 ∧ ∀ ps' F' t c1', Same F F' → poolO Bf ps' F' t c1' → ∃ c', (A ps').o F' (p s t) c' ∧ c'.Perm (c1' ++ c2)
theorem embP_0 {T' : Type} {Bf : V → Ow T'} : EmbP (fun ps => oPool Bf ps) Bf (fun s => s) (fun _ t => t) := ⟨fun {ps F s c} h => ⟨c, [], by simp, h, fun ps' F' t c1' _ h' => ⟨c1', h', by simp⟩⟩⟩
theorem embP_r {S T' : Type} {A : Ow S} {Bf : V → Ow T'} : EmbP (fun ps => star A (oPool Bf ps)) Bf (fun s => s.2) (fun s t => (s.1, t)) := ⟨fun {ps F s c} ⟨c1, c2, e, a, b⟩ => ⟨c2, c1, by rw [e]; exact List.perm_append_comm, b, fun ps' F' t c1' sm h' => ⟨c1 ++ c1', ⟨c1, c1', rfl, A.mono sm a, h'⟩, List.perm_append_comm⟩⟩⟩
theorem embP_l {S T' U : Type} {A : List V → Ow S} {C : Ow U} {Bf : V → Ow T'} {g : S → List T'} {p : S → List T' → S} (e : EmbP A Bf g p) : EmbP (fun ps => star (A ps) C) Bf (fun s => g s.1) (fun s t => (p s.1 t, s.2)) := ⟨fun {ps F s c} ⟨ca, cb, ec, ha, hb⟩ => by
  obtain ⟨c1, c2, pm, h1, k⟩ := e.split ha
  refine ⟨c1, c2 ++ cb, by rw [ec, ← List.append_assoc]; exact pm.append_right cb, h1, fun ps' F' t c1' sm h' => ?_⟩
  obtain ⟨c', h2, pm2⟩ := k ps' F' t c1' sm h'
  exact ⟨c' ++ cb, ⟨c', cb, rfl, h2, C.mono sm hb⟩, by rw [← List.append_assoc]; exact pm2.append_right cb⟩⟩
theorem EmbP.at {S T' : Type} {A : List V → Ow S} {Bf : V → Ow T'} {g : S → List T'} {p : S → List T' → S} (e : EmbP A Bf g p) (ps : List V) : Emb (A ps) (oPool Bf ps) g p := ⟨fun h => by
  obtain ⟨c1, c2, pm, h1, k⟩ := e.split h
  exact ⟨c1, c2, pm, h1, fun F' t c1' sm h' => k ps F' t c1' sm h'⟩⟩
section
variable {S T' α β γ Ω : Type} {R : Rl α} {K : PySem.W.Frag} {σ : L2.St} {F : Hp} {te ta : TE} {u : TS} {P : Post Ω} {Bf : V → Ow T'} {A : List V → Ow S} {ps : List V} {g : S → List T'} {p : S → List T' → S} {i : Nat}
/-- the pool, with x behind, and x's place handed on -/
def psh {S T Ω : Type} (g : S → List T) (p : S → List T → S) (f : Int → S → Option Ω) (x : T) : S → Option Ω := fun s => f (g s).length (p s (g s ++ [x]))
/-- a new thing at a name, kept in the pool -/
theorem b_newP {m : M S T'} {f : Int → S → Option Ω} (he : EvO te σ F (A ps) Bf m) (e : EmbP A Bf g p) (k : ∀ v n F', Same F F' → (rRef (ps ++ [v])).r F' v n → B u (σ.set i (some v)) F' (A (ps ++ [v])) P (f n)) : B (tSeq (tAsg te (gName i)) u) σ F (A ps) P (bnd m (psh g p f)) := fun s w hm F1 H c O sm ho W D q => by
  obtain ⟨x, s1, h1, hm⟩ := bnd_some hm
  refine he s x s1 h1 F1 H c O sm ho W _ fun v F2 H2 c2 cb s2 o2 ob W2 => ?_
  obtain ⟨c', o', pm⟩ := emb_push (A := A ps) (A' := A (ps ++ [v])) (fun h => by
    obtain ⟨c1, c2, pm, h1, k⟩ := e.split h
    exact ⟨c1, c2, pm, h1, fun F' t c1' sm h' => k _ F' t c1' sm h'⟩) (SameR _) o2 ob
  obtain ⟨c1, c3, pm3, hpo, _⟩ := e.split o2
  have hl := pool_len hpo
  refine k v (g s1).length F2 (sm.trans s2) ⟨by omega, by rw [Int.toNat_natCast, hl]; simp⟩ _ w hm F2 H2 c' O (SameR _) o' (W2.perm ?_) D (P.mono s2 q)
  refine List.Perm.trans ?_ (pm.append_right O).symm
  rw [← List.append_assoc]; exact List.perm_append_comm.append_right O
/-! lists of new things -/
def EvNs {β : Type} (ar : TA) (σ : L2.St) (F : Hp) (A : Ow S) (Bf : V → Ow β) (m : M S (List β)) : Prop := ∀ s xs s', m s = some (xs, s') → ∀ F1 H c O, Same F F1 → A.o F1 s c → Wd F1 H (c ++ O) → ∀ Q : List V → Hp → Prop,
  (∀ vs F' H' c' cb, Same F1 F' → A.o F' s' c' → poolO Bf vs F' xs cb → Wd F' H' (cb ++ (c' ++ O)) → Q vs H') → ar σ H Q
/-- a list of new things, the list frozen -/
def EvNl {β : Type} (te : TE) (σ : L2.St) (F : Hp) (A : Ow S) (Bf : V → Ow β) (m : M S (List β)) : Prop := ∀ s xs s', m s = some (xs, s') → ∀ F1 H c O, Same F F1 → A.o F1 s c → Wd F1 H (c ++ O) → ∀ Q : VK,
  (∀ l vs F' H' c' cb, Same F1 F' → A.o F' s' c' → poolO Bf vs F' xs cb → F' l = some (.lst vs) → Wd F' H' (cb ++ (c' ++ O)) → Q (.ref l) H') → te σ H Q
end
section
variable {S T' α β γ Ω : Type} {R : Rl α} {K : PySem.W.Frag} {σ : L2.St} {F : Hp} {te ta : TE} {ar : TA} {u : TS} {P : Post Ω} {Bf : V → Ow T'} {A : Ow S} {i : Nat}
theorem ens_nil : EvNs tNil σ F A Bf (ret []) := fun s xs s' hm F1 H c O sm ho W Q q => by
  obtain ⟨rfl, rfl⟩ := ret_some hm
  exact q [] F1 H c [] (SameR _) ho ⟨rfl, rfl⟩ W
theorem ens_cons {m : M S T'} {ms : M S (List T')} (h : EvO te σ F A Bf m) (k : EvNs ar σ F A Bf ms) : EvNs (tCons te ar) σ F A Bf (bnd m fun x => bnd ms fun xs => ret (x :: xs)) := fun s xs s' hm F1 H c O sm ho W Q q => by
  obtain ⟨x, s1, h1, hm⟩ := bnd_some hm
  obtain ⟨ys, s2, h2, hm⟩ := bnd_some hm
  obtain ⟨rfl, rfl⟩ := ret_some hm
  refine h s x s1 h1 F1 H c O sm ho W _ fun v F2 H2 c2 cb s2' o2 ob W2 => ?_
  have W3 : Wd F2 H2 (c2 ++ (cb ++ O)) := W2.perm (by rw [← List.append_assoc, ← List.append_assoc]; exact List.perm_append_comm.append_right O)
  refine k s1 ys _ h2 F2 H2 c2 (cb ++ O) (sm.trans s2') o2 W3 _ fun vs F3 H3 c3 cb3 s3 o3 op W4 => ?_
  refine q (v :: vs) F3 H3 c3 (cb ++ cb3) (s2'.trans s3) o3 ⟨x, ys, cb, cb3, rfl, rfl, (Bf v).mono s3 ob, op⟩ (W4.perm ?_)
  have sw : ∀ X Y Z : Ch, (X ++ (Y ++ Z)).Perm (Y ++ (X ++ Z)) := fun X Y Z => by
    rw [← List.append_assoc, ← List.append_assoc]; exact List.perm_append_comm.append_right Z
  have p1 : (cb3 ++ (c3 ++ (cb ++ O))).Perm (cb ++ (cb3 ++ (c3 ++ O))) := ((sw c3 cb O).append_left cb3).trans (sw cb3 cb _)
  rw [List.append_assoc]; exact p1
theorem poolO_len {F : Hp} {vs : List V} {xs : List T'} {c : Ch} (h : poolO Bf vs F xs c) : xs.length = vs.length := pool_len h
theorem evp_lst {ms : M S (List T')} (k : EvNs ar σ F A Bf ms) : EvNl (tLst ar) σ F A Bf (bnd ms fun xs => lft (few xs)) := fun s xs s' hm F1 H c O sm ho W Q q => by
  obtain ⟨ys, s1, h1, hm⟩ := bnd_some hm
  obtain ⟨h2, e2⟩ := lft_some hm
  subst e2
  have hf : ys = xs ∧ ys.length ≤ 100 := by
    unfold few at h2; split at h2
    · cases h2; exact ⟨rfl, by assumption⟩
    · cases h2
  obtain ⟨rfl, hl⟩ := hf
  refine k s ys _ h1 F1 H c O sm ho W _ fun vs F2 H2 c2 cb s2 o2 op W2 => ⟨?_, fun l nl => ?_⟩
  · rw [← pool_len op]; exact Nat.le_trans hl (by decide)
  · have sF := W2.sameF (o := .lst vs) nl
    exact q l vs _ _ c2 cb (s2.trans sF) (A.mono sF o2) (poolO_mono sF op) upd_same (W2.newF nl)
end
section
variable {S T' α β γ Ω : Type} {R : Rl α} {K : PySem.W.Frag} {σ : L2.St} {F : Hp} {te ta : TE} {ar : TA} {u : TS} {P : Post Ω} {Bf : V → Ow T'} {A : List V → Ow S} {ps : List V} {g : S → List T'} {p : S → List T' → S} {i : Nat}
theorem poolO_app {F : Hp} : ∀ {vs ws : List V} {xs ys : List T'} {c d : Ch}, poolO Bf vs F xs c → poolO Bf ws F ys d → poolO Bf (vs ++ ws) F (xs ++ ys) (c ++ d)
  | [], _, _, _, _, _, ⟨e1, e2⟩, h => by subst e1 e2; exact h
  | v :: vs, ws, _, ys, _, d, ⟨x, xr, c1, c2, e1, e2, h1, r⟩, h => by subst e1 e2; exact ⟨x, xr ++ ys, c1, c2 ++ d, by simp, by simp, h1, poolO_app r h⟩
def pshL {S T Ω : Type} (g : S → List T) (p : S → List T → S) (f : List Int → S → Option Ω) (xs : List T) : S → Option Ω := fun s => f (rngL (g s).length xs.length) (p s (g s ++ xs))
theorem paired_rref {qs : List V} {F : Hp} : ∀ (vs : List V) (ps : List V), qs = ps ++ vs → Paired ((rRef qs).r F) vs (rngL ps.length vs.length)
  | [], _, _ => .nil
  | v :: vs, ps, e => by
    refine .cons ⟨by omega, by subst e; simp⟩ ?_
    have := paired_rref (qs := qs) (F := F) vs (ps ++ [v]) (by rw [e]; simp)
    have e2 : (((ps ++ [v]).length : Nat) : Int) = (ps.length : Int) + 1 := by rw [List.length_append]; rfl
    rw [e2] at this; exact this
/-- a list of new things at a name, kept in the pool -/
theorem b_newL {m : M S (List T')} {f : List Int → S → Option Ω} (he : EvNl te σ F (A ps) Bf m) (e : EmbP A Bf g p) (k : ∀ v vs ns F', Same F F' → (rLst (rRef (ps ++ vs))).r F' v ns → B u (σ.set i (some v)) F' (A (ps ++ vs)) P (f ns)) :
    B (tSeq (tAsg te (gName i)) u) σ F (A ps) P (bnd m (pshL g p f)) := fun s w hm F1 H c O sm ho W D q => by
  obtain ⟨xs, s1, h1, hm⟩ := bnd_some hm
  refine he s xs s1 h1 F1 H c O sm ho W _ fun l vs F2 H2 c2 cb s2 o2 ob hl W2 => ?_
  obtain ⟨c1, c3, pm, hpo, kk⟩ := e.split o2
  obtain ⟨c', o', pm'⟩ := kk (ps ++ vs) F2 _ _ (SameR _) (poolO_app hpo ob)
  refine k (.ref l) vs _ F2 (sm.trans s2) ⟨l, vs, rfl, hl, ?_⟩ _ w hm F2 H2 c' O (SameR _) o' (W2.perm ?_) D (P.mono s2 q)
  · rw [pool_len hpo, pool_len ob]; exact paired_rref vs ps rfl
  · refine List.Perm.trans ?_ (pm'.append_right O).symm
    have p1 : (c1 ++ cb ++ c3).Perm (cb ++ c2) := by
      refine (List.perm_append_comm.append_right c3).trans ?_
      rw [List.append_assoc]; exact (pm.symm).append_left cb
    rw [← List.append_assoc]; exact (p1.symm).append_right O
end
/-! comprehensions of new things -/
section
variable {S T' α β γ Ω : Type} {R : Rl α} {K : PySem.W.Frag} {σ : L2.St} {F : Hp} {te ta : TE} {ar : TA} {u : TS} {P : Post Ω} {Bf : V → Ow T'} {A : Ow S} {i : Nat} {ml : M S (List α)} {wi : TI} {g : TG} {vs : List Nat}
theorem enl_lc {f : α → M S T'} {k : V → α → Hp → L2.St → Prop} (hi : EvI wi σ F A R ml) (hg : ∀ v x F', Same F F' → R.r F' v x → Go g v (wipe σ vs) F' (k v x F')) (hw : ∀ v x F' σ2, k v x F' σ2 → wipe σ2 vs = wipe σ vs) (he : ∀ v x F' σ2, Same F F' → R.r F' v x → k v x F' σ2 → EvO te σ2 F' A Bf (f x)) :
    EvNl (tLc wi g tYes te vs) σ F A Bf (bnd ml fun xs => bnd (lft (chk xs)) fun xs => mp f xs) := fun s ys s' hm F1 H c O sm ho W Q q => by
  obtain ⟨xs0, s1, h1, hm⟩ := bnd_some hm
  obtain ⟨xs, s1', h2, hm2⟩ := bnd_some hm
  obtain ⟨h2', rfl⟩ := lft_some h2
  obtain ⟨rfl, hlen⟩ := chk_some h2'
  refine hi s _ _ h1 F1 H c O sm ho W _ fun J F2 H2 c2 sm2 o2 W2 ⟨G, Y, wk, hG, hY⟩ D hD => ?_
  refine lc_it wk (fun i H3 => ∃ zs ws t F3 c3 cb us, Same F2 F3 ∧ A.o F3 t c3 ∧ poolO Bf us F3 zs cb ∧ Wd F3 H3 ((D, .lst us) :: (cb ++ (c3 ++ O))) ∧ mp f (xs.drop i) t = some (ws, s') ∧ ys = zs ++ ws ∧ zs.length ≤ i) ?_ ?_ ?_ ?_
  · exact ⟨[], ys, s1', F2, c2, [], [], SameR _, o2, ⟨rfl, rfl⟩, W2.newO hD, hm2, rfl, Nat.le_refl _⟩
  · rintro i H3 _ ⟨zs, ws, t, F3, c3, cb, us, s3, o3, op, W3, _⟩
    exact hG F3 H3 s3 W3.sub
  · rintro i x H3 H4 hi ⟨zs, ws, t, F3, c3, cb, us, s3, o3, op, W3, hmp, rfl, hzl⟩ y
    obtain ⟨F4, s4, W4, a, ha, ra⟩ := hY i H3 x H4 hi y F3 _ s3 W3
    have hd : xs.drop i = a :: xs.drop (i + 1) := by
      rw [List.drop_eq_getElem_cons hi]; congr 1; exact (List.getElem?_eq_some_iff.mp ha).2
    rw [hd] at hmp
    obtain ⟨b, t1, e1, hmp⟩ := bnd_some hmp
    obtain ⟨ws', t2, e2, hmp⟩ := bnd_some hmp
    obtain ⟨rfl, rfl⟩ := ret_some hmp
    have s14 : Same F F4 := (sm.trans sm2).trans (s3.trans s4)
    refine hg x a F4 s14 ra F4 H4 _ (SameR _) W4 _ fun σ2 k2 => ⟨hw x a F4 σ2 k2, ?_⟩
    have W5 : Wd F4 H4 (c3 ++ ((D, .lst us) :: (cb ++ O))) := W4.perm (by
      refine List.Perm.trans (List.Perm.cons _ ?_) (List.perm_middle.symm)
      rw [← List.append_assoc, ← List.append_assoc]; exact List.perm_append_comm.append_right O)
    unfold tYes; dsimp only
    rw [if_pos rfl]
    refine he x a F4 σ2 s14 ra k2 t b t1 e1 F4 H4 c3 ((D, .lst us) :: (cb ++ O)) (SameR _) (A.mono s4 o3) W5 _ fun v F5 H5 c5 cb5 s5 o5 ob5 W6 => ?_
    have W7 : Wd F5 H5 ((D, .lst us) :: ((cb ++ cb5) ++ (c5 ++ O))) := W6.perm (by
      have p1 : (cb5 ++ (c5 ++ (D, HO.lst us) :: (cb ++ O))).Perm ((D, HO.lst us) :: (cb5 ++ (c5 ++ (cb ++ O)))) := by
        rw [← List.append_assoc, ← List.append_assoc]; exact List.perm_middle
      refine p1.trans (List.Perm.cons _ ?_)
      have sw : ∀ X Y Z : Ch, (X ++ (Y ++ Z)).Perm (Y ++ (X ++ Z)) := fun X Y Z => by
        rw [← List.append_assoc, ← List.append_assoc]; exact List.perm_append_comm.append_right Z
      rw [List.append_assoc]
      exact ((sw c5 cb O).append_left cb5).trans (sw cb5 cb _))
    refine ⟨us, W7.hd, ?_, zs ++ [b], ws', t1, F5, c5, cb ++ cb5, us ++ [v], s3.trans (s4.trans s5), o5, pool_push s5 ob5 (poolO_mono s4 op), W7.set, e2, by simp, by simp; omega⟩
    rw [← pool_len op]; exact lim_le (by omega)
  · rintro H3 ⟨zs, ws, t, F3, c3, cb, us, s3, o3, op, W3, hmp, rfl, hzl⟩
    rw [List.drop_of_length_le (Nat.le_refl _)] at hmp
    obtain ⟨rfl, rfl⟩ := ret_some hmp
    have sF := Wd.frzS W3
    refine q D us _ H3 c3 cb (sm2.trans (s3.trans sF)) (A.mono sF o3) ?_ upd_same (Wd.frz W3)
    simpa using poolO_mono sF op
end
end T

/-! T21: Runs in a pool. -/
namespace T
open PySem L2
theorem eo_σ {S T' : Type} {te : TE} {σ σ' : L2.St} {F : Hp} {A : Ow S} {Bf : V → Ow T'} {m : M S T'} (e : σ = σ') (h : EvO te σ' F A Bf m) : EvO te σ F A Bf m := e ▸ h
section
variable {S α γ : Type} {U : Rl γ} {C : Addr} {σ : L2.St} {F : Hp} {A : Ow S} {mn : Str} {te0 : TE} {ps : List V} {m0 : M S Int} {E : XK} {g : S → List RunS} {p : S → List RunS → S}
theorem ev_runP0 {f : M RunS γ} (hl : InsHd (oRun C) C mn) (h0 : Ev te0 σ F A (rRef ps) m0) (e : Emb A (oPool (oRun C) ps) g p) : Ev (tMeth C mn (spRun0 C U f) [] E te0 tNil) σ F A U (bnd m0 fun k => zmI g p k f) := ev_meth0P hl h0 e
theorem ev_runP1 {f : Int → M RunS γ} {ar : TA} {ma : M S Int} (hl : InsHd (oRun C) C mn) (h0 : Ev te0 σ F A (rRef ps) m0) (e : Emb A (oPool (oRun C) ps) g p) (h : EvA ar σ F A (arOne rInt) ma) : Ev (tMeth C mn (spRun1 C U f) [] E te0 ar) σ F A U (bnd m0 fun k => bnd ma fun x => zmI g p k (f x)) := ev_methP (f := f) hl h0 e h
theorem ev_runP2 {f : Int → Int → M RunS γ} {ar : TA} {ma : M S (Int × Int)} (hl : InsHd (oRun C) C mn) (h0 : Ev te0 σ F A (rRef ps) m0) (e : Emb A (oPool (oRun C) ps) g p) (h : EvA ar σ F A (arC rInt (arOne rInt)) ma) : Ev (tMeth C mn (spRun2 C U f) [] E te0 ar) σ F A U (bnd m0 fun k => bnd ma fun x => zmI g p k (f x.1 x.2)) := ev_methP (f := fun x => f x.1 x.2) hl h0 e h
/-! a state as a tuple of tuples of numbers or truths -/
abbrev rIB : Rl (Int ⊕ Bool) := rSum rInt rBool
def dIB : RD rIB := ⟨fun x => match x with
  | .inl i => .int i
  | .inr b => .bool b, fun {K F v x} h => by
    cases x with
    | inl i => cases (show v = .int i from h); exact .int _
    | inr b => cases (show v = .bl b from h); exact .bl _⟩
def stU (s : State) : List (List (Int ⊕ Bool)) := [s.1.map .inl, s.2.1.map .inl, s.2.2.map .inr]
theorem paired_inl {F : Hp} {vs : List V} {xs : List Int} (h : Paired (rInt.r F) vs xs) : Paired (rIB.r F) vs (xs.map .inl) := by
  induction h with
  | nil => exact .nil
  | cons r t ih => exact .cons r ih
theorem paired_inr {F : Hp} {vs : List V} {xs : List Bool} (h : Paired (rBool.r F) vs xs) : Paired (rIB.r F) vs (xs.map .inr) := by
  induction h with
  | nil => exact .nil
  | cons r t ih => exact .cons r ih
theorem rState_U {F : Hp} {v : V} {s : State} (h : rState.r F v s) : (rTup (rTup rIB)).r F v (stU s) := by
  obtain ⟨p, _, rfl, hp, v1, _, rfl, ⟨p1, w1, e1, h1, q1⟩, v2, _, rfl, ⟨p2, w2, e2, h2, q2⟩, v3, rfl, p3, w3, e3, h3, q3⟩ := h
  exact ⟨p, _, rfl, hp, .cons ⟨p1, w1, e1, h1, paired_inl q1⟩ (.cons ⟨p2, w2, e2, h2, paired_inl q2⟩ (.cons ⟨p3, w3, e3, h3, paired_inr q3⟩ .nil))⟩
theorem ev_stU {te : TE} {m : M S State} (h : Ev te σ F A rState m) : Ev te σ F A (rTup (rTup rIB)) (bnd m fun s => ret (stU s)) := fun s b s' hm F1 H c O sm ho W Q q => by
  obtain ⟨x, s1, h1, hm⟩ := bnd_some hm
  obtain ⟨rfl, rfl⟩ := ret_some hm
  exact h s x _ h1 F1 H c O sm ho W _ fun v F2 H2 c2 s2 o2 W2 r2 => q v F2 H2 c2 s2 o2 W2 (rState_U r2)
end
end T
namespace T
open PySem L2
section
variable {α β γ : Type} {A : Ar α} {B' : Ar β} {AB : Ar γ} {K : PySem.W.Frag}
/-- a row of unlike things behind another one -/
structure ACat (A : Ar α) (B' : Ar β) (AB : Ar γ) (f : α → β → γ) : Prop where
  c : ∀ F vs ws x y, A.r F vs x → B'.r F ws y → vs ≠ [] ∧ ws ≠ [] ∧ vs.length + ws.length ≤ 100 ∧ AB.r F (vs ++ ws) (f x y)
theorem vl_catH {f : α → β → γ} (h : ACat A B' AB f) : VL2 (rCatA K) (rTh A) (rTh B') (rTh AB) (fun x y => some (f x y)) := fun F H O x y a b c W ⟨p1, vs, ex, hp, rp⟩ ⟨p2, ws, ey, hq, rq⟩ hf Q q => by
  cases hf
  obtain ⟨n1, n2, hl, r⟩ := h.c F vs ws a b rp rq
  refine ⟨p1, p2, vs, ws, ex, ey, SqT.of (W.sub _ _ hp), SqT.of (W.sub _ _ hq), Nat.le_trans hl (by decide), fun e => absurd e n1, fun _ e => absurd e n2, fun _ _ l nl => ?_⟩
  exact q _ _ _ (W.sameF nl) (W.newF nl) ⟨l, _, rfl, upd_same, AB.mono (W.sameF nl) r⟩
end
end T

/-! T22: pools of lists: what is read and stored in the k-th one. -/
namespace T
open PySem L2
def gtI {S T β : Type} (g : S → List T) (k : Int) (f : T → Option β) : M S β := fun s => ((g s)[k.toNat]?).bind fun t => (f t).map fun b => (b, s)
theorem gtI_some {S T β : Type} {g : S → List T} {k : Int} {f : T → Option β} {s s' : S} {b : β} (h : gtI g k f s = some (b, s')) : ∃ t, (g s)[k.toNat]? = some t ∧ f t = some b ∧ s' = s := by
  unfold gtI at h
  cases e : (g s)[k.toNat]? with
  | none => rw [e] at h; cases h
  | some t =>
    rw [e] at h
    cases e2 : f t with
    | none => simp [e2] at h
    | some q => simp [e2] at h; obtain ⟨rfl, rfl⟩ := h; exact ⟨t, rfl, e2, rfl⟩
def upI {S T : Type} (g : S → List T) (p : S → List T → S) (k : Int) (f : T → Option T) : M S Unit := fun s => ((g s)[k.toNat]?).bind fun t => (f t).map fun t' => ((), p s ((g s).set k.toNat t'))
theorem upI_some {S T : Type} {g : S → List T} {p : S → List T → S} {k : Int} {f : T → Option T} {s s' : S} {b : Unit} (h : upI g p k f s = some (b, s')) : ∃ t t', (g s)[k.toNat]? = some t ∧ f t = some t' ∧ s' = p s ((g s).set k.toNat t') := by
  unfold upI at h
  cases e : (g s)[k.toNat]? with
  | none => rw [e] at h; cases h
  | some t =>
    rw [e] at h
    cases e2 : f t with
    | none => simp [e2] at h
    | some q => simp [e2] at h; exact ⟨t, q, rfl, e2, h.symm⟩
section
variable {S α β γ Ω : Type} {R : Rl α} {R' : Rl β} {K : PySem.W.Frag} {σ : L2.St} {F : Hp} {A : Ow S} {te te0 ti ta : TE} {ar : TA} {u : TS} {P : Post Ω} {ps : List V} {g : S → List (List α)} {p : S → List (List α) → S} {m0 mi : M S Int} {m : M S α}
/-- the k-th list taken out -/
theorem emb_poolL {F H : Hp} {s : S} {c O : Ch} {v : V} {k : Int} (e : Emb A (oPool (oLst R) ps) g p) (ho : A.o F s c) (W : Wd F H (c ++ O)) (hk : (rRef ps).r F v k) : ∃ l vs xs c2, v = .ref l ∧ (g s)[k.toNat]? = some xs ∧ Paired (R.r F) vs xs ∧ Wd F H ((l, .lst vs) :: (c2 ++ O)) ∧
    ∀ F' vs' xs', Same F F' → Paired (R.r F') vs' xs' → ∀ H', Wd F' H' ((l, .lst vs') :: (c2 ++ O)) → ∃ c', A.o F' (p s ((g s).set k.toNat xs')) c' ∧ Wd F' H' (c' ++ O) := by
  obtain ⟨xs, hx, c1, c2, pm, ⟨l, vs, rfl, rfl, rp⟩, kk⟩ := emb_pool e ho hk
  refine ⟨l, vs, xs, c2, rfl, hx, rp, W.perm (pm.append_right O), fun F' vs' xs' sm rp' H' W' => ?_⟩
  obtain ⟨c', o', pm'⟩ := kk F' xs' [(l, .lst vs')] sm ⟨l, vs', rfl, rfl, rp'⟩
  exact ⟨c', o', W'.perm (pm'.append_right O).symm⟩
theorem ev_ixP (h0 : Ev te0 σ F A (rRef ps) m0) (e : Emb A (oPool (oLst R) ps) g p) (hi : Ev ti σ F A rInt mi) : Ev (tOp (rIxL K) te0 ti) σ F A R (bnd m0 fun k => bnd mi fun i => gtI g k fun xs => atI xs i) := fun s b s' hm F1 H c O sm ho W Q q => by
  obtain ⟨k, s0, h0m, hm⟩ := bnd_some hm
  obtain ⟨i, s1, h1, hm⟩ := bnd_some hm
  obtain ⟨xs, hx, h2, rfl⟩ := gtI_some hm
  refine h0 s k s0 h0m F1 H c O sm ho W _ fun v F0 H0 c0 sm0 o0 W0 r0 => ?_
  refine hi s0 i _ h1 F0 H0 c0 O (sm.trans sm0) o0 W0 _ fun y F2 H2 c2 s2 o2 W2 r2 => ?_
  obtain ⟨l, vs, xs', c3, rfl, hx', rp, W3, kk⟩ := emb_poolL e o2 W2 ((rRef ps).mono s2 r0)
  rw [hx] at hx'; cases hx'
  obtain ⟨w, e1, r1⟩ := atI_paired rp h2
  exact ⟨l, vs, i, w, rfl, r2, SqL.of W3.hd, e1, q w F2 H2 c2 (sm0.trans s2) o2 W2 r1⟩
theorem ev_cbP {r : List V → Hp → VK → Prop} {f : List α → Option β} (hr : VH r R R' f) (h0 : Ev te0 σ F A (rRef ps) m0) (e : Emb A (oPool (oLst R) ps) g p) : Ev (tCB r (tCons te0 tNil)) σ F A R' (bnd m0 fun k => gtI g k f) := fun s b s' hm F1 H c O sm ho W Q q => by
  obtain ⟨k, s0, h0m, hm⟩ := bnd_some hm
  obtain ⟨xs, hx, h2, rfl⟩ := gtI_some hm
  refine h0 s k _ h0m F1 H c O sm ho W _ fun v F0 H0 c0 sm0 o0 W0 r0 => ?_
  obtain ⟨l, vs, xs', c3, rfl, hx', rp, W3, kk⟩ := emb_poolL e o0 W0 r0
  rw [hx] at hx'; cases hx'
  exact hr F0 H0 _ l vs _ b W0 W3.hd rp h2 Q fun v F' H' s' W' r' => q v F' H' c0 (sm0.trans s') (A.mono s' o0) W' r'
theorem b_appP {f : S → Option Ω} (h0 : Ev te0 σ F A (rRef ps) m0) (e : Emb A (oPool (oLst R) ps) g p) (he : Ev te σ F A R m) (k : B u σ F A P f) : B (tSeq (tDrop (tBM K "list" rAppend te0 (tCons te tNil))) u) σ F A P (bnd m0 fun k => bnd m fun x => bnd (upI g p k fun xs => app xs x) fun _ => f) := fun s w hm F1 H c O sm ho W D q => by
  obtain ⟨n, s0, h0m, hm⟩ := bnd_some hm
  obtain ⟨x, s1, h1, hm⟩ := bnd_some hm
  obtain ⟨_, s2, h2, hm⟩ := bnd_some hm
  obtain ⟨xs, xs', hx, h2a, rfl⟩ := upI_some h2
  obtain ⟨rfl, hl⟩ := app_some h2a
  refine h0 s n _ h0m F1 H c O sm ho W _ fun v F0 H0 c0 sm0 o0 W0 r0 => ?_
  obtain ⟨l0, vs0, xs0, c3, e0, hx0, rp0, W3, _⟩ := emb_poolL e o0 W0 r0
  refine ⟨by rw [e0]; exact Or.inl ⟨rfl, vs0, SqL.of W3.hd⟩, ?_⟩
  refine he s0 x s1 h1 F0 H0 c0 O (sm.trans sm0) o0 W0 _ fun y F2 H2 c2 sm2 o2 W2 r2 => ?_
  obtain ⟨l, vs, xs', c3, rfl, hx', rp, W4, kk⟩ := emb_poolL e o2 W2 ((rRef ps).mono sm2 r0)
  rw [hx] at hx'; cases hx'
  refine ⟨l, vs, y, rfl, rfl, W4.hd, by rw [paired_len rp]; exact lim_le hl, ?_⟩
  obtain ⟨c4, o4, W5⟩ := kk F2 (vs ++ [y]) _ (SameR _) (rp.snoc r2) _ W4.set
  exact k _ w hm F2 _ c4 O ((sm.trans sm0).trans sm2) o4 W5 D (P.mono (sm0.trans sm2) q)
theorem b_setP {f : S → Option Ω} (h0 : Ev te0 σ F A (rRef ps) m0) (e : Emb A (oPool (oLst R) ps) g p) (he : Ev te σ F A R m) (hi : Ev ti σ F A rInt mi) (k : B u σ F A P f) : B (tSeq (tAsg te (gSub te0 ti rSetL)) u) σ F A P (bnd m fun x => bnd m0 fun k => bnd mi fun i => bnd (upI g p k fun xs => setI xs i x) fun _ => f) := fun s w hm F1 H c O sm ho W D q => by
  obtain ⟨x, s1, h1, hm⟩ := bnd_some hm
  obtain ⟨n, s0, h0m, hm⟩ := bnd_some hm
  obtain ⟨i, s2, h2, hm⟩ := bnd_some hm
  obtain ⟨_, s3, h3, hm⟩ := bnd_some hm
  obtain ⟨xs, xs', hx, h3a, rfl⟩ := upI_some h3
  obtain ⟨j, hj, rfl⟩ := setI_some h3a
  refine he s x s1 h1 F1 H c O sm ho W _ fun y F2 H2 c2 sm2 o2 W2 r2 => ?_
  refine h0 s1 n s0 h0m F2 H2 c2 O (sm.trans sm2) o2 W2 _ fun v F0 H0 c0 sm0 o0 W0 r0 => ?_
  refine hi s0 i s2 h2 F0 H0 c0 O ((sm.trans sm2).trans sm0) o0 W0 _ fun z F3 H3 c3 sm3 o3 W3 r3 => ?_
  obtain ⟨l, vs, xs', c4, rfl, hx', rp, W4, kk⟩ := emb_poolL e o3 W3 ((rRef ps).mono sm3 r0)
  rw [hx] at hx'; cases hx'
  refine ⟨l, vs, i, j, rfl, r3, W4.hd, by rw [paired_len rp]; exact hj, ?_⟩
  obtain ⟨c5, o5, W5⟩ := kk F3 (vs.set j y) _ (SameR _) (paired_set rp (R.mono (sm0.trans sm3) r2) j) _ W4.set
  exact k _ w hm F3 _ c5 O (((sm.trans sm2).trans sm0).trans sm3) o5 W5 D (P.mono (sm2.trans (sm0.trans sm3)) q)
end
end T

/-! T23: ways back of any kind; exceptions. -/
namespace T
open PySem L2
/-- an end that is told by the returns alone -/
class RtO {ρ : Type} (Q : Post ρ) : Prop where
  ro : ∀ {w : ρ} {F : Hp} {O : Ch} {D D' : Ends}, D'.rt = D.rt → Q.p w F O D → Q.p w F O D'
theorem ro_of {ρ : Type} (Q : Post ρ) [r : RtO Q] (D : Ends) {D' : Ends} {w : ρ} {F : Hp} {O : Ch} (h : Q.p w F O D) (e : D'.rt = D.rt := by rfl) : Q.p w F O D' := r.ro e h
instance {S0 β : Type} {X : Ow S0} {R : Rl β} : RtO (pRt X R) := ⟨fun e h v F' H' c' s o w r => by rw [e]; exact h v F' H' c' s o w r⟩
instance {S0 β : Type} {X : Ow S0} {Bf : V → Ow β} : RtO (pRo X Bf) := ⟨fun e h v F' H' c' cb s o ob w => by rw [e]; exact h v F' H' c' cb s o ob w⟩
section
variable {S S0 S1 T' α β γ δ Z Ω ρ : Type}
def pFlG (X : Ow S1) (Sl : Z → Hp → L2.St → Prop) (Q : Post ρ) : Post (Fl (Z × S1) ρ) where
  p := fun w F O D => match w with
    | .nx q => (pNx X Sl).p q F O D
    | .rt b => Q.p b F O D
  mono := fun {w F F' O D} s h => by
    cases w with
    | nx q => exact (pNx X Sl).mono s h
    | rt b => exact Q.mono s h
variable {te ta tb : TE} {tt : TT} {ar : TA} {σ : L2.St} {F F' : Hp} {A : Ow S} {R : Rl α} {R' : Rl β} {U : Rl γ} {m : M S α} {m' : M S β} {v : V} {u t e w : TS} {P : Post Ω} {Q : Post ρ} [RtO Q] {K : PySem.W.Frag}
theorem b_nxFG {X : Ow S1}  {π : S → S1} {Sl : Z → Hp → L2.St → Prop} {z : Z}  (pr : Pr A X π) (h : ∀ F', Same F F' → Sl z F' σ) : B tNext σ F A (pFlG X Sl Q) (fun s => some (.nx (z, π s))) := fun s w hm F1 H c O sm ho W D q => by
  cases hm
  obtain ⟨c3, o3, W3⟩ := Wd.pr pr ho W
  exact q F1 H c3 σ (SameR _) o3 W3 (h F1 sm)
theorem b_rtFG {X : Ow S1}  {Sl : Z → Hp → L2.St → Prop}  {f : S → Option ρ} (h : B u σ F A Q f) : B u σ F A (pFlG X Sl Q) (rtF f) := fun s w hm F1 H c O sm ho W D q => by
  unfold rtF at hm
  cases e1 : f s with
  | none => rw [e1] at hm; cases hm
  | some r => rw [e1] at hm; cases hm; exact h s r e1 F1 H c O sm ho W D q
/-- a test that may lead to a return; else on -/
theorem b_ifRG {mb : M S Bool}  {f g : S → Option ρ} (hc : EvT tt σ F A mb) (ht : B t σ F A Q f) (hw : B w σ F A Q g) : B (tSeq (tIfS tt t tNext) w) σ F A Q (bnd mb fun b => bif b then f else g) := fun s r hm F1 H c O sm ho W D q => by
  obtain ⟨b, s1, h1, hm⟩ := bnd_some hm
  refine hc s b s1 h1 F1 H c O sm ho W _ fun F2 H2 c2 s2 o2 W2 => ?_
  cases b with
  | true => exact iteT (ht s1 r hm F2 H2 c2 O (sm.trans s2) o2 W2 _ (ro_of Q D (Q.mono s2 q)))
  | false => exact iteF (hw s1 r hm F2 H2 c2 O (sm.trans s2) o2 W2 D (ro_of Q D (Q.mono s2 q)))
theorem b_ifRFG {mb : M S Bool} {X : Ow S1}  {Sl : Z → Hp → L2.St → Prop} {f : S → Option ρ} {g : S → Option (Fl (Z × S1) ρ)} (hc : EvT tt σ F A mb) (ht : B t σ F A Q f) (hw : B w σ F A (pFlG X Sl Q) g) :
    B (tSeq (tIfS tt t tNext) w) σ F A (pFlG X Sl Q) (bnd mb fun b => bif b then rtF f else g) := fun s r hm F1 H c O sm ho W D q => by
  obtain ⟨b, s1, h1, hm⟩ := bnd_some hm
  refine hc s b s1 h1 F1 H c O sm ho W _ fun F2 H2 c2 s2 o2 W2 => ?_
  cases b with
  | true =>
    simp only [cond_true] at hm
    unfold rtF at hm
    cases e1 : f s1 with
    | none => rw [e1] at hm; cases hm
    | some r' => rw [e1] at hm; cases hm; exact iteT (ht s1 r' e1 F2 H2 c2 O (sm.trans s2) o2 W2 _ (ro_of Q D (Q.mono s2 q)))
  | false => exact iteF (hw s1 r hm F2 H2 c2 O (sm.trans s2) o2 W2 D ((pFlG X Sl Q).mono s2 q))
/-- both ways return -/
theorem b_if2G {mb : M S Bool}  {f g : S → Option ρ} (hc : EvT tt σ F A mb) (ht : B t σ F A Q f) (he : B e σ F A Q g) : B (tSeq (tIfS tt t e) w) σ F A Q (bnd mb fun b => bif b then f else g) := fun s r hm F1 H c O sm ho W D q => by
  obtain ⟨b, s1, h1, hm⟩ := bnd_some hm
  refine hc s b s1 h1 F1 H c O sm ho W _ fun F2 H2 c2 s2 o2 W2 => ?_
  cases b with
  | true => exact iteT (ht s1 r hm F2 H2 c2 O (sm.trans s2) o2 W2 _ (ro_of Q D (Q.mono s2 q)))
  | false => exact iteF (he s1 r hm F2 H2 c2 O (sm.trans s2) o2 W2 _ (ro_of Q D (Q.mono s2 q)))
/-- ways that return, or go on to a common place -/
theorem b_ifEG {mb : M S Bool} {Sl : Z → Hp → L2.St → Prop}  {f g : S → Option (Fl (Z × S) ρ)} {h : Z → S → Option ρ} (hc : EvT tt σ F A mb) (ht : B t σ F A (pFlG A Sl Q) f) (he : B e σ F A (pFlG A Sl Q) g)
    (k : ∀ z F' σ', Same F F' → Sl z F' σ' → B w σ' F' A Q (h z)) : B (Evl.tCut (tIfS tt t e) w) σ F A Q (fthn (bnd mb fun b => bif b then f else g) h) := fun s r hm F1 H c O sm ho W D q => by
  unfold fthn at hm
  cases e0 : bnd mb (fun b => bif b then f else g) s with
  | none => rw [e0] at hm; cases hm
  | some fl =>
    rw [e0] at hm
    obtain ⟨b, s1, h1, h2⟩ := bnd_some e0
    cases fl with
    | nx z =>
      refine ⟨fun σ' H' => ∃ F' c', Same F1 F' ∧ A.o F' z.2 c' ∧ Wd F' H' (c' ++ O) ∧ Sl z.1 F' σ', ?_, fun σ' H' ⟨F', c', s', o', W', sl⟩ => k z.1 F' σ' (sm.trans s') sl z.2 r hm F' H' c' O (SameR _) o' W' D (Q.mono s' q)⟩
      refine hc s b s1 h1 F1 H c O sm ho W _ fun F2 H2 c2 sm2 o2 W2 => ?_
      cases b with
      | true => exact iteT (ht s1 _ h2 F2 H2 c2 O (sm.trans sm2) o2 W2 _ fun F3 H3 c3 σ3 s3 o3 W3 sl => ⟨F3, c3, sm2.trans s3, o3, W3, sl⟩)
      | false => exact iteF (he s1 _ h2 F2 H2 c2 O (sm.trans sm2) o2 W2 _ fun F3 H3 c3 σ3 s3 o3 W3 sl => ⟨F3, c3, sm2.trans s3, o3, W3, sl⟩)
    | rt b' =>
      obtain rfl : b' = r := Option.some.inj hm
      refine ⟨fun σ' H' => False, ?_, fun σ' H' f => f.elim⟩
      refine hc s b s1 h1 F1 H c O sm ho W _ fun F2 H2 c2 sm2 o2 W2 => ?_
      cases b with
      | true => exact iteT (ht s1 _ h2 F2 H2 c2 O (sm.trans sm2) o2 W2 _ (ro_of Q D (Q.mono sm2 q)))
      | false => exact iteF (he s1 _ h2 F2 H2 c2 O (sm.trans sm2) o2 W2 _ (ro_of Q D (Q.mono sm2 q)))
theorem b_ifEFG {mb : M S Bool} {Z' : Type} {Sl : Z → Hp → L2.St → Prop} {Sl' : Z' → Hp → L2.St → Prop}  {Y : Ow S1} {f g : S → Option (Fl (Z × S) ρ)} {h : Z → S → Option (Fl (Z' × S1) ρ)} (hc : EvT tt σ F A mb) (ht : B t σ F A (pFlG A Sl Q) f) (he : B e σ F A (pFlG A Sl Q) g)
    (k : ∀ z F' σ', Same F F' → Sl z F' σ' → B w σ' F' A (pFlG Y Sl' Q) (h z)) : B (Evl.tCut (tIfS tt t e) w) σ F A (pFlG Y Sl' Q) (fthnF (bnd mb fun b => bif b then f else g) h) := fun s r hm F1 H c O sm ho W D q => by
  unfold fthnF at hm
  cases e0 : bnd mb (fun b => bif b then f else g) s with
  | none => rw [e0] at hm; cases hm
  | some fl =>
    rw [e0] at hm
    obtain ⟨b, s1, h1, h2⟩ := bnd_some e0
    cases fl with
    | nx z =>
      refine ⟨fun σ' H' => ∃ F' c', Same F1 F' ∧ A.o F' z.2 c' ∧ Wd F' H' (c' ++ O) ∧ Sl z.1 F' σ', ?_, fun σ' H' ⟨F', c', s', o', W', sl⟩ => k z.1 F' σ' (sm.trans s') sl z.2 r hm F' H' c' O (SameR _) o' W' D ((pFlG Y Sl' Q).mono s' q)⟩
      refine hc s b s1 h1 F1 H c O sm ho W _ fun F2 H2 c2 sm2 o2 W2 => ?_
      cases b with
      | true => exact iteT (ht s1 _ h2 F2 H2 c2 O (sm.trans sm2) o2 W2 _ fun F3 H3 c3 σ3 s3 o3 W3 sl => ⟨F3, c3, sm2.trans s3, o3, W3, sl⟩)
      | false => exact iteF (he s1 _ h2 F2 H2 c2 O (sm.trans sm2) o2 W2 _ fun F3 H3 c3 σ3 s3 o3 W3 sl => ⟨F3, c3, sm2.trans s3, o3, W3, sl⟩)
    | rt b' =>
      obtain rfl : Fl.rt b' = r := Option.some.inj hm
      refine ⟨fun σ' H' => False, ?_, fun σ' H' f => f.elim⟩
      refine hc s b s1 h1 F1 H c O sm ho W _ fun F2 H2 c2 sm2 o2 W2 => ?_
      cases b with
      | true => exact iteT (ht s1 _ h2 F2 H2 c2 O (sm.trans sm2) o2 W2 _ (ro_of Q D (Q.mono sm2 q)))
      | false => exact iteF (he s1 _ h2 F2 H2 c2 O (sm.trans sm2) o2 W2 _ (ro_of Q D (Q.mono sm2 q)))
/-- a loop whose turns may return: what is wanted of an end is told by Pe -/
theorem for_EG {wi : TI} {g : TG} {f : Z → α → S → Option (Fl (Z × S) ρ)} {z0 : Z} {Sl : Z → Hp → L2.St → Prop}  {ml : M S (List α)} (hi : EvI wi σ F A R ml) (h0 : ∀ F', Same F F' → Sl z0 F' σ)
    (hb : ∀ z x v F' σ', Same F F' → Sl z F' σ' → R.r F' v x → B (tGo g v t) σ' F' A (pFlG A Sl Q) (f z x)) (hS : ∀ z F F' σ', Same F F' → Sl z F σ' → Sl z F' σ')
    {s s1 : S} {xs : List α} {fl : Fl (Z × S) ρ} (h1 : ml s = some (xs, s1)) (h2 : fdE f z0 xs s1 = some fl) {F1 H : Hp} {c O : Ch} (sm : Same F F1) (ho : A.o F1 s c) (W : Wd F1 H (c ++ O)) (D : Ends)
    (q : match fl with
      | .nx z => ∀ F' H' c' σ', Same F1 F' → A.o F' z.2 c' → Wd F' H' (c' ++ O) → Sl z.1 F' σ' → D.nx σ' H'
      | .rt b => Q.p b F1 O D) : tFor wi g t D σ H := by
  refine hi s xs s1 h1 F1 H c O sm ho W _ fun J F2 H2 c2 sm2 o2 W2 ⟨G, Y, wk, hG, hY⟩ => ?_
  refine for_it wk (fun i σ3 H3 => ∃ z s3 F3 c3, Same F2 F3 ∧ A.o F3 s3 c3 ∧ Wd F3 H3 (c3 ++ O) ∧ Sl z F3 σ3 ∧ fdE f z (xs.drop i) s3 = some fl) ?_ ?_ ?_ ?_
  · exact ⟨z0, s1, F2, c2, SameR _, o2, W2, h0 F2 (sm.trans sm2), h2⟩
  · rintro i σ3 H3 _ ⟨z, s3, F3, c3, sm3, o3, W3, _⟩
    exact hG F3 H3 sm3 W3.sub
  · rintro i x σ3 H3 H4 hlt ⟨z, s3, F3, c3, sm3, o3, W3, sl, hfd⟩ y
    obtain ⟨F4, sm4, W4, a, ha, ra⟩ := hY i H3 x H4 hlt y F3 _ sm3 W3
    rcases fdE_cons ha hfd with ⟨q', e1, e2⟩ | ⟨b, e1, e2⟩
    · exact hb z a x F4 σ3 ((sm.trans sm2).trans (sm3.trans sm4)) (hS _ _ _ _ sm4 sl) ra s3 _ e1 F4 H4 c3 O (SameR _) (A.mono sm4 o3) W4 _ fun F5 H5 c5 σ5 s5 o5 W5 sl5 => ⟨q'.1, q'.2, F5, c5, sm3.trans (sm4.trans s5), o5, W5, sl5, e2⟩
    · subst e2
      exact hb z a x F4 σ3 ((sm.trans sm2).trans (sm3.trans sm4)) (hS _ _ _ _ sm4 sl) ra s3 _ e1 F4 H4 c3 O (SameR _) (A.mono sm4 o3) W4 _ (ro_of Q D (Q.mono (sm2.trans (sm3.trans sm4)) q))
  · rintro σ3 H3 ⟨z, s3, F3, c3, sm3, o3, W3, sl, hfd⟩
    rw [List.drop_of_length_le (Nat.le_refl _)] at hfd
    obtain rfl : Fl.nx (z, s3) = fl := by rw [fdE] at hfd; exact Option.some.inj hfd
    exact q F3 H3 c3 σ3 (sm2.trans sm3) o3 W3 sl
theorem b_forEG {wi : TI} {g : TG} {f : Z → α → S → Option (Fl (Z × S) ρ)} {z0 : Z} {Sl : Z → Hp → L2.St → Prop}  {h : Z → S → Option ρ} {ml : M S (List α)} (hi : EvI wi σ F A R ml) (h0 : ∀ F', Same F F' → Sl z0 F' σ)
    (hb : ∀ z x v F' σ', Same F F' → Sl z F' σ' → R.r F' v x → B (tGo g v t) σ' F' A (pFlG A Sl Q) (f z x)) (k : ∀ z F' σ', Same F F' → Sl z F' σ' → B w σ' F' A Q (h z))
    (hS : ∀ z F F' σ', Same F F' → Sl z F σ' → Sl z F' σ') : B (tSeq (tFor wi g t) w) σ F A Q (bnd ml fun xs => fthn (fdE f z0 xs) h) := fun s r hm F1 H c O sm ho W D q => by
  obtain ⟨xs, s1, h1, hm⟩ := bnd_some hm
  unfold fthn at hm
  cases e0 : fdE f z0 xs s1 with
  | none => rw [e0] at hm; cases hm
  | some fl =>
    rw [e0] at hm
    refine for_EG hi h0 hb hS h1 e0 sm ho W _ ?_
    cases fl with
    | nx z => exact fun F' H' c' σ' s' o' W' sl => k z.1 F' σ' (sm.trans s') sl z.2 r hm F' H' c' O (SameR _) o' W' D (Q.mono s' q)
    | rt b =>
      obtain rfl : b = r := Option.some.inj hm
      exact ro_of Q D q
theorem b_forEFG {Z' : Type} {wi : TI} {g : TG} {f : Z → α → S → Option (Fl (Z × S) ρ)} {z0 : Z} {Sl : Z → Hp → L2.St → Prop} {Sl' : Z' → Hp → L2.St → Prop}  {Y : Ow S1} {h : Z → S → Option (Fl (Z' × S1) ρ)} {ml : M S (List α)} (hi : EvI wi σ F A R ml) (h0 : ∀ F', Same F F' → Sl z0 F' σ)
    (hb : ∀ z x v F' σ', Same F F' → Sl z F' σ' → R.r F' v x → B (tGo g v t) σ' F' A (pFlG A Sl Q) (f z x)) (k : ∀ z F' σ', Same F F' → Sl z F' σ' → B w σ' F' A (pFlG Y Sl' Q) (h z))
    (hS : ∀ z F F' σ', Same F F' → Sl z F σ' → Sl z F' σ') : B (tSeq (tFor wi g t) w) σ F A (pFlG Y Sl' Q) (bnd ml fun xs => fthnF (fdE f z0 xs) h) := fun s r hm F1 H c O sm ho W D q => by
  obtain ⟨xs, s1, h1, hm⟩ := bnd_some hm
  unfold fthnF at hm
  cases e0 : fdE f z0 xs s1 with
  | none => rw [e0] at hm; cases hm
  | some fl =>
    rw [e0] at hm
    refine for_EG hi h0 hb hS h1 e0 sm ho W _ ?_
    cases fl with
    | nx z => exact fun F' H' c' σ' s' o' W' sl => k z.1 F' σ' (sm.trans s') sl z.2 r hm F' H' c' O (SameR _) o' W' D ((pFlG Y Sl' Q).mono s' q)
    | rt b =>
      obtain rfl : Fl.rt b = r := Option.some.inj hm
      exact ro_of Q D q
theorem b_whileEG {n : Nat} {z0 : Z} {cnd : Z → M S Bool}  {f : Z → S → Option (Fl (Z × S) ρ)} {Sl : Z → Hp → L2.St → Prop} {h : Z → S → Option ρ} (h0 : ∀ F', Same F F' → Sl z0 F' σ) (hc : ∀ z F' σ', Same F F' → Sl z F' σ' → EvT tt σ' F' A (cnd z))
    (hb : ∀ z F' σ', Same F F' → Sl z F' σ' → B t σ' F' A (pFlG A Sl Q) (f z)) (k : ∀ z F' σ', Same F F' → Sl z F' σ' → B w σ' F' A Q (h z)) (hS : ∀ z F F' σ', Same F F' → Sl z F σ' → Sl z F' σ') :
    B (tSeq (tWhile tt t) w) σ F A Q (fthn (whlE cnd f n z0) h) := fun s r hm F1 H c O sm ho W D q => by
  unfold fthn at hm
  cases e0 : whlE cnd f n z0 s with
  | none => rw [e0] at hm; cases hm
  | some fl =>
    rw [e0] at hm
    refine ⟨fun j σ3 H3 => ∃ z s3 F3 c3, Same F1 F3 ∧ A.o F3 s3 c3 ∧ Wd F3 H3 (c3 ++ O) ∧ Sl z F3 σ3 ∧ whlE cnd f j z s3 = some fl, ⟨n, z0, s, F1, c, SameR _, ho, W, h0 F1 sm, e0⟩, ?_⟩
    rintro j σ3 H3 ⟨z, s3, F3, c3, sm3, o3, W3, sl, hw⟩
    cases j with
    | zero => cases hw
    | succ j =>
      obtain ⟨b, s4, e1, hw⟩ := bnd_some hw
      refine hc z F3 σ3 (sm.trans sm3) sl s3 b s4 e1 F3 H3 c3 O (SameR _) o3 W3 _ fun F4 H4 c4 sm4 o4 W4 => ?_
      cases b with
      | true =>
        simp only [cond_true] at hw
        cases e2 : f z s4 with
        | none => rw [e2] at hw; cases hw
        | some fl' =>
          rw [e2] at hw
          cases fl' with
          | nx z5 =>
            refine iteT ⟨fun σ5 H5 => ∃ F5 c5, Same F1 F5 ∧ A.o F5 z5.2 c5 ∧ Wd F5 H5 (c5 ++ O) ∧ Sl z5.1 F5 σ5, fun σ5 H5 ⟨F5, c5, sm5, o5, W5, sl5⟩ => ⟨j, Nat.lt_succ_self j, z5.1, z5.2, F5, c5, sm5, o5, W5, sl5, hw⟩, ?_⟩
            exact hb z F4 σ3 ((sm.trans sm3).trans sm4) (hS _ _ _ _ sm4 sl) s4 _ e2 F4 H4 c4 O (SameR _) o4 W4 _ fun F5 H5 c5 σ5 s5 o5 W5 sl5 => ⟨F5, c5, (sm3.trans sm4).trans s5, o5, W5, sl5⟩
          | rt b' =>
            obtain rfl : Fl.rt b' = fl := Option.some.inj hw
            obtain rfl : b' = r := Option.some.inj hm
            exact iteT ⟨fun _ _ => False, fun _ _ f => f.elim, hb z F4 σ3 ((sm.trans sm3).trans sm4) (hS _ _ _ _ sm4 sl) s4 _ e2 F4 H4 c4 O (SameR _) o4 W4 _ (ro_of Q D (Q.mono (sm3.trans sm4) q))⟩
      | false =>
        obtain rfl : Fl.nx (z, s4) = fl := Option.some.inj hw
        exact iteF (k _ F4 σ3 ((sm.trans sm3).trans sm4) (hS _ _ _ _ sm4 sl) _ r hm F4 H4 c4 O (SameR _) o4 W4 D (Q.mono (sm3.trans sm4) q))
end
end T
namespace L2
open PySem PySem.Spec PyProof.Rows
/-- an exception of the class cls that was caught, at a -/
def ExH (cls : Value) (a : Addr) : HO := .ext fun h => ∃ (oe : Obj) (vs : Array Value), h.get? a = some oe ∧ Zc cls none oe ∧ oe.data = .fields vs
theorem exH_ok {P : Program} {w : World} {H : Hp} {h : Heap} {a : Addr} {cls : Value} {oe : Obj} (e : h.get? a = some oe) (z : Zc cls none oe) (d : ∃ vs, oe.data = .fields vs) : ObjOk P w H h a (ExH cls a) := by
  obtain ⟨vs, d⟩ := d
  exact ⟨⟨oe, vs, e, z, d⟩, ⟨oe, e⟩, fun _ _ ⟨o, v, q, r⟩ k => ⟨o, v, k o q, r⟩⟩
section
variable {X : Cx} {pins : List (Addr × Obj)} {σ : St} {H : Hp} {s : Shared}
/-- a caught exception is tracked -/
theorem Inv.track {a : Addr} {oe : Obj} {cls : Value} (I : Inv X pins σ H s) (ha : s.heap.get? a = some oe) (z : Zc cls none oe) (hd : ∃ vs, oe.data = .fields vs) (na : H a = none) (n0 : X.s_0.heap.get? a = none) (nL : a ≠ X.env.locals) (np : ∀ p ∈ X.pn ++ pins, p.1 ≠ a) :
    Inv X pins σ (upd H a (ExH cls a)) s where
  ok := I.ok
  os := I.os
  bare := I.bare
  base := by
    have B := I.base
    refine ⟨B.keep, B.slot, fun b o e n hx => ?_, B.there, fun b xs e => ?_, fun b o u e => ?_, fun b ps e => ?_⟩
    · rw [upd_ne (fun q => by rw [q, n0] at e; cases e)]; exact B.free b o e n hx
    · have q := B.tups b xs e
      rw [upd_ne (ne_of_none q na)]; exact q
    · have q := B.frzs b o u e
      rw [upd_ne (ne_of_none q na)]; exact q
    · obtain ⟨m, q⟩ := B.tbls b ps e
      exact ⟨m, by rw [upd_ne (ne_of_none q na)]; exact q⟩
  loc := I.loc
  cell := I.cell
  free := by rw [upd_ne nL.symm]; exact I.free
  freeC := fun x c e => by
    have hc : c ≠ a := fun q => by
      obtain ⟨v, o, ho, hdd⟩ := I.cell x c e
      obtain ⟨vs, hd⟩ := hd
      rw [q, ha] at ho; cases ho
      rw [hd] at hdd; cases hdd
    rw [upd_ne hc]; exact I.freeC x c e
  pin := fun p hp => by
    obtain ⟨h1, h2, h3⟩ := I.pin p hp
    exact ⟨h1, by rw [upd_ne (np p hp)]; exact h2, h3⟩
  hok := fun b o e => by
    by_cases hb : b = a
    · subst hb; rw [upd_same] at e; cases e; exact exH_ok ha z hd
    · rw [upd_ne hb] at e
      exact (I.hok b o e).stay (fun c v _ q => q) (fun c q => by rw [upd_ne (ne_of_none q na)]; exact q) fun c xs q => by rw [upd_ne (ne_of_none q na)]; exact q
  len := I.len
end
/-- what the clause 'except x as n: suite' wishes of an exception of the body, where it is kept behind the suite -/
def wKeep (K : PySem.W.Frag) (c : Value) (i : Nat) (ts : Addr → Value → Option Addr → TS) (Wout : WX) (D : Ends) : WX := fun cls d σ H =>
  ∃ b, PySem.W.exmOne K cls c = some b ∧ d = none ∧ (b = true → ∀ a, H a = none → ts a cls d { nx := fun σ' H' => D.nx (σ'.set i none) (upd H' a (ExH cls a)), rt := fun _ _ => False, bk := fun _ _ => False, ct := fun _ _ => False } (σ.set i (some (.ref a))) H) ∧
    (b = false → Wout cls d σ H)
section
variable {X : Cx} {x n : Str} {c : Value} {i : Nat} {body suite : List Stmt} {b₀ : Stmt} {np pos pos' : Pos} {tb : WX → TS} {ts : Addr → Value → Option Addr → TS} {Wout : WX}
theorem ps_try_keep (hex : X.ex = []) (hs : X.stack = X.env :: X.outer) (hf : X.env.frame = some X.env.locals) (hN : X.N.Nodup) (hi : X.N[i]? = some n) (hln : X.env.kindOf n = some .local) (hc : Names X x c) (tk : Takes X Wout)
    (hb : ∀ (W : WX) (pn : List (Addr × Obj)) (xe : Value → Shared → Prop), Takes (X.tr pn xe) W → PassesOwn (model X.prog X.w) X.A X.env xe → PSs (X.tr pn xe) body (tb W))
    (hsu : ∀ (a : Addr) (oe : Obj) (cls : Value) (d : Option Addr) (pn : List (Addr × Obj)), Zc cls d oe → (∃ vs, oe.data = .fields vs) → PSs (X.suite a ((a, oe) :: pn)) (b₀ :: suite) (ts a cls d)) :
    PS X (.Try body [.ExceptHandler (some (.Name x np)) (some n) (b₀ :: suite) pos'] [] [] pos) (fun D σ H => tb (wKeep X.K c i ts Wout D) D σ H) := by
  refine ⟨fun pins s σ H D I h => ?_⟩
  have ok := I.ok
  have hfr : X.A.frames = some (X.env :: X.outer) := by rw [ok.frames, hs]
  have hloc : Loc X.env.scope n := .inl hln
  refine wpAny_Try_except ?_
  refine wpAny_mono ((hb (wKeep X.K c i ts Wout D) (X.pn ++ pins) (fun e s₁ => wpAny (model X.prog X.w) X.A (noteFrame e X.env) (fun _ s₂ => wpAny (model X.prog X.w) X.A (setFlight e none) (fun _ s₃ =>
    wpAny (model X.prog X.w) X.A (handleBy e X.env [.ExceptHandler (some (.Name x np)) (some n) (b₀ :: suite) pos']) (SP X pins D) X.xe s₃) X.xe s₂) X.xe s₁) (fun u s' xx => ?_) PassesOwn.looking).run [] s σ H D (I.toTry _) h) (fun f s1 hsp => ?_) (fun e s1 he => he)
  · -- the catch
    obtain ⟨a, B, sI, pins', σ', H', cls, d, rfl, J', nb, up, sky, na, os, ag, b, hb1, hd0, hyes, hno⟩ := xx
    have J : Inv X pins σ' H' sI := J'.ofTry ok
    have sky' : Sky B (X.env :: X.outer) a (Zc cls d) X.env.locals s'.heap := by rw [← hs]; exact sky
    show wpAny (model X.prog X.w) X.A (noteFrame (.ref a) X.env) _ _ _
    refine Sky.land Zc.steady hfr hf sky' fun h3 fl3 up3 => ?_
    have J3 : Inv X pins σ' H' { s' with heap := h3 } := J.landed nb fl3.1 (up.trans up3) os ag
    obtain ⟨oe3, vs3, he3, hz3, hd3⟩ := fl3.there
    have notFr : ∀ {h : Heap} {o : Obj} {vs : Array Value}, h.FunFrames B (X.env :: X.outer) → h.get? a = some o → o.data = .fields vs → a ∉ frs (X.env :: X.outer) := fun {h o vs} ff e dd hm => by
      obtain ⟨_, o', e', hnf⟩ := ff.mem hm
      rw [e] at e'; cases e'
      exact hnf _ dd
    have nfr := notFr fl3.2.2.1 he3 hd3
    have nL : a ≠ X.env.locals := fun z => nfr (List.mem_filterMap.mpr ⟨X.env, List.mem_cons_self, by rw [hf, z]⟩)
    have nF : a ∉ X.fs := fun hm => by
      obtain ⟨e, he, q⟩ := List.mem_filterMap.mp hm
      exact nfr (List.mem_filterMap.mpr ⟨e, List.mem_cons_of_mem _ he, q⟩)
    have nI : sI.heap.get? a = none := by
      cases e : sI.heap.get? a with
      | none => rfl
      | some o =>
        have := nb a o e (by rw [hs]; exact nfr)
        rw [fl3.2.1] at this; cases this
    have n0 : X.s_0.heap.get? a = none := by
      cases e : X.s_0.heap.get? a with
      | none => rfl
      | some o =>
        by_cases hx : a ∈ X.ex
        · exact absurd hx (by rw [hex]; exact fun z => nomatch z)
        · obtain ⟨o', q⟩ := J.base.there a o e hx
          rw [nI] at q; cases q
    have npin : ∀ p ∈ X.pn ++ pins, p.1 ≠ a := fun p hp q => by
      have := (J.pin p hp).1
      rw [q, nI] at this; cases this
    have S3 := J3.suite he3 hd3 na nL nF
    refine wpAny_handleBy_cons (codeAny_handlers_test ?_) (by intro q; cases q)
    have LT : PySem.W.Looks (model X.prog X.w) h3 (typeOf (.ref a)) cls := fun A Q E s k q => wpAny_typeOf_ref (k _ _ he3) (by rw [hz3.1]; exact q)
    have LM := PySem.W.exm_one (M := model X.prog X.w) (J3.kIn) LT hb1
    have test : ∀ {Q : Value → Shared → Prop} {E : Value → Shared → Prop}, Q c { s' with heap := h3 } → wpAny (model X.prog X.w) (X.A.mark (some (.ref a))) (eval (.Name x np) X.env) Q E { s' with heap := h3 } := fun {Q E} q => by
      obtain ⟨hg, hdbg, hm | ⟨hm, hv, hnn⟩⟩ := hc
      · exact ld_glob (X := X.suite a ((a, oe3) :: (X.pn ++ pins))) S3 hg hm q hdbg
      · exact ld_blt (X := X.suite a ((a, oe3) :: (X.pn ++ pins))) S3 hg hm hv q hnn hdbg
    refine test (LM.here ?_)
    cases b with
    | true =>
      refine codeAny_handlers_suite_as ?_
      refine HandSPX.lands_againZ fl3 fun h4 fl4 up4 => ?_
      have J4 : Inv X pins σ' H' { s' with heap := h4 } := J.landed nb fl4.1 ((up.trans up3).trans up4) os ag
      obtain ⟨oe4, vs4, he4, hz4, hd4⟩ := fl4.there
      have S4 := J4.suite he4 hd4 na nL nF
      refine store_ok (X := X.suite a ((a, oe4) :: (X.pn ++ pins))) (v := .ref a) S4 hN hi hloc rfl (fun s5 S5 => ?_) (.inr hln)
      refine wpAny_mono ((hsu a oe4 cls d (X.pn ++ pins) hz4 ⟨_, hd4⟩).run [] s5 _ H' _ S5 (hyes rfl a na)) (fun f s6 hsp => ?_) (fun _ _ z => False.elim z)
      have end_ : ∀ {σ6 : St} {H6 : Hp} {Q : Shared → Prop}, Inv (X.suite a ((a, oe4) :: (X.pn ++ pins))) [] σ6 H6 s6 → (∀ s7, Inv X pins (σ6.set i none) (upd H6 a (ExH cls a)) s7 → Q s7) →
          wpAny (model X.prog X.w) X.A (do bindName X.env n .none; unbindBehindTheSuite X.env n pos') (fun _ s7 => Q s7) X.xe s6 := fun {σ6 H6 Q} S6 hq => by
        obtain ⟨g1, g2, _⟩ := S6.pin (a, oe4) (List.mem_append.mpr (.inl List.mem_cons_self))
        subst hd0
        exact gone_ok ((S6.unsuite ok).track g1 hz4 ⟨_, hd4⟩ g2 n0 nL npin) hN hi hln hq
      cases f with
      | next =>
        obtain ⟨σ6, H6, S6, q6⟩ := hsp
        exact end_ S6 fun s7 J7 => ⟨_, _, J7, q6⟩
      | brk =>
        obtain ⟨σ6, H6, S6, q6⟩ := hsp
        exact q6.elim
      | cont =>
        obtain ⟨σ6, H6, S6, q6⟩ := hsp
        exact q6.elim
      | ret u =>
        obtain ⟨v6, σ6, H6, S6, r6, q6⟩ := hsp
        exact q6.elim
    | false =>
      show wpAny _ X.A (handleBy (.ref a) X.env []) _ _ _
      refine wpAny_handleBy_nil ?_
      obtain ⟨k1, k2, k3, oe, vs, T, oT, ts', he, hz, hd, h1, hr⟩ := id fl3
      unfold PySem.passOn
      refine wpAny_bind (wpAny_field he hd h1 ?_)
      rw [if_neg (show ¬ ((Value.ref T == Value.none) = true) from by simp)]
      have fin : wpAny (model X.prog X.w) X.A (setFlight (.ref a) X.env.frame) (fun _ s4 => wpAny (model X.prog X.w) X.A (throw (.ref a) : Sem Flow) (SP X pins D) X.xe s4) X.xe { s' with heap := h3 } := by
        rw [hf]
        refine HandSPX.setFlight_upZ fl3 fun h4 hh4 up4 => wpAny_throw (tk _ _ ?_)
        exact ⟨a, B, sI, pins, σ', H', cls, d, rfl, J, nb, (up.trans up3).trans up4, .inr (.inr (by rw [hs]; exact hh4)), na, os, ag, hno rfl⟩
      first
        | exact wpAny_bind (wpAny_pure (wpAny_bind fin))
        | exact wpAny_bind fin
  · cases f with
    | next =>
      obtain ⟨σ', H', J', q⟩ := hsp
      exact wpAny_execs_nil ⟨σ', H', J'.ofTry ok, q⟩
    | brk =>
      obtain ⟨σ', H', J', q⟩ := hsp
      exact ⟨σ', H', J'.ofTry ok, q⟩
    | cont =>
      obtain ⟨σ', H', J', q⟩ := hsp
      exact ⟨σ', H', J'.ofTry ok, q⟩
    | ret u =>
      obtain ⟨v, σ', H', J', r, q⟩ := hsp
      exact ⟨v, σ', H', J'.ofTry ok, r, q⟩
end
/-- isinstance(e, c), e a kept exception -/
def rIsX (K : PySem.W.Frag) : List V → Hp → VK → Prop := fun xs H Q => ∃ (a D : Addr) (c : V) (cv : Value) (b : Bool), xs = [.ref a, c] ∧ H a = some (ExH (.ref D) a) ∧ ExcC K D ∧ (∀ u, RelV c u → u = cv) ∧ PySem.W.kitOne K (.ref D) cv = some b ∧ Q (.bl b) H
theorem call_isX {X : Cx} : CallR X (.builtin "isinstance") (rIsX X.K) := by
  intro pins s σ H xs us Q I r h
  obtain ⟨a, D, c, cv, b, rfl, ha, C, hcv, e, q⟩ := h
  cases r with
  | cons rx rr =>
    cases rr with
    | cons rt rr =>
      cases rr
      cases rx
      have ec := hcv _ rt
      subst ec
      obtain ⟨⟨oe, vs, hget, hz, hv⟩, _, _⟩ := I.hok a _ ha
      have J : PySem.W.InstAt s.heap a oe D none := by
        obtain ⟨oc, od, oda, osl⟩ := oe
        obtain ⟨h1, h2⟩ := hz
        dsimp only at h1 h2 hv
        subst h1 h2 hv
        exact ⟨hget, rfl, rfl, trivial⟩
      exact PySem.W.kia_one (PySem.W.handS_kitx_exc C.hg C.hk C.hs C.hd C.ha C.hn C.ht C.hm) I.kIn J e (fun z => nomatch z) fun tk => ⟨.bl b, H, I.kept (t' := tk) fun _ _ z => z, rfl, q⟩
end L2

namespace L2
open PySem PySem.Spec PyProof.Rows SeqAt MeetsSeq
/-- xs.count(b), xs of truths -/
theorem bools_are {us : List Value} {bs : List Bool} (h : Vals (bs.map V.bl) us) : us = bs.map Value.bool := by
  induction bs generalizing us with
  | nil => cases h; rfl
  | cons b bs ih =>
    cases h with
    | cons r t => cases r; rw [ih t]; rfl
theorem bl_gives (k : Bool) (A : Around) (s : Shared) : ∀ bs : List Bool, ∀ y ∈ bs.map Value.bool, EqAt A s y (.bool k) (isBoolOf k y)
  | [], y, hy => by cases hy
  | b :: bs, y, hy => by
    rcases List.mem_cons.mp hy with e | hy
    · rw [e]; exact EqAt.bool_bool b k
    · exact bl_gives k A s bs y hy
theorem bl_count (k : Bool) : ∀ bs : List Bool, (bs.map Value.bool).countP (isBoolOf k) = bs.count k
  | [] => rfl
  | b :: bs => by
    rw [List.map_cons, List.countP_cons, List.count_cons, bl_count k bs]
    rfl
def rCntB (K : PySem.W.Frag) : V → List V → Hp → VK → Prop := fun x xs H Q => ∃ (p : Addr) (bs : List Bool) (k : Bool), x = .ref p ∧ xs = [.bl k] ∧ SqL K H p (bs.map V.bl) ∧ Q (.int (bs.count k : Nat)) H
theorem mt_bcount {X : Cx} : MtR X "list.count" (rCntB X.K) := by
  intro pins s σ H x xs v us Q I rx rxs h
  obtain ⟨p, bs, k, rfl, rfl, hs, q⟩ := h
  cases rx
  obtain ⟨u, rfl, ru⟩ := rxs.one
  cases ru
  obtain ⟨its, rv, ⟨⟨cls, dd, data, sl⟩, n, ho, hc, hdn, hd⟩, hlen⟩ := I.list hs
  simp only at hc hd
  subst hc hd
  have hi := bools_are rv
  subst hi
  refine call_meets PySem.F.slot_list_count ⟨_, ho, rfl⟩ PySem.F.entry_list_count (PySem.F.args_list_count_2 _ _)
    (SeqAt.list_countAt p (bs.map Value.bool).toArray n dd sl (.bool k) (isBoolOf k)) ⟨ho, fun y hy => bl_gives k _ _ bs y (by simpa using hy), ?_⟩
  refine ⟨.int (bs.count k : Nat), H, I.tok _, ⟨s.toks, ?_⟩, q⟩
  show Value.int (((bs.map Value.bool).toArray.toList.countP (isBoolOf k) : Nat) : Int) s.toks = Value.int ((bs.count k : Nat) : Int) s.toks
  rw [show (bs.map Value.bool).toArray.toList = bs.map Value.bool from rfl, bl_count k bs]
end L2
namespace T
open PySem L2
/-- a kept exception, by its class's name -/
def rExc (K : PySem.W.Frag) : Rl Str := ⟨fun F v n => ∃ a, v = .ref a ∧ F a = some (ExH (.ref (He.ga K n)) a), fun s ⟨a, e, h⟩ => ⟨a, e, s _ _ h⟩⟩
section
variable {S S0 S1 T' α β γ δ Z Ω ρ ι : Type} {te ta tb : TE} {tt : TT} {ar : TA} {σ : L2.St} {F F' : Hp} {A : Ow S} {R : Rl α} {R' : Rl β} {U : Rl γ} {m : M S α} {m' : M S β} {v : V} {u t e w : TS} {P : Post Ω} {Q : Post ρ} {K : PySem.W.Frag} {E : XK} {W : WX} {X : Ow S0} {π : S → S0}
/-! ends of a def that may raise -/
def pRtX (K : PySem.W.Frag) (E : XK) (X : Ow S0) (R : Rl β) : Post ((β ⊕ Str) × S0) where
  p := fun w F O D => match w.1 with
    | .inl b => ∀ v F' H' c', Same F F' → X.o F' w.2 c' → Wd F' H' (c' ++ O) → R.r F' v b → D.rt v H'
    | .inr n => ∀ F' H' c', Same F F' → X.o F' w.2 c' → Wd F' H' (c' ++ O) → E (.ref (He.ga K n)) none H'
  mono := fun {w F F' O D} s h => by
    obtain ⟨w, s0⟩ := w
    cases w with
    | inl b => exact fun v F' H' c' s' => h v F' H' c' (s.trans s')
    | inr n => exact fun F' H' c' s' => h F' H' c' (s.trans s')
instance : RtO (pRtX K E X R') := ⟨fun {w F O D D'} e h => by
  obtain ⟨w, s0⟩ := w
  cases w with
  | inl b =>
    intro v F' H' c' s o W r
    rw [e]; exact h v F' H' c' s o W r
  | inr n => exact h⟩
/-- .. of one that returns nothing -/
def pEnX (K : PySem.W.Frag) (E : XK) (X : Ow S0) : Post ((Unit ⊕ Str) × S0) where
  p := fun w F O D => match w.1 with
    | .inl _ => ∀ F' H' c' σ', Same F F' → X.o F' w.2 c' → Wd F' H' (c' ++ O) → D.nx σ' H'
    | .inr n => ∀ F' H' c', Same F F' → X.o F' w.2 c' → Wd F' H' (c' ++ O) → E (.ref (He.ga K n)) none H'
  mono := fun {w F F' O D} s h => by
    obtain ⟨w, s0⟩ := w
    cases w with
    | inl b => exact fun F' H' c' σ' s' => h F' H' c' σ' (s.trans s')
    | inr n => exact fun F' H' c' s' => h F' H' c' (s.trans s')
/-- the body of a try -/
def pTry (K : PySem.W.Frag) (W : WX) (A : Ow S) (Sl : Z → Hp → L2.St → Prop) (Sx : Hp → L2.St → Prop) : Post ((Z × S) ⊕ (Str × S)) where
  p := fun w F O D => match w with
    | .inl q => (pNx A Sl).p q F O D
    | .inr q => ∀ F' H' c' σ', Same F F' → A.o F' q.2 c' → Wd F' H' (c' ++ O) → Sx F' σ' → W (.ref (He.ga K q.1)) none σ' H'
  mono := fun {w F F' O D} s h => by
    cases w with
    | inl b => exact (pNx A Sl).mono s h
    | inr n => exact fun F' H' c' σ' s' => h F' H' c' σ' (s.trans s')
/-! what is wanted of an end that may be a raise -/
def outP (K : PySem.W.Frag) (E : XK) (U : Rl γ) (F : Hp) (O : Ch) (Q : VK) : γ ⊕ Str → Prop
  | .inl b => ∀ v F' H', Same F F' → Wd F' H' O → U.r F' v b → Q v H'
  | .inr n => ∀ F' H', Same F F' → Wd F' H' O → E (.ref (He.ga K n)) none H'
def outS (K : PySem.W.Frag) (E : XK) (U : Rl γ) (B : Ow S1) (s' : S1) (F : Hp) (O : Ch) (Q : VK) : γ ⊕ Str → Prop
  | .inl b => ∀ v F' H' c', Same F F' → B.o F' s' c' → Wd F' H' (c' ++ O) → U.r F' v b → Q v H'
  | .inr n => ∀ F' H' c', Same F F' → B.o F' s' c' → Wd F' H' (c' ++ O) → E (.ref (He.ga K n)) none H'
/-! promises of defs that may raise -/
def spPX (K : PySem.W.Frag) (T : Ar α) (U : Rl γ) (f : α → Option (γ ⊕ Str)) : Sp := fun vs H Q E => ∃ F O x w, T.r F vs x ∧ Wd F H O ∧ f x = some w ∧ outP K E U F O Q w
def spSX (K : PySem.W.Frag) (T : ι → Ar α) (B : ι → Ow S1) (U : Rl γ) (f : α → M S1 (γ ⊕ Str)) : Sp := fun vs H Q E => ∃ (i : ι) (F : Hp) (O c : Ch) (x : α) (s : S1) (w : γ ⊕ Str) (s' : S1), (T i).r F vs x ∧ (B i).o F s c ∧ Wd F H (c ++ O) ∧ f x s = some (w, s') ∧ outS K E U (B i) s' F O Q w
/-! expressions that may raise -/
def EvX (K : PySem.W.Frag) (W : WX) (te : TE) (σ : L2.St) (F : Hp) (A : Ow S) (R : Rl α) (m : M S (α ⊕ Str)) : Prop :=
  ∀ s w s', m s = some (w, s') → ∀ F1 H c O, Same F F1 → A.o F1 s c → Wd F1 H (c ++ O) → ∀ Q : VK, (match w with
    | .inl b => ∀ v F' H' c', Same F1 F' → A.o F' s' c' → Wd F' H' (c' ++ O) → R.r F' v b → Q v H'
    | .inr n => ∀ F' H' c', Same F1 F' → A.o F' s' c' → Wd F' H' (c' ++ O) → W (.ref (He.ga K n)) none σ H') → te σ H Q
theorem evx_callP {T : Ar β} {f : β → Option (γ ⊕ Str)} (h : EvA ar σ F A T m') : EvX K W (tCallS (spPX K T U f) (WE W) ar) σ F A U (bnd m' fun x => lft (f x)) := fun s w s' hm F1 H c O sm ho Wd1 Q q => by
  obtain ⟨xs, s1, h1, hm⟩ := bnd_some hm
  obtain ⟨h2, rfl⟩ := lft_some hm
  refine h s _ _ h1 F1 H c O sm ho Wd1 _ fun vs F2 H2 c2 s2 o2 W2 r2 => ?_
  refine ⟨F2, c2 ++ O, xs, w, r2, W2, h2, ?_⟩
  cases w with
  | inl b => exact fun v F' H' s3 W3 r3 => q v F' H' c2 (s2.trans s3) (A.mono s3 o2) W3 r3
  | inr n => exact fun F' H' s3 W3 => q F' H' c2 (s2.trans s3) (A.mono s3 o2) W3
theorem evx_callS (i : ι) {T : ι → Ar β} {B : ι → Ow S1} {f : β → M S1 (γ ⊕ Str)} {g : S → S1} {p : S → S1 → S} (e : Emb A (B i) g p) (h : EvA ar σ F A (T i) m') : EvX K W (tCallS (spSX K T B U f) (WE W) ar) σ F A U (bnd m' fun x => zm g p (f x)) := fun s w s' hm F1 H c O sm ho Wd1 Q q => by
  obtain ⟨xs, s1, h1, hm⟩ := bnd_some hm
  obtain ⟨t, h2, rfl⟩ := zm_some hm
  refine h s _ _ h1 F1 H c O sm ho Wd1 _ fun vs F2 H2 c2 s2 o2 W2 r2 => ?_
  obtain ⟨c3, c4, pm, ob, k⟩ := e.split o2
  refine ⟨i, F2, c4 ++ O, c3, xs, g s1, w, t, r2, ob, W2.perm (by rw [← List.append_assoc]; exact pm.append_right O), h2, ?_⟩
  cases w with
  | inl b =>
    intro v F3 H3 c5 s3 o3 W3 r3
    obtain ⟨c', oc, pm2⟩ := k F3 t c5 s3 o3
    exact q v F3 H3 c' (s2.trans s3) oc (W3.perm (by rw [← List.append_assoc]; exact (pm2.append_right O).symm)) r3
  | inr n =>
    intro F3 H3 c5 s3 o3 W3
    obtain ⟨c', oc, pm2⟩ := k F3 t c5 s3 o3
    exact q F3 H3 c' (s2.trans s3) oc (W3.perm (by rw [← List.append_assoc]; exact (pm2.append_right O).symm))
/-- .. that doesn't raise here -/
def okO (o : Option (γ ⊕ Str)) : Option γ := o.bind fun w => match w with
  | .inl b => some b
  | .inr _ => none
def okM (f : M S (γ ⊕ Str)) : M S γ := fun s => (f s).bind fun w => match w.1 with
  | .inl b => some (b, w.2)
  | .inr _ => none
theorem okO_some {o : Option (γ ⊕ Str)} {b : γ} (h : okO o = some b) : o = some (.inl b) := by
  unfold okO at h
  cases o with
  | none => cases h
  | some w => cases w with
    | inl c => cases h; rfl
    | inr n => cases h
theorem okM_some {f : M S (γ ⊕ Str)} {s s' : S} {b : γ} (h : okM f s = some (b, s')) : f s = some (.inl b, s') := by
  unfold okM at h
  cases e : f s with
  | none => rw [e] at h; cases h
  | some w =>
    obtain ⟨w, s1⟩ := w
    rw [e] at h
    cases w with
    | inl c => cases h; rfl
    | inr n => cases h
theorem ev_callPX {T : Ar β} {f : β → Option (γ ⊕ Str)} {E : XK} (h : EvA ar σ F A T m') : Ev (tCall (spPX K T U f) [] E ar) σ F A U (bnd m' fun x => lft (okO (f x))) := fun s b s' hm F1 H c O sm ho Wd1 Q q => by
  obtain ⟨xs, s1, h1, hm⟩ := bnd_some hm
  obtain ⟨h2, rfl⟩ := lft_some hm
  refine h s _ _ h1 F1 H c O sm ho Wd1 _ fun vs F2 H2 c2 s2 o2 W2 r2 => ?_
  rw [List.append_nil]
  exact ⟨F2, c2 ++ O, xs, .inl b, r2, W2, okO_some h2, fun v F' H' s3 W3 r3 => q v F' H' c2 (s2.trans s3) (A.mono s3 o2) W3 r3⟩
theorem ev_callSX (i : ι) {T : ι → Ar β} {B : ι → Ow S1} {f : β → M S1 (γ ⊕ Str)} {E : XK} {g : S → S1} {p : S → S1 → S} (e : Emb A (B i) g p) (h : EvA ar σ F A (T i) m') : Ev (tCall (spSX K T B U f) [] E ar) σ F A U (bnd m' fun x => zm g p (okM (f x))) := fun s b s' hm F1 H c O sm ho Wd1 Q q => by
  obtain ⟨xs, s1, h1, hm⟩ := bnd_some hm
  obtain ⟨t, h2, rfl⟩ := zm_some hm
  refine h s _ _ h1 F1 H c O sm ho Wd1 _ fun vs F2 H2 c2 s2 o2 W2 r2 => ?_
  obtain ⟨c3, c4, pm, ob, k⟩ := e.split o2
  rw [List.append_nil]
  refine ⟨i, F2, c4 ++ O, c3, xs, g s1, .inl b, t, r2, ob, W2.perm (by rw [← List.append_assoc]; exact pm.append_right O), okM_some h2, ?_⟩
  intro v F3 H3 c5 s3 o3 W3 r3
  obtain ⟨c', oc, pm2⟩ := k F3 t c5 s3 o3
  exact q v F3 H3 c' (s2.trans s3) oc (W3.perm (by rw [← List.append_assoc]; exact (pm2.append_right O).symm)) r3
/-! what a raised exception does at a place -/
structure Rz (K : PySem.W.Frag) (W : WX) (A : Ow S) (P : Post Ω) (σ : L2.St) (F : Hp) (xz : Str → S → Ω) : Prop where
  rz : ∀ {n s F1 O D}, Same F F1 → P.p (xz n s) F1 O D → ∀ F' H' c', Same F1 F' → A.o F' s c' → Wd F' H' (c' ++ O) → W (.ref (He.ga K n)) none σ H'
abbrev WD (E : XK) : WX := fun c d _ H => E c d H
theorem rz_rt (pr : Pr A X π) : Rz K (WD E) A (pRtX K E X R') σ F (fun n s => (.inr n, π s)) := ⟨fun {n s F1 O D} sm h F' H' c' s' o W' => by
  obtain ⟨c3, o3, W3⟩ := Wd.pr pr o W'
  exact h F' H' c3 s' o3 W3⟩
theorem rz_en (pr : Pr A X π) : Rz K (WD E) A (pEnX K E X) σ F (fun n s => (.inr n, π s)) := ⟨fun {n s F1 O D} sm h F' H' c' s' o W' => by
  obtain ⟨c3, o3, W3⟩ := Wd.pr pr o W'
  exact h F' H' c3 s' o3 W3⟩
theorem rz_fl {Y : Ow S1} {Sl : Z → Hp → L2.St → Prop} {xz : Str → S → ρ} (h : Rz K W A Q σ F xz) : Rz K W A (pFlG Y Sl Q) σ F (fun n s => .rt (xz n s)) := ⟨fun {n s F1 O D} sm q => h.rz (D := D) sm q⟩
theorem rz_try {Sl : Z → Hp → L2.St → Prop} {Sx : Hp → L2.St → Prop} (h : ∀ F', Same F F' → Sx F' σ) : Rz K W A (pTry K W A Sl Sx) σ F (fun n s => .inr (n, s)) := ⟨fun {n s F1 O D} sm q F' H' c' s' o W' => q F' H' c' σ s' o W' (h F' (sm.trans s'))⟩
def bndX (xz : Str → S → Ω) (m : M S (α ⊕ Str)) (f : α → S → Option Ω) : S → Option Ω := fun s => (m s).bind fun p => match p.1 with
  | .inl x => f x p.2
  | .inr n => some (xz n p.2)
theorem bndX_some {xz : Str → S → Ω} {m : M S (α ⊕ Str)} {f : α → S → Option Ω} {s : S} {w : Ω} (h : bndX xz m f s = some w) : (∃ x s1, m s = some (.inl x, s1) ∧ f x s1 = some w) ∨ ∃ n s1, m s = some (.inr n, s1) ∧ w = xz n s1 := by
  unfold bndX at h
  cases e : m s with
  | none => rw [e] at h; cases h
  | some q =>
    obtain ⟨q, s1⟩ := q
    rw [e] at h
    cases q with
    | inl x => exact .inl ⟨x, s1, rfl, h⟩
    | inr n => exact .inr ⟨n, s1, rfl, (Option.some.inj h).symm⟩
variable {xz : Str → S → Ω} {mx : M S (α ⊕ Str)}
theorem b_setX {i : Nat} {f : α → S → Option Ω} (z : ∀ F', Same F F' → Rz K W A P σ F' xz) (he : EvX K W te σ F A R mx) (k : ∀ v x F', Same F F' → R.r F' v x → B u (σ.set i (some v)) F' A P (f x)) : B (tSeq (tAsg te (gName i)) u) σ F A P (bndX xz mx f) := fun s w hm F1 H c O sm ho W1 D q => by
  rcases bndX_some hm with ⟨x, s1, h1, hm⟩ | ⟨n, s1, h1, rfl⟩
  · exact he s _ s1 h1 F1 H c O sm ho W1 _ fun v F2 H2 c2 s2 o2 W2 r2 => k v x F2 (sm.trans s2) r2 s1 w hm F2 H2 c2 O (SameR _) o2 W2 D (P.mono s2 q)
  · exact he s _ s1 h1 F1 H c O sm ho W1 _ fun F2 H2 c2 s2 o2 W2 => (z F1 sm).rz (D := D) (SameR _) q F2 H2 c2 s2 o2 W2
theorem b_exprX {f : α → S → Option Ω} (z : ∀ F', Same F F' → Rz K W A P σ F' xz) (he : EvX K W te σ F A R mx) (k : ∀ x F', Same F F' → B u σ F' A P (f x)) : B (tSeq (tDrop te) u) σ F A P (bndX xz mx f) := fun s w hm F1 H c O sm ho W1 D q => by
  rcases bndX_some hm with ⟨x, s1, h1, hm⟩ | ⟨n, s1, h1, rfl⟩
  · exact he s _ s1 h1 F1 H c O sm ho W1 _ fun v F2 H2 c2 s2 o2 W2 r2 => k x F2 (sm.trans s2) s1 w hm F2 H2 c2 O (SameR _) o2 W2 D (P.mono s2 q)
  · exact he s _ s1 h1 F1 H c O sm ho W1 _ fun F2 H2 c2 s2 o2 W2 => (z F1 sm).rz (D := D) (SameR _) q F2 H2 c2 s2 o2 W2
theorem b_unpX {g : TG} {f : α → S → Option Ω} {k : V → α → Hp → L2.St → Prop} (z : ∀ F', Same F F' → Rz K W A P σ F' xz) (he : EvX K W te σ F A R mx) (hg : ∀ v x F', Same F F' → R.r F' v x → Go g v σ F' (k v x F')) (hk : ∀ v x F' σ2, Same F F' → R.r F' v x → k v x F' σ2 → B u σ2 F' A P (f x)) :
    B (tSeq (tAsg te g) u) σ F A P (bndX xz mx f) := fun s w hm F1 H c O sm ho W1 D q => by
  rcases bndX_some hm with ⟨x, s1, h1, hm⟩ | ⟨n, s1, h1, rfl⟩
  · refine he s _ s1 h1 F1 H c O sm ho W1 _ fun v F2 H2 c2 s2 o2 W2 r2 => ?_
    exact hg v x F2 (sm.trans s2) r2 F2 H2 _ (SameR _) W2 _ fun σ2 k2 => hk v x F2 σ2 (sm.trans s2) r2 k2 s1 w hm F2 H2 c2 O (SameR _) o2 W2 D (P.mono s2 q)
  · exact he s _ s1 h1 F1 H c O sm ho W1 _ fun F2 H2 c2 s2 o2 W2 => (z F1 sm).rz (D := D) (SameR _) q F2 H2 c2 s2 o2 W2
/-- return of a thing, in a def that may raise -/
theorem b_retX (pr : Pr A X π) (he : Ev te σ F A R m) : B (tSeq (tRet te) u) σ F A (pRtX K E X R) (bnd m fun x s => some (.inl x, π s)) := fun s w hm F1 H c O sm ho W D q => by
  obtain ⟨x, s1, h1, hm⟩ := bnd_some hm
  cases hm
  refine he s x s1 h1 F1 H c O sm ho W _ fun v F2 H2 c2 s2 o2 W2 r2 => ?_
  obtain ⟨c3, o3, W3⟩ := Wd.pr pr o2 W2
  exact q v F2 H2 c3 s2 o3 W3 r2
/-- return f(..), f may raise -/
theorem b_retXX (pr : Pr A X π) (he : EvX K (WD E) te σ F A R mx) : B (tSeq (tRet te) u) σ F A (pRtX K E X R) (bndX (fun n s => (.inr n, π s)) mx fun x s => some (.inl x, π s)) := fun s w hm F1 H c O sm ho W D q => by
  rcases bndX_some hm with ⟨x, s1, h1, hm⟩ | ⟨n, s1, h1, rfl⟩
  · cases hm
    refine he s _ s1 h1 F1 H c O sm ho W _ fun v F2 H2 c2 s2 o2 W2 r2 => ?_
    obtain ⟨c3, o3, W3⟩ := Wd.pr pr o2 W2
    exact q v F2 H2 c3 s2 o3 W3 r2
  · refine he s _ s1 h1 F1 H c O sm ho W _ fun F2 H2 c2 s2 o2 W2 => ?_
    obtain ⟨c3, o3, W3⟩ := Wd.pr pr o2 W2
    exact q F2 H2 c3 s2 o3 W3
theorem b_endX (pr : Pr A X π) : B tNext σ F A (pEnX K E X) (fun s => some (.inl (), π s)) := fun s w hm F1 H c O sm ho W D q => by
  cases hm
  obtain ⟨c3, o3, W3⟩ := Wd.pr pr ho W
  exact q F1 H c3 σ (SameR _) o3 W3
/-- raise X('..') -/
def tRaise (K : PySem.W.Frag) (W : WX) (n : Str) : TS := fun _ σ H => W (.ref (He.ga K n)) none σ H
theorem b_raise {n : Str} (z : ∀ F', Same F F' → Rz K W A P σ F' xz) : B (tSeq (tRaise K W n) u) σ F A P (fun s => some (xz n s)) := fun s w hm F1 H c O sm ho W1 D q => by
  cases hm
  exact (z F1 sm).rz (D := D) (SameR _) q F1 H c (SameR _) ho W1
/-- if t: raise X('..') -/
theorem b_ifRaise {n : Str} {mb : M S Bool} {g : S → Option Ω} (z : ∀ F', Same F F' → Rz K W A P σ F' xz) (hc : EvT tt σ F A mb) (hw : ∀ F', Same F F' → B w σ F' A P g) : B (tSeq (tIfS tt (tSeq (tRaise K W n) tNext) tNext) w) σ F A P (bnd mb fun b => bif b then (fun s => some (xz n s)) else g) := fun s r hm F1 H c O sm ho W1 D q => by
  obtain ⟨b, s1, h1, hm⟩ := bnd_some hm
  refine hc s b s1 h1 F1 H c O sm ho W1 _ fun F2 H2 c2 s2 o2 W2 => ?_
  cases b with
  | true =>
    obtain rfl : xz n s1 = r := Option.some.inj hm
    exact iteT ((z F1 sm).rz (D := D) (SameR _) q F2 H2 c2 s2 o2 W2)
  | false => exact iteF (hw F2 (sm.trans s2) s1 r hm F2 H2 c2 O (SameR _) o2 W2 D (P.mono s2 q))
/-- both ways at the block's end -/
theorem b_ifEnd {mb : M S Bool} {f g : S → Option Ω} (hc : EvT tt σ F A mb) (ht : B t σ F A P f) (he : B e σ F A P g) : B (tSeq (tIfS tt t e) tNext) σ F A P (bnd mb fun b => bif b then f else g) := fun s r hm F1 H c O sm ho W1 D q => by
  obtain ⟨b, s1, h1, hm⟩ := bnd_some hm
  refine hc s b s1 h1 F1 H c O sm ho W1 _ fun F2 H2 c2 s2 o2 W2 => ?_
  cases b with
  | true => exact iteT (ht s1 r hm F2 H2 c2 O (sm.trans s2) o2 W2 D (P.mono s2 q))
  | false => exact iteF (he s1 r hm F2 H2 c2 O (sm.trans s2) o2 W2 D (P.mono s2 q))
/-! the ends of defs that may raise -/
theorem ok_PX {Q : VK} {t : TS} {σ : L2.St} {F H : Hp} {O : Ch} {w : β ⊕ Str} {m : M Unit (β ⊕ Str)} (W : Wd F H O) (hm : rn m = some w) (q : outP K E R' F O Q w) (h : B t σ F emp (pRtX K E emp R') m) : t { nx := fun _ H' => Q .non H', rt := Q } σ H := by
  refine h () (w, ()) (rn_some hm) F H [] O (SameR _) rfl W _ ?_
  cases w with
  | inl b => exact fun v F' H' c' s o W' r => q v F' H' s (by rw [show c' = [] from o] at W'; exact W') r
  | inr n => exact fun F' H' c' s o W' => q F' H' s (by rw [show c' = [] from o] at W'; exact W')
theorem ok_PNX {Q : VK} {t : TS} {σ : L2.St} {F H : Hp} {O : Ch} {w : Unit ⊕ Str} {m : M Unit (Unit ⊕ Str)} (W : Wd F H O) (hm : rn m = some w) (q : outP K E rNone F O Q w) (h : B t σ F emp (pEnX K E emp) m) : t { nx := fun _ H' => Q .non H', rt := Q } σ H := by
  refine h () (w, ()) (rn_some hm) F H [] O (SameR _) rfl W _ ?_
  cases w with
  | inl b => exact fun F' H' c' σ' s o W' => q .non F' H' s (by rw [show c' = [] from o] at W'; exact W') rfl
  | inr n => exact fun F' H' c' s o W' => q F' H' s (by rw [show c' = [] from o] at W'; exact W')
theorem ok_SX {Q : VK} {t : TS} {σ : L2.St} {F H : Hp} {c O : Ch} {s s' : S} {w : β ⊕ Str} {m : M S (β ⊕ Str)} (W : Wd F H (c ++ O)) (ho : A.o F s c) (hm : m s = some (w, s')) (q : outS K E R' A s' F O Q w) (h : B t σ F A (pRtX K E A R') m) : t { nx := fun _ H' => Q .non H', rt := Q } σ H := by
  refine h s (w, s') hm F H c O (SameR _) ho W _ ?_
  cases w with
  | inl b => exact q
  | inr n => exact q
theorem ok_SNX {Q : VK} {t : TS} {σ : L2.St} {F H : Hp} {c O : Ch} {s s' : S} {w : Unit ⊕ Str} {m : M S (Unit ⊕ Str)} (W : Wd F H (c ++ O)) (ho : A.o F s c) (hm : m s = some (w, s')) (q : outS K E rNone A s' F O Q w) (h : B t σ F A (pEnX K E A) m) : t { nx := fun _ H' => Q .non H', rt := Q } σ H := by
  refine h s (w, s') hm F H c O (SameR _) ho W _ ?_
  cases w with
  | inl b => exact fun F' H' c' σ' s o W' => q .non F' H' c' s o W' rfl
  | inr n => exact q
/-! try: .. except C as e: error = e -/
def tryM (cat : List Str) (zx : Str → Z) (m : S → Option ((Z × S) ⊕ (Str × S))) : M S Z := fun s => (m s).bind fun w => match w with
  | .inl q => some q
  | .inr q => if q.1 ∈ cat then some (zx q.1, q.2) else none
abbrev tKeep (i j : Nat) : Addr → Value → Option Addr → TS := fun _ _ _ => tSeq (tAsg (tVar i) (gName j)) tNext
theorem b_try {tb : WX → TS} {C : Str} {i j : Nat} {cat : List Str} {zx : Str → Z} {Sl : Z → Hp → L2.St → Prop} {Sx : Hp → L2.St → Prop} {Wout : WX} {mb : S → Option ((Z × S) ⊕ (Str × S))} {f : Z → S → Option Ω} (hcat : ∀ n ∈ cat, PySem.W.exmOne K (.ref (He.ga K n)) (.ref (He.ga K C)) = some true)
    (hi : ∀ F' σ', Sx F' σ' → i < σ'.length) (hb : ∀ W, B (tb W) σ F A (pTry K W A Sl Sx) mb) (hx : ∀ n v F' σ', Same F F' → Sx F' σ' → (rExc K).r F' v n → Sl (zx n) F' (((σ'.set i (some v)).set j (some v)).set i none))
    (hS : ∀ F F' σ', Same F F' → Sx F σ' → Sx F' σ') (k : ∀ z F' σ', Same F F' → Sl z F' σ' → B u σ' F' A P (f z)) : B (Evl.tCut (fun D σ H => tb (wKeep K (.ref (He.ga K C)) i (tKeep i j) Wout D) D σ H) u) σ F A P (bnd (tryM cat zx mb) f) := fun s r hm F1 H c O sm ho W1 D q => by
  obtain ⟨z, s2, h1, hm⟩ := bnd_some hm
  unfold tryM at h1
  cases e0 : mb s with
  | none => rw [e0] at h1; cases h1
  | some w =>
    rw [e0] at h1
    refine ⟨fun σ' H' => ∃ F' c', Same F1 F' ∧ A.o F' s2 c' ∧ Wd F' H' (c' ++ O) ∧ Sl z F' σ', ?_, fun σ' H' ⟨F', c', s', o', W', sl⟩ => k z F' σ' (sm.trans s') sl s2 r hm F' H' c' O (SameR _) o' W' D (P.mono s' q)⟩
    refine hb _ s w e0 F1 H c O sm ho W1 _ ?_
    cases w with
    | inl p =>
      cases h1
      exact fun F3 H3 c3 σ3 s3 o3 W3 sl => ⟨F3, c3, s3, o3, W3, sl⟩
    | inr p =>
      obtain ⟨n, s3⟩ := p
      have hn : n ∈ cat := by
        by_cases hn : n ∈ cat
        · exact hn
        · simp [hn] at h1
      simp [hn] at h1
      obtain ⟨rfl, rfl⟩ := h1
      intro F3 H3 c3 σ3 sm3 o3 W3 sx
      refine ⟨true, hcat n hn, rfl, fun _ a na => ?_, fun q => nomatch q⟩
      have hl := hi F3 σ3 sx
      have sF := W3.sameF (o := ExH (.ref (He.ga K n)) a) na
      refine ⟨.ref a, by simp [hl], ?_⟩
      refine ⟨upd F3 a (ExH (.ref (He.ga K n)) a), c3, sm3.trans sF, A.mono sF o3, W3.newF na, ?_⟩
      exact hx n (.ref a) _ σ3 ((sm.trans sm3).trans sF) (hS _ _ _ sF sx) ⟨a, rfl, upd_same⟩
/-! isinstance of a kept exception -/
theorem vl_isX {c : V} {cat : List Str} {fb : Str → Bool} (hk : ∀ n ∈ cat, ExcC K (He.ga K n) ∧ ∃ cv, (∀ u, RelV c u → u = cv) ∧ PySem.W.kitOne K (.ref (He.ga K n)) cv = some (fb n)) : VLc (rIsX K) (arC (rExc K) (arOne (rV c))) rBool (fun x => if x.1 ∈ cat then some (fb x.1) else none) := fun F H O xs a b W ⟨v, r, e, ⟨p, ev, hp⟩, v2, e2, e3⟩ hf Q q => by
  by_cases hn : a.1 ∈ cat
  · simp only [hn, if_true] at hf
    cases hf
    obtain ⟨ex, cv, hc, hkit⟩ := hk _ hn
    exact ⟨p, He.ga K a.1, c, cv, fb a.1, by rw [e, e2, ev, show v2 = c from e3], W.sub _ _ hp, ex, hc, hkit, q _ F H (SameR _) W rfl⟩
  · simp only [hn, if_false] at hf
    cases hf
/-- xs.count(b), xs of truths -/
theorem ev_countB {tx ty : TE} {ml : M S (List Bool)} {mb : M S Bool} (h : Ev tx σ F A (rLst rBool) ml) (h' : Ev ty σ F A rBool mb) : Ev (tBM K "list" (rCntB K) tx (tCons ty tNil)) σ F A rInt (bnd ml fun xs => bnd mb fun y => ret (xs.count y : Int)) := fun s b s' hm F1 H c O sm ho W Q q => by
  obtain ⟨xs, s1, h1, hm⟩ := bnd_some hm
  obtain ⟨y, s2, h2, hm⟩ := bnd_some hm
  obtain ⟨rfl, rfl⟩ := ret_some hm
  refine h s _ _ h1 F1 H c O sm ho W _ fun v F2 H2 c2 sm2 o2 W2 r2 => ?_
  obtain ⟨p, vs, rfl, hp, rp⟩ := r2
  have evs : vs = xs.map V.bl := vs_bl rp
  refine ⟨Or.inl ⟨rfl, vs, SqL.of (W2.sub _ _ hp)⟩, ?_⟩
  refine h' s1 _ _ h2 F2 H2 c2 O (sm.trans sm2) o2 W2 _ fun w F3 H3 c3 sm3 o3 W3 r3 => ?_
  exact ⟨p, xs, y, rfl, by rw [show w = .bl y from r3], by rw [← evs]; exact SqL.of (W3.sub _ _ (sm3 _ _ hp)), q _ F3 H3 c3 (sm2.trans sm3) o3 W3 rfl⟩
end
end T

/-! T25: terms of defs that raise; sums; a head that tells exceptions. -/
namespace T
open PySem L2
/-- an exception class of the program's own, without __init__ -/
structure XcT (K : PySem.W.Frag) (mg : Str → Option Value) (n : Str) : Prop where
  g : mg n = some (.ref (He.ga K n))
  q : PySem.W.excIn K (He.ga K n) He.veBase "ValueError.__new__" = true
  k : PySem.W.keepIn K (.ref (He.ga K n)) = true
  b : PySem.W.subIn K (.ref (He.ga K n)) (.type "BaseException") = some true
  t : PySem.W.typeIn K (.ref (He.ga K n)) = some (.type "type")
section
variable {X : Cx} {W : WX} {K : PySem.W.Frag}
theorem ps_raiseX {n m : Str} {j : Nat} {p p2 pos pos' : Pos} (hc : X.calm = true) (tk : Takes X W) (Tx : XcT K X.mg n) (hg : Gl X n) (e : X.K = K := by rfl) (hdb : (n == ("__debug__" : Str)) = false := by decide) : PS X (.Raise (some (.Call (.Name n p) [.Constant (.str m) j p2] [] pos)) none pos') (tRaise K W n) := by
  subst e
  exact ps_raise hc tk (pmk_own PySem.F.excBase_ValueError Tx.q Tx.g Tx.k (raises_own Tx.b Tx.t) hg hdb)
theorem names_X {n : Str} (Tx : XcT K X.mg n) (hg : Gl X n) (hdb : (n == ("__debug__" : Str)) = false := by decide) : Names X n (.ref (He.ga K n)) := ⟨hg, hdb, .inl Tx.g⟩
theorem pe_knS {k j : Nat} {x : Str} {ps : List Str} {sp : Sp} {p pos : Pos} {e : Expr} {es : List Expr} {t : TA} (h : Kn X.prog X.w X.K X.mg X.base (L2.CX X.prog X.w) j x ps sp) (tk : Takes X W) (hr : Room k X.A) (hj : j ≤ k) (hg : Gl X x) (ha : PA X (e :: es) t) (hdb : (x == ("__debug__" : Str)) = false := by decide)
    (he : starEach (e :: es) X.env = (false, eval e X.env) :: starEach es X.env := by rfl) (hpl : (backTo pos (starEach es X.env)).any (·.1) = false := by rfl) : PE X (.Call (.Name x p) (e :: es) [] pos) (tCallS sp (WE W) t) := by
  obtain ⟨f, fd, h1, h2, h3, h4⟩ := h.ex
  exact pe_callS h4 (hr.mono hj) hg h1 h2 h3 (fun σ => passAt tk σ) ha hdb he hpl
theorem pe_knL {k j : Nat} {x : Str} {ps : List Str} {sp : Sp} {p pos : Pos} {e : Expr} {es : List Expr} {t : TA} (h : Kn X.prog X.w X.K X.mg X.base (L2.CX X.prog X.w) j x ps sp) (hr : Room k X.A) (hj : j ≤ k) (hg : Gl X x) (ha : PA X (e :: es) t) (hdb : (x == ("__debug__" : Str)) = false := by decide)
    (he : starEach (e :: es) X.env = (false, eval e X.env) :: starEach es X.env := by rfl) (hpl : (backTo pos (starEach es X.env)).any (·.1) = false := by rfl) : PE X (.Call (.Name x p) (e :: es) [] pos) (tCall sp [] E0 t) := by
  obtain ⟨f, fd, h1, h2, h3, h4⟩ := h.ex
  exact pe_call h4 (hr.mono hj) hg h1 h2 h3 .nil passL ha hdb he hpl
end
instance {K : PySem.W.Frag} : NotNon (rExc K) := ⟨fun _ _ _ ⟨_, e, _⟩ => by subst e; simp⟩
instance {α β : Type} {R : Rl α} {R' : Rl β} [a : NotNon R] [b : NotNon R'] : NotNon (rSum R R') := ⟨fun F v x h => by
  cases x with
  | inl y => exact a.nn F v y h
  | inr y => exact b.nn F v y h⟩
theorem b_nxT {S S1 Z : Type} {σ : L2.St} {F : Hp} {A : Ow S} {X : Ow S1} {K : PySem.W.Frag} {W : WX} {π : S → S1} {Sl : Z → Hp → L2.St → Prop} {Sx : Hp → L2.St → Prop} {z : Z} (pr : Pr A X π) (h : ∀ F', Same F F' → Sl z F' σ) : B tNext σ F A (pTry K W X Sl Sx) (fun s => some (.inl (z, π s))) := fun s w hm F1 H c O sm ho W1 D q => by
  cases hm
  obtain ⟨c3, o3, W3⟩ := Wd.pr pr ho W1
  exact q F1 H c3 σ (SameR _) o3 W3 (h F1 sm)
theorem ev_cV {S : Type} {v : V} {σ : L2.St} {F : Hp} {A : Ow S} : Ev (tC v) σ F A (rV v) (ret ()) := fun s b s' hm F1 H c O sm ho W Q q => by
  obtain ⟨_, rfl⟩ := ret_some hm
  exact q v F1 H c (SameR _) ho W rfl
/-! one of two -/
def dSum {α β : Type} {R : Rl α} {R' : Rl β} (D : RD R) (D' : RD R') : RD (rSum R R') := ⟨fun x => match x with
  | .inl a => D.d a
  | .inr b => D'.d b, fun {K F v x} h => by
    cases x with
    | inl a => exact D.dp h
    | inr b => exact D'.dp h⟩
def unL {α β : Type} : α ⊕ β → Option α
  | .inl a => some a
  | .inr _ => none
def unR {α β : Type} : α ⊕ β → Option β
  | .inl _ => none
  | .inr b => some b
section
variable {S α β : Type} {R : Rl α} {R' : Rl β} {σ : L2.St} {F : Hp} {A : Ow S} {te : TE} {m : M S (α ⊕ β)}
theorem ev_unL (h : Ev te σ F A (rSum R R') m) : Ev te σ F A R (bnd m fun x => lft (unL x)) := fun s b s' hm F1 H c O sm ho W Q q => by
  obtain ⟨x, s1, h1, hm⟩ := bnd_some hm
  obtain ⟨h2, rfl⟩ := lft_some hm
  refine h s x _ h1 F1 H c O sm ho W _ fun v F2 H2 c2 s2 o2 W2 r2 => ?_
  cases x with
  | inl a => cases h2; exact q v F2 H2 c2 s2 o2 W2 r2
  | inr b => cases h2
theorem ev_unR (h : Ev te σ F A (rSum R R') m) : Ev te σ F A R' (bnd m fun x => lft (unR x)) := fun s b s' hm F1 H c O sm ho W Q q => by
  obtain ⟨x, s1, h1, hm⟩ := bnd_some hm
  obtain ⟨h2, rfl⟩ := lft_some hm
  refine h s x _ h1 F1 H c O sm ho W _ fun v F2 H2 c2 s2 o2 W2 r2 => ?_
  cases x with
  | inl a => cases h2
  | inr b => cases h2; exact q v F2 H2 c2 s2 o2 W2 r2
end
/-! the head -/
def ec (a b : Option (Option Value)) : Bool := decide (a = b)
def excB (K : PySem.W.Frag) (n : Str) (ms : List (Str × Bool × Bool)) : Bool :=
  ec (PySem.W.findIn K (.ref (He.ga K n)) "__getattribute__") (some (some (.builtin "BaseException.__getattribute__"))) && (ec (PySem.W.findIn K (.ref (He.ga K n)) "__getattr__") (some none) &&
  (decide (PySem.W.subIn K (.ref (He.ga K n)) (.type "BaseException") = some true) && (PySem.W.hasDictIn K (He.ga K n) && (ec (PySem.W.findIn K (.ref (He.ga K n)) "__class__") (some (some (.builtin "object.__class__"))) &&
  (ec (PySem.W.specialIn K (.builtin "object.__class__") "__get__") (some (some (.builtin "getset_descriptor.__get__"))) && (decide (PySem.W.takesIn K (.builtin "object.__class__") = some true) && (decide (PySem.W.mroIn K (He.ga K n) (.type "object") = some true) &&
  ms.all fun q => decide (PySem.W.kitOne K (.ref (He.ga K n)) (if q.2.1 = true then .type "ValueError" else .ref (He.ga K q.1)) = some q.2.2))))))))
theorem excB_ok {K : PySem.W.Frag} {n : Str} {ms : List (Str × Bool × Bool)} (h : excB K n ms = true) : ExcC K (He.ga K n) ∧ ∀ q ∈ ms, PySem.W.kitOne K (.ref (He.ga K n)) (if q.2.1 = true then .type "ValueError" else .ref (He.ga K q.1)) = some q.2.2 := by
  unfold excB at h
  obtain ⟨h1, h⟩ := He.ba h
  obtain ⟨h2, h⟩ := He.ba h
  obtain ⟨h3, h⟩ := He.ba h
  obtain ⟨h4, h⟩ := He.ba h
  obtain ⟨h5, h⟩ := He.ba h
  obtain ⟨h6, h⟩ := He.ba h
  obtain ⟨h7, h⟩ := He.ba h
  obtain ⟨h8, h⟩ := He.ba h
  exact ⟨⟨of_decide_eq_true h1, of_decide_eq_true h2, of_decide_eq_true h3, h4, of_decide_eq_true h5, of_decide_eq_true h6, of_decide_eq_true h7, of_decide_eq_true h8⟩, fun q hq => of_decide_eq_true (List.all_eq_true.mp h q hq)⟩
abbrev XTab := List (Str × List (Str × Bool × Bool))
def obsX (xs : XTab) (tb : List (Str × List He.Dv)) (fa : List He.Fa) (fn : List He.DefD) (K : PySem.W.Frag) : Bool × Bool × He.AlD := (xs.all fun q => excB K q.1 q.2, obsT tb fa fn K)
def valX (fn : List He.DefD) : Bool × Bool × He.AlD := (true, valT fn)
def SaysX (xs : XTab) (tb : List (Str × List He.Dv)) (fa : List He.Fa) (fn : List He.DefD) (K : PySem.W.Frag) : Prop := obsX xs tb fa fn K = valX fn
def hookX (n : Nat) (xs : XTab) (tb : List (Str × List He.Dv)) (fa : List He.Fa) (fn : List He.DefD) : PySem.W.Hook where
  α := Bool × Bool × He.AlD
  obs s := obsX xs tb fa fn (He.frG s.heap.get? (He.asD s.heap.get? n))
  val _ := valX fn
  says _ h := ∃ K1 : PySem.W.Frag, K1.In h ∧ SaysX xs tb fa fn K1
  of _ _ e := ⟨_, He.frG_in, e⟩
  keeps _ _ _ z k := by
    obtain ⟨K1, h1, c1⟩ := z
    exact ⟨K1, PySem.W.Frag.In.keeps h1 k, c1⟩
theorem obsX_eq {n : Nat} {xs : XTab} {tb : List (Str × List He.Dv)} {fa : List He.Fa} {fn : List He.DefD} {g : Addr → Option Obj} {s : Shared} (h : ∀ a, g a = s.heap.get? a) : obsX xs tb fa fn (He.frG g (He.asD g n)) = (hookX n xs tb fa fn).obs s := by
  obtain rfl : g = s.heap.get? := funext h
  rfl
theorem SaysX.T {xs : XTab} {tb : List (Str × List He.Dv)} {fa : List He.Fa} {fn : List He.DefD} {K : PySem.W.Frag} (c : SaysX xs tb fa fn K) : SaysT tb fa fn K := congrArg Prod.snd c
theorem SaysX.x {xs : XTab} {tb : List (Str × List He.Dv)} {fa : List He.Fa} {fn : List He.DefD} {K : PySem.W.Frag} (c : SaysX xs tb fa fn K) {n : Str} {ms : List (Str × Bool × Bool)} (h : (n, ms) ∈ xs) : ExcC K (He.ga K n) ∧ ∀ q ∈ ms, PySem.W.kitOne K (.ref (He.ga K n)) (if q.2.1 = true then .type "ValueError" else .ref (He.ga K q.1)) = some q.2.2 := by
  have c1 : (xs.all fun q => excB K q.1 q.2) = true := congrArg Prod.fst c
  exact excB_ok (List.all_eq_true.mp c1 (n, ms) h)
end T
namespace T
open PySem L2
section
variable {S α β : Type} {R : Rl α} {R' : Rl β} {σ : L2.St} {F : Hp} {A : Ow S} {te : TE} {K : PySem.W.Frag}
theorem paired_map2 {γ : Type} {Q : V → α → Prop} {Q' : V → γ → Prop} {f : α → γ} (h : ∀ v x, Q v x → Q' v (f x)) : ∀ {vs : List V} {xs : List α}, Paired Q vs xs → Paired Q' vs (xs.map f)
  | _, _, .nil => .nil
  | _, _, .cons r t => .cons (h _ _ r) (paired_map2 h t)
theorem ev_tupL {m : M S (List α)} (h : Ev te σ F A (rTup R) m) : Ev te σ F A (rTup (rSum R R')) (bnd m fun x => ret (x.map Sum.inl)) := fun s b s' hm F1 H c O sm ho W Q q => by
  obtain ⟨x, s1, h1, hm⟩ := bnd_some hm
  obtain ⟨rfl, rfl⟩ := ret_some hm
  exact h s x _ h1 F1 H c O sm ho W _ fun v F2 H2 c2 s2 o2 W2 ⟨p, vs, e, hp, rp⟩ => q v F2 H2 c2 s2 o2 W2 ⟨p, vs, e, hp, paired_map2 (Q' := (rSum R R').r F2) (f := Sum.inl) (fun _ _ r => r) rp⟩
theorem ev_tupR {m : M S (List β)} (h : Ev te σ F A (rTup R') m) : Ev te σ F A (rTup (rSum R R')) (bnd m fun x => ret (x.map Sum.inr)) := fun s b s' hm F1 H c O sm ho W Q q => by
  obtain ⟨x, s1, h1, hm⟩ := bnd_some hm
  obtain ⟨rfl, rfl⟩ := ret_some hm
  exact h s x _ h1 F1 H c O sm ho W _ fun v F2 H2 c2 s2 o2 W2 ⟨p, vs, e, hp, rp⟩ => q v F2 H2 c2 s2 o2 W2 ⟨p, vs, e, hp, paired_map2 (Q' := (rSum R R').r F2) (f := Sum.inr) (fun _ _ r => r) rp⟩
theorem ev_th2U {m : M S (α × β)} (h : Ev te σ F A (rTh (arC R (arOne R'))) m) : Ev te σ F A (rTup (rSum R R')) (bnd m fun x => ret [Sum.inl x.1, Sum.inr x.2]) := fun s b s' hm F1 H c O sm ho W Q q => by
  obtain ⟨x, s1, h1, hm⟩ := bnd_some hm
  obtain ⟨rfl, rfl⟩ := ret_some hm
  exact h s x _ h1 F1 H c O sm ho W _ fun v F2 H2 c2 s2 o2 W2 ⟨p, vs, e, hp, v1, _, e1, r1, v2, e2, r2⟩ => q v F2 H2 c2 s2 o2 W2 ⟨p, vs, e, hp, by rw [e1, e2]; exact .cons r1 (.cons r2 .nil)⟩
theorem isi_sum {n : String} {bb : Bool} (h1 : ∀ F H v x, Same F H → R.r F v x → ∃ t, TyX K H v (.type t) ∧ PySem.W.kitOne K (.type t) (.type n) = some bb) (h2 : ∀ F H v x, Same F H → R'.r F v x → ∃ t, TyX K H v (.type t) ∧ PySem.W.kitOne K (.type t) (.type n) = some bb) :
    ∀ F H v x, Same F H → (rSum R R').r F v x → ∃ t, TyX K H v (.type t) ∧ PySem.W.kitOne K (.type t) (.type n) = some bb := fun F H v x s r => by
  cases x with
  | inl a => exact h1 F H v a s r
  | inr b => exact h2 F H v b s r
theorem vl_sum {γ : Type} {U : Rl γ} {r : List V → Hp → VK → Prop} {f : α → Option γ} {g : β → Option γ} (h1 : VLc r (arOne R) U f) (h2 : VLc r (arOne R') U g) : VLc r (arOne (rSum R R')) U (Sum.elim f g) := fun F H O xs a c W ⟨v, e, rv⟩ hf Q q => by
  cases a with
  | inl a => exact h1 F H O xs a c W ⟨v, e, rv⟩ hf Q q
  | inr b => exact h2 F H O xs b c W ⟨v, e, rv⟩ hf Q q
end
section
variable {K : PySem.W.Frag}
theorem vl_inST : VL2 (rIn K false) rStr (rTup rStr) rBool (fun a xs => some (xs.any fun b => decide (b = a))) := vl_in (f := V.str) (fun _ _ _ h => h) (fun _ => rfl) (fun a b => eqV_str b a) true
theorem vl_niST : VL2 (rIn K true) rStr (rTup rStr) rBool (fun a xs => some (!xs.any fun b => decide (b = a))) := vl_in (f := V.str) (fun _ _ _ h => h) (fun _ => rfl) (fun a b => eqV_str b a) true
theorem vl_inSL : VL2 (rIn K false) rStr (rLst rStr) rBool (fun a xs => some (xs.any fun b => decide (b = a))) := vl_in (f := V.str) (fun _ _ _ h => h) (fun _ => rfl) (fun a b => eqV_str b a) false
theorem vl_niSL : VL2 (rIn K true) rStr (rLst rStr) rBool (fun a xs => some (!xs.any fun b => decide (b = a))) := vl_in (f := V.str) (fun _ _ _ h => h) (fun _ => rfl) (fun a b => eqV_str b a) false
theorem vl_inBT : VL2 (rIn K false) rBool (rTup rBool) rBool (fun a xs => some (xs.any fun b => decide (b = a))) := vl_in (f := V.bl) (fun _ _ _ h => h) (fun _ => rfl) (fun a b => eqV_bl b a) true
theorem vl_inBL : VL2 (rIn K false) rBool (rLst rBool) rBool (fun a xs => some (xs.any fun b => decide (b = a))) := vl_in (f := V.bl) (fun _ _ _ h => h) (fun _ => rfl) (fun a b => eqV_bl b a) false
end
section
variable {S α β γ : Type} {R : Rl α} {R' : Rl β} {U : Rl γ} {σ : L2.St} {F : Hp} {A : Ow S} {ta tb tc : TE} {m : M S α} {r r' : R2} {f : α → β → Option Bool} {g : β → γ → Option Bool} {m' : M S β} {m'' : M S γ}
theorem et_chain (hr : VL2 r R R' rBool f) (hr' : VL2 r' R' U rBool g) (ha : Ev ta σ F A R m) (hb : Ev tb σ F A R' m') (hc : Ev tc σ F A U m'') :
    EvT (tTest (tChain r r' ta tb tc)) σ F A (bnd m fun a => bnd m' fun b => bnd (lft (f a b)) fun d => bif d then (bnd m'' fun c => lft (g b c)) else ret false) := et_test (ev_chain hr hr' ha hb hc)
end
end T

/-! T26: dicts whose keys are tuples in tuples. -/
namespace T
open PySem L2 PySem.Spec PyProof.Rows
/-! ### keys -/
mutual
inductive KIs (F : Hp) : NestedKey → V → Prop
  | none : KIs F .none .non
  | int (i : Int) : KIs F (.num i) (.int i)
  | bl (b : Bool) : KIs F (.num (if b = true then 1 else 0)) (.bl b)
  | str (x : Str) : KIs F (.text x) (.str x)
  | tup {p vs ks} : F p = some (.tup vs) → KAll F ks vs → KIs F (.tup ks) (.ref p)
inductive KAll (F : Hp) : List NestedKey → List V → Prop
  | nil : KAll F [] []
  | cons {k v ks vs} : KIs F k v → KAll F ks vs → KAll F (k :: ks) (v :: vs)
end
mutual
theorem KIs.mono {F F' : Hp} (s : Same F F') : ∀ {k : NestedKey} {v : V}, KIs F k v → KIs F' k v
  | _, _, .none => .none
  | _, _, .int i => .int i
  | _, _, .bl b => .bl b
  | _, _, .str x => .str x
  | _, _, .tup h t => .tup (s _ _ h) (KAll.mono s t)
theorem KAll.mono {F F' : Hp} (s : Same F F') : ∀ {ks : List NestedKey} {vs : List V}, KAll F ks vs → KAll F' ks vs
  | _, _, .nil => .nil
  | _, _, .cons h t => .cons (KIs.mono s h) (KAll.mono s t)
end
mutual
theorem KIs.is {P : Program} {w : World} {H : Hp} {h : Heap} (ok : HOk P w H h) : ∀ {k : NestedKey} {v : V} {u : Value}, KIs H k v → RelV v u → NestedIs h k u
  | _, _, _, .none, r => by cases (show _ = Value.none from r); exact .none
  | _, _, _, .int i, r => by obtain ⟨t, rfl⟩ := (show ∃ t, _ = Value.int i t from r); exact .int i t
  | _, _, _, .bl b, r => by cases (show _ = Value.bool b from r); exact .bool rfl
  | _, _, _, .str x, r => by obtain ⟨t, rfl⟩ := (show ∃ t, _ = Value.str x t from r); exact .text x t
  | _, _, _, @KIs.tup _ p vs ks e t, r => by
    cases (show _ = Value.ref p from r)
    obtain ⟨_, its, rr, o, h1, h2, n, h3⟩ := (show ObjOk P w H h p (.tup vs) from ok p _ e)
    exact .tup h1 h2 h3 (by simpa using KAll.is ok t rr)
theorem KAll.is {P : Program} {w : World} {H : Hp} {h : Heap} (ok : HOk P w H h) : ∀ {ks : List NestedKey} {vs : List V} {us : List Value}, KAll H ks vs → Vals vs us → NestedAll h ks us
  | _, _, _, .nil, .nil => .nil
  | _, _, _, .cons a t, .cons r rs => .cons (KIs.is ok a r) (KAll.is ok t rs)
end
/-- things alike that may be keys -/
structure NK {α : Type} (R : Rl α) (k : α → NestedKey) (n : Nat) : Prop where
  is : ∀ {F v x}, R.r F v x → KIs F (k x) v
  dep : ∀ x, (k x).depth ≤ n
  inj : ∀ {x y}, k x = k y → x = y
structure NKA {α : Type} (R : Ar α) (k : α → List NestedKey) (n : Nat) : Prop where
  is : ∀ {F vs x}, R.r F vs x → KAll F (k x) vs
  dep : ∀ x, NestedKey.depthAll (k x) ≤ n
  inj : ∀ {x y}, k x = k y → x = y
theorem nk_int : NK rInt NestedKey.num 0 := ⟨fun h => by cases (show _ = V.int _ from h); exact .int _, fun _ => Nat.le_refl _, fun h => by cases h; rfl⟩
def kBl (b : Bool) : NestedKey := .num (if b = true then 1 else 0)
theorem nk_bool : NK rBool kBl 0 := ⟨fun h => by cases (show _ = V.bl _ from h); exact .bl _, fun _ => Nat.le_refl _, fun {x y} h => by cases x <;> cases y <;> first | rfl | (unfold kBl at h; simp at h)⟩
theorem nk_str : NK rStr NestedKey.text 0 := ⟨fun h => by cases (show _ = V.str _ from h); exact .str _, fun _ => Nat.le_refl _, fun h => by cases h; rfl⟩
section
variable {α β : Type} {R : Rl α} {k : α → NestedKey} {n : Nat} {X : Ar β} {kX : β → List NestedKey}
theorem kall_map (h : NK R k n) {F : Hp} : ∀ {vs : List V} {xs : List α}, Paired (R.r F) vs xs → KAll F (xs.map k) vs
  | _, _, .nil => .nil
  | _, _, .cons r t => .cons (h.is r) (kall_map h t)
theorem dep_map (h : NK R k n) : ∀ xs : List α, NestedKey.depthAll (xs.map k) ≤ n
  | [] => Nat.zero_le _
  | x :: xs => Nat.max_le.mpr ⟨h.dep x, dep_map h xs⟩
theorem inj_map (h : NK R k n) : ∀ {xs ys : List α}, xs.map k = ys.map k → xs = ys
  | [], [], _ => rfl
  | x :: xs, y :: ys, e => by
    rw [List.map_cons, List.map_cons] at e
    injection e with e1 e2
    rw [h.inj e1, inj_map h e2]
  | [], _ :: _, e => nomatch e
  | _ :: _, [], e => nomatch e
def kTup (k : α → NestedKey) (xs : List α) : NestedKey := .tup (xs.map k)
theorem nk_tup (h : NK R k n) : NK (rTup R) (kTup k) (n + 1) := ⟨fun ⟨p, vs, e, hp, r⟩ => by subst e; exact .tup hp (kall_map h r), fun xs => Nat.succ_le_succ (dep_map h xs), fun e => by unfold kTup at e; injection e with e; exact inj_map h e⟩
def kOne (k : α → NestedKey) (x : α) : List NestedKey := [k x]
def kC (k : α → NestedKey) (kX : β → List NestedKey) (x : α × β) : List NestedKey := k x.1 :: kX x.2
theorem nka_one (h : NK R k n) : NKA (arOne R) (kOne k) n := ⟨fun {F vs x} r => by
  obtain ⟨v, rfl, hr⟩ := (show ∃ v, _ = [v] ∧ R.r F v x from r)
  exact .cons (h.is hr) .nil, fun x => Nat.max_le.mpr ⟨h.dep x, Nat.zero_le _⟩, fun e => by unfold kOne at e; injection e with e _; exact h.inj e⟩
theorem nka_c (h : NK R k n) (hX : NKA X kX n) : NKA (arC R X) (kC k kX) n := ⟨fun {F vs x} r => by
  obtain ⟨v, r1, rfl, hr, ht⟩ := r
  exact .cons (h.is hr) (hX.is ht), fun x => Nat.max_le.mpr ⟨h.dep _, hX.dep _⟩, fun {x y} e => by
    unfold kC at e; injection e with e1 e2
    exact Prod.ext (h.inj e1) (hX.inj e2)⟩
def kTh (kX : β → List NestedKey) (x : β) : NestedKey := .tup (kX x)
theorem nk_th (h : NKA X kX n) : NK (rTh X) (kTh kX) (n + 1) := ⟨fun {F v x} r => by
  obtain ⟨p, vs, rfl, hp, ht⟩ := r
  exact .tup hp (h.is ht), fun x => Nat.succ_le_succ (h.dep x), fun e => by unfold kTh at e; injection e with e; exact h.inj e⟩
theorem NK.up (h : NK R k n) {m : Nat} (l : n ≤ m) : NK R k m := ⟨h.is, fun x => Nat.le_trans (h.dep x) l, h.inj⟩
end
/-- keys that are tuples -/
class KeyT {α : Type} (R : Rl α) (k : α → NestedKey) : Prop where
  nk : NK R k 8
  tup : ∀ x, ∃ ks, k x = .tup ks
theorem KeyT.ref {α : Type} {R : Rl α} {k : α → NestedKey} (h : KeyT R k) {F : Hp} {v : V} {x : α} (r : R.r F v x) : ∃ b, v = .ref b ∧ KIs F (k x) (.ref b) ∧ (k x).depth ≤ 8 := by
  have q := h.nk.is r
  obtain ⟨ks, e⟩ := h.tup x
  have d := h.nk.dep x
  rw [e] at q d ⊢
  cases q with
  | tup h1 h2 => exact ⟨_, rfl, .tup h1 h2, d⟩
/-! ### the dict's object -/
abbrev Ent := NestedKey × Addr × Value
def entR (w : World) (x : Ent) : DictEntry := ⟨x.1.hash w, .ref x.2.1, x.2.2⟩
def DRaw (w : World) (d : Addr) (xs : List Ent) (h : Heap) : Prop := (d == sysModules) = false ∧ xs.length ≤ sizeLine ∧ ∃ o es ep, h.get? d = some o ∧ o.ExactDict ∧ o.data = .dict es ep ∧ es.toList = xs.map (entR w) ∧ (xs.map (·.1)).Nodup
theorem DRaw.stay {w : World} {d : Addr} {xs : List Ent} {h h' : Heap} (x : DRaw w d xs h) (k : ∀ o, h.get? d = some o → h'.get? d = some o) : DRaw w d xs h' := let ⟨a, b, o, es, ep, e, r⟩ := x; ⟨a, b, o, es, ep, k _ e, r⟩
theorem DRaw.ok {P : Program} {w : World} {H : Hp} {h : Heap} {d : Addr} {xs : List Ent} (x : DRaw w d xs h) : ObjOk P w H h d (.ext (DRaw w d xs)) := ⟨x, by obtain ⟨_, _, o, _, _, e, _⟩ := x; exact ⟨o, e⟩, fun h1 h2 a k => a.stay k⟩
def DEl (H : Hp) (w : World) (d : Addr) (xs : List Ent) : Prop := H d = some (.ext (DRaw w d xs)) ∧ ∀ q ∈ xs, KIs H q.1 (.ref q.2.1) ∧ q.1.depth ≤ 8
theorem DEl.of {X : Cx} {pins : List (Addr × Obj)} {σ : L2.St} {H : Hp} {s : Shared} {d : Addr} {xs : List Ent} (I : Inv X pins σ H s) (e : DEl H X.w d xs) : (d == sysModules) = false ∧ xs.length ≤ sizeLine ∧ s.heap.DictOfH (nestedKind X.prog X.w) d xs := by
  obtain ⟨⟨a, b, o, es, ep, h1, h2, h3, h4, h5⟩, _, _⟩ := (show ObjOk X.prog X.w H s.heap d (.ext (DRaw X.w d xs)) from I.hok d _ e.1)
  exact ⟨a, b, o, es, ep, h1, h2, h3, h4, fun q hq => ⟨KIs.is I.hok (e.2 q hq).1 rfl, (e.2 q hq).2⟩, h5⟩
theorem KIs.key {X : Cx} {pins : List (Addr × Obj)} {σ : L2.St} {H : Hp} {s : Shared} {b : Addr} {k : NestedKey} (I : Inv X pins σ H s) (h : KIs H k (.ref b)) (d : k.depth ≤ 8) : (nestedKind X.prog X.w).is s.heap k b := ⟨KIs.is I.hok h rfl, d⟩
/-- y in d -/
def rInN (w : World) (no : Bool) : R2 := fun x y H Q => ∃ b d k xs, x = .ref b ∧ y = .ref d ∧ KIs H k (.ref b) ∧ k.depth ≤ 8 ∧ DEl H w d xs ∧ Q (.bl ((atKey xs k).isSome != no)) H
/-- d[y] -/
def rIxN (w : World) : R2 := fun x y H Q => ∃ b d k xs p v, x = .ref d ∧ y = .ref b ∧ KIs H k (.ref b) ∧ k.depth ≤ 8 ∧ DEl H w d xs ∧ atKey xs k = some p ∧ RelV v p.2 ∧ Q v H
/-- d[y] = v -/
def rSetN (w : World) : V → V → V → Hp → (Hp → Prop) → Prop := fun x y v H Q => ∃ b d k xs, x = .ref d ∧ y = .ref b ∧ KIs H k (.ref b) ∧ k.depth ≤ 8 ∧ DEl H w d xs ∧ xs.length < sizeLine ∧ ∀ u, RelV v u → Q (upd H d (.ext (DRaw w d (storedH xs k b u))))
section
variable {X : Cx}
theorem op_inN (hu : X.A.units + 64 < cLine) : OpR X (compareOp .In) (rInN X.w false) := by
  intro pins s σ H x y v u Q I rx ry h
  obtain ⟨b, d, k, xs, rfl, rfl, hk, hd, hx, q⟩ := h
  cases (show v = Value.ref b from rx)
  cases (show u = Value.ref d from ry)
  obtain ⟨h1, h2, h3⟩ := hx.of I
  refine wpAny_in_heap (knd := nestedKind X.prog X.w) (by show X.A.units + 1 + 8 < cLine; omega) (hk.key I hd) h1 h3 ⟨.bl _, H, I.tok _, rfl, ?_⟩
  simpa using q
theorem op_notInN (hu : X.A.units + 64 < cLine) : OpR X (compareOp .NotIn) (rInN X.w true) := by
  intro pins s σ H x y v u Q I rx ry h
  obtain ⟨b, d, k, xs, rfl, rfl, hk, hd, hx, q⟩ := h
  cases (show v = Value.ref b from rx)
  cases (show u = Value.ref d from ry)
  obtain ⟨h1, h2, h3⟩ := hx.of I
  refine wpAny_notIn_heap (knd := nestedKind X.prog X.w) (by show X.A.units + 1 + 8 < cLine; omega) (hk.key I hd) h1 h3 ⟨.bl _, H, I.tok _, rfl, ?_⟩
  simpa using q
theorem ix_N (hu : X.A.units + 64 < cLine) : IxR X (rIxN X.w) := by
  intro value slice pins s σ H x y v u Q I rx ry h hs
  obtain ⟨b, d, k, xs, p, v0, rfl, rfl, hk, hd, hx, hp, r0, q⟩ := h
  cases (show v = Value.ref d from rx)
  cases (show u = Value.ref b from ry)
  obtain ⟨h1, h2, h3⟩ := hx.of I
  have hT : s.TypeIs (.ref d) "dict" := h3.typeIs
  unfold subscriptTail
  refine wpAny_bind ?_
  rw [getitemInPython_of_ne hT.not_modules]
  refine wpAny_bind (wpAny_specialOf hT PySem.F.slot_dict_getitem.lookup ?_)
  have fin : wpAny (model X.prog X.w) X.A (subscripted slice false (.ref d) (.ref b)) (fun r s₃ => wpAny (model X.prog X.w) X.A (letTemporaryGo value (.ref d) r >>= fun _ => pure r) (EP X pins σ Q) X.xe s₃) X.xe s := by
    rw [hs]
    refine wpAny_operating (wpAny_getItem_heap (knd := nestedKind X.prog X.w) (by show X.A.units + 1 + 8 < cLine; omega) (hk.key I hd) h3 hp ?_)
    exact wpAny_bind (wpAny_letTemporaryGo (wpAny_pure ⟨v0, H, I.tok _, r0, q⟩))
  first
    | exact wpAny_pure (wpAny_bind fin)
    | exact wpAny_bind (wpAny_pure (wpAny_bind fin))
    | exact wpAny_bind fin
theorem set_N (hu : X.A.units + 64 < cLine) : PSet X (rSetN X.w) := by
  intro pins s σ H x y v ov iv u Q I rx ry rv h
  obtain ⟨b, d, k, xs, rfl, rfl, hk, hd, hx, hl, q⟩ := h
  cases (show ov = Value.ref d from rx)
  cases (show iv = Value.ref b from ry)
  obtain ⟨h1, h2, h3⟩ := hx.of I
  refine wpAny_setItem_heap (knd := nestedKind X.prog X.w) (hsz := h2) (by show X.A.units + 1 + 8 < cLine; omega) (hk.key I hd) h3 fun h' hm hs => ?_
  refine ⟨_, ?_, q u rv⟩
  obtain ⟨o, es, ep, e1, e2, e3, e4, e5, e6⟩ := hm
  refine d_write I (by rw [hx.1]; trivial) hs ⟨o, e1⟩ (DRaw.ok ⟨h1, ?_, o, es, ep, e1, e2, e3, e4, e6⟩)
  exact Nat.le_trans (storedH_length xs k b u) hl
/-- {} -/
def tNewN (w : World) : TE := fun _ H Q => ∀ p, H p = none → Q (.ref p) (upd H p (.ext (DRaw w p [])))
theorem pe_newN {pos : Pos} : PE X (.Dict [] [] pos) (tNewN X.w) := ⟨fun pins s σ H Q I h =>
  wpAny_Dict_empty ⟨.ref s.heap.objs.size, _, I.laid (a := s.heap.objs.size) (o := .ext (DRaw X.w s.heap.objs.size [])) (t' := s.toks) (fun _ _ q => Heap.get?_push_of_some _ q) (Nat.le_refl _)
    (DRaw.ok ⟨beq_eq_false_iff_ne.mpr (Ne.symm (Nat.ne_of_lt I.big)), Nat.zero_le _, _, #[], 0, Heap.get?_push_size _ rfl, ⟨rfl, rfl, rfl⟩, rfl, rfl, List.nodup_nil⟩), rfl, h _ (I.hok.fresh (Nat.le_refl _))⟩⟩
end
/-! ### the mirror -/
section
variable {α β : Type} [DecidableEq α]
def dAt (kvs : List (α × β)) (x : α) : Option β := (kvs.find? fun p => decide (p.1 = x)).map (·.2)
def dPut (kvs : List (α × β)) (x : α) (y : β) : List (α × β) := if (dAt kvs x).isSome = true then kvs.map (fun p => if p.1 = x then (p.1, y) else p) else kvs ++ [(x, y)]
def dSet (kvs : List (α × β)) (x : α) (y : β) : Option (List (α × β)) := if kvs.length < lim then some (dPut kvs x y) else none
variable {k : α → NestedKey} {R : Rl α} {V' : Rl β} {w : World}
def dRel (k : α → NestedKey) (V' : Rl β) (F : Hp) (p : α × β) (q : Ent) : Prop := q.1 = k p.1 ∧ KIs F q.1 (.ref q.2.1) ∧ q.1.depth ≤ 8 ∧ ∃ y, V'.r F y p.2 ∧ RelV y q.2.2
theorem dRel.mono {F F' : Hp} (s : Same F F') {p : α × β} {q : Ent} (h : dRel k V' F p q) : dRel k V' F' p q := ⟨h.1, h.2.1.mono s, h.2.2.1, let ⟨y, a, b⟩ := h.2.2.2; ⟨y, V'.mono s a, b⟩⟩
theorem pd_mono {γ δ : Type} {P Q : γ → δ → Prop} (h : ∀ a b, P a b → Q a b) : ∀ {xs : List γ} {ys : List δ}, Paired P xs ys → Paired Q xs ys
  | _, _, .nil => .nil
  | _, _, .cons r t => .cons (h _ _ r) (pd_mono h t)
/-- the dict at v -/
def oDic (w : World) (k : α → NestedKey) (V' : Rl β) (v : V) : Ow (List (α × β)) where
  o := fun F kvs c => ∃ d xs, v = .ref d ∧ c = [(d, .ext (DRaw w d xs))] ∧ Paired (dRel k V' F) kvs xs
  mono := fun s ⟨d, xs, e, h, r⟩ => ⟨d, xs, e, h, pd_mono (fun _ _ q => q.mono s) r⟩
theorem dp_at (hk : ∀ {x y : α}, k x = k y → x = y) {F : Hp} {kvs : List (α × β)} {xs : List Ent} (r : Paired (dRel k V' F) kvs xs) (x : α) : match dAt kvs x, atKey xs (k x) with
    | some b, some q => ∃ y, V'.r F y b ∧ RelV y q.2
    | none, none => True
    | _, _ => False := by
  induction r with
  | nil => exact trivial
  | @cons p q ps qs h t ih =>
    obtain ⟨h1, h2, h3, y, h4, h5⟩ := h
    by_cases e : p.1 = x
    · have e' : q.1 = k x := by rw [h1, e]
      have a : dAt (p :: ps) x = some p.2 := by simp [dAt, List.find?_cons, e]
      have b : atKey (q :: qs) (k x) = some q.2 := by simp [atKey, List.find?_cons, e']
      rw [a, b]; exact ⟨y, h4, h5⟩
    · have e' : ¬ q.1 = k x := fun z => e (hk (h1.symm.trans z))
      have a : dAt (p :: ps) x = dAt ps x := by simp [dAt, List.find?_cons, e]
      have b : atKey (q :: qs) (k x) = atKey qs (k x) := by simp [atKey, List.find?_cons, e']
      rw [a, b]; exact ih
theorem dp_some (hk : ∀ {x y : α}, k x = k y → x = y) {F : Hp} {kvs : List (α × β)} {xs : List Ent} (r : Paired (dRel k V' F) kvs xs) (x : α) : (atKey xs (k x)).isSome = (dAt kvs x).isSome := by
  have h := dp_at hk r x
  revert h
  cases dAt kvs x <;> cases atKey xs (k x) <;> intro h <;> first | rfl | exact h.elim
theorem dpl_all {F : Hp} {kvs : List (α × β)} {xs : List Ent} (r : Paired (dRel k V' F) kvs xs) : ∀ q ∈ xs, KIs F q.1 (.ref q.2.1) ∧ q.1.depth ≤ 8 := by
  induction r with
  | nil => intro q hq; cases hq
  | cons h t ih =>
    intro q hq
    rcases List.mem_cons.mp hq with rfl | hq
    · exact ⟨h.2.1, h.2.2.1⟩
    · exact ih q hq
theorem dp_put (hk : ∀ {x y : α}, k x = k y → x = y) {F : Hp} {kvs : List (α × β)} {xs : List Ent} (r : Paired (dRel k V' F) kvs xs) {x : α} {b : Addr} {y : V} {z : β} {u : Value} (hb : KIs F (k x) (.ref b)) (hd : (k x).depth ≤ 8) (hv : V'.r F y z) (hu : RelV y u) :
    Paired (dRel k V' F) (dPut kvs x z) (storedH xs (k x) b u) := by
  unfold dPut storedH
  rw [dp_some hk r x]
  split
  · rename_i hs
    clear hs hb hd
    induction r with
    | nil => exact .nil
    | @cons p q ps qs h t ih =>
      rw [List.map_cons, List.map_cons]
      refine .cons ?_ ih
      obtain ⟨h1, h2, h3, y', h4, h5⟩ := h
      unfold putAt
      by_cases e : p.1 = x
      · rw [if_pos e, if_pos (by rw [h1, e])]
        exact ⟨h1, h2, h3, y, hv, hu⟩
      · rw [if_neg e, if_neg (fun z => e (hk (h1.symm.trans z)))]
        exact ⟨h1, h2, h3, y', h4, h5⟩
  · exact r.snoc ⟨rfl, hb, hd, y, hv, hu⟩
theorem dp_len {γ δ : Type} {P : γ → δ → Prop} {xs : List γ} {ys : List δ} (r : Paired P xs ys) : xs.length = ys.length := Paired.length r
variable {S Ω : Type} {A : Ow S} {g : S → List (α × β)} {p : S → List (α × β) → S} {v : V} {te ti : TE} {σ : L2.St} {F : Hp} {m : M S α} {my : M S β} {u : TS} {P : Post Ω} {j : Nat}
theorem emb_dic {F H : Hp} {s : S} {c O : Ch} (e : Emb A (oDic w k V' v) g p) (ho : A.o F s c) (W : Wd F H (c ++ O)) : ∃ d xs c2, v = .ref d ∧ Paired (dRel k V' F) (g s) xs ∧ Wd F H ((d, .ext (DRaw w d xs)) :: (c2 ++ O)) ∧
    ∀ F' kvs xs', Same F F' → Paired (dRel k V' F') kvs xs' → ∀ H', Wd F' H' ((d, .ext (DRaw w d xs')) :: (c2 ++ O)) → ∃ c', A.o F' (p s kvs) c' ∧ Wd F' H' (c' ++ O) := by
  obtain ⟨c1, c2, pm, ⟨d, xs, e1, rfl, rp⟩, kk⟩ := e.split ho
  refine ⟨d, xs, c2, e1, rp, (W.perm (pm.append_right O)), fun F' kvs xs' s' rp' H' W' => ?_⟩
  obtain ⟨c', o', pm'⟩ := kk F' kvs [(d, .ext (DRaw w d xs'))] s' ⟨d, xs', e1, rfl, rp'⟩
  exact ⟨c', o', W'.perm (pm'.append_right O).symm⟩
theorem dEl_of {F H : Hp} {d : Addr} {xs : List Ent} {kvs : List (α × β)} {O : Ch} (W : Wd F H ((d, .ext (DRaw w d xs)) :: O)) (r : Paired (dRel k V' F) kvs xs) : DEl H w d xs := ⟨W.hd, fun q hq => ⟨(dpl_all r q hq).1.mono W.sub, (dpl_all r q hq).2⟩⟩
theorem ev_inN {no : Bool} (kt : KeyT R k) (he : Ev te σ F A R m) (hv : σ[j]? = some (some v)) (e : Emb A (oDic w k V' v) g p) : Ev (tOp (rInN w no) te (tVar j)) σ F A rBool (bnd m fun x => gtL g fun d => some ((dAt d x).isSome != no)) := fun s b s' hm F1 H c O sm ho W Q q => by
  obtain ⟨x, s1, h1, hm⟩ := bnd_some hm
  obtain ⟨h2, rfl⟩ := gtL_some hm
  cases h2
  refine he s x s' h1 F1 H c O sm ho W _ fun y F2 H2 c2 sm2 o2 W2 r2 => ⟨v, hv, ?_⟩
  obtain ⟨b, rfl, hb, hd⟩ := kt.ref r2
  obtain ⟨d, xs, c4, rfl, rp, W4, kk⟩ := emb_dic e o2 W2
  refine ⟨b, d, k x, xs, rfl, rfl, hb.mono W2.sub, hd, dEl_of W4 rp, ?_⟩
  rw [dp_some kt.nk.inj rp]
  exact q _ F2 H2 c2 sm2 o2 W2 rfl
theorem ev_ixN (kt : KeyT R k) (hv : σ[j]? = some (some v)) (e : Emb A (oDic w k V' v) g p) (he : Ev te σ F A R m) : Ev (tOp (rIxN w) (tVar j) te) σ F A V' (bnd m fun x => gtL g fun d => dAt d x) := fun s b s' hm F1 H c O sm ho W Q q => ⟨v, hv, by
  obtain ⟨x, s1, h1, hm⟩ := bnd_some hm
  obtain ⟨h2, rfl⟩ := gtL_some hm
  refine he s x s' h1 F1 H c O sm ho W _ fun y F2 H2 c2 sm2 o2 W2 r2 => ?_
  obtain ⟨b', rfl, hb, hd⟩ := kt.ref r2
  obtain ⟨d, xs, c4, rfl, rp, W4, kk⟩ := emb_dic e o2 W2
  have at_ := dp_at kt.nk.inj rp x
  rw [h2] at at_
  cases ek : atKey xs (k x) with
  | none => rw [ek] at at_; exact at_.elim
  | some pr =>
    rw [ek] at at_
    obtain ⟨y, hy, hr⟩ := at_
    exact ⟨b', d, k x, xs, pr, y, rfl, rfl, hb.mono W2.sub, hd, dEl_of W4 rp, ek, hr, q _ F2 H2 c2 sm2 o2 W2 hy⟩⟩
theorem dSet_some {kvs kvs' : List (α × β)} {x : α} {y : β} (h : dSet kvs x y = some kvs') : kvs' = dPut kvs x y ∧ kvs.length < lim := by
  unfold dSet at h; split at h
  · cases h; exact ⟨rfl, by assumption⟩
  · cases h
theorem b_setN {f : S → Option Ω} (kt : KeyT R k) (hv : σ[j]? = some (some v)) (e : Emb A (oDic w k V' v) g p) (he : Ev te σ F A V' my) (hi : Ev ti σ F A R m) (kk0 : B u σ F A P f) : B (tSeq (tAsg te (gSub (tVar j) ti (rSetN w))) u) σ F A P (bnd my fun y => bnd m fun x => bnd (upL g p fun d => dSet d x y) fun _ => f) := fun s w' hm F1 H c O sm ho W D q => by
  obtain ⟨y, s1, h1, hm⟩ := bnd_some hm
  obtain ⟨x, s2, h2, hm⟩ := bnd_some hm
  obtain ⟨_, s3, h3, hm⟩ := bnd_some hm
  obtain ⟨xs', h3a, rfl⟩ := upL_some h3
  obtain ⟨rfl, hl⟩ := dSet_some h3a
  refine he s y s1 h1 F1 H c O sm ho W _ fun vy F2 H2 c2 sm2 o2 W2 r2 => ⟨v, hv, ?_⟩
  refine hi s1 x s2 h2 F2 H2 c2 O (sm.trans sm2) o2 W2 _ fun z F3 H3 c3 sm3 o3 W3 r3 => ?_
  obtain ⟨b', rfl, hb, hd⟩ := kt.ref r3
  obtain ⟨d, xs, c4, rfl, rp, W4, kk⟩ := emb_dic e o3 W3
  refine ⟨b', d, k x, xs, rfl, rfl, hb.mono W3.sub, hd, dEl_of W4 rp, by rw [← dp_len rp, PySem.sizeLine_eq]; have : lim = 1000000 := rfl; omega, fun uu ru => ?_⟩
  obtain ⟨c5, o5, W5⟩ := kk F3 _ (storedH xs (k x) b' uu) (SameR _) (dp_put kt.nk.inj rp hb hd (V'.mono sm3 r2) ru) _ W4.set
  exact kk0 _ w' hm F3 _ c5 O ((sm.trans sm2).trans sm3) o5 W5 D (P.mono (sm2.trans sm3) q)
theorem eo_newN {k : α → NestedKey} {V' : Rl β} : EvO (tNewN w) σ F A (oDic w k V') (ret ([] : List (α × β))) := fun s b s' hm F1 H c O sm ho W Q q p np => by
  obtain ⟨rfl, rfl⟩ := ret_some hm
  exact q (.ref p) _ _ c [(p, .ext (DRaw w p []))] (SameR _) ho ⟨p, [], rfl, rfl, .nil⟩ (W.newO np)
end
/-! ### the keys of this program -/
abbrev kState : State → NestedKey := kTh (kC (kTup NestedKey.num) (kC (kTup NestedKey.num) (kOne (kTup kBl))))
theorem nk_state : NK rState kState 2 := nk_th (nka_c (nk_tup nk_int) (nka_c (nk_tup nk_int) (nka_one (nk_tup nk_bool))))
theorem kt_state : KeyT rState kState := ⟨nk_state.up (by decide), fun _ => ⟨_, rfl⟩⟩
abbrev kPair : State × State → NestedKey := kTh (kC kState (kOne kState))
theorem kt_pair : KeyT (rTh (arC rState (arOne rState))) kPair := ⟨(nk_th (nka_c nk_state (nka_one nk_state))).up (by decide), fun _ => ⟨_, rfl⟩⟩
theorem kop_inN {X : Cx} {w : World} (hu : X.A.units + 64 < cLine) (e : X.w = w := by rfl) : OpR X (compareOp .In) (rInN w false) := by subst e; exact op_inN hu
theorem kop_notInN {X : Cx} {w : World} (hu : X.A.units + 64 < cLine) (e : X.w = w := by rfl) : OpR X (compareOp .NotIn) (rInN w true) := by subst e; exact op_notInN hu
theorem kix_N {X : Cx} {w : World} (hu : X.A.units + 64 < cLine) (e : X.w = w := by rfl) : IxR X (rIxN w) := by subst e; exact ix_N hu
theorem kset_N {X : Cx} {w : World} (hu : X.A.units + 64 < cLine) (e : X.w = w := by rfl) : PSet X (rSetN w) := by subst e; exact set_N hu
theorem kpe_newN {X : Cx} {w : World} {pos : Pos} (e : X.w = w := by rfl) : PE X (.Dict [] [] pos) (tNewN w) := by subst e; exact pe_newN
/-! ### a thing of one type read as one of another -/
def CvP {α β : Type} (R : Rl α) (R' : Rl β) (f : α → Option β) : Prop := ∀ F v x y, R.r F v x → f x = some y → R'.r F v y
section
variable {α β γ S : Type} {R : Rl α} {R2 : Rl γ} {R' : Rl β} {A : Ow S} {te : TE} {σ : L2.St} {F : Hp} {m : M S α}
theorem ev_cvP {f : α → Option β} (h : CvP R R' f) (he : Ev te σ F A R m) : Ev te σ F A R' (bnd m fun x => lft (f x)) := fun s b s' hm F1 H c O sm ho W Q q => by
  obtain ⟨x, s1, h1, hm⟩ := bnd_some hm
  obtain ⟨h2, rfl⟩ := lft_some hm
  exact he s x _ h1 F1 H c O sm ho W _ fun v F2 H2 c2 s2 o2 W2 r2 => q v F2 H2 c2 s2 o2 W2 (h _ _ _ _ r2 h2)
theorem cvp_sum {f : α → Option β} {g : γ → Option β} (h1 : CvP R R' f) (h2 : CvP R2 R' g) : CvP (rSum R R2) R' (Sum.elim f g) := fun F v x y r e => by
  cases x with
  | inl a => exact h1 F v a y r e
  | inr a => exact h2 F v a y r e
theorem cvp_opt {f : α → Option β} (h : CvP R R' f) : CvP (rOpt R) R' (fun o => o.bind f) := fun F v x y r e => by
  cases x with
  | none => cases e
  | some a => exact h F v a y r e
theorem cvp_th2 : CvP (rTh (arC R (arOne R))) (rTup (rSum R R2)) (fun x => some [.inl x.1, .inl x.2]) := fun F v x y r e => by
  cases e
  obtain ⟨p, vs, rfl, hp, v1, _, rfl, r1, v2, rfl, r2⟩ := r
  exact ⟨p, _, rfl, hp, .cons r1 (.cons r2 .nil)⟩
theorem cvp_th1 : CvP (rTh (arOne R2)) (rTup (rSum R R2)) (fun x => some [.inr x]) := fun F v x y r e => by
  cases e
  obtain ⟨p, vs, rfl, hp, v1, rfl, r1⟩ := r
  exact ⟨p, _, rfl, hp, .cons r1 .nil⟩
theorem cvp_never : CvP R R' (fun _ => none) := fun _ _ _ _ _ e => nomatch e
end
section
variable {α β : Type} {R : Rl α} {R' : Rl β}
theorem vl_isNoneU [hn : NotNon R] [hn' : NotNon R'] : VL2 (fun x y H Q => y = .non ∧ Q (.bl (decide (x = .non))) H) (rSum (rOpt R) R') rNone rBool (fun a _ => some (Sum.elim Option.isNone (fun _ => false) a)) := fun F H O x y a b c W hx hy hf Q q => by
  cases hf
  refine ⟨hy, q _ F H (SameR _) W ?_⟩
  match a, hx with
  | .inl none, hx => rw [show x = .non from hx]; rfl
  | .inl (some z), hx => show V.bl _ = V.bl _; rw [decide_eq_false (hn.nn F x z hx)]; rfl
  | .inr z, hx => show V.bl _ = V.bl _; rw [decide_eq_false (hn'.nn F x z hx)]; rfl
theorem vl_notNoneU [hn : NotNon R] [hn' : NotNon R'] : VL2 (fun x y H Q => y = .non ∧ Q (.bl (!decide (x = .non))) H) (rSum (rOpt R) R') rNone rBool (fun a _ => some (!Sum.elim Option.isNone (fun _ => false) a)) := fun F H O x y a b c W hx hy hf Q q => by
  cases hf
  refine ⟨hy, q _ F H (SameR _) W ?_⟩
  match a, hx with
  | .inl none, hx => rw [show x = .non from hx]; rfl
  | .inl (some z), hx => show V.bl _ = V.bl _; rw [decide_eq_false (hn.nn F x z hx)]; rfl
  | .inr z, hx => show V.bl _ = V.bl _; rw [decide_eq_false (hn'.nn F x z hx)]; rfl
end
section
variable {α β S : Type} {K : PySem.W.Frag} {W : WX} {R : Rl α} {R' : Rl β} {A : Ow S} {te : TE} {σ : L2.St} {F : Hp}
/-- a raising thing of one type read as one of another -/
theorem evx_cvP {mx : M S (α ⊕ Str)} {f : α → Option β} (h : CvP R R' f) (he : EvX K W te σ F A R mx) : EvX K W te σ F A R' (bnd mx fun w => lft (Sum.elim (fun x => (f x).map Sum.inl) (fun n => some (Sum.inr n)) w)) := fun s b s' hm F1 H c O sm ho W1 Q q => by
  obtain ⟨x, s1, h1, hm⟩ := bnd_some hm
  obtain ⟨h2, rfl⟩ := lft_some hm
  refine he s x _ h1 F1 H c O sm ho W1 _ ?_
  cases x with
  | inl a =>
    replace h2 : (f a).map Sum.inl = some b := h2
    cases e : f a with
    | none => rw [e] at h2; cases h2
    | some y =>
      rw [e] at h2; cases h2
      exact fun v F2 H2 c2 s2 o2 W2 r2 => q v F2 H2 c2 s2 o2 W2 (h _ _ _ _ r2 e)
  | inr n => cases h2; exact q
/-- a slice of a raising thing -/
theorem evx_slH {X : Ar α} {Y : Ar β} {f : α → β} {lo hi : Option Int} {tl th : TO} {mx : M S (α ⊕ Str)} (hc : Cut X lo hi Y f) (h : EvX K W te σ F A (rTh X) mx) (hl : ∀ {F}, EvP tl σ F A (ret lo)) (hh : ∀ {F}, EvP th σ F A (ret hi)) : EvX K W (tSl (rSlA K) te tl th) σ F A (rTh Y) (bnd mx fun w => ret (Sum.map f id w)) := fun s b s' hm F1 H c O sm ho W1 Q q => by
  obtain ⟨x, s1, h1, hm⟩ := bnd_some hm
  obtain ⟨rfl, rfl⟩ := ret_some hm
  refine h s x _ h1 F1 H c O sm ho W1 _ ?_
  cases x with
  | inr n => exact q
  | inl x =>
    exact fun v F2 H2 c2 s2 o2 W2 r2 => ev_slH (te := fun _ H Q => Q v H) hc (m := fun s => some (x, s)) (fun s b s' e F1 H c O sm ho W Q q => by
      cases e; exact q v _ _ _ (SameR _) ho W ((rTh X).mono sm r2)) hl hh _ _ _ rfl F2 H2 c2 O (SameR _) o2 W2 Q fun v' F' H' c' s' o' W' r' => q v' F' H' c' (s2.trans s') o' W' r'
end
theorem cvp_same2 {α : Type} {R : Rl α} : CvP (rTh (arC R (arOne R))) (rTup R) (fun x => some [x.1, x.2]) := fun F v x y r e => by
  cases e
  obtain ⟨p, vs, rfl, hp, v1, _, rfl, r1, v2, rfl, r2⟩ := r
  exact ⟨p, _, rfl, hp, .cons r1 (.cons r2 .nil)⟩
end T

/-! T27: pools of lists, frozen. -/
namespace T
open PySem L2
section
variable {α S S' Ω : Type} {R : Rl α} {A : Ow S} {A' : Ow S'} {σ : L2.St} {F : Hp} {P : Post Ω} {u : TS} {ps : List V}
theorem frz_pool {H : Hp} {O : Ch} : ∀ {ps : List V} {F : Hp} {xs : List (List α)} {c : Ch}, poolO (oLst R) ps F xs c → Wd F H (c ++ O) → ∃ F', Same F F' ∧ Wd F' H O ∧ ∀ (k : Nat) v, ps[k]? = some v → ∃ x, xs[k]? = some x ∧ (rLst R).r F' v x
  | [], F, xs, c, ⟨_, e⟩, W => ⟨F, SameR _, by subst e; exact W, fun k v h => by simp at h⟩
  | w :: vs, F, xs, c, ⟨x, xr, c1, c2, e1, e2, ⟨l, ws, ew, ec, rp⟩, r⟩, W => by
    subst e1 e2 ec
    have W2 : Wd F H ((l, .lst ws) :: (c2 ++ O)) := W
    have s2 := Wd.frzS W2
    obtain ⟨F', s3, W3, k3⟩ := frz_pool (poolO_mono s2 r) (Wd.frz W2)
    refine ⟨F', s2.trans s3, W3, fun k v h => ?_⟩
    match k, h with
    | 0, h =>
      obtain rfl : w = v := by simpa using h
      exact ⟨x, rfl, (rLst R).mono s3 ⟨l, ws, ew, upd_same, paired_mono (fun _ _ => R.mono s2) rp⟩⟩
    | k + 1, h => exact k3 k v (by simpa using h)
def PGet (R : Rl α) (ps : List V) (xs : List (List α)) (F : Hp) : Prop := ∀ v (k : Int), (rRef ps).r F v k → (rLst R).r F v (xs.getD k.toNat [])
theorem b_fzPool {g : S → List (List α)} {π : S → S'} {f : List (List α) → S' → Option Ω} (h : Rmv A A' (oPool (oLst R) ps) g π) (k : ∀ xs F', Same F F' → PGet R ps xs F' → B u σ F' A' P (f xs)) : B u σ F A P (fzL g π f) := fun s w hm F1 H c O sm ho W D q => by
  obtain ⟨c1, c2, pm, o1, o2⟩ := h.sp ho
  have W2 : Wd F1 H (c1 ++ (c2 ++ O)) := by
    have := W.perm (pm.append_right O)
    rw [List.append_assoc] at this; exact this
  obtain ⟨F', s2, W3, kk⟩ := frz_pool o1 W2
  refine k (g s) F' (sm.trans s2) (fun v n hr => ?_) (π s) w hm F' H c2 O (SameR _) (A'.mono s2 o2) W3 D (P.mono s2 q)
  obtain ⟨x, hx, rx⟩ := kk _ v hr.2
  rw [List.getD_eq_getElem?_getD, hx]
  exact rx
def pget {α : Type} (xs : List (List α)) (ks : List Int) : List (List α) := ks.map fun k => xs.getD k.toNat []
theorem paired_getP {Q : V → Int → Prop} {Q' : V → List α → Prop} {f : Int → List α} (h : ∀ v k, Q v k → Q' v (f k)) : ∀ {vs : List V} {ks : List Int}, Paired Q vs ks → Paired Q' vs (ks.map f)
  | _, _, .nil => .nil
  | _, _, .cons r t => .cons (h _ _ r) (paired_getP h t)
theorem lref_up {xs : List (List α)} {v : V} {ks : List Int} (h : PGet R ps xs F) (r : (rLst (rRef ps)).r F v ks) : (rLst (rLst R)).r F v (pget xs ks) := by
  obtain ⟨p, vs, e, hp, rp⟩ := r
  exact ⟨p, vs, e, hp, paired_getP h rp⟩
end
/-! try .. except C: a suite without the exception's name -/
def tryO {S Z : Type} (cat : List Str) (mb : S → Option ((Z × S) ⊕ (Str × S))) (mh : S → Option (Z × S)) : M S Z := fun s => (mb s).bind fun w => match w with
  | .inl p => some p
  | .inr q => if q.1 ∈ cat then mh q.2 else none
section
variable {S Z Ω : Type} {A : Ow S} {σ : L2.St} {F : Hp} {P : Post Ω} {u : TS} {K : PySem.W.Frag}
theorem b_tryO {tb : WX → TS} {th : TS} {C : Str} {cat : List Str} {Sl : Z → Hp → L2.St → Prop} {Sx : Hp → L2.St → Prop} {Wout : WX} {mb : S → Option ((Z × S) ⊕ (Str × S))} {mh : S → Option (Z × S)} {f : Z → S → Option Ω} (hcat : ∀ n ∈ cat, PySem.W.exmOne K (.ref (He.ga K n)) (.ref (He.ga K C)) = some true)
    (hb : ∀ W, B (tb W) σ F A (pTry K W A Sl Sx) mb) (hh : ∀ F' σ', Same F F' → Sx F' σ' → B th σ' F' A (pNx A Sl) mh)
    (k : ∀ z F' σ', Same F F' → Sl z F' σ' → B u σ' F' A P (f z)) : B (Evl.tCut (fun D σ H => tb (L2.wOnly K (.ref (He.ga K C)) (fun _ _ _ => th) Wout D) D σ H) u) σ F A P (bnd (tryO cat mb mh) f) := fun s r hm F1 H c O sm ho W1 D q => by
  obtain ⟨z, s2, h1, hm⟩ := bnd_some hm
  unfold tryO at h1
  cases e0 : mb s with
  | none => rw [e0] at h1; cases h1
  | some w =>
    rw [e0] at h1
    refine ⟨fun σ' H' => ∃ F' c', Same F1 F' ∧ A.o F' s2 c' ∧ Wd F' H' (c' ++ O) ∧ Sl z F' σ', ?_, fun σ' H' ⟨F', c', s', o', W', sl⟩ => k z F' σ' (sm.trans s') sl s2 r hm F' H' c' O (SameR _) o' W' D (P.mono s' q)⟩
    refine hb _ s w e0 F1 H c O sm ho W1 _ ?_
    cases w with
    | inl p =>
      cases h1
      exact fun F3 H3 c3 σ3 s3 o3 W3 sl => ⟨F3, c3, s3, o3, W3, sl⟩
    | inr p =>
      obtain ⟨n, s3⟩ := p
      have hn : n ∈ cat := by
        by_cases hn : n ∈ cat
        · exact hn
        · simp [hn] at h1
      simp [hn] at h1
      intro F3 H3 c3 σ3 sm3 o3 W3 sx
      refine ⟨true, hcat n hn, fun _ a na => ?_, fun q => nomatch q⟩
      exact hh F3 σ3 (sm.trans sm3) sx s3 (z, s2) h1 F3 H3 c3 O (SameR _) o3 W3 _ (fun F4 H4 c4 σ4 s4 o4 W4 sl => ⟨F4, c4, sm3.trans s4, o4, W4, sl⟩)
end
/-! list(range(n)) -/
def rngS (n : Int) : Option (List Int) := if n ≤ 1000000 ∧ -1000000 ≤ n then some (rngL 0 n.toNat) else none
theorem paired_rgL {F : Hp} : ∀ (n : Nat) (lo : Int), Paired (rInt.r F) ((List.range n).map fun (i : Nat) => V.int (lo + (i : Nat))) (rngL lo n)
  | 0, _ => .nil
  | n + 1, lo => by
    rw [List.range_succ_eq_map, List.map_cons, List.map_map]
    show Paired _ _ (lo :: rngL (lo + 1) n)
    refine .cons (show V.int _ = V.int _ by simp) ?_
    have e : ((fun (i : Nat) => V.int (lo + (i : Nat))) ∘ Nat.succ) = fun (i : Nat) => V.int (lo + 1 + (i : Nat)) := by
      funext i
      show V.int _ = V.int _
      congr 1
      rw [show ((Nat.succ i : Nat) : Int) = (i : Int) + 1 from rfl]
      omega
    rw [e]
    exact paired_rgL n (lo + 1)
section
variable {S : Type} {A : Ow S} {te : TE} {σ : L2.St} {F : Hp} {m : M S Int}
theorem eo_listRg (he : Ev te σ F A rInt m) : EvO (tLstRg (tRg1 te)) σ F A (oLst rInt) (bnd m fun n => lft (rngS n)) := fun s b s' hm F1 H c O sm ho W Q q => by
  obtain ⟨n, s1, h1, hm⟩ := bnd_some hm
  obtain ⟨h2, rfl⟩ := lft_some hm
  unfold rngS at h2
  split at h2
  · rename_i hn
    cases h2
    refine he s n _ h1 F1 H c O sm ho W _ fun v F2 H2 c2 s2 o2 W2 r2 => ⟨n, r2, ⟨by omega, by omega, by omega, by omega, by omega⟩, fun l nl => ?_⟩
    refine q (.ref l) F2 _ c2 [(l, .lst (rgV 0 n))] s2 o2 ⟨l, _, rfl, rfl, ?_⟩ (W2.newO nl)
    unfold rgV
    rw [Int.sub_zero]
    exact paired_rgL _ 0
  · cases h2
end
section
variable {K : PySem.W.Frag}
def vO (o : Option Int) : V := match o with
  | none => .non
  | some i => .int i
theorem rO_v (F : Hp) (v : V) (x : Option Int) (h : (rOpt rInt).r F v x) : v = vO x := by
  cases x with
  | none => exact h
  | some i => exact h
theorem vO_flat (x : Option Int) : flatV (vO x) = true := by cases x <;> rfl
theorem vO_eq (a b : Option Int) : eqV (vO b) (vO a) = decide (b = a) := by
  cases a <;> cases b
  · rfl
  · rfl
  · rfl
  · rename_i i j; exact (eqV_int i j).trans (by simp)
theorem vl_inOL : VL2 (rIn K false) (rOpt rInt) (rLst (rOpt rInt)) rBool (fun a xs => some (xs.any fun b => decide (b = a))) := vl_in (f := vO) rO_v vO_flat vO_eq false
theorem vl_niOL : VL2 (rIn K true) (rOpt rInt) (rLst (rOpt rInt)) rBool (fun a xs => some (!xs.any fun b => decide (b = a))) := vl_in (f := vO) rO_v vO_flat vO_eq false
theorem vl_inIOL : VL2 (rIn K false) rInt (rLst (rOpt rInt)) rBool (fun a xs => some (xs.any fun b => decide (b = some a))) := fun F H O x y a b c W hx hy hf Q q => vl_inOL F H O x y (some a) b c W hx hy hf Q q
theorem vl_niIOL : VL2 (rIn K true) rInt (rLst (rOpt rInt)) rBool (fun a xs => some (!xs.any fun b => decide (b = some a))) := fun F H O x y a b c W hx hy hf Q q => vl_niOL F H O x y (some a) b c W hx hy hf Q q
end
theorem cvp_lopt {α : Type} {R : Rl α} : CvP (rLst R) (rLst (rOpt R)) (fun xs => some (xs.map some)) := fun F v xs y r e => by
  cases e
  obtain ⟨p, vs, rfl, hp, rp⟩ := r
  exact ⟨p, vs, rfl, hp, paired_map2 (Q' := (rOpt R).r F) (f := some) (fun _ _ r => r) rp⟩
theorem isi_NoneType {K : PySem.W.Frag} {n : String} {bb : Bool} (h : kitB "NoneType" n = some bb := by decide +kernel) : ∀ F H v x, Same F H → rNone.r F v x → ∃ t, TyX K H v (.type t) ∧ PySem.W.kitOne K (.type t) (.type n) = some bb := fun F H v x s r => ⟨"NoneType", by rw [show v = .non from r]; exact .base .non, h⟩
/-! isinstance of one of two -/
def IsiF {α : Type} (K : PySem.W.Frag) (n : String) (R : Rl α) (f : α → Bool) : Prop := ∀ F H v x, Same F H → R.r F v x → ∃ t, TyX K H v (.type t) ∧ PySem.W.kitOne K (.type t) (.type n) = some (f x)
section
variable {α β : Type} {R : Rl α} {R' : Rl β} {K : PySem.W.Frag} {n : String}
theorem vl_isiF {f : α → Bool} (ht : IsiF K n R f) : VLc (rIsi K) (arC R (arOne (rV (.ty n)))) rBool (fun x => some (f x.1)) := fun F H O xs a c W ⟨v, r, e, rv, v2, e2, ev2⟩ hf Q q => by
  cases hf
  obtain ⟨t, ty, kk⟩ := ht F H v a.1 W.sub rv
  exact ⟨v, .ty n, .type t, .type n, f a.1, by rw [e, e2, show v2 = _ from ev2], .ty n, ty, kk, q _ F H (SameR _) W rfl⟩
theorem isi_sumF {f : α → Bool} {g : β → Bool} (h1 : IsiF K n R f) (h2 : IsiF K n R' g) : IsiF K n (rSum R R') (Sum.elim f g) := fun F H v x s r => by
  cases x with
  | inl a => exact h1 F H v a s r
  | inr b => exact h2 F H v b s r
theorem isi_optF {b : Bool} {f : α → Bool} (h0 : IsiF K n rNone (fun _ => b)) (h1 : IsiF K n R f) : IsiF K n (rOpt R) (fun o => o.elim b f) := fun F H v x s r => by
  cases x with
  | none => exact h0 F H v () s r
  | some a => exact h1 F H v a s r
end
/-! is, is not of truth values -/
theorem vl_isB : VL2 L2.rIsB rBool rBool rBool (fun a b => some (decide (a = b))) := fun F H O x y a b c W hx hy hf Q q => by
  cases hf; exact ⟨a, b, hx, hy, q _ F H (SameR _) W rfl⟩
theorem vl_notB : VL2 L2.rNotB rBool rBool rBool (fun a b => some (!decide (a = b))) := fun F H O x y a b c W hx hy hf Q q => by
  cases hf; exact ⟨a, b, hx, hy, q _ F H (SameR _) W rfl⟩
/-! try .. except C: return .. -/
def tryR {S Z Ω ρ : Type} (cat : List Str) (emb : ρ → Ω) (mb : S → Option ((Z × S) ⊕ (Str × S))) (mh : S → Option ρ) (f : Z → S → Option Ω) : S → Option Ω := fun s => (mb s).bind fun w => match w with
  | .inl p => f p.1 p.2
  | .inr q => if q.1 ∈ cat then (mh q.2).map emb else none
section
variable {S Z Ω ρ : Type} {A : Ow S} {σ : L2.St} {F : Hp} {P : Post Ω} {P' : Post ρ} {u : TS} {K : PySem.W.Frag}
theorem b_tryR {tb : WX → TS} {th : TS} {C : Str} {cat : List Str} {Sl : Z → Hp → L2.St → Prop} {Sx : Hp → L2.St → Prop} {Wout : WX} {mb : S → Option ((Z × S) ⊕ (Str × S))} {mh : S → Option ρ} {f : Z → S → Option Ω} {emb : ρ → Ω} (hP : ∀ w F O (D : Ends) mid, P.p (emb w) F O D → P'.p w F O { D with nx := mid }) (hcat : ∀ n ∈ cat, PySem.W.exmOne K (.ref (He.ga K n)) (.ref (He.ga K C)) = some true)
    (hb : ∀ W, B (tb W) σ F A (pTry K W A Sl Sx) mb) (hh : ∀ F' σ', Same F F' → Sx F' σ' → B th σ' F' A P' mh)
    (k : ∀ z F' σ', Same F F' → Sl z F' σ' → B u σ' F' A P (f z)) : B (Evl.tCut (fun D σ H => tb (L2.wOnly K (.ref (He.ga K C)) (fun _ _ _ => th) Wout D) D σ H) u) σ F A P (tryR cat emb mb mh f) := fun s r hm F1 H c O sm ho W1 D q => by
  unfold tryR at hm
  cases e0 : mb s with
  | none => rw [e0] at hm; cases hm
  | some w =>
    rw [e0] at hm
    cases w with
    | inl p =>
      refine ⟨fun σ' H' => ∃ F' c', Same F1 F' ∧ A.o F' p.2 c' ∧ Wd F' H' (c' ++ O) ∧ Sl p.1 F' σ', ?_, fun σ' H' ⟨F', c', s', o', W', sl⟩ => k p.1 F' σ' (sm.trans s') sl p.2 r hm F' H' c' O (SameR _) o' W' D (P.mono s' q)⟩
      exact hb _ s (.inl p) e0 F1 H c O sm ho W1 _ fun F3 H3 c3 σ3 s3 o3 W3 sl => ⟨F3, c3, s3, o3, W3, sl⟩
    | inr p =>
      obtain ⟨n, s3⟩ := p
      have hn : n ∈ cat := by
        by_cases hn : n ∈ cat
        · exact hn
        · simp [hn] at hm
      simp [hn] at hm
      obtain ⟨r', hr', rfl⟩ := hm
      refine ⟨fun _ _ => False, ?_, fun _ _ h => h.elim⟩
      refine hb _ s (.inr (n, s3)) e0 F1 H c O sm ho W1 _ ?_
      intro F3 H3 c3 σ3 sm3 o3 W3 sx
      refine ⟨true, hcat n hn, fun _ a na => ?_, fun q => nomatch q⟩
      exact hh F3 σ3 (sm.trans sm3) sx s3 r' hr' F3 H3 c3 O (SameR _) o3 W3 _ (P'.mono sm3 (hP _ _ _ _ _ q))
theorem hp_rt {β S0 : Type} {Y : Ow S0} {R : Rl β} : ∀ w F O (D : Ends) mid, (pRt Y R).p w F O D → (pRt Y R).p w F O { D with nx := mid } := fun _ _ _ _ _ h => h
theorem hp_fl {β S0 S1 : Type} {X : Ow S1} {Sl : Z → Hp → L2.St → Prop} {Y : Ow S0} {R : Rl β} : ∀ (w : β × S0) F O (D : Ends) mid, (pFl X Sl Y R).p (.rt w) F O D → (pRt Y R).p w F O { D with nx := mid } := fun _ _ _ _ _ h => h
end
end T

/-! T28: sets of whole numbers: set(xs) of a list, sorted(set). -/
namespace T
open PySem PySem.Spec PyProof.Rows L2
/-- an empty set, just made -/
abbrev set0 (w : World) : Obj := { cls := .type "set", dict := none, data := .set #[] 0 (.fresh 0 0 (!w.params.followText "set-order")) }
abbrev set0H (w : World) (h : Heap) : Heap := h.push (set0 w)
section
variable {P : Program} {w : World} {A : Around} {E : Value → Shared → Prop} {s : Shared}
set_option maxHeartbeats 3200000 in
theorem set_of_list {l : Addr} {us : Array Value} (ks : List Int) {Q : Value → Shared → Prop} (calm : A.handled = none) (hl : s.heap.IsList l us) (hu : IntsAre us.toList ks) (few : ks.length + 1 < scanBound)
    (k : ∀ (h' : Heap) (tk c : Nat), SetR w h' s.heap.objs.size (fun j => decide (j ∈ ks)) c → c ≤ ks.length → (∀ b o, s.heap.get? b = some o → h'.get? b = some o) → Q (.ref s.heap.objs.size) { s with heap := h', toks := tk }) :
    wpAny (model P w) A (call (.type "set") [.ref l]) Q E s := by
  have nU : us.size = ks.length := by simpa using IntsAre.length hu
  obtain ⟨cM, tM, eM⟩ := F.called_set.mro
  have ⟨m1, m2, m3, m4⟩ := (⟨F.called_set.made, F.called_set.sub, F.called_set.notType, F.called_set.canCreate⟩ : _ ∧ _ ∧ _ ∧ _)
  have m5 := F.typeCall_set_1 (.ref l)
  refine wpAny_call (codeAny_of_tree (show wpAny _ _ (callAny (.type "set") _) _ _ _ from ?_))
  refine wpAny_pure ⟨Code.quiet_builtin _ (by decide +kernel), codeAny_builtin F.entry_type_call ?_⟩
  rw [Around.under_plain (weight_type_call_type "set" [.ref l] []) rfl]
  repeat (any_goals (first | assumption | wp_step))
  let s0 : Shared := { s with heap := set0H w s.heap }
  refine codeAny_mono (code_set_led1 (.ref l) (E := E) (Q₁ := fun v s1 => v = .ref s.heap.objs.size ∧ s1 = { s with heap := set0H w s.heap }) ⟨rfl, rfl⟩) fun r s1 hr => ?_
  rcases r with e | fl
  · exact hr
  · cases fl with
    | ret v =>
      obtain ⟨rfl, rfl⟩ := hr
      have at0 : (set0H w s.heap).get? s.heap.objs.size = some (set0 w) := Heap.get?_push_size _ rfl
      have ty0 : Shared.TypeIs { s with heap := set0H w s.heap } (.ref s.heap.objs.size) "set" := ⟨_, at0, rfl⟩
      have i1 := F.called_set.init.lookup
      have i2 := F.called_set.init.bind (.ref s.heap.objs.size)
      repeat (any_goals (first | assumption | wp_step))
      refine codeAny_mono (codeAny_call_builtin (R := wants (fun r s2 => r = .none ∧ ∃ h' tk c, s2 = { s with heap := h', toks := tk } ∧ SetR w h' s.heap.objs.size (fun j => decide (j ∈ ks)) c ∧ c ≤ ks.length ∧ ∀ b o, s.heap.get? b = some o → h'.get? b = some o) E)
        F.called_set.init.plain F.entry_set_init (check_set_init_1 ty0 ?_)) fun r2 s2 hr2 => ?_
      · obtain ⟨⟨oc, od, oa, os⟩, hol, hc, nl, hd⟩ := hl
        simp only at hc hd
        subst hc hd
        have lt0 : @LT.lt Nat _ l s.heap.objs.size := Heap.lt_size hol
        have atL : (set0H w s.heap).get? l = some { cls := .type "list", dict := od, data := .seq us nl, slots := os } := Heap.get?_push_of_some _ hol
        have isL : (set0H w s.heap).IsList l us := ⟨_, atL, rfl, nl, rfl⟩
        have n1 := F.sub_list_set
        have n2 := F.sub_list_frozenset
        have n3 : (Value.type "list" == Value.type "dict") = false := by decide
        have sz : (set0H w s.heap).objs.size = s.heap.objs.size + 1 := Heap.size_push ..
        have calm3 : A.in1.in1.in1.handled = none := by simp [calm]
        unfold Builtin.«set.__init__» noKeywords Builtin.Frozenset.updateFrom
        generalize hPI : pyIter = PI
        wp_walk
        subst hPI
        refine wpAny_pyIter_list isL (wpAny_bind (wpAny_runValue ?_))
        have vals : ∀ (i : Nat) (v : Value), us[i]? = some v → ∃ z t, ks[i]? = some z ∧ v = .int z t := fun i v hv => by
          have hi : i < ks.length := nU ▸ (Array.getElem?_eq_some_iff.mp hv).1
          obtain ⟨t, e⟩ := PyProof.Rows.IntsAre.int_at hu i v (by rw [Array.getElem?_toList]; exact hv)
          exact ⟨ks[i], t, List.getElem?_eq_getElem hi, by rw [e, List.getD_eq_getElem?_getD, List.getElem?_eq_getElem hi]; rfl⟩
        have ne1 : l ≠ (set0H w s.heap).objs.size := fun e => by
          have e : @Eq Nat l (s.heap.objs.size + 1) := e.trans sz
          omega
        have out1 : s.heap.objs.size ∉ [(set0H w s.heap).objs.size, l] := by
          intro hm
          rcases List.mem_cons.mp hm with e | e
          · have e : @Eq Nat s.heap.objs.size (s.heap.objs.size + 1) := e.trans sz
            omega
          · have : @Eq Nat s.heap.objs.size l := List.mem_singleton.mp e
            omega
        refine set_update_ints ((Walks.list calm3 _ l ne1 us).toS) s.heap.objs.size out1 ks nU few vals (us.size - 0) 0 _ (by omega) (Nat.zero_le _) ⟨⟨_, Heap.get?_push_size _ rfl, rfl, rfl⟩, isL.push _⟩
          ⟨0, Nat.le_refl 0, setR_new_at (Heap.get?_push_of_some _ at0)⟩ ?_
        rintro ⟨h', g2, d', tk', os'⟩ c mv hc' hS'
        obtain rfl : g2 = s.gens := mv.gens
        obtain rfl : d' = s.drawn := mv.drawn
        obtain rfl : os' = s.os := mv.os
        refine (wpAny_pure ?_ : wpAny _ _ _ _ _ _)
        show wpAny _ _ (PySem.ret Value.none) _ _ _
        refine wpAny_pure ⟨rfl, h', tk', c, rfl, hS', nU ▸ hc', fun b o e => ?_⟩
        have ltb : @LT.lt Nat _ b s.heap.objs.size := Heap.lt_size e
        refine mv.heap b o (fun hm => ?_) (Heap.get?_push_of_some _ (Heap.get?_push_of_some _ e))
        rcases List.mem_cons.mp hm with z | z
        · have z : @Eq Nat b s.heap.objs.size := z
          omega
        · have z := List.mem_singleton.mp z
          have sz' : @Eq Nat (s.heap.objs.size + 1) b := sz.symm.trans z.symm
          omega
      · rcases r2 with e | f2
        · exact hr2
        · cases f2 with
          | ret r =>
            obtain ⟨rfl, h', tk, c, rfl, hS', hc', hk'⟩ := hr2
            repeat (any_goals (first | assumption | wp_step))
            exact k _ _ _ hS' hc' hk'
          | _ => exact hr2.elim
    | _ => exact hr.elim
end
end T

/-! T29: set(xs) and sorted(set) over the layer. -/
namespace T
open PySem PySem.Spec PyProof.Rows L2
section
variable {P : Program} {w : World} {A : Around} {E : Value → Shared → Prop} {s : Shared}
/-- the members of a set of whole numbers, sorted -/
theorem sorted_of_set {a : Addr} {S : Int → Bool} {n : Nat} {Q : Value → Shared → Prop} (R : SetR w s.heap a S n) (calm : A.handled = none)
    (k : ∀ s' p (out : Array Value) (c : Nat) (zs : List Int), (∀ b o, s.heap.get? b = some o → s'.heap.get? b = some o) → s'.gens = s.gens → s'.os = s.os → s.heap.objs.size ≤ p →
      s'.heap.get? p = some (seqObj "list" out c) → IntsAre out.toList zs → zs.Pairwise (· < ·) → (∀ z, z ∈ zs ↔ S z = true) → zs.length = n → Q (.ref p) s') :
    wpAny (model P w) A (call (.builtin "sorted") [.ref a]) Q E s := by
  obtain ⟨o, es, ep, t, at_, ex, da, good, nd, mem, few, fit, num, ris, led⟩ := R
  refine (Calls.call_function_entry kind_sorted plain_sorted entry_sorted (args_sorted1 _) (?_ : wpAny _ _ _ _ _ _))
  unfold Builtin.«sorted»
  refine (wpAny_bind (m := checkCount "sorted" 1 1 _) (wpAny_pure (wpAny_bind (collect_set (A := A.in1) calm ⟨o, at_, ex.1, da⟩ fit few ris led fun s1 us keep grow g1 o1 pm => ?_))))
  have nU : us.length = n := (pm.length_eq.trans (by rw [List.length_map, Array.length_toList])).trans num
  have small : us.length ≤ sizeLine := by rw [nU, sizeLine_eq, ← num]; unfold scanBound at few; omega
  have hI : IntsAre us (us.map SrtO.iv) := SrtO.ints_iv fun v hv => by
    obtain ⟨e, he, q⟩ := List.mem_map.mp (pm.mem_iff.mp hv)
    obtain ⟨z, tz, e1, _⟩ := good e he
    exact ⟨z, tz, q ▸ e1⟩
  have pk : (us.map SrtO.iv).Perm (es.toList.map keyOf) := by
    refine (pm.map SrtO.iv).trans (List.Perm.of_eq ?_)
    rw [List.map_map]
    refine List.map_congr_left fun e he => ?_
    obtain ⟨h, v⟩ := e
    cases v <;> rfl
  refine wpAny_bind (wpAny_newList ?_ small)
  have at1 : (s1.heap.push (seqObj "list" us.toArray 0)).get? s1.heap.objs.size = some (seqObj "list" us.toArray 0) := Heap.get?_push_size _ rfl
  have srt1 := SrtO.list_sort_ord (prog := P) (w := w) (A := A.in1.in1) (E := E) (s := { s1 with heap := s1.heap.push (seqObj "list" us.toArray 0) }) (n := 0) (R := fun f s' => ∃ v, f = .done (.ret v) ∧ ∃ out : List Value, v = .none ∧ SrtO.Srtd SrtO.ltIv out ∧ SrtO.Stb SrtO.ltIv out us ∧ s' = { s1 with heap := sortedHeap (s1.heap.push (seqObj "list" us.toArray 0)) s1.heap.objs.size us out.toArray })
    SrtO.swo_int at1 small (fun h2 => SrtO.ints_sortable hI h2) fun out a1 a2 => ⟨.none, rfl, out, rfl, a1, a2, rfl⟩
  refine wpAny_bind (wpAny_holding (wpAny_call_entry slot_list_sort ⟨_, at1, rfl⟩ entry_list_sort (wpAny_mono srt1 (fun f s' hf => ?_) (fun _ _ h => h)) (args_list_sort _)))
  obtain ⟨v, rfl, out, rfl, a1, a2, rfl⟩ := hf
  obtain ⟨b1, b2, b3⟩ := SrtO.ints_out hI a1 a2
  obtain ⟨c, hc⟩ := sortedHeap_at (vs := us) (out := out.toArray) at1
  have pn := b2.trans pk
  refine ⟨_, rfl, ?_⟩
  refine wpAny_pure ⟨_, rfl, k _ s1.heap.objs.size out.toArray c (out.map SrtO.iv) (fun b u e => ?_) g1 o1 grow hc (by simpa using b1) (lt_of_le_nodup _ b3 (pn.nodup_iff.mpr nd)) (fun z => by rw [pn.mem_iff, ← mem z]) (by rw [pn.length_eq, List.length_map, Array.length_toList]; exact num)⟩
  have lt1 := Heap.lt_size (keep b u e)
  exact (sortedHeap_old (Nat.ne_of_lt lt1) (by rw [size_push']; exact Nat.lt_succ_of_lt lt1)).trans (Heap.get?_push_of_some _ (keep b u e))
end
end T
namespace T
open PySem L2
/-! rising lists -/
def insI (x : Int) : List Int → List Int
  | [] => [x]
  | y :: ys => if x < y then x :: y :: ys else if x = y then y :: ys else y :: insI x ys
def srt : List Int → List Int
  | [] => []
  | x :: xs => insI x (srt xs)
theorem mem_insI {x z : Int} : ∀ {ys : List Int}, z ∈ insI x ys ↔ z = x ∨ z ∈ ys
  | [] => by simp [insI]
  | y :: ys => by
    unfold insI
    split
    · simp
    · split
      · next h => subst h; simp
      · rw [List.mem_cons, mem_insI, List.mem_cons]
        constructor
        · rintro (h | h | h)
          · exact Or.inr (Or.inl h)
          · exact Or.inl h
          · exact Or.inr (Or.inr h)
        · rintro (h | h | h)
          · exact Or.inr (Or.inl h)
          · exact Or.inl h
          · exact Or.inr (Or.inr h)
theorem insI_rises {x : Int} : ∀ {ys : List Int}, ys.Pairwise (· < ·) → (insI x ys).Pairwise (· < ·)
  | [], _ => by simp [insI]
  | y :: ys, h => by
    obtain ⟨h1, h2⟩ := List.pairwise_cons.mp h
    unfold insI
    split
    · next c =>
      refine List.pairwise_cons.mpr ⟨fun z hz => ?_, h⟩
      rcases List.mem_cons.mp hz with e | e
      · omega
      · have := h1 z e; omega
    · split
      · exact h
      · refine List.pairwise_cons.mpr ⟨fun z hz => ?_, insI_rises h2⟩
        rcases mem_insI.mp hz with e | e
        · omega
        · exact h1 z e
theorem mem_srt {z : Int} : ∀ {xs : List Int}, z ∈ srt xs ↔ z ∈ xs
  | [] => Iff.rfl
  | x :: xs => by rw [srt, mem_insI, mem_srt, List.mem_cons]
theorem srt_rises : ∀ xs : List Int, (srt xs).Pairwise (· < ·)
  | [] => List.Pairwise.nil
  | x :: xs => insI_rises (srt_rises xs)
theorem rises_same : ∀ {xs ys : List Int}, xs.Pairwise (· < ·) → ys.Pairwise (· < ·) → (∀ z, z ∈ xs ↔ z ∈ ys) → xs = ys
  | [], [], _, _, _ => rfl
  | [], y :: ys, _, _, h => by have := (h y).mpr List.mem_cons_self; cases this
  | x :: xs, [], _, _, h => by have := (h x).mp List.mem_cons_self; cases this
  | x :: xs, y :: ys, hx, hy, h => by
    obtain ⟨x1, x2⟩ := List.pairwise_cons.mp hx
    obtain ⟨y1, y2⟩ := List.pairwise_cons.mp hy
    have e : x = y := by
      rcases List.mem_cons.mp ((h x).mp List.mem_cons_self) with a | a
      · exact a
      · rcases List.mem_cons.mp ((h y).mpr List.mem_cons_self) with b | b
        · exact b.symm
        · have := y1 x a; have := x1 y b; omega
    subst e
    rw [rises_same x2 y2 fun z => ?_]
    constructor
    · intro hz
      rcases List.mem_cons.mp ((h z).mp (List.mem_cons_of_mem _ hz)) with a | a
      · have := x1 z hz; omega
      · exact a
    · intro hz
      rcases List.mem_cons.mp ((h z).mpr (List.mem_cons_of_mem _ hz)) with a | a
      · have := y1 z hz; omega
      · exact a
theorem srt_len : ∀ xs : List Int, (srt xs).length ≤ xs.length
  | [] => Nat.le_refl _
  | x :: xs => by
    have h : ∀ ys : List Int, (insI x ys).length ≤ ys.length + 1 := by
      intro ys
      induction ys with
      | nil => simp [insI]
      | cons y ys ih =>
        unfold insI
        split
        · simp
        · split
          · simp
          · simp only [List.length_cons]; omega
    have := h (srt xs)
    have := srt_len xs
    rw [srt, List.length_cons]; omega
/-! the calls -/
def rSetL (K : PySem.W.Frag) (w : World) : List V → Hp → VK → Prop := fun xs H Q => ∃ (a : Addr) (ks : List Int), xs = [.ref a] ∧ SqL K H a (ks.map V.int) ∧ ks.length < 4000 ∧ ∀ (p : Addr) (c : Nat), H p = none → c ≤ ks.length → Q (.ref p) (upd H p (SetO w p (fun j => decide (j ∈ ks)) c))
theorem cr_setL {X : Cx} (hc : X.calm = true) : CallR X (.type "set") (rSetL X.K X.w) := by
  intro pins s σ H xs us Q I r h
  obtain ⟨a, ks, rfl, hq, few, q⟩ := h
  rw [Vals.ref1 r]
  obtain ⟨its, rv, pl, _⟩ := I.list hq
  refine set_of_list ks (I.ok.hd hc) pl.isList (by simpa using ints_of_vals rv) (by unfold scanBound; omega) fun h' tk c R hcn k => ?_
  exact ⟨.ref _, upd H s.heap.objs.size (SetO X.w s.heap.objs.size (fun j => decide (j ∈ ks)) c), I.laid (t' := tk) k (Nat.le_refl _) (setO_new R), rfl, q _ _ (I.hok.fresh (Nat.le_refl _)) hcn⟩
def rSortedS (w : World) : List V → Hp → VK → Prop := fun xs H Q => ∃ (a : Addr) (S : Int → Bool) (n : Nat), xs = [.ref a] ∧ H a = some (SetO w a S n) ∧ n < 4000 ∧ ∀ (zs : List Int) (p : Addr), zs.Pairwise (· < ·) → (∀ z : Int, z ∈ zs ↔ S z = true) → zs.length = n → H p = none → Q (.ref p) (upd H p (.lst (zs.map V.int)))
open PySem.Spec PyProof.Rows in
theorem cr_sortedS {X : Cx} (hc : X.calm = true) : CallR X (.builtin "sorted") (rSortedS X.w) := by
  intro pins s σ H xs us Q I r h
  obtain ⟨a, S, n, rfl, at_, few, q⟩ := h
  rw [Vals.ref1 r]
  refine sorted_of_set (setO_get I at_) (I.ok.hd hc) fun s' p out c zs keep g1 o1 grow hp hz rs mem num => ?_
  have hl : (zs.map V.int).length ≤ sizeLine := by rw [List.length_map, num, sizeLine_eq]; omega
  have np : H p = none := I.hok.fresh grow
  have same : s' = { s with heap := s'.heap, gens := s'.gens, drawn := s'.drawn, toks := s'.toks } := by
    obtain ⟨a1, a2, a3, a4, a5⟩ := s'
    obtain ⟨b1, b2, b3, b4, b5⟩ := s
    cases o1; rfl
  rw [same]
  have J : Inv X pins σ (upd H p (.lst (zs.map V.int))) { s with heap := s'.heap, gens := s'.gens, drawn := s'.drawn, toks := s'.toks } := I.call (ch := []) (Un.laid keep grow np) (I.hok.laid keep grow ⟨hl, out.toList, c, vals_of_ints hz, hp⟩) (by rw [g1]; exact I.bare) (fun _ z => nomatch z)
  exact ⟨.ref p, _, J, rfl, q zs p rs mem num np⟩
section
variable {X : Cx} {K : PySem.W.Frag} {w : World}
theorem kc_setL (hc : X.calm = true) (e : X.K = K := by rfl) (e2 : X.w = w := by rfl) : CallR X (.type "set") (rSetL K w) := by subst e; subst e2; exact cr_setL hc
theorem kc_sortedS (hc : X.calm = true) (e2 : X.w = w := by rfl) : CallR X (.builtin "sorted") (rSortedS w) := by subst e2; exact cr_sortedS hc
theorem pr_ints {F : Hp} : ∀ {vs : List V} {a : List Int}, Paired (rInt.r F) vs a → vs = a.map V.int
  | _, _, .nil => rfl
  | _, _, .cons h t => by rw [show _ = V.int _ from h, pr_ints t]; rfl
/-- a set of whole numbers -/
def rSetI (w : World) : Rl (List Int) where
  r := fun F v xs => ∃ (p : Addr) (c : Nat), v = .ref p ∧ F p = some (SetO w p (fun j => decide (j ∈ xs)) c) ∧ c < 4000
  mono := fun s ⟨p, c, e, h, hc⟩ => ⟨p, c, e, s _ _ h, hc⟩
def setI64 (xs : List Int) : Option (List Int) := if xs.length < 4000 then some xs else none
theorem vl_setL : VLc (rSetL K w) (arOne (rLst rInt)) (rSetI w) setI64 := fun F H O xs a c W ⟨v, e, p, vs, ev, hp, rp⟩ hf Q q => by
  unfold setI64 at hf
  split at hf
  · next hl =>
    cases hf
    subst e ev
    have e2 : vs = a.map V.int := pr_ints rp
    refine ⟨p, a, rfl, SqL.of (by rw [← e2]; exact W.sub _ _ hp), hl, fun p2 k np hk => ?_⟩
    exact q _ _ _ (W.sameF np) (W.newF np) ⟨p2, k, rfl, upd_same, by omega⟩
  · cases hf
theorem vo_sortedS : VLo (rSortedS w) (arOne (rSetI w)) (oLst rInt) (fun xs => some (srt xs)) := fun F H O xs a c W ⟨v, e, p, n, ev, hp, hn⟩ hf Q q => by
  cases hf
  subst e ev
  refine ⟨p, _, n, rfl, W.sub _ _ hp, hn, fun ns p2 hs hm _ np => ?_⟩
  have e2 : ns = srt a := rises_same hs (srt_rises a) fun z => by rw [hm z, mem_srt, decide_eq_true_iff]
  subst e2
  refine q (.ref p2) F _ [(p2, .lst ((srt a).map V.int))] (SameR _) ⟨p2, _, rfl, rfl, ?_⟩ (W.newO np)
  generalize srt a = zs
  induction zs with
  | nil => exact .nil
  | cons z zs ih => exact .cons rfl ih
end
end T

/-! T30: e or d, e a tuple or None. -/
namespace T
open PySem L2
section
variable {X : Cx} {K : PySem.W.Frag} {a b : Expr} {rest : List Expr} {pos : Pos} {ta tb : TE}
theorem kpe_orT (e : X.K = K := by rfl) (ha : PE X a ta) (hb : PE X (.BoolOp .Or (b :: rest) pos) tb) : PE X (.BoolOp .Or (a :: b :: rest) pos) (tOrT K ta tb) := by subst e; exact pe_orT ha hb
end
section
variable {S α : Type} {K : PySem.W.Frag} {te tb : TE} {σ : L2.St} {F : Hp} {A : Ow S} {T : Ar α} {m : M S (Option α)} {m2 : M S α}
def orO (mb : M S α) (o : Option α) : M S α := match o with
  | some x => ret x
  | none => mb
theorem ev_orO (hn : ∀ F vs x, T.r F vs x → vs ≠ []) (h : Ev te σ F A (rOpt (rTh T)) m) (h' : Ev tb σ F A (rTh T) m2) : Ev (tOrT K te tb) σ F A (rTh T) (bnd m (orO m2)) := fun s b s' hm F1 H c O sm ho W Q q => by
  obtain ⟨a, s1, h1, hm⟩ := bnd_some hm
  refine h s a _ h1 F1 H c O sm ho W _ fun v F2 H2 c2 s2 o2 W2 r2 => ?_
  cases a with
  | none =>
    cases (show v = .non from r2)
    exact ⟨false, rfl, by
      rw [if_neg (by decide)]
      exact h' s1 b s' hm F2 H2 c2 O (sm.trans s2) o2 W2 Q fun v F3 H3 c3 s3 o3 W3 r3 => q v F3 H3 c3 (s2.trans s3) o3 W3 r3⟩
  | some x =>
    obtain ⟨rfl, rfl⟩ := ret_some hm
    obtain ⟨p, vs, rfl, hp, rp⟩ := id r2
    refine ⟨true, ?_, by rw [if_pos rfl]; exact q _ F2 H2 c2 s2 o2 W2 r2⟩
    refine .inr (.inl ⟨vs, SqT.of (W2.sub _ _ hp), ?_⟩)
    have := hn _ _ _ rp
    cases vs with
    | nil => exact absurd rfl this
    | cons v vs => rfl
end
end T

/-! T31: a comprehension over an owned list that its turns leave alone. -/
namespace T
open PySem L2
section
variable {S S' S0 T T' U α β : Type} {R : Rl α} {K : PySem.W.Frag} {σ : L2.St} {F : Hp} {A : Ow S} {A' : Ow S'} {te : TE} {tt : TT} {g : TG} {v : V} {j : Nat} {vs : List Nat} {T' : Rl β}
/-- a part is taken out, and put back -/
structure Lend (A : Ow S) (A' : Ow S') (B : Ow T) (gt : S → T) (π : S → S') (ρ : S → S' → S) : Prop where
  sp : ∀ {F : Hp} {s : S} {c : Ch}, A.o F s c → ∃ c1 c2, c.Perm (c1 ++ c2) ∧ B.o F (gt s) c1 ∧ A'.o F (π s) c2
  jn : ∀ {F : Hp} {s : S} {t : S'} {c1 c2 : Ch}, B.o F (gt s) c1 → A'.o F t c2 → ∃ c, A.o F (ρ s t) c ∧ c.Perm (c1 ++ c2)
theorem lend_r {A : Ow S} {B : Ow T} : Lend (star A B) A B (fun s => s.2) (fun s => s.1) (fun s t => (t, s.2)) := ⟨fun ⟨c1, c2, e, a, b⟩ => ⟨c2, c1, by rw [e]; exact List.perm_append_comm, b, a⟩, fun {F s t c1 c2} b a => ⟨c2 ++ c1, ⟨c2, c1, rfl, a, b⟩, List.perm_append_comm⟩⟩
theorem lend_l {B : Ow T} {C : Ow U} {gt : S → T} {π : S → S'} {ρ : S → S' → S} (h : Lend A A' B gt π ρ) : Lend (star A C) (star A' C) B (fun s => gt s.1) (fun s => (π s.1, s.2)) (fun s t => (ρ s.1 t.1, t.2)) := ⟨fun ⟨ca, cb, e, a, b⟩ => by
  obtain ⟨c1, c2, pm, hb, ha⟩ := h.sp a
  exact ⟨c1, c2 ++ cb, by rw [e, ← List.append_assoc]; exact pm.append_right cb, hb, c2, cb, rfl, ha, b⟩, fun {F s t c1 c2} b ⟨ca, cb, e, a, c⟩ => by
  obtain ⟨cc, h1, pm⟩ := h.jn (s := s.1) b a
  exact ⟨cc ++ cb, ⟨cc, cb, rfl, h1, c⟩, by rw [e, ← List.append_assoc]; exact pm.append_right cb⟩⟩
def lndL {S S' T Ω : Type} (gt : S → T) (π : S → S') (ρ : S → S' → S) (k : T → S' → Option (Ω × S')) : S → Option (Ω × S) := fun s => (k (gt s) (π s)).map fun p => (p.1, ρ s p.2)
theorem eo_lcL {gt : S → List α} {π : S → S'} {ρ : S → S' → S} {f : α → M S' (Option β)} (hv : σ[j]? = some (some v)) (h : Lend A A' (oLst R v) gt π ρ) (hb : ∀ v x F', Same F F' → R.r F' v x → Cb g tt te vs v (wipe σ vs) F' A' T' (f x)) :
    EvO (tLc (iList K (tVar j)) g tt te vs) σ F A (oLst T') (lndL gt π ρ fun xs => bnd (lft (chk xs)) fun xs => mpo f xs) := fun s ys s' hm F1 H c O sm ho W Q q => by
  obtain ⟨c1, c2, pm, ⟨l, ws, rfl, rfl, rp⟩, o2⟩ := h.sp ho
  have W2 : Wd F1 H (c2 ++ ((l, .lst ws) :: O)) := W.perm ((pm.append_right O).trans (by simpa using (perm_front (l, .lst ws) c2 O)))
  replace hm : Option.map (fun p => (p.1, ρ s p.2)) ((bnd (lft (chk (gt s))) fun xs => mpo f xs) (π s)) = some (ys, s') := hm
  cases hk : (bnd (lft (chk (gt s))) fun xs => mpo f xs) (π s) with
  | none => rw [hk] at hm; cases hm
  | some p =>
    rw [hk] at hm
    obtain ⟨zs0, t0⟩ := p
    cases hm
    obtain ⟨xs, s1', h2, hm2⟩ := bnd_some hk
    obtain ⟨h2', rfl⟩ := lft_some h2
    obtain ⟨rfl, hlen⟩ := chk_some h2'
    have hx := paired_len rp
    have inO : ∀ (F3 H3 : Hp) (C : Ch), Wd F3 H3 (C ++ ((l, .lst ws) :: O)) → SqL K H3 l ws := fun F3 H3 C W3 => SqL.of (W3.own (l, .lst ws) (by simp)).1
    refine ⟨_, hv, l, rfl, ⟨ws, inO F1 H c2 W2⟩, fun D hD => ?_⟩
    refine lc_it (hx ▸ walk_list (K := K) (a := l) (xs := ws)) (fun i H3 => ∃ zs us t F3 c3 vs3, Same F1 F3 ∧ A'.o F3 t c3 ∧ Wd F3 H3 ((D, .lst vs3) :: (c3 ++ ((l, .lst ws) :: O))) ∧ Paired (T'.r F3) vs3 zs ∧ mpo f ((gt s).drop i) t = some (us, t0) ∧ zs0 = zs ++ us ∧ zs.length ≤ i) ?_ ?_ ?_ ?_
    · exact ⟨[], zs0, π s, F1, c2, [], SameR _, o2, W2.newO hD, .nil, hm2, rfl, Nat.le_refl _⟩
    · rintro i H3 _ ⟨zs, us, t, F3, c3, vs3, s3, o3, W3, _⟩
      exact inO F3 H3 ((D, .lst vs3) :: c3) W3
    · rintro i x H3 H4 hi ⟨zs, us, t, F3, c3, vs3, s3, o3, W3, rpz, hmp, rfl, hzl⟩ y
      obtain ⟨rfl, e⟩ := y
      obtain ⟨a, ha, ra⟩ := paired_get rp e
      have hd : (gt s).drop i = a :: (gt s).drop (i + 1) := by
        rw [List.drop_eq_getElem_cons hi]; congr 1; exact (List.getElem?_eq_some_iff.mp ha).2
      rw [hd] at hmp
      obtain ⟨o, t1, e1, hmp⟩ := bnd_some hmp
      obtain ⟨us', t2, e2, hmp⟩ := bnd_some hmp
      obtain ⟨rfl, rfl⟩ := ret_some hmp
      refine hb x a F3 (sm.trans s3) (R.mono s3 ra) t o t1 e1 F3 _ c3 ((D, .lst vs3) :: ((l, .lst ws) :: O)) (SameR _) o3 (W3.perm (perm_front _ _ _)) _ _ fun F5 H5 c5 s5 o5 W5 => ?_
      have W6 := W5.perm (perm_front _ _ _).symm
      cases o with
      | none => exact ⟨zs, us', t1, F5, c5, vs3, s3.trans s5, o5, W6, paired_mono (fun _ _ => T'.mono s5) rpz, e2, rfl, by omega⟩
      | some b =>
        refine fun u ru => ⟨vs3, W6.hd, ?_, zs ++ [b], us', t1, F5, c5, vs3 ++ [u], s3.trans s5, o5, W6.set, (paired_mono (fun _ _ => T'.mono s5) rpz).snoc ru, e2, by simp, by simp; omega⟩
        rw [paired_len rpz]; exact lim_le (by omega)
    · rintro H3 ⟨zs, us, t, F3, c3, vs3, s3, o3, W3, rpz, hmp, rfl, hzl⟩
      rw [List.drop_of_length_le (Nat.le_refl _)] at hmp
      obtain ⟨rfl, rfl⟩ := ret_some hmp
      obtain ⟨cc, oc, pc⟩ := h.jn (s := s) (F := F3) (c1 := [(l, .lst ws)]) (c2 := c3) ⟨l, ws, rfl, rfl, paired_mono (fun _ _ => R.mono s3) rp⟩ o3
      refine q (.ref D) F3 H3 cc [(D, .lst vs3)] s3 oc ⟨D, vs3, rfl, rfl, by simpa using rpz⟩ (W3.perm ?_)
      refine List.Perm.cons _ ?_
      exact ((perm_front (l, .lst ws) c3 O).symm).trans (by simpa using (pc.append_right O).symm)
theorem eo_lcLA {gt : S → List α} {π : S → S'} {ρ : S → S' → S} {f : α → M S' β} (hv : σ[j]? = some (some v)) (h : Lend A A' (oLst R v) gt π ρ) (hb : ∀ v x F', Same F F' → R.r F' v x → Cb g tYes te vs v (wipe σ vs) F' A' T' (bnd (f x) fun y => ret (some y))) :
    EvO (tLc (iList K (tVar j)) g tYes te vs) σ F A (oLst T') (lndL gt π ρ fun xs => bnd (lft (chk xs)) fun xs => mp f xs) := by
  have h := eo_lcL (K := K) hv h hb
  rw [show (fun xs => bnd (lft (chk xs)) fun xs => mp f xs) = (fun xs : List α => bnd (lft (S := S') (chk xs)) fun xs => mpo (fun x => bnd (f x) fun y => ret (some y)) xs) from by funext xs; congr 1; funext ys; exact mp_eq f ys]
  exact h
theorem tot_lndL {Ω : Type} {gt : S → T} {π : S → S'} {ρ : S → S' → S} {k : T → S' → Option (Ω × S')} {s : S} {Q : Ω × S → Prop} : Tot (lndL gt π ρ k) s Q ↔ Tot (k (gt s)) (π s) (fun p => Q (p.1, ρ s p.2)) := by
  unfold Tot lndL
  constructor
  · rintro ⟨w, e, q⟩
    cases h : k (gt s) (π s) with
    | none => rw [h] at e; cases e
    | some p => rw [h] at e; cases e; exact ⟨p, rfl, q⟩
  · rintro ⟨p, h, q⟩; exact ⟨_, by rw [h]; rfl, q⟩
end
end T

/-! T32: displays of one pair. -/
namespace T
open PySem L2 PySem.Spec PyProof.Rows
/-- {k: v}, k a tuple -/
def tDisp1N (w : World) (tk tv : TE) : TE := fun σ H Q => ∀ p, H p = none → tk σ (upd H p (.ext (DRaw w p []))) fun x H1 => tv σ H1 fun y H2 => ∃ b k, x = .ref b ∧ KIs H2 k (.ref b) ∧ k.depth ≤ 8 ∧ H2 p = some (.ext (DRaw w p [])) ∧ ∀ u, RelV y u → Q (.ref p) (upd H2 p (.ext (DRaw w p [(k, b, u)])))
theorem pe_disp1N {X : Cx} {k v : Expr} {tk tv : TE} {pos : Pos} (hu : X.A.units + 64 < cLine) (hk : PE X k tk) (hv : PE X v tv) : PE X (.Dict [some k] [v] pos) (tDisp1N X.w tk tv) := by
  refine ⟨fun pins s σ H Q I q => ?_⟩
  have I1 := I.laid (a := s.heap.objs.size) (o := .ext (DRaw X.w s.heap.objs.size [])) (h' := s.heap.push { cls := .type "dict", data := .dict #[] }) (t' := s.toks) (fun _ _ q => Heap.get?_push_of_some _ q) (Nat.le_refl _)
    (DRaw.ok ⟨beq_eq_false_iff_ne.mpr (Ne.symm (Nat.ne_of_lt I.big)), Nat.zero_le _, _, #[], 0, Heap.get?_push_size _ rfl, ⟨rfl, rfl, rfl⟩, rfl, rfl, List.nodup_nil⟩)
  have q1 := q s.heap.objs.size (I.hok.fresh (Nat.le_refl _))
  rw [arm_eval_Dict, show (evalEachOpt [some k] X.env).zip ((evalEach [v] X.env).map fun (y : Sem Value) => (do let x ← y; standAt pos; pure x : Sem Value)) = [(eval k X.env, (do let x ← eval v X.env; standAt pos; pure x : Sem Value))].map (fun p => (some p.1, p.2)) from rfl, dictDisplay_pairs [(eval k X.env, (do let x ← eval v X.env; standAt pos; pure x : Sem Value))] (by simp) (by simp)]
  refine wpAny_bind (wpAny_standAt (wpAny_bind (wpAny_subDictH (knd := nestedKind X.prog X.w) (show X.A.units + 8 < cLine by omega) (by simp) ?_)))
  have pp := (pps_cons (X := X) (pos := pos) hk hv pps_nil).run pins { s with heap := s.heap.push { cls := .type "dict", data := .dict #[] } } σ (upd H s.heap.objs.size (.ext (DRaw X.w s.heap.objs.size [])))
    (fun ps H2 => match ps with
      | [(x, y)] => ∃ b kk, x = .ref b ∧ KIs H2 kk (.ref b) ∧ kk.depth ≤ 8 ∧ H2 s.heap.objs.size = some (.ext (DRaw X.w s.heap.objs.size [])) ∧ ∀ u, RelV y u → Q (.ref s.heap.objs.size) (upd H2 s.heap.objs.size (.ext (DRaw X.w s.heap.objs.size [(kk, b, u)])))
      | _ => False) I1 q1
  refine wpAny_mono pp (fun vs s1 ⟨ps, H1, I2, rel, hq⟩ => ?_) (fun _ _ h => h)
  match ps, rel, hq with
  | [(x, y)], .cons (b := (xv, u)) ⟨rx, ru⟩ .nil, ⟨b, kk, e1, hk1, hd1, hat, hq⟩ =>
    subst e1
    cases (show xv = Value.ref b from rx)
    have hE : DEl H1 X.w s.heap.objs.size [] := ⟨hat, fun q hq => nomatch hq⟩
    obtain ⟨a1, a2, a3⟩ := hE.of I2
    refine ⟨[(kk, b, u)], ⟨rfl, rfl, hk1.key I2 hd1, trivial⟩, a3, fun h' tk hm hs => wpAny_pure ⟨.ref s.heap.objs.size, _, ?_, rfl, hq u ru⟩⟩
    obtain ⟨o, es, ep, e1, e2, e3, e4, e5, e6⟩ := hm
    exact d_write I2 (by rw [hat]; trivial) hs ⟨o, e1⟩ (DRaw.ok ⟨a1, by show 1 ≤ _; rw [sizeLine_eq]; decide, o, es, ep, e1, e2, e3, e4, e6⟩)
theorem kpe_disp1N {X : Cx} {w : World} {k v : Expr} {tk tv : TE} {pos : Pos} (hu : X.A.units + 64 < cLine) (hk : PE X k tk) (hv : PE X v tv) (e : X.w = w := by rfl) : PE X (.Dict [some k] [v] pos) (tDisp1N w tk tv) := by subst e; exact pe_disp1N hu hk hv
section
variable {S α β : Type} [DecidableEq α] {k : α → NestedKey} {R : Rl α} {V' : Rl β} {w : World} {σ : L2.St} {F : Hp} {A : Ow S} {tk tv : TE} {m : M S α} {mv : M S β}
theorem eo_disp1N (kt : KeyT R k) (he : Ev tk σ F A R m) (hv : Ev tv σ F A V' mv) : EvO (tDisp1N w tk tv) σ F A (oDic w k V') (bnd m fun x => bnd mv fun y => ret [(x, y)]) := fun s b s' hm F1 H c O sm ho W Q q p np => by
  obtain ⟨x, s1, h1, hm⟩ := bnd_some hm
  obtain ⟨y, s2, h2, hm⟩ := bnd_some hm
  obtain ⟨rfl, rfl⟩ := ret_some hm
  have W0 : Wd F1 (upd H p (.ext (DRaw w p []))) (c ++ ((p, .ext (DRaw w p [])) :: O)) := (W.newO np).perm (perm_front _ _ _)
  refine he s x s1 h1 F1 _ c _ sm ho W0 _ fun vx F2 H2 c2 sm2 o2 W2 r2 => ?_
  refine hv s1 y _ h2 F2 H2 c2 _ (sm.trans sm2) o2 W2 _ fun vy F3 H3 c3 sm3 o3 W3 r3 => ?_
  obtain ⟨b', rfl, hb, hd⟩ := kt.ref (R.mono sm3 r2)
  have W4 := W3.perm (perm_front (p, .ext (DRaw w p [])) c3 O).symm
  refine ⟨b', k x, rfl, hb.mono W3.sub, hd, W4.hd, fun u ru => ?_⟩
  exact q (.ref p) F3 _ c3 [(p, .ext (DRaw w p [(k x, b', u)]))] (sm2.trans sm3) o3 ⟨p, _, rfl, rfl, .cons ⟨rfl, hb, hd, vy, r3, ru⟩ .nil⟩ W4.set
end
end T

/-! T33: places of tuples and lists that may be one of several. -/
namespace T
open PySem L2
section
variable {S α β γ δ : Type} {K : PySem.W.Frag} {R : Rl α} {R' : Rl β} {U : Rl γ} {U' : Rl δ} {i : Int}
def PrjT (K : PySem.W.Frag) (R : Rl α) (i : Int) (R' : Rl β) (f : α → Option β) : Prop := ∀ F H v x y, Same F H → R.r F v x → f x = some y → ∃ p xs w, v = .ref p ∧ SqT K H p xs ∧ atI xs i = some w ∧ R'.r F w y
def PrjL (K : PySem.W.Frag) (R : Rl α) (i : Int) (R' : Rl β) (f : α → Option β) : Prop := ∀ F H v x y, Same F H → R.r F v x → f x = some y → ∃ p xs w, v = .ref p ∧ SqL K H p xs ∧ atI xs i = some w ∧ R'.r F w y
theorem pt_th {X : Ar α} {n : Nat} {f : α → β} (h : Prj X n R' f) (hi : i = (n : Int) := by rfl) : PrjT K (rTh X) i R' (fun x => some (f x)) := fun F H v x y s ⟨p, vs, e, hp, r⟩ hf => by
  cases hf
  obtain ⟨w, e1, r1⟩ := h.at_ r
  exact ⟨p, vs, w, e, SqT.of (s _ _ hp), by rw [hi]; exact atI_ofNat e1, r1⟩
theorem pl_lh {X : Ar α} {n : Nat} {f : α → β} (h : Prj X n R' f) (hi : i = (n : Int) := by rfl) : PrjL K (rLh X) i R' (fun x => some (f x)) := fun F H v x y s ⟨p, vs, e, hp, r⟩ hf => by
  cases hf
  obtain ⟨w, e1, r1⟩ := h.at_ r
  exact ⟨p, vs, w, e, SqL.of (s _ _ hp), by rw [hi]; exact atI_ofNat e1, r1⟩
theorem pt_sum {f : α → Option γ} {g : β → Option γ} (h : PrjT K R i U f) (h' : PrjT K R' i U g) : PrjT K (rSum R R') i U (Sum.elim f g) := fun F H v x y s r hf => match x, r, hf with
  | .inl a, r, hf => h F H v a y s r hf
  | .inr b, r, hf => h' F H v b y s r hf
theorem pl_sum {f : α → Option γ} {g : β → Option γ} (h : PrjL K R i U f) (h' : PrjL K R' i U g) : PrjL K (rSum R R') i U (Sum.elim f g) := fun F H v x y s r hf => match x, r, hf with
  | .inl a, r, hf => h F H v a y s r hf
  | .inr b, r, hf => h' F H v b y s r hf
theorem pt_l {f : α → Option γ} (h : PrjT K R i U f) : PrjT K R i (rSum U U') (fun x => (f x).map Sum.inl) := fun F H v x y s r hf => by
  obtain ⟨z, hz, rfl⟩ := Option.map_eq_some_iff.mp hf
  exact h F H v x z s r hz
theorem pt_r {f : α → Option δ} (h : PrjT K R i U' f) : PrjT K R i (rSum U U') (fun x => (f x).map Sum.inr) := fun F H v x y s r hf => by
  obtain ⟨z, hz, rfl⟩ := Option.map_eq_some_iff.mp hf
  exact h F H v x z s r hz
theorem pl_l {f : α → Option γ} (h : PrjL K R i U f) : PrjL K R i (rSum U U') (fun x => (f x).map Sum.inl) := fun F H v x y s r hf => by
  obtain ⟨z, hz, rfl⟩ := Option.map_eq_some_iff.mp hf
  exact h F H v x z s r hz
theorem pl_r {f : α → Option δ} (h : PrjL K R i U' f) : PrjL K R i (rSum U U') (fun x => (f x).map Sum.inr) := fun F H v x y s r hf => by
  obtain ⟨z, hz, rfl⟩ := Option.map_eq_some_iff.mp hf
  exact h F H v x z s r hz
theorem pt_never : PrjT K R i U (fun _ => none) := fun F H v x y s r hf => by cases hf
theorem pl_never : PrjL K R i U (fun _ => none) := fun F H v x y s r hf => by cases hf
variable {te : TE} {σ : L2.St} {F : Hp} {A : Ow S} {m : M S α}
theorem ev_pt {f : α → Option γ} (h : PrjT K R i U f) (he : Ev te σ F A R m) : Ev (tOp (rIxT K) te (tC (.int i))) σ F A U (bnd m fun x => lft (f x)) := fun s b s' hm F1 H c O sm ho W Q q => by
  obtain ⟨x, s1, h1, hm⟩ := bnd_some hm
  obtain ⟨h2, rfl⟩ := lft_some hm
  refine he s x s' h1 F1 H c O sm ho W _ fun v F2 H2 c2 s2 o2 W2 r2 => ?_
  obtain ⟨p, xs, w, e, hp, hi, rw_⟩ := h F2 H2 v x b W2.sub r2 h2
  exact ⟨p, xs, _, w, e, rfl, hp, hi, q w F2 H2 c2 s2 o2 W2 rw_⟩
theorem ev_pl {f : α → Option γ} (h : PrjL K R i U f) (he : Ev te σ F A R m) : Ev (tOp (rIxL K) te (tC (.int i))) σ F A U (bnd m fun x => lft (f x)) := fun s b s' hm F1 H c O sm ho W Q q => by
  obtain ⟨x, s1, h1, hm⟩ := bnd_some hm
  obtain ⟨h2, rfl⟩ := lft_some hm
  refine he s x s' h1 F1 H c O sm ho W _ fun v F2 H2 c2 s2 o2 W2 r2 => ?_
  obtain ⟨p, xs, w, e, hp, hi, rw_⟩ := h F2 H2 v x b W2.sub r2 h2
  exact ⟨p, xs, _, w, e, rfl, hp, hi, q w F2 H2 c2 s2 o2 W2 rw_⟩
end
theorem vl_isNoneI : VL2 (fun x y H Q => y = .non ∧ Q (.bl (decide (x = .non))) H) rInt rNone rBool (fun a _ => some ((fun _ => false) a)) := fun F H O x y a b c W hx hy hf Q q => by
  cases hf
  refine ⟨hy, q _ F H (SameR _) W ?_⟩
  rw [show x = .int a from hx]; rfl
theorem vl_notNoneI : VL2 (fun x y H Q => y = .non ∧ Q (.bl (!decide (x = .non))) H) rInt rNone rBool (fun a _ => some ((fun _ => true) a)) := fun F H O x y a b c W hx hy hf Q q => by
  cases hf
  refine ⟨hy, q _ F H (SameR _) W ?_⟩
  rw [show x = .int a from hx]; rfl
end T

/-! T34: a tuple none times. -/
namespace T
open PySem L2 PySem.Spec PyProof.Rows
theorem tuple_mul0 (l : Addr) (items : Array Value) (n : Nat) (dd : Option Addr) (sl : Array (Option Value)) (x : Int) (u : Tok) (c0 : (decide (x < -(2 ^ 63)) || decide (x ≥ 2 ^ 63)) = false) (c1 : (items.isEmpty || x == 1) = false) (c2 : (decide (x ≤ 0) || items.isEmpty) = true) :
    Meets (Builtin.«tuple.__mul__» ⟨[.ref l, .int x u], []⟩) (fun _ R s => s.heap.get? l = some { cls := .type "tuple", dict := dd, data := .seq items n, slots := sl } ∧
      R (.ok (.ret (Value.ref s.heap.objs.size))) { s with heap := s.heap.push { cls := Value.type "tuple", data := Data.seq #[] }, toks := s.toks }) :=
  .of_wp fun prog w A R s h => by
    obtain ⟨hp, g, d, tk, os⟩ := s
    obtain ⟨hl, h⟩ := h
    have f1 := AutoSeq1.idx_int
    wp_walk using wpAny_loadPart' hl
    repeat (first
      | (refine wpAny_ite_false (decide_eq_false (by rw [c0]; exact Bool.false_ne_true)) ?_; wp_walk using wpAny_loadPart' hl)
      | (refine wpAny_ite_false (decide_eq_false (by rw [c1]; exact Bool.false_ne_true)) ?_; wp_walk using wpAny_loadPart' hl)
      | (refine wpAny_ite_true (decide_eq_true c2) ?_; wp_walk using wpAny_loadPart' hl))
    exact ⟨_, rfl, h⟩
def rRepT0 (K : PySem.W.Frag) : R2 := fun x y H Q => ∃ l xs, x = .ref l ∧ y = .int 0 ∧ SqT K H l xs ∧ xs ≠ [] ∧ ∀ p, H p = none → Q (.ref p) (upd H p (.tup []))
theorem op_repT0 {X : Cx} : OpR X (binaryOp .Mult) (rRepT0 X.K) := by
  intro pins s σ H x y v u Q I rx ry h
  obtain ⟨l, xs, rfl, rfl, hT, hne, q⟩ := h
  cases rx
  obtain ⟨t, rfl⟩ := ry
  obtain ⟨its, r, ⟨⟨cls, dd, data, sl⟩, ho, hc, n, hd⟩, hs⟩ := I.tuple hT
  simp only at hc hd
  subst hc hd
  have hle : its.length = xs.length := r.length.symm
  have hn : its ≠ [] := fun e => hne (by
    rw [e] at hle
    exact List.eq_nil_of_length_eq_zero hle.symm)
  have hi : its.toArray.isEmpty = false := by
    cases its with
    | nil => exact absurd rfl hn
    | cons a b => rfl
  have c1 : (its.toArray.isEmpty || (0 : Int) == 1) = false := by rw [hi]; rfl
  have c2 : (decide ((0 : Int) ≤ 0) || its.toArray.isEmpty) = true := by rw [hi]; rfl
  refine wpAny_binaryOp_repeat_ref (T := "tuple") (U := "int") (by decide) ⟨_, ho, rfl⟩ (fun s' => typeIs_int s' 0 t) noFill_tuple_mul F.fills_int_mul F.slot_int_rmul repeat_tuple F.slot_int_index.lookup
    (call_meets F.slot_int_rmul (typeIs_int s 0 t) F.entry_int_rmul (F.args_int_rmul_2 _ _) (int_rmul_tuple 0 t l its.toArray n dd sl)
      ⟨ho, rfl, ⟨_, ho, rfl⟩, call_meets F.slot_tuple_mul ⟨_, ho, rfl⟩ F.entry_tuple_mul (F.args_tuple_mul_2 _ _) (tuple_mul0 l its.toArray n dd sl 0 t (by decide) c1 c2) ⟨ho, ?_⟩⟩)
  refine ⟨.ref s.heap.objs.size, _, I.laid (t' := s.toks) (o := .tup []) (fun b ob q => Heap.get?_push_of_some _ q) (Nat.le_refl _) ?_, rfl, q _ (I.hok.fresh (Nat.le_refl _))⟩
  exact ⟨by simp [sizeLine_eq], [], .nil, IsTup.new _ _⟩
def rRepTN (K : PySem.W.Frag) : R2 := fun x y H Q => rRepT0 K x y H Q ∨ rRepTT K x y H Q
theorem kop_repTN {X : Cx} {K : PySem.W.Frag} (e : X.K = K := by rfl) : OpR X (binaryOp .Mult) (rRepTN K) := by subst e; exact op_repT0.or (op_repT1.or op_repT)
def repTN {α : Type} (xs : List α) (k : Int) : Option (List α) := match xs with
  | [] => none
  | x :: ys => if 0 ≤ k ∧ k < 1000 ∧ (x :: ys).length < 1000 then some (List.replicate k.toNat (x :: ys)).flatten else none
theorem vl_repTN {α : Type} {R : Rl α} {K : PySem.W.Frag} : VL2 (rRepTN K) (rTup R) rInt (rTup R) repTN := fun F H O x y a b c W hx hy hf Q q => by
  cases a with
  | nil => cases hf
  | cons x0 ys =>
    by_cases h0 : b = 0
    · subst h0
      obtain ⟨p1, vs, ex, hp, rp⟩ := hx
      simp only [repTN] at hf
      split at hf
      · cases hf
        have hne : vs ≠ [] := fun e => by subst e; cases rp
        refine .inl ⟨p1, vs, ex, hy, SqT.of (W.sub _ _ hp), hne, fun p np => ?_⟩
        exact q _ _ _ (W.sameF np) (W.newF np) ⟨p, [], rfl, upd_same, .nil⟩
      · cases hf
    · refine .inr (vl_repT F H O x y (x0 :: ys) b c W hx hy ?_ Q q)
      simp only [repTN] at hf
      split at hf
      · rename_i h
        simp only [repT]
        rw [if_pos ⟨by omega, h.2⟩]; exact hf
      · cases hf
end T

/-! T35: list.extend of an owned list by a list. -/
namespace T
open PySem L2 PySem.Spec PyProof.Rows
section
variable {S α Ω T' : Type} {K : PySem.W.Frag} {R : Rl α} {te : TE} {u : TS} {σ : L2.St} {F : Hp} {A : Ow S} {m : M S (List α)} {j : Nat} {v : V} {g : S → List α} {p : S → List α → S} {P : Post Ω}
theorem b_ext {f : S → Option Ω} (hv : σ[j]? = some (some v)) (e : Emb A (oLst R v) g p) (he : Ev te σ F A (rLst R) m) (k : B u σ F A P f) : B (tSeq (tDrop (tBM K "list" rExtend (tVar j) (tCons te tNil))) u) σ F A P (bnd m fun x => bnd (upL g p fun xs => catL xs x) fun _ => f) := fun s w hm F1 H c O sm ho W D q => by
  obtain ⟨x, s1, h1, hm⟩ := bnd_some hm
  obtain ⟨_, s2, h2, hm⟩ := bnd_some hm
  obtain ⟨xs, h2a, rfl⟩ := upL_some h2
  obtain ⟨rfl, hl⟩ := catL_some h2a
  refine ⟨v, hv, ?_⟩
  obtain ⟨l0, vs0, c0, e0, _, W0, _⟩ := emb_list e ho W
  refine ⟨by rw [e0]; exact Or.inl ⟨rfl, vs0, SqL.of W0.hd⟩, ?_⟩
  refine he s x s1 h1 F1 H c O sm ho W _ fun y F2 H2 c2 sm2 o2 W2 r2 => ?_
  obtain ⟨pb, zs, rfl, hb, rz⟩ := r2
  have hb2 := W2.sub _ _ hb
  obtain ⟨l, vs, c3, rfl, rp, W3, kk⟩ := emb_list e o2 W2
  refine ⟨l, pb, vs, zs, rfl, rfl, W3.hd, hb2, by rw [paired_len rp, paired_len rz, sizeLine_eq]; have : (1000000 : Nat) = lim := rfl; omega, ?_⟩
  obtain ⟨c4, o4, W4⟩ := kk F2 _ (vs ++ zs) (SameR _) (paired_app rp rz) _ W3.set
  exact k _ w hm F2 _ c4 O (sm.trans sm2) o4 W4 D (P.mono sm2 q)
end
end T

/-! T36: a tuple turned about: t[::-1]. -/
namespace HT
open PySem PySem.Spec PyProof.Rows L2
theorem pick_rev (its : List Value) : ((List.range its.length).filterMap fun (k : Nat) => its.toArray[((its.length : Int) - 1 + (k : Int) * (-1)).toNat]?) = its.reverse := by
  have e : ∀ k ∈ List.range its.length, its.toArray[((its.length : Int) - 1 + (k : Int) * (-1)).toNat]? = its.reverse[k]? := fun k hk => by
    have hl := List.mem_range.mp hk
    rw [List.getElem?_toArray, List.getElem?_reverse hl]
    congr 1; omega
  have e2 : ∀ (n : Nat) (ys : List Value), n ≤ ys.length → ((List.range n).filterMap fun k => ys[k]?) = ys.take n := by
    intro n ys
    induction n with
    | zero => intro _; simp
    | succ n ih =>
      intro h
      rw [List.range_succ, List.filterMap_append, ih (by omega)]
      have : ys[n]? = some ys[n] := List.getElem?_eq_getElem (by omega)
      rw [List.take_add_one, this, List.filterMap_cons, this]
      rfl
  have e3 : ∀ (xs : List Nat) (f g : Nat → Option Value), (∀ k ∈ xs, f k = g k) → xs.filterMap f = xs.filterMap g := by
    intro xs f g h
    induction xs with
    | nil => rfl
    | cons x xs ih => rw [List.filterMap_cons, List.filterMap_cons, h x (by simp), ih fun k hk => h k (List.mem_cons_of_mem _ hk)]
  rw [e3 _ _ _ e, e2 _ _ (by simp)]
  rw [List.take_of_length_le (by simp)]
theorem sliceApplied_rev {M : Model} {A : Around} {E : Value → Shared → Prop} {prog : Program} {w : World} {s : Shared} {sl : Addr} {t : Tok} {n : Nat} {Q : Int × Int × Nat → Shared → Prop} (hs : s.heap.IsSliceOf sl .none .none (.int (-1) t))
    (h : Q ((n : Int) - 1, -1, n) s) : wpAny (model prog w) A (Builtin.Slice.sliceApplied (.ref sl) (pure (n : Int))) Q E s := by
  obtain ⟨os, hos, hcs, hds⟩ := id hs
  unfold Builtin.Slice.sliceApplied Builtin.Slice.sliceFields
  refine wpAny_bind (wpAny_bind (wpAny_field hos hds (x := .none) rfl (wpAny_bind (wpAny_field hos hds (x := .none) rfl (wpAny_bind (wpAny_field hos hds (x := .int (-1) t) rfl (wpAny_pure ?_)))))))
  refine wpAny_bind (slicePart_int ?_)
  show wpAny _ _ (if ((-1 : Int) == 0) = true then _ else _) _ _ s
  rw [if_neg (by decide)]
  refine wpAny_bind (slicePart_none (wpAny_bind (slicePart_none (wpAny_bind (wpAny_pure ?_)))))
  have e : Builtin.Slice.sliceAdjust none none (-1) (n : Int) = ((n : Int) - 1, -1) := by
    unfold Builtin.Slice.sliceAdjust; rfl
  show wpAny _ _ (match Builtin.Slice.sliceAdjust none none (-1) (n : Int) with | (lo, hi) => pure (lo, (-1 : Int), Builtin.Slice.slicePlaces lo hi (-1))) _ _ s
  rw [e]
  have e2 : Builtin.Slice.slicePlaces ((n : Int) - 1) (-1) (-1) = n := by
    unfold Builtin.Slice.slicePlaces
    rw [if_neg (by decide)]
    split
    · rw [show (-(-1 : Int)) = 1 by rfl, Int.ediv_one]; omega
    · omega
  show wpAny _ _ (pure ((n : Int) - 1, (-1 : Int), Builtin.Slice.slicePlaces ((n : Int) - 1) (-1) (-1))) _ _ s
  rw [e2]
  exact wpAny_pure h
theorem getItem_tuple_rev {A : Around} {E : Value → Shared → Prop} {prog : Program} {w : World} {s : Shared} {t sl : Addr} {its : List Value} {tk : Tok} {Q : Value → Shared → Prop} (ht : IsTup s.heap t its.toArray) (hs : s.heap.IsSliceOf sl .none .none (.int (-1) tk))
    (h : Q (.ref s.heap.objs.size) { s with heap := s.heap.push { cls := .type "tuple", data := .seq its.reverse.toArray } })
    (hsz : its.length ≤ sizeLine) : wpAny (model prog w) A (getItem (.ref t) (.ref sl)) Q E s := by
  have htake : sizeOk (.seq its.reverse.toArray) := by
    show its.reverse.toArray.size ≤ sizeLine
    rw [List.size_toArray, List.length_reverse]; exact hsz
  obtain ⟨os, hos, hcs, hds⟩ := id hs
  have hTs : s.TypeIs (.ref sl) "slice" := ⟨os, hos, hcs⟩
  unfold getItem
  try with_reducible refine wpAny_holding ?_
  first | refine wpAny_bind (wpAny_pure ?_) | skip
  refine wpAny_bind (wpAny_sequenceKey ht.typeIs (by decide) ?_)
  refine wpAny_bind (wpAny_callSpecial?_slot (name := Str.ofString "__getitem__") ht.typeIs PyProof.Rows.slot_tuple_getitem
    (wpAny_call_entry PyProof.Rows.slot_tuple_getitem ht.typeIs entry_tuple_getitem ?_ (args_tuple_getitem _ _)))
  show wpAny _ _ (Builtin.Tuple.tupleItemsOf (.ref t) >>= _) _ _ s
  refine wpAny_bind (tupleItemsOf_ ht ?_)
  refine wpAny_bind (wpAny_typeOf hTs ?_)
  rw [if_pos (by decide)]
  refine wpAny_bind (sliceApplied_rev (n := its.length) (M := model prog w) hs ?_)
  have hno : ¬ ((((its.length : Int) - 1 == 0 && (-1 : Int) == 1 && its.length == its.toArray.size)) = true) := by
    intro q
    rw [Bool.and_eq_true, Bool.and_eq_true] at q
    exact absurd q.1.2 (by decide)
  show wpAny _ _ (if ((its.length : Int) - 1 == 0 && (-1 : Int) == 1 && its.length == its.toArray.size) = true then _ else _) _ _ s
  rw [if_neg hno, pick_rev]
  first
    | exact wpAny_bind (m := Builtin.Tuple.tupleExact _) (wpAny_newObj_type (wpAny_pure ⟨_, rfl, wpAny_pure h⟩) htake)
    | exact wpAny_bind (m := Builtin.Tuple.tupleExact _) (wpAny_newObj_type (wpAny_bind (wpAny_pure (wpAny_pure ⟨_, rfl, wpAny_pure h⟩))) htake)
    | exact wpAny_bind (wpAny_bind (m := Builtin.Tuple.tupleExact _) (wpAny_newObj_type (wpAny_pure (wpAny_pure ⟨_, rfl, wpAny_pure h⟩)) htake))
    | exact wpAny_bind (wpAny_bind (m := Builtin.Tuple.tupleExact _) (wpAny_newObj_type (wpAny_pure ⟨_, rfl, wpAny_pure h⟩) htake))
end HT
namespace T
open PySem L2 PySem.Spec PyProof.Rows
def tRev (K : PySem.W.Frag) (te tst : TE) : TE := fun σ H Q => te σ H fun x H1 => tst σ H1 fun y H2 => ∃ a xs, x = .ref a ∧ y = .int (-1) ∧ SqT K H2 a xs ∧ ∀ p, H2 p = none → Q (.ref p) (upd H2 p (.tup xs.reverse))
theorem pe_rev {X : Cx} {e st : Expr} {te tst : TE} {pos p2 : Pos} (he : PE X e te) (hst : PE X st tst) (hsub : ∀ v i, subscripted (.Slice none none (some st) p2) false v i = operate [v, i] (getItem v i) := by intros; rfl) : PE X (.Subscript e (.Slice none none (some st) p2) pos) (tRev X.K te tst) := by
  refine ⟨fun pins s σ H Q I h => ?_⟩
  refine Subscript_ (thn (he.run pins s σ H _ I h) fun v s1 ⟨x, H1, I1, r1, q1⟩ => ?_)
  refine wpAny_Slice ?_
  rw [evalPart_none]
  refine wpAny_pure (wpAny_pure ?_)
  rw [evalPart_some]
  refine thn (hst.run pins s1 σ H1 _ I1 q1) fun vs s3 ⟨y, H3, I3, r3, q3⟩ => ?_
  obtain ⟨a, xs, rfl, rfl, hx, q⟩ := q3
  cases r1
  obtain ⟨tk, rfl⟩ := r3
  have I4 : Inv X pins σ H3 { s3 with heap := s3.heap.push { cls := .type "slice", data := .fields #[.none, .none, .int (-1) tk] } } := I3.kept (t' := s3.toks) fun b ob q => Heap.get?_push_of_some _ q
  obtain ⟨its, r, ht, hz⟩ := I4.tuple hx
  show wpAny (model X.prog X.w) X.A (subscriptTail e (.Slice none none (some st) p2) (.ref a) (.ref s3.heap.objs.size)) (EP X pins σ Q) X.xe { s3 with heap := s3.heap.push { cls := .type "slice", data := .fields #[.none, .none, .int (-1) tk] } }
  refine tail_any (ops := [.ref a, .ref s3.heap.objs.size]) ht.typeIs PyProof.Rows.slot_tuple_getitem.lookup (HT.getItem_tuple_rev ht (Heap.IsSliceOf.new ..) ?_ (by rw [← r.length]; exact hz)) (hsub _ _)
  refine ⟨.ref _, _, I4.laid (t' := s3.toks) (o := .tup xs.reverse) (fun b ob q => Heap.get?_push_of_some _ q) (Nat.le_refl _) ?_, rfl, q _ (I4.hok.fresh (Nat.le_refl _))⟩
  exact ⟨by rw [List.length_reverse]; exact hz, _, r.reverse, IsTup.new _ _⟩
section
variable {S α : Type} {K : PySem.W.Frag} {R : Rl α} {te ts : TE} {σ : L2.St} {F : Hp} {A : Ow S} {m : M S (List α)} {mi : M S Int}
theorem paired_rev {δ : Type} {Q : V → δ → Prop} : ∀ {vs : List V} {xs : List δ}, Paired Q vs xs → Paired Q vs.reverse xs.reverse
  | _, _, .nil => .nil
  | _, _, .cons r t => by rw [List.reverse_cons, List.reverse_cons]; exact paired_app (paired_rev t) (.cons r .nil)
theorem ev_rev (h : Ev te σ F A (rTup R) m) (hs : Ev ts σ F A rInt mi) : Ev (tRev K te ts) σ F A (rTup R) (bnd m fun xs => bnd mi fun i => lft (if i = -1 then some xs.reverse else none)) := fun s b s' hm F1 H c O sm ho W Q q => by
  obtain ⟨xs, s1, h1, hm⟩ := bnd_some hm
  obtain ⟨i, s2, h2, hm⟩ := bnd_some hm
  obtain ⟨h3, rfl⟩ := lft_some hm
  by_cases hi : i = -1
  · rw [if_pos hi] at h3
    cases h3
    refine h s xs s1 h1 F1 H c O sm ho W _ fun v F2 H2 c2 s2' o2 W2 r2 => ?_
    refine hs s1 i _ h2 F2 H2 c2 O (sm.trans s2') o2 W2 _ fun y F3 H3 c3 s3' o3 W3 r3 => ?_
    obtain ⟨a, vs, rfl, ha, ra⟩ := (rTup R).mono s3' r2
    refine ⟨a, vs, rfl, by rw [show y = .int i from r3, hi], SqT.of (W3.sub _ _ ha), fun p np => ?_⟩
    exact q _ _ _ c3 ((s2'.trans s3').trans (W3.sameF np)) (A.mono (W3.sameF np) o3) (W3.newF np) ⟨p, _, rfl, upd_same, paired_rev (paired_mono (fun _ _ => R.mono (W3.sameF np)) ra)⟩
  · rw [if_neg hi] at h3; cases h3
end
end T

/-! T37: a dict {whole number: True}, owned: its state are its keys. -/
namespace T
open PySem L2 PySem.Spec PyProof.Rows
def kvD (ks : List Int) : List (Key × V) := ks.map fun k => (Sum.inl k, V.bl true)
/-- the dict with the keys ks, each True -/
def oKeys (v : V) : Ow (List Int) where
  o := fun _ ks c => ∃ d, v = .ref d ∧ c = [(d, .dK (kvD ks))]
  mono := fun _ h => h
theorem kvD_len (ks : List Int) : (kvD ks).length = ks.length := by unfold kvD; rw [List.length_map]
theorem kvD_any (ks : List Int) (k : Int) : ((kvD ks).any fun kv => decide (kv.1 = Sum.inl k)) = decide (k ∈ ks) := by
  unfold kvD
  rw [List.any_map]
  induction ks with
  | nil => rfl
  | cons x xs ih =>
    rw [List.any_cons, ih]
    by_cases e : x = k
    · subst e; simp
    · have e' : ¬ k = x := fun z => e z.symm
      simp [e, e']
theorem kvD_has (ks : List Int) (k : Int) : (valV (kvD ks) (Sum.inl k)).isSome = decide (k ∈ ks) := by rw [← valV_any, kvD_any]
def putD (ks : List Int) (k : Int) : List Int := if k ∈ ks then ks else ks ++ [k]
theorem kvD_put (ks : List Int) (k : Int) : putK (kvD ks) (Sum.inl k) (V.bl true) = kvD (putD ks k) := by
  unfold putK putD
  rw [kvD_any]
  by_cases h : k ∈ ks
  · rw [if_pos (decide_eq_true h), if_pos h]
    unfold kvD
    rw [List.map_map]
    refine List.map_congr_left fun x _ => ?_
    show (if (Sum.inl x : Key) = Sum.inl k then ((Sum.inl x : Key), V.bl true) else (Sum.inl x, V.bl true)) = _
    split <;> rfl
  · rw [if_neg (by simpa using h), if_neg h]
    unfold kvD
    rw [List.map_append]; rfl
def putD! (ks : List Int) (k : Int) : Option (List Int) := if ks.length < lim then some (putD ks k) else none
/-! ### rules -/
/-- y in d, y not in d: y a whole number or None -/
def rInD (no : Bool) : R2 := fun x y H Q => ∃ a kvs, y = .ref a ∧ H a = some (.dK kvs) ∧ ((∃ k : Int, x = .int k ∧ Q (.bl ((valV kvs (Sum.inl k)).isSome != no)) H) ∨ (x = .non ∧ Q (.bl no) H))
theorem op_inD {X : Cx} (hu : X.A.units + 1 < cLine) : OpR X (compareOp .In) (rInD false) := by
  intro pins s σ H x y v u Q I rx ry h
  obtain ⟨a, kvs, rfl, ha, h⟩ := h
  cases (show u = Value.ref a from ry)
  rcases h with ⟨k, rfl, q⟩ | ⟨rfl, q⟩
  · refine d_in hu I (DGet.k (k := Sum.inl k) ha) rx fun s3 I3 => ⟨.bl _, H, I3, rfl, ?_⟩
    simpa using q
  · cases (show v = Value.none from rx)
    exact d_inNone I (.inl ha) fun s3 I3 => ⟨.bl false, H, I3, rfl, q⟩
theorem op_notInD {X : Cx} (hu : X.A.units + 1 < cLine) : OpR X (compareOp .NotIn) (rInD true) := by
  intro pins s σ H x y v u Q I rx ry h
  obtain ⟨a, kvs, rfl, ha, h⟩ := h
  cases (show u = Value.ref a from ry)
  rcases h with ⟨k, rfl, q⟩ | ⟨rfl, q⟩
  · refine d_notIn hu I (DGet.k (k := Sum.inl k) ha) rx fun s3 I3 => ⟨.bl _, H, I3, rfl, ?_⟩
    simpa using q
  · cases (show v = Value.none from rx)
    exact d_notInNone I (.inl ha) fun s3 I3 => ⟨.bl true, H, I3, rfl, q⟩
def rLenD : List V → Hp → VK → Prop := fun xs H Q => ∃ a kvs, xs = [V.ref a] ∧ H a = some (.dK kvs) ∧ Q (.int kvs.length) H
theorem call_lenDK {X : Cx} : CallR X (.builtin "len") rLenD := call_lenD
def rSortD : List V → Hp → VK → Prop := fun xs H Q => ∃ (a : Addr) (kvs : List (Key × V)) (ks : List Int), xs = [.ref a] ∧ L2.Rd H a (.dK kvs) ∧ kvs.map (·.1) = ks.map Sum.inl ∧ ks.length < 64 ∧
    ∀ (ys : List Int) (p : Addr), ys.Perm ks → ys.Pairwise (· ≤ ·) → H p = none → Q (.ref p) (upd H p (.lst (ys.map V.int)))
theorem call_sortD {X : Cx} (hc : X.calm = true) : CallR X (.builtin "sorted") rSortD := call_sortedDI hc
section
variable {S Ω : Type} {A : Ow S} {g : S → List Int} {p : S → List Int → S} {v : V} {te ti tv : TE} {σ : L2.St} {F : Hp} {m : M S Int} {mo : M S (Option Int)} {u : TS} {P : Post Ω} {j : Nat}
theorem emb_keys {F H : Hp} {s : S} {c O : Ch} (e : Emb A (oKeys v) g p) (ho : A.o F s c) (W : Wd F H (c ++ O)) : ∃ d c2, v = .ref d ∧ Wd F H ((d, .dK (kvD (g s))) :: (c2 ++ O)) ∧
    ∀ F' ks, Same F F' → ∀ H', Wd F' H' ((d, .dK (kvD ks)) :: (c2 ++ O)) → ∃ c', A.o F' (p s ks) c' ∧ Wd F' H' (c' ++ O) := by
  obtain ⟨c1, c2, pm, ⟨d, e1, rfl⟩, kk⟩ := e.split ho
  refine ⟨d, c2, e1, (W.perm (pm.append_right O)), fun F' ks s' H' W' => ?_⟩
  obtain ⟨c', o', pm'⟩ := kk F' ks [(d, .dK (kvD ks))] s' ⟨d, e1, rfl⟩
  exact ⟨c', o', W'.perm (pm'.append_right O).symm⟩
theorem ev_inD {no : Bool} (he : Ev te σ F A rInt m) (hv : σ[j]? = some (some v)) (e : Emb A (oKeys v) g p) : Ev (tOp (rInD no) te (tVar j)) σ F A rBool (bnd m fun x => gtL g fun d => some (decide (x ∈ d) != no)) := fun s b s' hm F1 H c O sm ho W Q q => by
  obtain ⟨x, s1, h1, hm⟩ := bnd_some hm
  obtain ⟨h2, rfl⟩ := gtL_some hm
  cases h2
  refine he s x s' h1 F1 H c O sm ho W _ fun y F2 H2 c2 sm2 o2 W2 r2 => ⟨v, hv, ?_⟩
  obtain ⟨d, c4, rfl, W4, kk⟩ := emb_keys e o2 W2
  refine ⟨d, _, rfl, W4.hd, .inl ⟨x, r2, ?_⟩⟩
  rw [kvD_has]
  exact q _ F2 H2 c2 sm2 o2 W2 rfl
theorem ev_inDO {no : Bool} (he : Ev te σ F A (rOpt rInt) mo) (hv : σ[j]? = some (some v)) (e : Emb A (oKeys v) g p) : Ev (tOp (rInD no) te (tVar j)) σ F A rBool (bnd mo fun x => gtL g fun d => some ((d.any fun k => decide (x = some k)) != no)) := fun s b s' hm F1 H c O sm ho W Q q => by
  obtain ⟨x, s1, h1, hm⟩ := bnd_some hm
  obtain ⟨h2, rfl⟩ := gtL_some hm
  cases h2
  refine he s x s' h1 F1 H c O sm ho W _ fun y F2 H2 c2 sm2 o2 W2 r2 => ⟨v, hv, ?_⟩
  obtain ⟨d, c4, rfl, W4, kk⟩ := emb_keys e o2 W2
  refine ⟨d, _, rfl, W4.hd, ?_⟩
  cases x with
  | none =>
    refine .inr ⟨r2, ?_⟩
    have h0 : ((g s').any fun k => decide ((none : Option Int) = some k)) = false := by simp
    have := q (.bl no) F2 H2 c2 sm2 o2 W2 (show V.bl no = V.bl _ by rw [h0]; simp)
    exact this
  | some x =>
    refine .inl ⟨x, r2, ?_⟩
    rw [kvD_has]
    refine q _ F2 H2 c2 sm2 o2 W2 (show V.bl _ = V.bl _ from ?_)
    congr 2
    rw [Bool.eq_iff_iff]
    simp
theorem ev_lenD (hv : σ[j]? = some (some v)) (e : Emb A (oKeys v) g p) : Ev (tCB rLenD (tCons (tVar j) tNil)) σ F A rInt (gtL g fun d => some (d.length : Int)) := fun s b s' hm F1 H c O sm ho W Q q => by
  obtain ⟨h2, rfl⟩ := gtL_some hm
  cases h2
  refine ⟨v, hv, ?_⟩
  obtain ⟨d, c4, rfl, W4, kk⟩ := emb_keys e ho W
  refine ⟨d, _, rfl, W4.hd, q _ F1 H c (SameR _) ho W ?_⟩
  show V.int _ = V.int _
  rw [kvD_len]
/-- the keys, rising: fewer than 64, none twice -/
def sortD (ks : List Int) : Option (List Int) := if ks.Nodup ∧ ks.length < 64 then some (srt ks) else none
theorem perm_srt {ks ys : List Int} (hn : ks.Nodup) (hp : ys.Perm ks) (hs : ys.Pairwise (· ≤ ·)) : ys = srt ks := by
  have hy : ys.Nodup := hp.nodup_iff.mpr hn
  have hlt : ys.Pairwise (· < ·) := by
    rw [List.pairwise_iff_getElem] at hs ⊢
    intro i j hi hj hij
    have h1 := hs i j hi hj hij
    have h2 : ys[i] ≠ ys[j] := fun e => by
      have := (List.getElem_inj hy).mp e
      omega
    omega
  exact rises_same hlt (srt_rises ks) fun z => by rw [mem_srt]; exact hp.mem_iff
theorem eo_sortD (hv : σ[j]? = some (some v)) (e : Emb A (oKeys v) g p) : EvO (tCB rSortD (tCons (tVar j) tNil)) σ F A (oLst rInt) (gtL g sortD) := fun s b s' hm F1 H c O sm ho W Q q => by
  obtain ⟨h2, rfl⟩ := gtL_some hm
  unfold sortD at h2
  split at h2
  · rename_i hn
    cases h2
    refine ⟨v, hv, ?_⟩
    obtain ⟨d, c4, rfl, W4, kk⟩ := emb_keys e ho W
    refine ⟨d, kvD (g s'), g s', rfl, .inl W4.hd, by show (kvD (g s')).map (·.1) = _; unfold kvD; rw [List.map_map]; rfl, hn.2, fun ys pa hp hs np => ?_⟩
    cases perm_srt hn.1 hp hs
    refine q (.ref pa) F1 _ c [(pa, .lst ((srt (g s')).map V.int))] (SameR _) ho ⟨pa, _, rfl, rfl, ?_⟩ (W.newO np)
    generalize srt (g s') = zs
    induction zs with
    | nil => exact .nil
    | cons z zs ih => exact .cons rfl ih
  · cases h2
/-- d[k] = True -/
theorem b_setD {f : S → Option Ω} (hv : σ[j]? = some (some v)) (e : Emb A (oKeys v) g p) (hi : Ev ti σ F A rInt m) (kk0 : B u σ F A P f) : B (tSeq (tAsg (tC (.bl true)) (gSub (tVar j) ti rSetD)) u) σ F A P (bnd m fun x => bnd (upL g p fun d => putD! d x) fun _ => f) := fun s w' hm F1 H c O sm ho W D q => by
  obtain ⟨x, s2, h2, hm⟩ := bnd_some hm
  obtain ⟨_, s3, h3, hm⟩ := bnd_some hm
  obtain ⟨xs', h3a, rfl⟩ := upL_some h3
  unfold putD! at h3a
  split at h3a
  · rename_i hl
    cases h3a
    refine ⟨v, hv, ?_⟩
    refine hi s x s2 h2 F1 H c O sm ho W _ fun z F3 H3 c3 sm3 o3 W3 r3 => ?_
    obtain ⟨d, c4, rfl, W4, kk⟩ := emb_keys e o3 W3
    have hlim : (1000000 : Nat) = lim := rfl
    refine ⟨d, upd H3 d (.dK (putK (kvD (g s2)) (Sum.inl x) (V.bl true))), rfl, ?_, ?_⟩
    · rw [show z = kV (Sum.inl x) from r3]
      exact DPut.k W4.hd (by rw [kvD_len, sizeLine_eq]; omega)
    · rw [kvD_put]
      obtain ⟨c5, o5, W5⟩ := kk F3 (putD (g s2) x) (SameR _) _ W4.set
      exact kk0 _ w' hm F3 _ c5 O (sm.trans sm3) o5 W5 D (P.mono sm3 q)
  · cases h3a
/-- {k: True} -/
theorem eo_dispD (he : Ev te σ F A rInt m) : EvO (tDisp [(te, tC (.bl true))]) σ F A oKeys (bnd m fun x => ret [x]) := fun s b s' hm F1 H c O sm ho W Q q pa np => by
  obtain ⟨x, s1, h1, hm⟩ := bnd_some hm
  obtain ⟨rfl, rfl⟩ := ret_some hm
  have W0 : Wd F1 (upd H pa (.dK [])) (c ++ ((pa, .dK []) :: O)) := (W.newO np).perm (perm_front _ _ _)
  refine he s x _ h1 F1 _ c _ sm ho W0 _ fun vx F2 H2 c2 sm2 o2 W2 r2 => ?_
  have W4 := W2.perm (perm_front (pa, .dK []) c2 O).symm
  refine ⟨W4.hd, [(Sum.inl x, .bl true)], by rw [show vx = V.int x from r2]; rfl, by show 1 ≤ 15; omega, ?_⟩
  exact q (.ref pa) F2 _ c2 [(pa, .dK (kvD [x]))] sm2 o2 ⟨pa, rfl, rfl⟩ W4.set
/-- return d, d owned -/
theorem b_retoO {S' β : Type} {A' : Ow S'} {B' : V → Ow β} {g' : S → β} {π : S → S'} (h : Rmv A A' (B' v) g' π) (hv : σ[j]? = some (some v)) : B (tSeq (tRet (tVar j)) u) σ F A (pRo emp B') (fun s => some (g' s, ())) := fun s w hm F1 H c O sm ho W D q => by
  cases hm
  refine ⟨v, hv, ?_⟩
  obtain ⟨c1, c2, pm, hb, _⟩ := h.sp ho
  refine q v F1 H [] c1 (SameR _) rfl hb ((W.perm (pm.append_right O)).sublist ?_)
  rw [List.nil_append, List.append_assoc]
  exact List.Sublist.append (List.Sublist.refl c1) (List.sublist_append_right c2 O)
end
theorem kop_inD {X : Cx} (hu : X.A.units + 64 < cLine) : OpR X (compareOp .In) (rInD false) := op_inD (by omega)
theorem kop_notInD {X : Cx} (hu : X.A.units + 64 < cLine) : OpR X (compareOp .NotIn) (rInD true) := op_notInD (by omega)
theorem kset_D {X : Cx} (hu : X.A.units + 64 < cLine) : PSet X rSetD := set_dict (by omega)
theorem kpe_dispD {X : Cx} {k v : Expr} {tk tv : TE} {pos : Pos} (hk : PE X k tk) (hv : PE X v tv) : PE X (.Dict [some k] [v] pos) (tDisp [(tk, tv)]) := pe_disp (pps_cons hk hv pps_nil) rfl rfl (by simp) (by simp)
section
variable {S : Type} {K : PySem.W.Frag} {A : Ow S} {g : S → List Int} {p : S → List Int → S} {v : V} {te : TE} {σ : L2.St} {F : Hp} {m : M S Int} {j : Nat}
/-- y in xs, y not in xs: xs an owned list of whole numbers -/
theorem ev_inOI {no : Bool} (he : Ev te σ F A rInt m) (hv : σ[j]? = some (some v)) (e : Emb A (oLst rInt v) g p) : Ev (tOp (rIn K no) te (tVar j)) σ F A rBool (bnd m fun x => gtL g fun d => some ((d.any fun b => decide (b = x)) != no)) := fun s b s' hm F1 H c O sm ho W Q q => by
  obtain ⟨x, s1, h1, hm⟩ := bnd_some hm
  obtain ⟨h2, rfl⟩ := gtL_some hm
  cases h2
  refine he s x s' h1 F1 H c O sm ho W _ fun y F2 H2 c2 sm2 o2 W2 r2 => ⟨v, hv, ?_⟩
  obtain ⟨l, vs, c3, rfl, rp, W3, kk⟩ := emb_list e o2 W2
  have e2 : vs = (g s').map V.int := vs_int rp
  have hf : vs.all flatV = true := by rw [e2, List.all_map]; simp [flatV, Function.comp]
  have hy : y = .int x := r2
  have hin : inV y vs = ((g s').any fun b => decide (b = x)) := by
    rw [e2, hy]
    unfold inV
    rw [List.any_map]
    congr 1
  refine ⟨l, vs, rfl, .inl (SqL.of W3.hd), by rw [hy]; rfl, hf, q _ F2 H2 c2 sm2 o2 W2 ?_⟩
  show V.bl _ = V.bl _
  rw [hin]
  cases no <;> simp
end
section
variable {S α β : Type} {K : PySem.W.Frag} {W : WX} {R : Rl α} {U : Rl β} {A : Ow S} {te : TE} {σ : L2.St} {F : Hp}
/-- a new list made of a raising thing -/
theorem evx_cbL {rc : List V → Hp → VK → Prop} {f : α → List β} {mx : M S (α ⊕ Str)} (hr : VLo rc (arOne R) (oLst U) (fun x => some (f x))) (h : EvX K W te σ F A R mx) : EvX K W (tCB rc (tCons te tNil)) σ F A (rLst U) (bnd mx fun w => ret (Sum.map f id w)) := fun s b s' hm F1 H c O sm ho W1 Q q => by
  obtain ⟨x, s1, h1, hm⟩ := bnd_some hm
  obtain ⟨rfl, rfl⟩ := ret_some hm
  refine h s x _ h1 F1 H c O sm ho W1 _ ?_
  cases x with
  | inr n => exact q
  | inl x =>
    exact fun v F2 H2 c2 s2 o2 W2 r2 => ev_frz (σ := σ) (eo_cb hr (ea_one (te := fun _ H Q => Q v H) (m := fun s => some (x, s)) (fun s b s' e F1 H c O sm ho W Q q => by
      cases e; exact q v _ _ _ (SameR _) ho W (R.mono sm r2)))) _ _ _ rfl F2 H2 c2 O (SameR _) o2 W2 Q fun v' F' H' c' s' o' W' r' => q v' F' H' c' (s2.trans s') o' W' r'
end
theorem cvp_inl {α β : Type} {R : Rl α} {R2 : Rl β} : CvP R (rSum R R2) (fun x => some (.inl x)) := fun F v x y r e => by cases e; exact r
theorem cvp_inr {α β : Type} {R : Rl α} {R2 : Rl β} : CvP R2 (rSum R R2) (fun x => some (.inr x)) := fun F v x y r e => by cases e; exact r
end T

/-! T38: tuple(range(n)). -/
namespace T
open PySem L2 PySem.Spec PyProof.Rows
section
variable {S : Type} {A : Ow S} {te : TE} {σ : L2.St} {F : Hp} {m : M S Int}
theorem ev_tupRg (he : Ev te σ F A rInt m) : Ev (tTupRg (tRg1 te)) σ F A (rTup rInt) (bnd m fun n => lft (rngS n)) := fun s b s' hm F1 H c O sm ho W Q q => by
  obtain ⟨n, s1, h1, hm⟩ := bnd_some hm
  obtain ⟨h2, rfl⟩ := lft_some hm
  unfold rngS at h2
  split at h2
  · rename_i hn
    cases h2
    refine he s n _ h1 F1 H c O sm ho W _ fun v F2 H2 c2 s2 o2 W2 r2 => ⟨n, r2, ⟨by omega, by omega, by omega, by omega, by omega⟩, fun l nl => ?_⟩
    refine q (.ref l) _ _ c2 (s2.trans (W2.sameF nl)) (A.mono (W2.sameF nl) o2) (W2.newF nl) ⟨l, _, rfl, upd_same, ?_⟩
    unfold rgV
    rw [Int.sub_zero]
    exact paired_rgL _ 0
  · cases h2
end
end T

/-! T39: an owned list beside a value: ==, !=. -/
namespace T
open PySem L2 PySem.Spec PyProof.Rows
section
variable {S α β : Type} {K : PySem.W.Frag} {R : Rl α} {R' : Rl β} {A : Ow S} {g : S → List α} {p : S → List α → S} {v : V} {te : TE} {σ : L2.St} {F : Hp} {m : M S β} {j : Nat}
theorem dp_own {F H : Hp} {s : S} {c O : Ch} (D : RD R) (e : Emb A (oLst R v) g p) (ho : A.o F s c) (W : Wd F H (c ++ O)) : Dp K H v (.list ((g s).map D.d)) := by
  obtain ⟨l, vs, c3, rfl, rp, W3, _⟩ := emb_list e ho W
  exact .lst (SqL.of W3.hd) (dp_all D.d (fun _ _ r => Dp.mono W.sub (D.dp r)) rp)
theorem ev_neDO (D : RD R) (E : RD R') (hv : σ[j]? = some (some v)) (e : Emb A (oLst R v) g p) (he : Ev te σ F A R' m) : Ev (tOp (rNeD K) (tVar j) te) σ F A rBool (bnd m fun y => gtL g fun xs => neD (.list (xs.map D.d)) (E.d y)) := fun s b s' hm F1 H c O sm ho W Q q => by
  obtain ⟨y, s1, h1, hm⟩ := bnd_some hm
  obtain ⟨h2, rfl⟩ := gtL_some hm
  refine ⟨v, hv, he s y s' h1 F1 H c O sm ho W _ fun vy F2 H2 c2 sm2 o2 W2 r2 => ?_⟩
  simp only [neD] at h2; split at h2
  · rename_i h; cases h2
    exact ⟨_, _, dp_own D e o2 W2, Dp.mono W2.sub (E.dp r2), h.1, h.2, q _ F2 H2 c2 sm2 o2 W2 rfl⟩
  · cases h2
theorem ev_eqDO (D : RD R) (E : RD R') (hv : σ[j]? = some (some v)) (e : Emb A (oLst R v) g p) (he : Ev te σ F A R' m) : Ev (tOp (rEqD K) (tVar j) te) σ F A rBool (bnd m fun y => gtL g fun xs => eqD (.list (xs.map D.d)) (E.d y)) := fun s b s' hm F1 H c O sm ho W Q q => by
  obtain ⟨y, s1, h1, hm⟩ := bnd_some hm
  obtain ⟨h2, rfl⟩ := gtL_some hm
  refine ⟨v, hv, he s y s' h1 F1 H c O sm ho W _ fun vy F2 H2 c2 sm2 o2 W2 r2 => ?_⟩
  simp only [eqD] at h2; split at h2
  · rename_i h; cases h2
    exact ⟨_, _, dp_own D e o2 W2, Dp.mono W2.sub (E.dp r2), h.1, h.2, q _ F2 H2 c2 sm2 o2 W2 rfl⟩
  · cases h2
end
section
variable {S α : Type} {K : PySem.W.Frag} {R : Rl α} {A : Ow S} {g : S → List α} {p : S → List α → S} {v : V} {te : TE} {σ : L2.St} {F : Hp} {m : M S Int} {j : Nat}
/-- xs.pop(i) -/
def popI (xs : List α) (i : Int) : Option (α × List α) := if -(2 ^ 63) ≤ i ∧ i < 2 ^ 63 then (PySem.seqIndex? i xs.length).bind fun k => (xs[k]?).map fun x => (x, xs.eraseIdx k) else none
def popS (g : S → List α) (p : S → List α → S) (i : Int) : M S α := fun s => (popI (g s) i).map fun q => (q.1, p s q.2)
theorem paired_erase {γ δ : Type} {Q : γ → δ → Prop} : ∀ {vs : List γ} {xs : List δ}, Paired Q vs xs → ∀ k, Paired Q (vs.eraseIdx k) (xs.eraseIdx k)
  | _, _, .nil, _ => .nil
  | _, _, .cons r t, 0 => t
  | _, _, .cons r t, k + 1 => .cons r (paired_erase t k)
theorem ev_pop (hv : σ[j]? = some (some v)) (e : Emb A (oLst R v) g p) (he : Ev te σ F A rInt m) : Ev (tBM K "list" rPopAt (tVar j) (tCons te tNil)) σ F A R (bnd m (popS g p)) := fun s b s' hm F1 H c O sm ho W Q q => by
  obtain ⟨i, s1, h1, hm⟩ := bnd_some hm
  unfold popS at hm
  obtain ⟨⟨y, ys⟩, h2, h3⟩ := Option.map_eq_some_iff.mp hm
  cases h3
  unfold popI at h2
  split at h2
  · rename_i hi
    obtain ⟨k, hk, h2⟩ := Option.bind_eq_some_iff.mp h2
    obtain ⟨x, hx, h3⟩ := Option.map_eq_some_iff.mp h2
    cases h3
    refine ⟨v, hv, ?_⟩
    obtain ⟨l0, vs0, c0, e0, _, W0, _⟩ := emb_list e ho W
    refine ⟨by rw [e0]; exact Or.inl ⟨rfl, vs0, SqL.of W0.hd⟩, ?_⟩
    refine he s i s1 h1 F1 H c O sm ho W _ fun z F2 H2 c2 sm2 o2 W2 r2 => ?_
    obtain ⟨l, vs, c3, rfl, rp, W3, kk⟩ := emb_list e o2 W2
    obtain ⟨u, hu, ru⟩ := paired_get' rp hx
    obtain ⟨c4, o4, W4⟩ := kk F2 _ (vs.eraseIdx k) (SameR _) (paired_erase rp k) _ W3.set
    refine ⟨l, vs, i, k, u, rfl, by rw [show z = .int i from r2], W3.hd, hi.1, hi.2, by rw [paired_len rp]; exact hk, hu, ?_⟩
    exact q u F2 _ c4 sm2 o4 W4 ru
  · cases h2
end
end T

/-! T40: methods that may raise; a Run's pour, poured, tips that may raise, and its book. -/
namespace L2
open PySem PySem.Spec PyProof.Rows
/-- o.m(..), what is wanted of an exception told by the slots -/
def tMethX (C : Addr) (m : Str) (sp : Sp) (E : St → XK) (ta : TE) (t : TA) : TE := fun σ H Q => ta σ H fun x H1 => ∃ a dx fs, x = .ref a ∧ H1 a = some (.ins C dx fs) ∧ fs.lookup m = none ∧ t σ H1 fun vs H2 => sp (x :: vs) H2 Q (E σ)
section
variable {X : Cx} {CX : CXT} {k : Nat} {f C : Addr} {fd : FuncData} {ps : List Str} {sp : Sp} {E : St → XK} {m : Str} {pos apos : Pos} {e o : Expr} {es : List Expr} {ta : TE} {t : TA}
theorem pe_methX {pl : Sem Bool} (he : PE X o ta) (c : Cls X.K C) (hm : Meth X.K C m f) (F : FnOk X.prog X.w X.K X.mg X.base CX k f fd ps sp) (hr : Room k X.A) (hb : Binds X.K fd ps []) (hx : ∀ σ, PassesAt CX X σ (E σ)) (ha : PA X (e :: es) t)
    (hst : starEach (e :: es) X.env = (false, eval e X.env) :: starEach es X.env := by rfl) (hpl : (backTo pos (starEach es X.env)).any (·.1) = false := by rfl)
    (ht : eval (.Call (.Attribute o m apos) (e :: es) [] pos) X.env = (do
      let ov ← eval o X.env
      standAt apos.atName
      let (f, first) ← holding [ov] (getMethod ov m pl)
      callWith pos f first (backTo pos (starEach (e :: es) X.env)) (backToKw pos (keywordEach [] X.env))) := by rfl) :
    PE X (.Call (.Attribute o m apos) (e :: es) [] pos) (tMethX C m sp E ta t) := by
  refine ⟨fun pins s σ H Q I h => ?_⟩
  refine PySem.W.methodCall_KW (pl := pl) (thn (he.run pins s σ H _ I h) fun u s1 ⟨x, H1, I1, rx, a, dx, fs, ex, ea, l, q⟩ => ?_) ht
  subst ex
  obtain rfl : u = Value.ref a := rx
  refine getmeth_ok I1 ea c hm l ?_
  refine PySem.W.callWith_K (first := [.ref a]) (h₀ := X.base) I.ok.mod.kin hm.kp (thn (ha.run pos pins s1 σ H1 _ I1 q) fun us s2 ⟨vs, H2, I2, r, q2⟩ => ⟨I2.kIn, ?_⟩) hst hpl
  exact run_fnS (us := .ref a :: us) (vs := .ref a :: vs) F hr hb (hx σ) I2 (.cons rfl r) q2
theorem pe_methX0 {pl : Sem Bool} (he : PE X o ta) (c : Cls X.K C) (hm : Meth X.K C m f) (F : FnOk X.prog X.w X.K X.mg X.base CX k f fd ps sp) (hr : Room k X.A) (hb : Binds X.K fd ps []) (hx : ∀ σ, PassesAt CX X σ (E σ))
    (ht : eval (.Call (.Attribute o m apos) [] [] pos) X.env = (do
      let ov ← eval o X.env
      standAt apos.atName
      let (f, first) ← holding [ov] (getMethod ov m pl)
      callWith pos f first (backTo pos (starEach [] X.env)) (backToKw pos (keywordEach [] X.env))) := by rfl) :
    PE X (.Call (.Attribute o m apos) [] [] pos) (tMethX C m sp E ta tNil) := by
  refine ⟨fun pins s σ H Q I h => ?_⟩
  refine PySem.W.methodCall_KW (pl := pl) (thn (he.run pins s σ H _ I h) fun u s1 ⟨x, H1, I1, rx, a, dx, fs, ex, ea, l, q⟩ => ?_) ht
  subst ex
  obtain rfl : u = Value.ref a := rx
  refine getmeth_ok I1 ea c hm l ?_
  exact PySem.W.callWith_K0 (first := [.ref a]) I1.kIn hm.kp (run_fnS (us := [.ref a]) (vs := [.ref a]) F hr hb (hx σ) I1 (.cons rfl .nil) q)
end
end L2
namespace T
open PySem L2
section
variable {X : Cx} {W : WX} {k j : Nat} {m : Str} {C : Addr} {ps : List Str} {sp : Sp} {pos apos : Pos} {e o : Expr} {es : List Expr} {ta : TE} {t : TA}
theorem pe_knMS {pl : Sem Bool} (ho : PE X o ta) (h : KnM X.prog X.w X.K X.mg X.base (L2.CX X.prog X.w) j m C ps sp) (tk : Takes X W) (hr : Room k X.A) (hj : j ≤ k) (ha : PA X (e :: es) t)
    (hst : starEach (e :: es) X.env = (false, eval e X.env) :: starEach es X.env := by rfl) (hpl : (backTo pos (starEach es X.env)).any (·.1) = false := by rfl)
    (ht : eval (.Call (.Attribute o m apos) (e :: es) [] pos) X.env = (do
      let ov ← eval o X.env
      standAt apos.atName
      let (f, first) ← holding [ov] (getMethod ov m pl)
      callWith pos f first (backTo pos (starEach (e :: es) X.env)) (backToKw pos (keywordEach [] X.env))) := by rfl) :
    PE X (.Call (.Attribute o m apos) (e :: es) [] pos) (tMethX C m sp (WE W) ta t) := by
  obtain ⟨f, fd, h1, h2, h3⟩ := h.ex
  exact pe_methX ho h.cl h1 h3 (hr.mono hj) h2 (fun σ => passAt tk σ) ha hst hpl ht
theorem pe_knMS0 {pl : Sem Bool} (ho : PE X o ta) (h : KnM X.prog X.w X.K X.mg X.base (L2.CX X.prog X.w) j m C ps sp) (tk : Takes X W) (hr : Room k X.A) (hj : j ≤ k)
    (ht : eval (.Call (.Attribute o m apos) [] [] pos) X.env = (do
      let ov ← eval o X.env
      standAt apos.atName
      let (f, first) ← holding [ov] (getMethod ov m pl)
      callWith pos f first (backTo pos (starEach [] X.env)) (backToKw pos (keywordEach [] X.env))) := by rfl) :
    PE X (.Call (.Attribute o m apos) [] [] pos) (tMethX C m sp (WE W) ta tNil) := by
  obtain ⟨f, fd, h1, h2, h3⟩ := h.ex
  exact pe_methX0 ho h.cl h1 h3 (hr.mono hj) h2 (fun σ => passAt tk σ) ht
theorem pe_knML {pl : Sem Bool} (ho : PE X o ta) (h : KnM X.prog X.w X.K X.mg X.base (L2.CX X.prog X.w) j m C ps sp) (hr : Room k X.A) (hj : j ≤ k) (ha : PA X (e :: es) t)
    (hst : starEach (e :: es) X.env = (false, eval e X.env) :: starEach es X.env := by rfl) (hpl : (backTo pos (starEach es X.env)).any (·.1) = false := by rfl)
    (ht : eval (.Call (.Attribute o m apos) (e :: es) [] pos) X.env = (do
      let ov ← eval o X.env
      standAt apos.atName
      let (f, first) ← holding [ov] (getMethod ov m pl)
      callWith pos f first (backTo pos (starEach (e :: es) X.env)) (backToKw pos (keywordEach [] X.env))) := by rfl) :
    PE X (.Call (.Attribute o m apos) (e :: es) [] pos) (tMeth C m sp [] E0 ta t) := by
  obtain ⟨f, fd, h1, h2, h3⟩ := h.ex
  exact pe_meth ho h.cl h1 h3 (hr.mono hj) h2 .nil passL ha hst hpl ht
theorem pe_knML0 {pl : Sem Bool} (ho : PE X o ta) (h : KnM X.prog X.w X.K X.mg X.base (L2.CX X.prog X.w) j m C ps sp) (hr : Room k X.A) (hj : j ≤ k)
    (ht : eval (.Call (.Attribute o m apos) [] [] pos) X.env = (do
      let ov ← eval o X.env
      standAt apos.atName
      let (f, first) ← holding [ov] (getMethod ov m pl)
      callWith pos f first (backTo pos (starEach [] X.env)) (backToKw pos (keywordEach [] X.env))) := by rfl) :
    PE X (.Call (.Attribute o m apos) [] [] pos) (tMeth C m sp [] E0 ta tNil) := by
  obtain ⟨f, fd, h1, h2, h3⟩ := h.ex
  exact pe_meth0 ho h.cl h1 h3 (hr.mono hj) h2 .nil passL ht
end
section
variable {S S1 T' α β γ Ω ι : Type} {R : Rl α} {U : Rl γ} {K : PySem.W.Frag} {C : Addr} {W : WX} {E : XK} {σ : L2.St} {F : Hp} {A : Ow S} {te te0 ti ta : TE} {u : TS} {P : Post Ω} {v w vh vt vr ve : V} {i j k : Nat}
/-! calls of methods that may raise, of an owned instance -/
theorem evx_methS {T γ : Type} {mn : Str} {X : Ar α} {Bf : V → Ow T} {U : Rl γ} {f : α → M T (γ ⊕ Str)} {g : S → T} {p : S → T → S} {ar : TA} {ma : M S α} (hh : InsHd Bf C mn) (hv : σ[j]? = some (some v)) (e : Emb A (Bf v) g p) (h : EvA ar σ F A X ma) :
    EvX K W (tMethX C mn (spSX K (fun v => arC (rV v) X) Bf U (fun x => f x.2)) (WE W) (tVar j) ar) σ F A U (bnd ma fun x => zm g p (f x)) := fun s b s' hm F1 H c O sm ho W1 Q q => by
  obtain ⟨xs, s1, h1, hm⟩ := bnd_some hm
  obtain ⟨t, h2, rfl⟩ := zm_some hm
  obtain ⟨c3, c4, pm, ob, k⟩ := e.split ho
  obtain ⟨p0, dx, fs, rest, rfl, rfl, hl⟩ := hh.hd ob
  have W0 : Wd F1 H ((p0, .ins C dx fs) :: (rest ++ (c4 ++ O))) := by
    refine W1.perm ((pm.append_right O).trans ?_)
    simp
  refine ⟨_, hv, p0, dx, fs, rfl, W0.hd, hl, ?_⟩
  refine h s _ _ h1 F1 H c O sm ho W1 _ fun vs F2 H2 c2 s2 o2 W2 r2 => ?_
  obtain ⟨c3', c4', pm', ob', k'⟩ := e.split o2
  refine ⟨.ref p0, F2, c4' ++ O, c3', ((), xs), g s1, b, t, ⟨_, _, rfl, rfl, r2⟩, ob', W2.perm ?_, h2, ?_⟩
  · rw [← List.append_assoc]; exact pm'.append_right O
  · cases b with
    | inl b =>
      intro v F3 H3 c5 s3 o3 W3 r3
      obtain ⟨c', oc, pm2⟩ := k' F3 t c5 s3 o3
      refine q v F3 H3 c' (s2.trans s3) oc (W3.perm ?_) r3
      rw [← List.append_assoc]; exact (pm2.append_right O).symm
    | inr n =>
      intro F3 H3 c5 s3 o3 W3
      obtain ⟨c', oc, pm2⟩ := k' F3 t c5 s3 o3
      refine q F3 H3 c' (s2.trans s3) oc (W3.perm ?_)
      rw [← List.append_assoc]; exact (pm2.append_right O).symm
theorem ev_methSX {T γ : Type} {mn : Str} {X : Ar α} {Bf : V → Ow T} {U : Rl γ} {f : α → M T (γ ⊕ Str)} {g : S → T} {p : S → T → S} {ar : TA} {ma : M S α} (hh : InsHd Bf C mn) (hv : σ[j]? = some (some v)) (e : Emb A (Bf v) g p) (h : EvA ar σ F A X ma) :
    Ev (tMeth C mn (spSX K (fun v => arC (rV v) X) Bf U (fun x => f x.2)) [] E (tVar j) ar) σ F A U (bnd ma fun x => zm g p (okM (f x))) := fun s b s' hm F1 H c O sm ho W1 Q q => by
  obtain ⟨xs, s1, h1, hm⟩ := bnd_some hm
  obtain ⟨t, h2, rfl⟩ := zm_some hm
  obtain ⟨c3, c4, pm, ob, k⟩ := e.split ho
  obtain ⟨p0, dx, fs, rest, rfl, rfl, hl⟩ := hh.hd ob
  have W0 : Wd F1 H ((p0, .ins C dx fs) :: (rest ++ (c4 ++ O))) := by
    refine W1.perm ((pm.append_right O).trans ?_)
    simp
  refine ⟨_, hv, p0, dx, fs, rfl, W0.hd, hl, ?_⟩
  refine h s _ _ h1 F1 H c O sm ho W1 _ fun vs F2 H2 c2 s2 o2 W2 r2 => ?_
  obtain ⟨c3', c4', pm', ob', k'⟩ := e.split o2
  rw [List.append_nil]
  refine ⟨.ref p0, F2, c4' ++ O, c3', ((), xs), g s1, .inl b, t, ⟨_, _, rfl, rfl, r2⟩, ob', W2.perm ?_, okM_some h2, fun v F3 H3 c5 s3 o3 W3 r3 => ?_⟩
  · rw [← List.append_assoc]; exact pm'.append_right O
  · obtain ⟨c', oc, pm2⟩ := k' F3 t c5 s3 o3
    refine q v F3 H3 c' (s2.trans s3) oc (W3.perm ?_) r3
    rw [← List.append_assoc]; exact (pm2.append_right O).symm
theorem evx_meth0S {T γ : Type} {mn : Str} {Bf : V → Ow T} {U : Rl γ} {f : M T (γ ⊕ Str)} {g : S → T} {p : S → T → S} (hh : InsHd Bf C mn) (hv : σ[j]? = some (some v)) (e : Emb A (Bf v) g p) :
    EvX K W (tMethX C mn (spSX K (fun v => arOne (rV v)) Bf U (fun _ => f)) (WE W) (tVar j) tNil) σ F A U (zm g p f) := fun s b s' hm F1 H c O sm ho W1 Q q => by
  obtain ⟨t, h2, rfl⟩ := zm_some hm
  obtain ⟨c3, c4, pm, ob, k⟩ := e.split ho
  obtain ⟨p0, dx, fs, rest, rfl, rfl, hl⟩ := hh.hd ob
  have W0 : Wd F1 H ((p0, .ins C dx fs) :: (rest ++ (c4 ++ O))) := by
    refine W1.perm ((pm.append_right O).trans ?_)
    simp
  refine ⟨_, hv, p0, dx, fs, rfl, W0.hd, hl, ?_⟩
  refine ⟨.ref p0, F1, c4 ++ O, (p0, .ins C dx fs) :: rest, (), g s, b, t, ⟨_, rfl, rfl⟩, ob, W1.perm ?_, h2, ?_⟩
  · rw [← List.append_assoc]; exact pm.append_right O
  · cases b with
    | inl b =>
      intro v F3 H3 c5 s3 o3 W3 r3
      obtain ⟨c', oc, pm2⟩ := k F3 t c5 s3 o3
      refine q v F3 H3 c' s3 oc (W3.perm ?_) r3
      rw [← List.append_assoc]; exact (pm2.append_right O).symm
    | inr n =>
      intro F3 H3 c5 s3 o3 W3
      obtain ⟨c', oc, pm2⟩ := k F3 t c5 s3 o3
      refine q F3 H3 c' s3 oc (W3.perm ?_)
      rw [← List.append_assoc]; exact (pm2.append_right O).symm
theorem ev_meth0SX {T γ : Type} {mn : Str} {Bf : V → Ow T} {U : Rl γ} {f : M T (γ ⊕ Str)} {g : S → T} {p : S → T → S} (hh : InsHd Bf C mn) (hv : σ[j]? = some (some v)) (e : Emb A (Bf v) g p) :
    Ev (tMeth C mn (spSX K (fun v => arOne (rV v)) Bf U (fun _ => f)) [] E (tVar j) tNil) σ F A U (zm g p (okM f)) := fun s b s' hm F1 H c O sm ho W1 Q q => by
  obtain ⟨t, h2, rfl⟩ := zm_some hm
  obtain ⟨c3, c4, pm, ob, k⟩ := e.split ho
  obtain ⟨p0, dx, fs, rest, rfl, rfl, hl⟩ := hh.hd ob
  have W0 : Wd F1 H ((p0, .ins C dx fs) :: (rest ++ (c4 ++ O))) := by
    refine W1.perm ((pm.append_right O).trans ?_)
    simp
  refine ⟨_, hv, p0, dx, fs, rfl, W0.hd, hl, ?_⟩
  refine ⟨.ref p0, F1, c4 ++ O, (p0, .ins C dx fs) :: rest, (), g s, .inl b, t, ⟨_, rfl, rfl⟩, ob, W1.perm ?_, okM_some h2, fun v F3 H3 c5 s3 o3 W3 r3 => ?_⟩
  · rw [← List.append_assoc]; exact pm.append_right O
  · obtain ⟨c', oc, pm2⟩ := k F3 t c5 s3 o3
    refine q v F3 H3 c' s3 oc (W3.perm ?_) r3
    rw [← List.append_assoc]; exact (pm2.append_right O).symm
/-! a Run's methods that may raise -/
abbrev spRun0X {γ : Type} (K : PySem.W.Frag) (C : Addr) (U : Rl γ) (f : M RunS (γ ⊕ Str)) : Sp := spSX K (fun v => arOne (rV v)) (oRun C) U (fun _ => f)
abbrev spRun1X {γ : Type} (K : PySem.W.Frag) (C : Addr) (U : Rl γ) (f : Int → M RunS (γ ⊕ Str)) : Sp := spSX K (fun v => arC (rV v) (arOne rInt)) (oRun C) U (fun x => f x.2)
abbrev spRun2X {γ : Type} (K : PySem.W.Frag) (C : Addr) (U : Rl γ) (f : Int → Int → M RunS (γ ⊕ Str)) : Sp := spSX K (fun v => arC (rV v) (arC rInt (arOne rInt))) (oRun C) U (fun x => f x.2.1 x.2.2)
abbrev spNVX (K : PySem.W.Frag) (nv : Net → Int → Option (Unit ⊕ Str)) : Sp := spPX K (arC rNet (arOne rInt)) rNone (fun x => nv x.1 x.2)
def mNVX (nv : Net → Int → Option (Unit ⊕ Str)) (x : Int) : M RunS (Unit ⊕ Str) := bnd (bnd (gtL (fun s => s.1.1.1.1) fun s => some s.1) fun a => bnd (ret x) fun b => ret (a, b)) fun a => lft (nv a.1 a.2)
abbrev tNVX (K : PySem.W.Frag) (W : WX) (nv : Net → Int → Option (Unit ⊕ Str)) : TS := tDrop (tCallS (spNVX K nv) (WE W) (tCons (tFld K (tVar 0) "net") (tCons (tVar 1) tNil)))
theorem evx_open {m : M RunS (α ⊕ Str)} (h : ∀ vh vt vr ve, EvX K W te σ F (oParts C v vh vt vr ve) R m) : EvX K W te σ F (oRun C v) R m := fun s b s' hm F1 H c O sm ⟨vh, vt, vr, ve, ho⟩ W1 Q q => h vh vt vr ve s b s' hm F1 H c O sm ho W1 Q (by
  cases b with
  | inl b => exact fun z F2 H2 c2 s2 o2 => q z F2 H2 c2 s2 ⟨vh, vt, vr, ve, o2⟩
  | inr n => exact fun F2 H2 c2 s2 o2 => q F2 H2 c2 s2 ⟨vh, vt, vr, ve, o2⟩)
theorem evx_NV {nv : Net → Int → Option (Unit ⊕ Str)} (T : RunT K C) (h0 : σ[0]? = some (some v)) (h1 : σ[1]? = some (some w)) {x : Int} (r : rInt.r F w x) : EvX K W (tCallS (spNVX K nv) (WE W) (tCons (tFld K (tVar 0) "net") (tCons (tVar 1) tNil))) σ F (oRun C v) rNone (mNVX nv x) :=
  evx_open fun vh vt vr ve => evx_callP (ea_cons (ev_net T (rd_var h0) eC) (ea_one (ev_var r h1)))
def mRunPouredX (nv : Net → Int → Option (Unit ⊕ Str)) (x : Int) : M RunS (Int ⊕ Str) := bndX (fun n s => (.inr n, s)) (mNVX nv x) fun _ => bnd (bnd (ret x) fun i => gtL (fun s => s.1.1.1.2) fun xs => atI xs i) fun x s => some (.inl x, s)
theorem run_pouredX {nv : Net → Int → Option (Unit ⊕ Str)} (T : RunT K C) {x : Int} (r : rInt.r F w x) : B (tSeq (tNVX K (WD E) nv) (tSeq (tRet (tOp (rIxL K) (tFld K (tVar 0) "hand") (tVar 1))) tNext)) [some v, some w] F (oRun C v) (pRtX K E (oRun C v) rInt) (mRunPouredX nv x) :=
  b_exprX (fun _ _ => rz_rt pr_id) (evx_NV T rfl rfl r) fun _ F' s' => b_open fun vh vt vr ve => b_retX pr_run (ev_ixR (rd_hand T (rd_var rfl) eC) eH (ev_var (rInt.mono s' r) rfl))
def mRunTipsX (nv : Net → Int → Option (Unit ⊕ Str)) (x : Int) : M RunS (List Int ⊕ Str) := bndX (fun n s => (.inr n, s)) (mNVX nv x) fun _ => bnd (bnd (ret x) fun i => gtL (fun s => s.1.1.2) fun xs => atI xs i) fun x s => some (.inl x, s)
theorem run_tipsX {nv : Net → Int → Option (Unit ⊕ Str)} (T : RunT K C) {x : Int} (r : rInt.r F w x) : B (tSeq (tNVX K (WD E) nv) (tSeq (tRet (tCB (rListOf K) (tCons (tOp (rIxL K) (tFld K (tVar 0) "all_tips") (tVar 1)) tNil))) tNext)) [some v, some w] F (oRun C v) (pRtX K E (oRun C v) (rLst rInt)) (mRunTipsX nv x) :=
  b_exprX (fun _ _ => rz_rt pr_id) (evx_NV T rfl rfl r) fun _ F' s' => b_open fun vh vt vr ve => b_retX pr_run (ev_frz (eo_copyLL (rd_tips T (rd_var rfl) eC) eT (ev_var (rInt.mono s' r) rfl)))
def mRunPourX (nv : Net → Int → Option (Unit ⊕ Str)) (x y : Int) : M RunS (Unit ⊕ Str) := bndX (fun n s => (.inr n, s)) (mNVX nv x) fun _ => bnd (zm (fun s => s) (fun _ t => t) mRunKeep) fun _ =>
  bnd (bnd (ret ("pour" : Str)) fun a => bnd (bnd (ret x) fun a => bnd (bnd (ret y) fun x => ret (Sum.inl x)) fun b => ret (a, b)) fun b => ret (a, b)) fun r =>
  bnd (upL (fun s => s.1.2) (fun s t => ((s.1.1, t), s.2)) fun xs => app xs r) fun _ =>
  bnd (ret x) fun i => bnd (gtL (fun s => s.1.1.1.2) fun xs => atI xs i) fun a => bnd (ret y) fun b => bnd (upL (fun s => s.1.1.1.2) (fun s t => ((((s.1.1.1.1, t), s.1.1.2), s.1.2), s.2)) fun xs => setI xs i (a + b)) fun _ => fun s => some (.inl (), s)
def tRunPourX (K : PySem.W.Frag) (W : WX) (C : Addr) (nv : Net → Int → Option (Unit ⊕ Str)) : TS := tSeq (tNVX K W nv) (tSeq (tDrop (tMeth C "keep" (spKeep C) [] E0 (tVar 0) tNil))
  (tSeq (tDrop (tBM K "list" rAppend (tFld K (tVar 0) "rows") (tCons (tTup (tCons (tC (.str "pour")) (tCons (tVar 1) (tCons (tVar 2) tNil)))) tNil)))
  (tSeq (tAugS (tFld K (tVar 0) "hand") (tVar 1) (tVar 2) (rIxL K) (ipI fun i j => i + j) L2.rSetL) tNext)))
theorem run_pourX {nv : Net → Int → Option (Unit ⊕ Str)} {w2 : V} {x y : Int} (T : RunT K C) (r : rInt.r F w x) (r2 : rInt.r F w2 y) : B (tRunPourX K (WD E) C nv) [some v, some w, some w2] F (oRun C v) (pEnX K E (oRun C v)) (mRunPourX nv x y) :=
  b_exprX (fun _ _ => rz_en pr_id) (evx_NV T rfl rfl r) fun _ F1 s1 => b_expr (ev_meth0S (hd_run "keep" (nolk (by decide +kernel))) rfl emb_id) fun _ F2 s2 => b_open fun vh vt vr ve =>
    b_appR (rd_rows T (rd_var rfl) eC) eR (ev_tup (by decide) (ea_cons ev_str (ea_cons (ev_var (rInt.mono (s1.trans s2) r) rfl) (ea_one (ev_inl (ev_var (rInt.mono (s1.trans s2) r2) rfl))))))
      (b_augR (h := fun i j => i + j) (rd_hand T (rd_var rfl) eC) eH (ev_var (rInt.mono (s1.trans s2) r) rfl) (ev_var (rInt.mono (s1.trans s2) r2) rfl) (b_endX pr_run))
/-! its book -/
theorem vh_list : VH (rListOf K) R (rLst R) (fun xs => some xs) := fun F H O l vs xs b W h rp hf Q q => by
  cases hf
  exact ⟨l, vs, rfl, .inl (SqL.of h), fun d nd => q _ _ _ (W.sameF nd) (W.newF nd) ⟨d, vs, rfl, upd_same, paired_mono (fun _ _ => R.mono (W.sameF nd)) rp⟩⟩
def mRunBook : M RunS (List RRow) := bnd (gtL (fun s => s.1.2) fun xs => some xs) fun x s => some (x, s)
theorem run_book (T : RunT K C) : B (tSeq (tRet (tCB (rListOf K) (tCons (tFld K (tVar 0) "rows") tNil))) tNext) [some v] F (oRun C v) (pRt (oRun C v) (rLst rRRow)) mRunBook := b_open fun vh vt vr ve => b_ret pr_run (ev_cbR vh_list (rd_rows T (rd_var rfl) eC) eR)
end
end T

/-! T41: things of one type read as of another; results that are new and owned of defs with owned things; more than one owned argument. -/
namespace T
open PySem L2
section
variable {S S1 S2 T' α β γ δ ι : Type} {R : Rl α} {R' : Rl β} {R2 : Rl γ} {U : Rl δ} {K : PySem.W.Frag} {C : Addr} {σ : L2.St} {F : Hp} {A : Ow S} {te ta : TE} {v w : V} {j : Nat}
theorem cvp_id : CvP R R (fun x => some x) := fun F v x y r e => by cases e; exact r
theorem cvp_none : CvP rNone (rOpt R) (fun _ => some none) := fun F v x y r e => by cases e; exact r
theorem cvp_some {f : α → Option β} (h : CvP R R' f) : CvP R (rOpt R') (fun x => (f x).map some) := fun F v x y r e => by
  obtain ⟨z, e1, rfl⟩ := Option.map_eq_some_iff.mp e
  exact h F v x z r e1
theorem cvp_oo {f : α → Option β} (h : CvP R R' f) : CvP (rOpt R) (rOpt R') (fun o => match o with | none => some none | some x => (f x).map some) := fun F v o y r e => by
  cases o with
  | none => cases e; exact r
  | some x => exact cvp_some h F v x y r e
theorem cvp_l {f : α → Option β} (h : CvP R R' f) : CvP R (rSum R' R2) (fun x => (f x).map Sum.inl) := fun F v x y r e => by
  obtain ⟨z, e1, rfl⟩ := Option.map_eq_some_iff.mp e
  exact h F v x z r e1
theorem cvp_r {f : α → Option β} (h : CvP R R' f) : CvP R (rSum R2 R') (fun x => (f x).map Sum.inr) := fun F v x y r e => by
  obtain ⟨z, e1, rfl⟩ := Option.map_eq_some_iff.mp e
  exact h F v x z r e1
def CvA {α β : Type} (T : Ar α) (T' : Ar β) (f : α → Option β) : Prop := ∀ F vs x y, T.r F vs x → f x = some y → T'.r F vs y
theorem cva_one {f : α → Option β} (h : CvP R R' f) : CvA (arOne R) (arOne R') f := fun F vs x y ⟨v, e1, r⟩ e => ⟨v, e1, h F v x y r e⟩
theorem cva_c {T : Ar γ} {T' : Ar δ} {f : α → Option β} {g : γ → Option δ} (h : CvP R R' f) (k : CvA T T' g) : CvA (arC R T) (arC R' T') (fun x => (f x.1).bind fun a => (g x.2).map fun b => (a, b)) := fun F vs x y ⟨v, r, e1, r1, r2⟩ e => by
  obtain ⟨a, e2, e⟩ := Option.bind_eq_some_iff.mp e
  obtain ⟨b, e3, rfl⟩ := Option.map_eq_some_iff.mp e
  exact ⟨v, r, e1, h F v _ _ r1 e2, k F r _ _ r2 e3⟩
theorem cvp_th {T : Ar α} {T' : Ar β} {f : α → Option β} (h : CvA T T' f) : CvP (rTh T) (rTh T') f := fun F v x y ⟨p, vs, e1, hp, r⟩ e => ⟨p, vs, e1, hp, h F vs x y r e⟩
theorem cvp_lh {T : Ar α} {T' : Ar β} {f : α → Option β} (h : CvA T T' f) : CvP (rLh T) (rLh T') f := fun F v x y ⟨p, vs, e1, hp, r⟩ e => ⟨p, vs, e1, hp, h F vs x y r e⟩
def mapO {α β : Type} (f : α → Option β) : List α → Option (List β)
  | [] => some []
  | x :: xs => (f x).bind fun y => (mapO f xs).map fun ys => y :: ys
theorem mapO_paired {f : α → Option β} {Q : V → α → Prop} {Q' : V → β → Prop} (h : ∀ v x y, Q v x → f x = some y → Q' v y) {vs : List V} {xs : List α} (rp : Paired Q vs xs) : ∀ {ys : List β}, mapO f xs = some ys → Paired Q' vs ys := by
  induction rp with
  | nil => intro ys e; cases e; exact .nil
  | cons r t ih =>
    intro ys e
    obtain ⟨y, e1, e⟩ := Option.bind_eq_some_iff.mp e
    obtain ⟨zs, e2, rfl⟩ := Option.map_eq_some_iff.mp e
    exact .cons (h _ _ _ r e1) (ih e2)
theorem cvp_tup {f : α → Option β} (h : CvP R R' f) : CvP (rTup R) (rTup R') (mapO f) := fun F v x y ⟨p, vs, e1, hp, r⟩ e => ⟨p, vs, e1, hp, mapO_paired (fun v x y => h F v x y) r e⟩
theorem cvp_lst {f : α → Option β} (h : CvP R R' f) : CvP (rLst R) (rLst R') (mapO f) := fun F v x y ⟨p, vs, e1, hp, r⟩ e => ⟨p, vs, e1, hp, mapO_paired (fun v x y => h F v x y) r e⟩
/-- a row of unlike things as a row of like ones -/
def CvL {α β : Type} (T : Ar α) (R : Rl β) (f : α → Option (List β)) : Prop := ∀ F vs x y, T.r F vs x → f x = some y → Paired (R.r F) vs y
theorem cvl_one {f : α → Option β} (h : CvP R R' f) : CvL (arOne R) R' (fun x => (f x).map fun y => [y]) := fun F vs x y ⟨v, e1, r⟩ e => by
  obtain ⟨z, e2, rfl⟩ := Option.map_eq_some_iff.mp e
  rw [e1]
  exact .cons (h F v x z r e2) .nil
theorem cvl_c {T : Ar γ} {f : α → Option β} {g : γ → Option (List β)} (h : CvP R R' f) (k : CvL T R' g) : CvL (arC R T) R' (fun x => (f x.1).bind fun a => (g x.2).map fun b => a :: b) := fun F vs x y ⟨v, r, e1, r1, r2⟩ e => by
  obtain ⟨a, e2, e⟩ := Option.bind_eq_some_iff.mp e
  obtain ⟨b, e3, rfl⟩ := Option.map_eq_some_iff.mp e
  rw [e1]
  exact .cons (h F v _ _ r1 e2) (k F r _ _ r2 e3)
theorem cvp_thT {T : Ar α} {f : α → Option (List β)} (h : CvL T R' f) : CvP (rTh T) (rTup R') f := fun F v x y ⟨p, vs, e1, hp, r⟩ e => ⟨p, vs, e1, hp, h F vs x y r e⟩
theorem cvp_lhL {T : Ar α} {f : α → Option (List β)} (h : CvL T R' f) : CvP (rLh T) (rLst R') f := fun F v x y ⟨p, vs, e1, hp, r⟩ e => ⟨p, vs, e1, hp, h F vs x y r e⟩
/-- a new list, its things read as of another type -/
theorem eo_cvO {f : α → Option β} {m : M S (List α)} (h : CvP R R' f) (he : EvO te σ F A (oLst R) m) : EvO te σ F A (oLst R') (bnd m fun xs => lft (mapO f xs)) := fun s b s' hm F1 H c O sm ho W Q q => by
  obtain ⟨x, s1, h1, hm⟩ := bnd_some hm
  obtain ⟨h2, rfl⟩ := lft_some hm
  refine he s x _ h1 F1 H c O sm ho W _ fun v F2 H2 c2 cb s2 o2 ⟨l, vs, ev, ec, rp⟩ W2 => q v F2 H2 c2 cb s2 o2 ⟨l, vs, ev, ec, ?_⟩ W2
  exact mapO_paired (fun v x y => h F2 v x y) rp h2
/-! results that are new and owned -/
def spSo {ι : Type} (T : ι → Ar α) (B : ι → Ow S1) (U : V → Ow γ) (f : α → M S1 γ) : Sp := fun vs H Q _ => ∃ (i : ι) (F : Hp) (O c : Ch) (x : α) (s : S1) (b : γ) (s' : S1), (T i).r F vs x ∧ (B i).o F s c ∧ Wd F H (c ++ O) ∧ f x s = some (b, s') ∧
  ∀ v F' H' c' cb, Same F F' → (B i).o F' s' c' → (U v).o F' b cb → Wd F' H' (cb ++ (c' ++ O)) → Q v H'
theorem ok_So {Q : VK} {t : TS} {F H : Hp} {c O : Ch} {s s' : S} {b : β} {m : M S β} {U : V → Ow β} (W : Wd F H (c ++ O)) (ho : A.o F s c) (hm : m s = some (b, s')) (q : ∀ v F' H' c' cb, Same F F' → A.o F' s' c' → (U v).o F' b cb → Wd F' H' (cb ++ (c' ++ O)) → Q v H') (h : B t σ F A (pRo A U) m) : t { nx := fun _ H' => Q .non H', rt := Q } σ H :=
  h s (b, s') hm F H c O (SameR _) ho W _ fun v F' H' c' cb s o ob w => q v F' H' c' cb s o ob w
theorem eo_methS0 {T : Type} {mn : Str} {Bf : V → Ow T} {U : V → Ow γ} {f : M T γ} {E : XK} {g : S → T} {p : S → T → S} (hh : InsHd Bf C mn) (hv : σ[j]? = some (some v)) (e : Emb A (Bf v) g p) :
    EvO (tMeth C mn (spSo (fun v => arOne (rV v)) Bf U (fun _ => f)) [] E (tVar j) tNil) σ F A U (zm g p f) := fun s b s' hm F1 H c O sm ho W1 Q q => by
  obtain ⟨t, h2, rfl⟩ := zm_some hm
  obtain ⟨c3, c4, pm, ob, k⟩ := e.split ho
  obtain ⟨p0, dx, fs, rest, rfl, rfl, hl⟩ := hh.hd ob
  have W0 : Wd F1 H ((p0, .ins C dx fs) :: (rest ++ (c4 ++ O))) := by
    refine W1.perm ((pm.append_right O).trans ?_)
    simp
  refine ⟨_, hv, p0, dx, fs, rfl, W0.hd, hl, ?_⟩
  refine ⟨.ref p0, F1, c4 ++ O, (p0, .ins C dx fs) :: rest, (), g s, b, t, ⟨_, rfl, rfl⟩, ob, W1.perm ?_, h2, fun v F3 H3 c5 cb s3 o3 o4 W3 => ?_⟩
  · rw [← List.append_assoc]; exact pm.append_right O
  · obtain ⟨c', oc, pm2⟩ := k F3 t c5 s3 o3
    refine q v F3 H3 c' cb s3 oc o4 (W3.perm ?_)
    refine List.Perm.append_left cb ?_
    rw [← List.append_assoc]; exact (pm2.append_right O).symm
theorem eo_callSo (i : ι) {T : ι → Ar β} {B : ι → Ow S1} {U : V → Ow γ} {f : β → M S1 γ} {E : XK} {g : S → S1} {p : S → S1 → S} {ar : TA} {m' : M S β} (e : Emb A (B i) g p) (h : EvA ar σ F A (T i) m') : EvO (tCall (spSo T B U f) [] E ar) σ F A U (bnd m' fun x => zm g p (f x)) := fun s b s' hm F1 H c O sm ho Wd1 Q q => by
  obtain ⟨xs, s1, h1, hm⟩ := bnd_some hm
  obtain ⟨t, h2, rfl⟩ := zm_some hm
  refine h s _ _ h1 F1 H c O sm ho Wd1 _ fun vs F2 H2 c2 s2 o2 W2 r2 => ?_
  obtain ⟨c3, c4, pm, ob, k⟩ := e.split o2
  rw [List.append_nil]
  refine ⟨i, F2, c4 ++ O, c3, xs, g s1, b, t, r2, ob, W2.perm (by rw [← List.append_assoc]; exact pm.append_right O), h2, ?_⟩
  intro v F3 H3 c5 cb s3 o3 o4 W3
  obtain ⟨c', oc, pm2⟩ := k F3 t c5 s3 o3
  refine q v F3 H3 c' cb (s2.trans s3) oc o4 (W3.perm (List.Perm.append_left cb ?_))
  rw [← List.append_assoc]; exact (pm2.append_right O).symm
abbrev spRun0o {γ : Type} (C : Addr) (U : V → Ow γ) (f : M RunS γ) : Sp := spSo (fun v => arOne (rV v)) (oRun C) U (fun _ => f)
/-- list(x), x owned, and seen -/
theorem eo_cbR {g : S → List α} {p : S → List α → S} (hv : Rd te σ A v) (e : Emb A (oLst R v) g p) : EvO (tCB (rListOf K) (tCons te tNil)) σ F A (oLst R) (gtL g fun xs => some xs) := fun s b s' hm F1 H c O sm ho W Q q => by
  obtain ⟨h2, rfl⟩ := gtL_some hm
  cases h2
  refine hv F1 H _ c O ho W _ ?_
  obtain ⟨l, vs, c3, rfl, rp, W3, k⟩ := emb_list e ho W
  refine ⟨l, vs, rfl, .inl (SqL.of W3.hd), fun d nd => ?_⟩
  exact q (.ref d) F1 _ c [(d, .lst vs)] (SameR _) ho ⟨d, vs, rfl, rfl, rp⟩ (W.newO nd)
theorem run_bookO (T : RunT K C) : B (tSeq (tRet (tCB (rListOf K) (tCons (tFld K (tVar 0) "rows") tNil))) tNext) [some v] F (oRun C v) (pRo (oRun C v) (oLst rRRow)) mRunBook := b_open fun vh vt vr ve => b_reto pr_run (eo_cbR (rd_rows T (rd_var rfl) eC) eR)
/-! isinstance of an owned list -/
theorem ev_isiO {g : S → List α} {p : S → List α → S} {n : String} {bb : Bool} (hv : σ[j]? = some (some v)) (e : Emb A (oLst R v) g p) (h : kitB "list" n = some bb := by decide +kernel) : Ev (tCB (rIsi K) (tCons (tVar j) (tCons (tC (.ty n)) tNil))) σ F A rBool (gtL g fun _ => some bb) := fun s b s' hm F1 H c O sm ho W Q q => by
  obtain ⟨h2, rfl⟩ := gtL_some hm
  cases h2
  refine ⟨v, hv, ?_⟩
  obtain ⟨l, vs, c3, rfl, rp, W3, k⟩ := emb_list e ho W
  exact ⟨.ref l, .ty n, .type "list", .type n, _, rfl, .ty n, .base (.lst W3.hd), kit_bb h, q _ F1 H c (SameR _) ho W rfl⟩
/-! two owned things as one -/
theorem emb_pair {B : Ow T'} {X : Ow S1} {g : S → S1} {p : S → S1 → S} (e : Emb A X g p) : Emb (star A B) (star X B) (fun s => (g s.1, s.2)) (fun s t => (p s.1 t.1, t.2)) := ⟨fun {F s c} ⟨c1, c2, ec, ha, hb⟩ => by
  obtain ⟨a1, a2, pm, hx, k⟩ := e.split ha
  refine ⟨a1 ++ c2, a2, ?_, ⟨a1, c2, rfl, hx, hb⟩, fun F' t c' s' ⟨d1, d2, ed, hx', hb'⟩ => ?_⟩
  · rw [ec]
    refine (pm.append_right c2).trans ?_
    rw [List.append_assoc, List.append_assoc]
    exact List.Perm.append_left a1 List.perm_append_comm
  · obtain ⟨c6, h6, pm6⟩ := k F' t.1 d1 s' hx'
    refine ⟨c6 ++ d2, ⟨c6, d2, rfl, h6, hb'⟩, ?_⟩
    rw [ed]
    refine (pm6.append_right d2).trans ?_
    rw [List.append_assoc, List.append_assoc]
    exact List.Perm.append_left d1 List.perm_append_comm⟩
end
end T

/-! T42: pop(); what was last done is taken back. -/
namespace T
open PySem L2
section
variable {S S1 T' α β γ δ Ω ι : Type} {R : Rl α} {R' : Rl β} {K : PySem.W.Frag} {C : Addr} {E : XK} {σ : L2.St} {F : Hp} {A : Ow S} {te te0 ta : TE} {u : TS} {P : Post Ω} {v w vh vt vr ve : V} {j : Nat}
theorem kpe_bm0 {X : Cx} {K : PySem.W.Frag} {o : Expr} {to : TE} {name : Str} {apos cpos : Pos} {TT id : String} {r : V → List V → Hp → VK → Prop} (pa : PlainAttrs TT) (slot : Slot TT name id) (hty : typeOf (.builtin id) = pure (.type "method_descriptor")) (hm : MtR X id r) (ho : PE X o to) (eK : X.K = K := by rfl)
    (hbase : attributeBase o name X.env (eval o X.env) = eval o X.env := by rfl) (hline : (apos.endLine == cpos.line) = true := by rfl) : PE X (.Call (.Attribute o name apos) [] [] cpos) (tBM0 K TT r to) := by subst eK; exact pe_bm0 pa slot hty hm ho hbase hline
/-- xs.pop() -/
def popL (g : S → List α) (p : S → List α → S) : M S α := fun s => (g s).getLast?.map fun y => (y, p s (g s).dropLast)
theorem paired_dropLast {Q : V → α → Prop} {vs : List V} {xs : List α} (h : Paired Q vs xs) : Paired Q vs.dropLast xs.dropLast := by
  rw [List.dropLast_eq_take, List.dropLast_eq_take, paired_len h]
  exact paired_take _ h
theorem ev_popR {g : S → List α} {p : S → List α → S} (hv : Rd te σ A v) (e : Emb A (oLst R v) g p) : Ev (tBM0 K "list" rPop te) σ F A R (popL g p) := fun s b s' hm F1 H c O sm ho W Q q => by
  unfold popL at hm
  obtain ⟨y, h2, h3⟩ := Option.map_eq_some_iff.mp hm
  cases h3
  refine hv F1 H _ c O ho W _ ?_
  obtain ⟨l, vs, c3, rfl, rp, W3, kk⟩ := emb_list e ho W
  refine ⟨Or.inl ⟨rfl, vs, SqL.of W3.hd⟩, ?_⟩
  rw [List.getLast?_eq_getElem?] at h2
  obtain ⟨z, hz, rz⟩ := paired_get' rp h2
  rw [← paired_len rp] at hz
  obtain ⟨c4, o4, W4⟩ := kk F1 _ vs.dropLast (SameR _) (paired_dropLast rp) _ W3.set
  refine ⟨l, vs, z, rfl, rfl, W3.hd, hz, ?_⟩
  exact q z F1 _ c4 (SameR _) o4 W4 rz
theorem ev_pop0 {g : S → List α} {p : S → List α → S} (hv : σ[j]? = some (some v)) (e : Emb A (oLst R v) g p) : Ev (tBM0 K "list" rPop (tVar j)) σ F A R (popL g p) := ev_popR (rd_var hv) e
/-- x == e, x owned and seen -/
theorem ev_eqDR {g : S → List α} {p : S → List α → S} {m : M S β} (D : RD R) (E : RD R') (hv : Rd te0 σ A v) (e : Emb A (oLst R v) g p) (he : Ev te σ F A R' m) : Ev (tOp (rEqD K) te0 te) σ F A rBool (bnd m fun y => gtL g fun xs => eqD (.list (xs.map D.d)) (E.d y)) := fun s b s' hm F1 H c O sm ho W Q q => by
  obtain ⟨y, s1, h1, hm⟩ := bnd_some hm
  obtain ⟨h2, rfl⟩ := gtL_some hm
  refine hv F1 H s c O ho W _ (he s y s' h1 F1 H c O sm ho W _ fun vy F2 H2 c2 sm2 o2 W2 r2 => ?_)
  simp only [eqD] at h2; split at h2
  · rename_i h; cases h2
    exact ⟨_, _, dp_own D e o2 W2, Dp.mono W2.sub (E.dp r2), h.1, h.2, q _ F2 H2 c2 sm2 o2 W2 rfl⟩
  · cases h2
def dElder : RD rElder := dTh (daC dState (daC (dTup dInt) (daC (dTh (daC dInt (daC dInt (daOne dInt)))) (daOne (dLst dInt)))))
/-- self.now, x, y, z = e -/
theorem b_unpElder {i1 i2 i3 : Nat} {g : S → RCore} {p : S → RCore → S} {m : M S Elder} {h : Elder → S → Option Ω} (T : RunT K C) (h0 : σ[j]? = some (some v)) (e : Emb A (oCore C v vh vt vr ve) g p) (he : Ev te σ F A rElder m)
    (k : ∀ v1 v2 v3 x F', Same F F' → (rTup rInt).r F' v1 x.2.1 → rSums.r F' v2 x.2.2.1 → (rLst rInt).r F' v3 x.2.2.2 → B u (((σ.set i1 (some v1)).set i2 (some v2)).set i3 (some v3)) F' A P (h x)) :
    B (tSeq (tAsg te (gTup K 4 (gCons (gFld K (tVar j) "now") (gCons (gName i1) (gCons (gName i2) (gCons (gName i3) gNil)))))) u) σ F A P (bnd m fun x => bnd (upL g p fun t => some (t.1, x.1, t.2.2)) fun _ => h x) := fun s w hm F1 H c O sm ho W D q => by
  obtain ⟨x, s1, h1, hm⟩ := bnd_some hm
  obtain ⟨_, s2, h2, hm⟩ := bnd_some hm
  obtain ⟨t, h2a, rfl⟩ := upL_some h2
  cases h2a
  refine he s x s1 h1 F1 H c O sm ho W _ fun z F2 H2 c2 sm2 o2 W2 ⟨a, vs, ez, hp, v0, _, e1, r0, v1, _, e2, r1, v2, _, e3, r2, v3, e4, r3⟩ => ?_
  subst e4 e3 e2 e1
  refine ⟨a, _, ez, SqT.of (W2.sub _ _ hp), rfl, v0, _, rfl, ?_⟩
  obtain ⟨b, dx, vn, vs, c3, rfl, q1, q2, W3, kk⟩ := emb_core e o2 W2
  refine ⟨_, h0, b, C, dx, _, rfl, W3.hd, T.cl, T.now, lx, ?_⟩
  rw [pt_now]
  refine ⟨v1, _, rfl, v2, _, rfl, v3, _, rfl, rfl, ?_⟩
  have W4 := W3.set (o' := .ins C dx (runFs vn v0 vh vt vr ve (g s1).2.2.1 (g s1).2.2.2.1 (g s1).2.2.2.2))
  obtain ⟨c5, o5, W5⟩ := kk F2 vn v0 ((g s1).1, x.1, (g s1).2.2) (SameR _) q1 r0 _ W4
  exact k v1 v2 v3 x F2 (sm.trans sm2) r1 r2 r3 _ w hm F2 _ c5 O (SameR _) o5 W5 D (P.mono sm2 q)
/-- self.many_gone, self.all_came, self.all_ground = e -/
theorem b_unpSums {g : S → RCore} {p : S → RCore → S} {m : M S (Int × Int × Int)} {h : S → Option Ω} (T : RunT K C) (h0 : σ[j]? = some (some v)) (e : Emb A (oCore C v vh vt vr ve) g p) (he : Ev te σ F A rSums m)
    (k : B u σ F A P h) :
    B (tSeq (tAsg te (gTup K 3 (gCons (gFld K (tVar j) "many_gone") (gCons (gFld K (tVar j) "all_came") (gCons (gFld K (tVar j) "all_ground") gNil))))) u) σ F A P (bnd m fun x => bnd (upL g p fun t => some (t.1, t.2.1, x)) fun _ => h) := fun s w hm F1 H c O sm ho W D q => by
  obtain ⟨x, s1, h1, hm⟩ := bnd_some hm
  obtain ⟨_, s2, h2, hm⟩ := bnd_some hm
  obtain ⟨t, h2a, rfl⟩ := upL_some h2
  cases h2a
  refine he s x s1 h1 F1 H c O sm ho W _ fun z F2 H2 c2 sm2 o2 W2 ⟨a, vs, ez, hp, v0, _, e1, r0, v1, _, e2, r1, v2, e3, r2⟩ => ?_
  subst e3 e2 e1
  obtain rfl : v0 = .int x.1 := r0
  obtain rfl : v1 = .int x.2.1 := r1
  obtain rfl : v2 = .int x.2.2 := r2
  refine ⟨a, _, ez, SqT.of (W2.sub _ _ hp), rfl, _, _, rfl, ?_⟩
  obtain ⟨b, dx, vn, vs, c3, rfl, q1, q2, W3, kk⟩ := emb_core e o2 W2
  refine ⟨_, h0, b, C, dx, _, rfl, W3.hd, T.cl, T.many_gone, lx, ?_⟩
  rw [pt_gone]
  refine ⟨_, _, rfl, _, h0, b, C, dx, _, rfl, upd_same, T.cl, T.all_came, lx, ?_⟩
  rw [pt_came]
  refine ⟨_, _, rfl, _, h0, b, C, dx, _, rfl, upd_same, T.cl, T.all_ground, lx, rfl, ?_⟩
  rw [pt_ground]
  have W4 := ((W3.set (o' := .ins C dx (runFs vn vs vh vt vr ve x.1 (g s1).2.2.2.1 (g s1).2.2.2.2))).set (o' := .ins C dx (runFs vn vs vh vt vr ve x.1 x.2.1 (g s1).2.2.2.2))).set (o' := .ins C dx (runFs vn vs vh vt vr ve x.1 x.2.1 x.2.2))
  obtain ⟨c5, o5, W5⟩ := kk F2 vn vs ((g s1).1, (g s1).2.1, x) (SameR _) q1 q2 _ W4
  exact k _ w hm F2 _ c5 O (sm.trans sm2) o5 W5 D (P.mono sm2 q)
/-- self.all_tips = new lists -/
theorem pt_tips {vn vs w : V} {a b c : Int} : putF "all_tips" w (runFs vn vs vh vt vr ve a b c) = runFs vn vs vh w vr ve a b c := by
  unfold runFs
  rw [putF_past (by decide +kernel), putF_past (by decide +kernel), putF_past (by decide +kernel), putF_past (by decide +kernel), putF_hit]
theorem b_tips {A : V → Ow S} {g : S → (RCore × List Int) × List (List Int)} {p : S → (RCore × List Int) × List (List Int) → S} {m : M S (List (List Int))} {h : S → Option Ω} (T : RunT K C) (h0 : σ[j]? = some (some v)) (e : EmbF A (fun i => star (star (oCore C v vh i vr ve) (oLst rInt vh)) (oLL rInt i)) g p) (he : EvO te σ F (A vt) (oLL rInt) m) (k : ∀ vt' F', Same F F' → B u σ F' (A vt') P h) :
    B (tSeq (sFld K (tVar j) te "all_tips") u) σ F (A vt) P (bnd m fun x => bnd (upL g p fun t => some (t.1, x)) fun _ => h) := fun s w hm F1 H c O sm ho W D q => by
  obtain ⟨x, s1, h1, hm⟩ := bnd_some hm
  obtain ⟨_, s2, h2, hm⟩ := bnd_some hm
  obtain ⟨t, h2a, rfl⟩ := upL_some h2
  cases h2a
  refine he s x s1 h1 F1 H c O sm ho W _ fun z F2 H2 c2 cb sm2 o2 ob W2 => ⟨_, h0, ?_⟩
  obtain ⟨c3, c4, pm, ⟨c5, c6, rfl, ⟨c7, c8, rfl, ⟨a, dx, vn, vs, e1, rfl, r1, r2⟩, oh⟩, ol⟩, kk⟩ := e.split o2
  subst e1
  have W3 : Wd F2 H2 ((a, .ins C dx (runFs vn vs vh vt vr ve (g s1).1.1.2.2.1 (g s1).1.1.2.2.2.1 (g s1).1.1.2.2.2.2)) :: (c8 ++ (cb ++ (c4 ++ O)) ++ c6)) := by
    refine W2.perm ?_
    have p1 : (cb ++ (c2 ++ O)).Perm (cb ++ (((([(a, HO.ins C dx (runFs vn vs vh vt vr ve (g s1).1.1.2.2.1 (g s1).1.1.2.2.2.1 (g s1).1.1.2.2.2.2))] ++ c8) ++ c6) ++ c4) ++ O)) := (pm.append_right O).append_left _
    refine p1.trans ?_
    simp only [List.append_assoc, List.cons_append, List.nil_append]
    refine (List.perm_middle).trans (List.Perm.cons _ ?_)
    -- cb ++ (c8 ++ (c6 ++ (c4 ++ O))) ~ c8 ++ (cb ++ (c4 ++ (O ++ c6)))
    rw [← List.append_assoc]
    refine ((List.perm_append_comm (l₁ := cb) (l₂ := c8)).append_right _).trans ?_
    rw [List.append_assoc]
    refine List.Perm.append_left c8 (List.Perm.append_left cb ?_)
    refine (List.perm_append_comm (l₁ := c6) (l₂ := c4 ++ O)).trans ?_
    rw [List.append_assoc]
  refine ⟨a, C, dx, _, rfl, W3.hd, T.cl, T.all_tips, lx, ?_⟩
  rw [pt_tips]
  have W4 := (W3.set (o' := .ins C dx (runFs vn vs vh z vr ve (g s1).1.1.2.2.1 (g s1).1.1.2.2.2.1 (g s1).1.1.2.2.2.2))).sublist (List.Sublist.cons_cons _ (List.sublist_append_left (c8 ++ (cb ++ (c4 ++ O))) c6))
  obtain ⟨c7', o7, pm7⟩ := kk z F2 ((g s1).1, x) _ (SameR _) ⟨_, _, rfl, ⟨_, _, rfl, ⟨a, dx, vn, vs, rfl, rfl, r1, r2⟩, oh⟩, ob⟩
  refine k z F2 (sm.trans sm2) _ w hm F2 _ c7' O (SameR _) o7 (W4.perm ?_) D (P.mono sm2 q)
  refine ((pm7.append_right O).trans ?_).symm
  simp only [List.append_assoc, List.cons_append, List.nil_append]
  exact List.Perm.refl _
/-- [x[:n] for x, n in zip(xs, ns)], xs a list of lists -/
theorem eo_cuts {g : S → List (List α)} {p : S → List (List α) → S} {mc : M S (List Int)} {i1 i2 : Nat} (hv : Rd te0 σ A v) (e : Emb A (oLL R v) g p) (hc : Ev te σ F A (rLst rInt) mc) (h1 : i1 < σ.length) (h2 : i2 < σ.length) (hne : i1 ≠ i2)
    (hw : ∀ x y, wipe (((wipe σ [i1, i2]).set i1 (some x)).set i2 (some y)) [i1, i2] = wipe σ [i1, i2]) :
    EvO (tLc (iZip K (tCons te0 (tCons te tNil))) (gTup K 2 (gCons (gName i1) (gCons (gName i2) gNil))) tYes (tSl (rSlL K) (tVar i1) tNoPart (tPart (tVar i2))) [i1, i2]) σ F A (oLL R) (bnd mc fun cs => bnd (gtL g fun xs => chk xs) fun xs => ret ((xs.zip cs).map fun q => cutV' q.1 none (some q.2))) := fun s b s' hm F1 H c O sm ho W Q q => by
  obtain ⟨cs, s1, g1, hm⟩ := bnd_some hm
  obtain ⟨xs, s2, g2, hm2⟩ := bnd_some hm
  obtain ⟨g2a, rfl⟩ := gtL_some g2
  obtain ⟨rfl, hlen⟩ := chk_some g2a
  obtain ⟨rfl, rfl⟩ := ret_some hm2
  refine hv F1 H _ c O ho W _ (hc _ _ _ g1 F1 H c O sm ho W _ fun vc F2 H2 c2 s2' o2 W2 r2 => ?_)
  obtain ⟨pc, ws, rfl, hpc, rpc⟩ := r2
  obtain ⟨l, ts, rfl, rp, hm0, hm1⟩ := ll_at e o2
  have hl := paired_len2 rp
  have hlc := paired_len rpc
  have hml : ∀ {F' H' : Hp} {o : HO} {a : Addr} {Z : Ch}, Wd F' H' (Z ++ (c2 ++ O)) → (a, o) ∈ c2 → H' a = some o := fun W' hm => wd_mem W' (List.mem_append_right _ (List.mem_append_left _ hm))
  refine ⟨l, pc, ts.map fun q => V.ref q.1, ws, rfl, SqL.of (hml (Z := []) W2 hm0), SqL.of (W2.sub _ _ hpc), fun D nD => ?_⟩
  let Pv : Nat → Hp → Prop := fun i H' => ∃ F3, ∃ us : List (Addr × List V), Same F2 F3 ∧ Wd F3 H' (((D, .lst (us.map fun q => V.ref q.1)) :: us.map (fun q => (q.1, HO.lst q.2))) ++ (c2 ++ O)) ∧ us.length = i ∧ Paired (fun (q : Addr × List V) ys => Paired (R.r F3) q.2 ys) us ((((g s').zip cs).take i).map fun q => cutV' q.1 none (some q.2))
  refine lc_it (walk_zip (K := K) (a := l) (b := pc) (xs := ts.map fun q => V.ref q.1) (ys := ws) rfl) Pv ?_ ?_ ?_ ?_
  · exact ⟨F2, [], SameR _, W2.newO nD, rfl, .nil⟩
  · rintro i H3 _ ⟨F3, us, s3, W3, _⟩
    exact ⟨SqL.of (hml W3 hm0), SqL.of (W3.sub _ _ (s3 _ _ hpc))⟩
  · rintro i y H3 H4 hlt ⟨F3, us, s3, W3, hi, hu⟩ ⟨Tp, x, z, rfl, nT, rfl, ex, ez⟩
    rw [List.length_map] at hlt
    have hlt1 : i < ts.length := by omega
    have hlt2 : i < ws.length := by omega
    replace ex : (ts.map fun q => V.ref q.1)[i]? = some x := ex
    rw [List.getElem?_map] at ex
    obtain ⟨t, ht, rfl⟩ := Option.map_eq_some_iff.mp ex
    obtain ⟨n, hn, rn⟩ := paired_get rpc ez
    obtain rfl : z = .int n := rn
    obtain ⟨ys, hys, rys⟩ : ∃ ys, (g s')[i]? = some ys ∧ Paired (R.r F2) t.2 ys := by
      have hx : (g s')[i]? = some (g s')[i] := List.getElem?_eq_getElem (by omega)
      obtain ⟨t', ht', rt'⟩ := pget_ll rp hx
      rw [ht] at ht'; cases ht'
      exact ⟨_, hx, rt'⟩
    have W4 := W3.newF (o := .tup [.ref t.1, .int n]) nT
    have s4 := W3.sameF (o := .tup [.ref t.1, .int n]) nT
    refine ⟨Tp, _, rfl, SqT.of upd_same, rfl, .ref t.1, _, rfl, .int n, _, rfl, rfl, hw _ _, ?_⟩
    refine iteT (B := Pv (i + 1) (upd H3 Tp (.tup [.ref t.1, .int n]))) ?_
    have l1 : i1 < (wipe σ [i1, i2]).length := by rw [wipe_length]; exact h1
    have l2 : i2 < (wipe σ [i1, i2]).length := by rw [wipe_length]; exact h2
    have hH : upd H3 Tp (.tup [.ref t.1, .int n]) t.1 = some (.lst t.2) := hml W4 (hm1 t (List.mem_of_getElem? ht))
    refine ⟨.ref t.1, by rw [List.getElem?_set_ne (Ne.symm hne), List.getElem?_set_self l1], .int n, by rw [List.getElem?_set_self (by rw [List.length_set]; exact l2)], n, rfl, t.1, t.2, rfl, SqL.of hH, fun p np => ?_⟩
    have W5 := W4.newO (o := .lst (cutV t.2 none (some n))) np
    refine ⟨_, (W5.tl).hd, ?_, _, us ++ [(p, cutV t.2 none (some n))], s3.trans s4, ?_, by simp [hi], ?_⟩
    · rw [List.length_map, hi]; exact lim_le (by omega)
    · have W6 := (W5.perm (List.Perm.swap _ _ _)).set (o' := .lst (us.map (fun q => V.ref q.1) ++ [.ref p]))
      refine (W6.perm ?_)
      rw [List.map_append, List.map_append]
      refine List.Perm.cons _ ?_
      show ((p, HO.lst _) :: (us.map (fun q => (q.1, HO.lst q.2)) ++ (c2 ++ O))).Perm ((us.map (fun q => (q.1, HO.lst q.2)) ++ [(p, HO.lst _)]) ++ (c2 ++ O))
      rw [List.append_assoc]
      exact (List.perm_middle (l₁ := us.map (fun q => (q.1, HO.lst q.2)))).symm
    · have hz : ((g s').zip cs)[i]? = some (ys, n) := by rw [List.getElem?_zip_eq_some]; exact ⟨hys, hn⟩
      have htk : ((g s').zip cs).take (i + 1) = ((g s').zip cs).take i ++ [(ys, n)] := by rw [List.take_succ, hz]; rfl
      rw [htk, List.map_append]
      have hu2 := hu.mono fun _ _ q => paired_mono (fun _ _ => R.mono s4) q
      have : Paired (R.r (upd F3 Tp (.tup [.ref t.1, .int n]))) (cutV t.2 none (some n)) (cutV' ys none (some n)) := paired_mono (fun _ _ => R.mono (s3.trans s4)) (paired_cut rys none (some n))
      exact hu2.snoc this
  · rintro H3 ⟨F3, us, s3, W3, hi, hu⟩
    have hz : ((g s').zip cs).take (min (ts.map fun q => V.ref q.1).length ws.length) = (g s').zip cs := List.take_of_length_le (by rw [List.length_zip, List.length_map]; omega)
    rw [hz] at hu
    exact q (.ref D) F3 H3 c2 _ (s2'.trans s3) (A.mono s3 o2) ⟨D, us, rfl, rfl, hu⟩ W3
/-! back -/
def mRunBack : M RunS (Unit ⊕ Str) := bnd (bnd (bnd (ret ([] : List Elder)) fun xs => lft (few xs)) fun y => gtL (fun s => s.2) fun xs => eqD (.list (xs.map dElder.d)) ((dLst dElder).d y)) fun b => bif b then (fun s => some (.inr "Nothing", s)) else
  bnd (popL (fun s => s.2) (fun s t => (s.1, t))) fun x => bnd (upL (fun s => s.1.1.1.1) (fun s t => ((((t, s.1.1.1.2), s.1.1.2), s.1.2), s.2)) fun t => some (t.1, x.1, t.2.2)) fun _ =>
  bnd (popL (fun s => s.1.2) (fun s t => ((s.1.1, t), s.2))) fun _ =>
  bnd (bnd (ret x.2.1) fun a => lft (some a)) fun h => bnd (upL (fun s => s.1.1.1) (fun s t => (((t, s.1.1.2), s.1.2), s.2)) fun t => some (t.1, h)) fun _ =>
  bnd (ret x.2.2.1) fun y => bnd (upL (fun s => s.1.1.1.1) (fun s t => ((((t, s.1.1.1.2), s.1.1.2), s.1.2), s.2)) fun t => some (t.1, t.2.1, y)) fun _ =>
  bnd (bnd (ret x.2.2.2) fun cs => bnd (gtL (fun s => s.1.1.2) fun xs => chk xs) fun xs => ret ((xs.zip cs).map fun q => cutV' q.1 none (some q.2))) fun z => bnd (upL (fun s => s.1.1) (fun s t => ((t, s.1.2), s.2)) fun t => some (t.1, z)) fun _ => fun s => some (.inl (), s)
def tRunBack (K : PySem.W.Frag) (W : WX) : TS := tSeq (tIfS (tTest (tOp (rEqD K) (tSelf K "elder") (tLst tNil))) (tSeq (tRaise K W "Nothing") tNext) tNext)
  (tSeq (tAsg (tBM0 K "list" rPop (tSelf K "elder")) (gTup K 4 (gCons (gFld K (tVar 0) "now") (gCons (gName 1) (gCons (gName 2) (gCons (gName 3) gNil))))))
  (tSeq (tDrop (tBM0 K "list" rPop (tSelf K "rows")))
  (tSeq (sFld K (tVar 0) (tCB (rListOf K) (tCons (tVar 1) tNil)) "hand")
  (tSeq (tAsg (tVar 2) (gTup K 3 (gCons (gFld K (tVar 0) "many_gone") (gCons (gFld K (tVar 0) "all_came") (gCons (gFld K (tVar 0) "all_ground") gNil)))))
  (tSeq (sFld K (tVar 0) (tLc (iZip K (tCons (tSelf K "all_tips") (tCons (tVar 3) tNil))) (gTup K 2 (gCons (gName 4) (gCons (gName 5) gNil))) tYes (tSl (rSlL K) (tVar 4) tNoPart (tPart (tVar 5))) [4, 5]) "all_tips") tNext)))))
theorem run_back (T : RunT K C) : B (tRunBack K (WD E)) [some v, none, none, none, none, none] F (oRun C v) (pEnX K E (oRun C v)) mRunBack :=
  b_open fun vh vt vr ve => b_ifRaise (fun _ _ => rz_en pr_run) (et_test (ev_eqDR dElder (dLst dElder) (rd_elder T (rd_var rfl) eC) eE (ev_frz (eo_lst eal_nil)))) fun F1 s1 =>
  b_unpElder T rfl eC (ev_popR (rd_elder T (rd_var rfl) eC) eE) fun v1 v2 v3 x F2 s2 r1 r2 r3 =>
  b_σ (σ' := [some v, some v1, some v2, some v3, none, none]) rfl
  (b_expr (ev_popR (R := rRRow) (rd_rows T (rd_var rfl) eC) eR) fun _ F3 s3 =>
  b_hand (A := fun i => oParts C v i vt vr ve) T rfl (embF_l (embF_l (embF_l embF_id))) (eo_cb vo_listT (ea_one (ev_var ((rTup rInt).mono s3 r1) rfl))) fun vh' F4 s4 =>
  b_unpSums T rfl eC (ev_var (rSums.mono (s3.trans s4) r2) rfl)
  (b_tips (A := fun i => oParts C v vh' i vr ve) T rfl (embF_l (embF_l embF_id)) (eo_cuts (rd_tips T (rd_var rfl) eC) eT (ev_var ((rLst rInt).mono (s3.trans s4) r3) rfl) (by show 4 < 6; decide) (by show 5 < 6; decide) (by decide) (fun _ _ => wipe_s _ _ (by decide) (wipe_s _ _ (by decide) (wipe_w _ _)))) fun vt' F5 s5 =>
  b_endX pr_run))
end
end T

/-! T43: pooled runs with methods that may raise; seven at once. -/
namespace T
open PySem L2
section
variable {S T' α γ : Type} {U : Rl γ} {Uo : V → Ow γ} {K : PySem.W.Frag} {C : Addr} {σ : L2.St} {F : Hp} {A : Ow S} {mn : Str} {te0 : TE} {ps : List V} {m0 : M S Int} {E : XK} {g : S → List T'} {p : S → List T' → S} {Bf : V → Ow T'} {ar : TA}
theorem ev_methPX {X : Ar α} {f : α → M T' (γ ⊕ Str)} {ma : M S α} (hh : InsHd Bf C mn) (h0 : Ev te0 σ F A (rRef ps) m0) (e : Emb A (oPool Bf ps) g p) (h : EvA ar σ F A X ma) :
    Ev (tMeth C mn (spSX K (fun v => arC (rV v) X) Bf U (fun x => f x.2)) [] E te0 ar) σ F A U (bnd m0 fun k => bnd ma fun x => zmI g p k (okM (f x))) := fun s b s' hm F1 H c O sm ho W Q q => by
  obtain ⟨k, s0, h0m, hm⟩ := bnd_some hm
  obtain ⟨xs, s1, h1, hm⟩ := bnd_some hm
  obtain ⟨t, t', ht, hf, rfl⟩ := zmI_some hm
  refine h0 s k s0 h0m F1 H c O sm ho W _ fun v F0 H0 c0 s0' o0 W0 r0 => ?_
  obtain ⟨x0, _, c3, c4, pm, ob, _⟩ := emb_pool e o0 r0
  obtain ⟨p0, dx, fs, rest, rfl, rfl, hl⟩ := hh.hd ob
  have W0' : Wd F0 H0 ((p0, .ins C dx fs) :: (rest ++ (c4 ++ O))) := by
    refine W0.perm ((pm.append_right O).trans ?_)
    simp
  refine ⟨p0, dx, fs, rfl, W0'.hd, hl, ?_⟩
  refine h s0 _ _ h1 F0 H0 c0 O (sm.trans s0') o0 W0 _ fun vs F2 H2 c2 s2 o2 W2 r2 => ?_
  obtain ⟨x, hx, c3', c4', pm', ob', k'⟩ := emb_pool e o2 ((rRef ps).mono s2 r0)
  rw [hx] at ht
  cases ht
  rw [List.append_nil]
  refine ⟨.ref p0, F2, c4' ++ O, c3', ((), xs), _, .inl b, t', ⟨_, _, rfl, rfl, r2⟩, ob', W2.perm ?_, okM_some hf, fun v F3 H3 c5 s3 o3 W3 r3 => ?_⟩
  · rw [← List.append_assoc]; exact pm'.append_right O
  · obtain ⟨c', oc, pm2⟩ := k' F3 t' c5 s3 o3
    refine q v F3 H3 c' (s0'.trans (s2.trans s3)) oc (W3.perm ?_) r3
    rw [← List.append_assoc]; exact (pm2.append_right O).symm
theorem ev_meth0PX {f : M T' (γ ⊕ Str)} (hh : InsHd Bf C mn) (h0 : Ev te0 σ F A (rRef ps) m0) (e : Emb A (oPool Bf ps) g p) :
    Ev (tMeth C mn (spSX K (fun v => arOne (rV v)) Bf U (fun _ => f)) [] E te0 tNil) σ F A U (bnd m0 fun k => zmI g p k (okM f)) := fun s b s' hm F1 H c O sm ho W Q q => by
  obtain ⟨k, s0, h0m, hm⟩ := bnd_some hm
  obtain ⟨t, t', ht, hf, rfl⟩ := zmI_some hm
  refine h0 s k s0 h0m F1 H c O sm ho W _ fun v F0 H0 c0 s0' o0 W0 r0 => ?_
  obtain ⟨x0, hx, c3, c4, pm, ob, k'⟩ := emb_pool e o0 r0
  obtain ⟨p0, dx, fs, rest, rfl, rfl, hl⟩ := hh.hd ob
  rw [hx] at ht
  cases ht
  have W0' : Wd F0 H0 ((p0, .ins C dx fs) :: (rest ++ (c4 ++ O))) := by
    refine W0.perm ((pm.append_right O).trans ?_)
    simp
  refine ⟨p0, dx, fs, rfl, W0'.hd, hl, ?_⟩
  refine ⟨.ref p0, F0, c4 ++ O, (p0, .ins C dx fs) :: rest, (), _, .inl b, t', ⟨_, rfl, rfl⟩, ob, W0.perm ?_, okM_some hf, fun v F3 H3 c5 s3 o3 W3 r3 => ?_⟩
  · rw [← List.append_assoc]; exact pm.append_right O
  · obtain ⟨c', oc, pm2⟩ := k' F3 t' c5 s3 o3
    refine q v F3 H3 c' (s0'.trans s3) oc (W3.perm ?_) r3
    rw [← List.append_assoc]; exact (pm2.append_right O).symm
theorem eo_meth0P {f : M T' γ} (hh : InsHd Bf C mn) (h0 : Ev te0 σ F A (rRef ps) m0) (e : Emb A (oPool Bf ps) g p) :
    EvO (tMeth C mn (spSo (fun v => arOne (rV v)) Bf Uo (fun _ => f)) [] E te0 tNil) σ F A Uo (bnd m0 fun k => zmI g p k f) := fun s b s' hm F1 H c O sm ho W Q q => by
  obtain ⟨k, s0, h0m, hm⟩ := bnd_some hm
  obtain ⟨t, t', ht, hf, rfl⟩ := zmI_some hm
  refine h0 s k s0 h0m F1 H c O sm ho W _ fun v F0 H0 c0 s0' o0 W0 r0 => ?_
  obtain ⟨x0, hx, c3, c4, pm, ob, k'⟩ := emb_pool e o0 r0
  obtain ⟨p0, dx, fs, rest, rfl, rfl, hl⟩ := hh.hd ob
  rw [hx] at ht
  cases ht
  have W0' : Wd F0 H0 ((p0, .ins C dx fs) :: (rest ++ (c4 ++ O))) := by
    refine W0.perm ((pm.append_right O).trans ?_)
    simp
  refine ⟨p0, dx, fs, rfl, W0'.hd, hl, ?_⟩
  refine ⟨.ref p0, F0, c4 ++ O, (p0, .ins C dx fs) :: rest, (), _, b, t', ⟨_, rfl, rfl⟩, ob, W0.perm ?_, hf, fun v F3 H3 c5 cb s3 o3 ob3 W3 => ?_⟩
  · rw [← List.append_assoc]; exact pm.append_right O
  · obtain ⟨c', oc, pm2⟩ := k' F3 t' c5 s3 o3
    refine q v F3 H3 c' cb (s0'.trans s3) oc ob3 (W3.perm (List.Perm.append_left cb ?_))
    rw [← List.append_assoc]; exact (pm2.append_right O).symm
end
section
variable {α1 α2 α3 α4 α5 α6 α7 : Type} {R1 : Rl α1} {R2 : Rl α2} {R3 : Rl α3} {R4 : Rl α4} {R5 : Rl α5} {R6 : Rl α6} {R7 : Rl α7} {K : PySem.W.Frag} {F : Hp} {v : V}
theorem go_t5 {i j k l n : Nat} {w : L2.St} {x : α1 × α2 × α3 × α4 × α5} (h : (rTh (arC R1 (arC R2 (arC R3 (arC R4 (arOne R5)))))).r F v x) :
    Go (gTup K 5 (gCons (gName i) (gCons (gName j) (gCons (gName k) (gCons (gName l) (gCons (gName n) gNil)))))) v w F
    (fun σ2 => ∃ v1 v2 v3 v4 v5, R1.r F v1 x.1 ∧ R2.r F v2 x.2.1 ∧ R3.r F v3 x.2.2.1 ∧ R4.r F v4 x.2.2.2.1 ∧ R5.r F v5 x.2.2.2.2 ∧
      σ2 = ((((w.set i (some v1)).set j (some v2)).set k (some v3)).set l (some v4)).set n (some v5)) := fun F1 H O sm W Q q => by
  obtain ⟨p, vs, rfl, hp, v1, _, rfl, r1, v2, _, rfl, r2, v3, _, rfl, r3, v4, _, rfl, r4, v5, rfl, r5⟩ := h
  exact ⟨p, _, rfl, SqT.of (W.sub _ _ (sm _ _ hp)), rfl, v1, _, rfl, v2, _, rfl, v3, _, rfl, v4, _, rfl, v5, _, rfl, rfl, q _ ⟨v1, v2, v3, v4, v5, r1, r2, r3, r4, r5, rfl⟩⟩
theorem go_t7 {i j k l n o u : Nat} {w : L2.St} {x : α1 × α2 × α3 × α4 × α5 × α6 × α7} (h : (rTh (arC R1 (arC R2 (arC R3 (arC R4 (arC R5 (arC R6 (arOne R7)))))))).r F v x) :
    Go (gTup K 7 (gCons (gName i) (gCons (gName j) (gCons (gName k) (gCons (gName l) (gCons (gName n) (gCons (gName o) (gCons (gName u) gNil)))))))) v w F
    (fun σ2 => ∃ v1 v2 v3 v4 v5 v6 v7, R1.r F v1 x.1 ∧ R2.r F v2 x.2.1 ∧ R3.r F v3 x.2.2.1 ∧ R4.r F v4 x.2.2.2.1 ∧ R5.r F v5 x.2.2.2.2.1 ∧ R6.r F v6 x.2.2.2.2.2.1 ∧ R7.r F v7 x.2.2.2.2.2.2 ∧
      σ2 = ((((((w.set i (some v1)).set j (some v2)).set k (some v3)).set l (some v4)).set n (some v5)).set o (some v6)).set u (some v7)) := fun F1 H O sm W Q q => by
  obtain ⟨p, vs, rfl, hp, v1, _, rfl, r1, v2, _, rfl, r2, v3, _, rfl, r3, v4, _, rfl, r4, v5, _, rfl, r5, v6, _, rfl, r6, v7, rfl, r7⟩ := h
  exact ⟨p, _, rfl, SqT.of (W.sub _ _ (sm _ _ hp)), rfl, v1, _, rfl, v2, _, rfl, v3, _, rfl, v4, _, rfl, v5, _, rfl, v6, _, rfl, v7, _, rfl, rfl, q _ ⟨v1, v2, v3, v4, v5, v6, v7, r1, r2, r3, r4, r5, r6, r7, rfl⟩⟩
end
section
variable {S α γ : Type} {U : Rl γ} {K : PySem.W.Frag} {C : Addr} {W : WX} {E : XK} {σ : L2.St} {F : Hp} {A : Ow S} {mn : Str} {te0 : TE} {ps : List V} {m0 : M S Int} {v : V} {j : Nat} {ar : TA}
section
variable {g : S → RunS} {p : S → RunS → S}
theorem ev_run0X {f : M RunS (γ ⊕ Str)} (hl : InsHd (oRun C) C mn) (hv : σ[j]? = some (some v)) (e : Emb A (oRun C v) g p) : Ev (tMeth C mn (spRun0X K C U f) [] E (tVar j) tNil) σ F A U (zm g p (okM f)) := ev_meth0SX hl hv e
theorem ev_run1X {f : Int → M RunS (γ ⊕ Str)} {ma : M S Int} (hl : InsHd (oRun C) C mn) (hv : σ[j]? = some (some v)) (e : Emb A (oRun C v) g p) (h : EvA ar σ F A (arOne rInt) ma) : Ev (tMeth C mn (spRun1X K C U f) [] E (tVar j) ar) σ F A U (bnd ma fun x => zm g p (okM (f x))) := ev_methSX (f := f) hl hv e h
theorem ev_run2X {f : Int → Int → M RunS (γ ⊕ Str)} {ma : M S (Int × Int)} (hl : InsHd (oRun C) C mn) (hv : σ[j]? = some (some v)) (e : Emb A (oRun C v) g p) (h : EvA ar σ F A (arC rInt (arOne rInt)) ma) : Ev (tMeth C mn (spRun2X K C U f) [] E (tVar j) ar) σ F A U (bnd ma fun x => zm g p (okM (f x.1 x.2))) := ev_methSX (f := fun x => f x.1 x.2) hl hv e h
theorem evx_run0 {f : M RunS (γ ⊕ Str)} (hl : InsHd (oRun C) C mn) (hv : σ[j]? = some (some v)) (e : Emb A (oRun C v) g p) : EvX K W (tMethX C mn (spRun0X K C U f) (WE W) (tVar j) tNil) σ F A U (zm g p f) := evx_meth0S hl hv e
theorem evx_run1 {f : Int → M RunS (γ ⊕ Str)} {ma : M S Int} (hl : InsHd (oRun C) C mn) (hv : σ[j]? = some (some v)) (e : Emb A (oRun C v) g p) (h : EvA ar σ F A (arOne rInt) ma) : EvX K W (tMethX C mn (spRun1X K C U f) (WE W) (tVar j) ar) σ F A U (bnd ma fun x => zm g p (f x)) := evx_methS (f := f) hl hv e h
theorem evx_run2 {f : Int → Int → M RunS (γ ⊕ Str)} {ma : M S (Int × Int)} (hl : InsHd (oRun C) C mn) (hv : σ[j]? = some (some v)) (e : Emb A (oRun C v) g p) (h : EvA ar σ F A (arC rInt (arOne rInt)) ma) : EvX K W (tMethX C mn (spRun2X K C U f) (WE W) (tVar j) ar) σ F A U (bnd ma fun x => zm g p (f x.1 x.2)) := evx_methS (f := fun x => f x.1 x.2) hl hv e h
end
section
variable {g : S → List RunS} {p : S → List RunS → S}
theorem ev_runP0X {f : M RunS (γ ⊕ Str)} (hl : InsHd (oRun C) C mn) (h0 : Ev te0 σ F A (rRef ps) m0) (e : Emb A (oPool (oRun C) ps) g p) : Ev (tMeth C mn (spRun0X K C U f) [] E te0 tNil) σ F A U (bnd m0 fun k => zmI g p k (okM f)) := ev_meth0PX hl h0 e
theorem ev_runP1X {f : Int → M RunS (γ ⊕ Str)} {ma : M S Int} (hl : InsHd (oRun C) C mn) (h0 : Ev te0 σ F A (rRef ps) m0) (e : Emb A (oPool (oRun C) ps) g p) (h : EvA ar σ F A (arOne rInt) ma) : Ev (tMeth C mn (spRun1X K C U f) [] E te0 ar) σ F A U (bnd m0 fun k => bnd ma fun x => zmI g p k (okM (f x))) := ev_methPX (f := f) hl h0 e h
theorem ev_runP2X {f : Int → Int → M RunS (γ ⊕ Str)} {ma : M S (Int × Int)} (hl : InsHd (oRun C) C mn) (h0 : Ev te0 σ F A (rRef ps) m0) (e : Emb A (oPool (oRun C) ps) g p) (h : EvA ar σ F A (arC rInt (arOne rInt)) ma) : Ev (tMeth C mn (spRun2X K C U f) [] E te0 ar) σ F A U (bnd m0 fun k => bnd ma fun x => zmI g p k (okM (f x.1 x.2))) := ev_methPX (f := fun x => f x.1 x.2) hl h0 e h
end
end
end T

/-! T44: raising things within others; a try that may return; a new thing handed through a def; a method of a new thing; pop() of pooled lists. -/
namespace T
open PySem L2
section
variable {S S0 S1 T' Z Ω ρ α β γ ι : Type} {R : Rl α} {R' : Rl β} {U : Rl γ} {K : PySem.W.Frag} {C : Addr} {W : WX} {E : XK} {σ : L2.St} {F : Hp} {A : Ow S} {te ta tb : TE} {tt : TT} {t u w : TS} {P : Post Ω} {Q : Post ρ} {v : V} {j : Nat}
/-! raising things within others -/
def bndE {S α β : Type} (mx : M S (α ⊕ Str)) (f : α → M S β) : M S (β ⊕ Str) := fun s => (mx s).bind fun p => match p.1 with
  | .inl x => (f x p.2).map fun q => (.inl q.1, q.2)
  | .inr n => some (.inr n, p.2)
theorem bndE_some {mx : M S (α ⊕ Str)} {f : α → M S β} {s s' : S} {r : β ⊕ Str} (h : bndE mx f s = some (r, s')) : (∃ x s1 y, mx s = some (.inl x, s1) ∧ f x s1 = some (y, s') ∧ r = .inl y) ∨ ∃ n, mx s = some (.inr n, s') ∧ r = .inr n := by
  unfold bndE at h
  cases e : mx s with
  | none => rw [e] at h; cases h
  | some q =>
    obtain ⟨q, s1⟩ := q
    rw [e] at h
    cases q with
    | inl x =>
      obtain ⟨⟨y, s2⟩, e2, h2⟩ := Option.map_eq_some_iff.mp (show (f x s1).map _ = some (r, s') from h)
      cases h2
      exact .inl ⟨x, s1, y, rfl, e2, rfl⟩
    | inr n =>
      cases h
      exact .inr ⟨n, rfl, rfl⟩
theorem evx_op {r : R2} {f : α → β → Option γ} {mx : M S (α ⊕ Str)} {m' : M S β} (hr : VL2 r R R' U f) (ha : EvX K W ta σ F A R mx) (hb : Ev tb σ F A R' m') : EvX K W (tOp r ta tb) σ F A U (bndE mx fun x => bnd m' fun y => lft (f x y)) := fun s b s' hm F1 H c O sm ho W1 Q q => by
  rcases bndE_some hm with ⟨x, s1, y, h1, hm2, rfl⟩ | ⟨n, h1, rfl⟩
  · obtain ⟨z, s2, h2, hm3⟩ := bnd_some hm2
    obtain ⟨h3, rfl⟩ := lft_some hm3
    refine ha s _ s1 h1 F1 H c O sm ho W1 _ fun v1 F2 H2 c2 sm2 o2 W2 r2 => ?_
    refine hb s1 _ _ h2 F2 H2 c2 O (sm.trans sm2) o2 W2 _ fun v2 F3 H3 c3 sm3 o3 W3 r3 => ?_
    exact hr F3 H3 _ v1 v2 x z y W3 (R.mono sm3 r2) r3 h3 Q fun v4 F4 H4 sm4 W4 r4 => q v4 F4 H4 c3 ((sm2.trans sm3).trans sm4) (A.mono sm4 o3) W4 r4
  · exact ha s _ s' h1 F1 H c O sm ho W1 _ q
def EvTX (K : PySem.W.Frag) (W : WX) (tt : TT) (σ : L2.St) (F : Hp) (A : Ow S) (m : M S (Bool ⊕ Str)) : Prop :=
  ∀ s w s', m s = some (w, s') → ∀ F1 H c O, Same F F1 → A.o F1 s c → Wd F1 H (c ++ O) → ∀ Q : Bool → Hp → Prop, (match w with
    | .inl b => ∀ F' H' c', Same F1 F' → A.o F' s' c' → Wd F' H' (c' ++ O) → Q b H'
    | .inr n => ∀ F' H' c', Same F1 F' → A.o F' s' c' → Wd F' H' (c' ++ O) → W (.ref (He.ga K n)) none σ H') → tt σ H Q
theorem etx_test {mx : M S (Bool ⊕ Str)} (h : EvX K W te σ F A rBool mx) : EvTX K W (tTest te) σ F A mx := fun s b s' hm F1 H c O sm ho W1 Q q => by
  refine h s b s' hm F1 H c O sm ho W1 _ ?_
  cases b with
  | inl b => exact fun v F2 H2 c2 s2 o2 W2 r2 => ⟨b, r2, q F2 H2 c2 s2 o2 W2⟩
  | inr n => exact q
/-! a try that may return -/
def pTryF (K : PySem.W.Frag) (W : WX) (A : Ow S) (Sl : Z → Hp → L2.St → Prop) (Sx : Hp → L2.St → Prop) (Q : Post ρ) : Post (Fl (Z × S) ρ ⊕ (Str × S)) where
  p := fun w F O D => match w with
    | .inl (.nx q) => (pNx A Sl).p q F O D
    | .inl (.rt b) => Q.p b F O D
    | .inr q => ∀ F' H' c' σ', Same F F' → A.o F' q.2 c' → Wd F' H' (c' ++ O) → Sx F' σ' → W (.ref (He.ga K q.1)) none σ' H'
  mono := fun {w F F' O D} s h => by
    match w, h with
    | .inl (.nx b), h => exact (pNx A Sl).mono s h
    | .inl (.rt b), h => exact Q.mono s h
    | .inr n, h => exact fun F' H' c' σ' s' => h F' H' c' σ' (s.trans s')
theorem b_nxTF {X : Ow S1} {π : S → S1} {Sl : Z → Hp → L2.St → Prop} {Sx : Hp → L2.St → Prop} {z : Z} (pr : Pr A X π) (h : ∀ F', Same F F' → Sl z F' σ) : B tNext σ F A (pTryF K W X Sl Sx Q) (fun s => some (.inl (.nx (z, π s)))) := fun s w hm F1 H c O sm ho W1 D q => by
  cases hm
  obtain ⟨c3, o3, W3⟩ := Wd.pr pr ho W1
  exact q F1 H c3 σ (SameR _) o3 W3 (h F1 sm)
theorem b_ifRetX [RtO Q] {Sl : Z → Hp → L2.St → Prop} {Sx : Hp → L2.St → Prop} {mx : M S (Bool ⊕ Str)} {mt : S → Option ρ} {g : S → Option (Fl (Z × S) ρ ⊕ (Str × S))} (hx : ∀ F', Same F F' → Sx F' σ) (hc : EvTX K W tt σ F A mx) (ht : B t σ F A Q mt) (hw : B w σ F A (pTryF K W A Sl Sx Q) g) :
    B (tSeq (tIfS tt t tNext) w) σ F A (pTryF K W A Sl Sx Q) (bndX (fun n s => .inr (n, s)) mx fun b => bif b then (fun s => (mt s).map fun r => .inl (.rt r)) else g) := fun s r hm F1 H c O sm ho W1 D q => by
  rcases bndX_some hm with ⟨b, s1, h1, hm⟩ | ⟨n, s1, h1, rfl⟩
  · refine hc s _ s1 h1 F1 H c O sm ho W1 _ fun F2 H2 c2 s2 o2 W2 => ?_
    cases b with
    | true =>
      obtain ⟨r', hr, rfl⟩ := Option.map_eq_some_iff.mp (show (mt s1).map _ = some r from hm)
      exact iteT (ht s1 r' hr F2 H2 c2 O (sm.trans s2) o2 W2 _ (ro_of Q D (Q.mono s2 q)))
    | false => exact iteF (hw s1 r hm F2 H2 c2 O (sm.trans s2) o2 W2 D ((pTryF K W A Sl Sx Q).mono s2 q))
  · refine hc s _ s1 h1 F1 H c O sm ho W1 _ fun F2 H2 c2 s2 o2 W2 => ?_
    exact q F2 H2 c2 σ s2 o2 W2 (hx F2 (sm.trans s2))
def tryRF {S Z Ω ρ : Type} (cat : List Str) (emb : ρ → Ω) (mb : S → Option (Fl (Z × S) ρ ⊕ (Str × S))) (mh : S → Option ρ) (f : Z → S → Option Ω) : S → Option Ω := fun s => (mb s).bind fun w => match w with
  | .inl (.nx p) => f p.1 p.2
  | .inl (.rt r) => some (emb r)
  | .inr q => if q.1 ∈ cat then (mh q.2).map emb else none
theorem b_tryRF {tb : WX → TS} {th : TS} {C : Str} {cat : List Str} {Sl : Z → Hp → L2.St → Prop} {Sx : Hp → L2.St → Prop} {Wout : WX} {mb : S → Option (Fl (Z × S) ρ ⊕ (Str × S))} {mh : S → Option ρ} {f : Z → S → Option Ω} {emb : ρ → Ω} (hP : ∀ w F O (D : Ends) mid, P.p (emb w) F O D → Q.p w F O { D with nx := mid }) (hcat : ∀ n ∈ cat, PySem.W.exmOne K (.ref (He.ga K n)) (.ref (He.ga K C)) = some true)
    (hb : ∀ W, B (tb W) σ F A (pTryF K W A Sl Sx Q) mb) (hh : ∀ F' σ', Same F F' → Sx F' σ' → B th σ' F' A Q mh)
    (k : ∀ z F' σ', Same F F' → Sl z F' σ' → B u σ' F' A P (f z)) : B (Evl.tCut (fun D σ H => tb (L2.wOnly K (.ref (He.ga K C)) (fun _ _ _ => th) Wout D) D σ H) u) σ F A P (tryRF cat emb mb mh f) := fun s r hm F1 H c O sm ho W1 D q => by
  unfold tryRF at hm
  cases e0 : mb s with
  | none => rw [e0] at hm; cases hm
  | some w =>
    rw [e0] at hm
    match w, e0, hm with
    | .inl (.nx p), e0, hm =>
      refine ⟨fun σ' H' => ∃ F' c', Same F1 F' ∧ A.o F' p.2 c' ∧ Wd F' H' (c' ++ O) ∧ Sl p.1 F' σ', ?_, fun σ' H' ⟨F', c', s', o', W', sl⟩ => k p.1 F' σ' (sm.trans s') sl p.2 r hm F' H' c' O (SameR _) o' W' D (P.mono s' q)⟩
      exact hb _ s (.inl (.nx p)) e0 F1 H c O sm ho W1 _ fun F3 H3 c3 σ3 s3 o3 W3 sl => ⟨F3, c3, s3, o3, W3, sl⟩
    | .inl (.rt b), e0, hm =>
      obtain rfl : emb b = r := Option.some.inj hm
      refine ⟨fun _ _ => False, ?_, fun _ _ h => h.elim⟩
      exact hb _ s (.inl (.rt b)) e0 F1 H c O sm ho W1 _ (hP _ _ _ _ _ q)
    | .inr (n, s3), e0, hm =>
      have hn : n ∈ cat := by
        by_cases hn : n ∈ cat
        · exact hn
        · simp [hn] at hm
      simp [hn] at hm
      obtain ⟨r', hr', rfl⟩ := hm
      refine ⟨fun _ _ => False, ?_, fun _ _ h => h.elim⟩
      refine hb _ s (.inr (n, s3)) e0 F1 H c O sm ho W1 _ ?_
      intro F3 H3 c3 σ3 sm3 o3 W3 sx
      refine ⟨true, hcat n hn, fun _ a na => ?_, fun q => nomatch q⟩
      exact hh F3 σ3 (sm.trans sm3) sx s3 r' hr' F3 H3 c3 O (SameR _) o3 W3 _ (Q.mono sm3 (hP _ _ _ _ _ q))
/-! a new thing handed through a def that returns it -/
def spTh (T : V → Ar α) (Bf : V → Ow S1) (f : α → M S1 Unit) : Sp := fun vs H Q _ => ∃ (i : V) (F : Hp) (O c : Ch) (x : α) (s s' : S1), (T i).r F vs x ∧ (Bf i).o F s c ∧ Wd F H (c ++ O) ∧ f x s = some ((), s') ∧ ∀ F' H' c', Same F F' → (Bf i).o F' s' c' → Wd F' H' (c' ++ O) → Q i H'
theorem ok_Th {Q : VK} {t : TS} {F H : Hp} {c O : Ch} {s s' : S} {m : M S Unit} {v : V} (W : Wd F H (c ++ O)) (ho : A.o F s c) (hm : m s = some ((), s')) (q : ∀ F' H' c', Same F F' → A.o F' s' c' → Wd F' H' (c' ++ O) → Q v H') (h : B t σ F A (pRt A (rV v)) m) : t { nx := fun _ H' => Q .non H', rt := Q } σ H :=
  h s ((), s') hm F H c O (SameR _) ho W _ fun v' F' H' c' s o w r => by rw [show v' = v from r]; exact q F' H' c' s o w
theorem eo_thru {Bf : V → Ow S1} {X : Ar α} {f : α → M S1 Unit} {ar : TA} {m1 : M S S1} {ma : M S α} (h1 : EvO te σ F A Bf m1) (h2 : ∀ v, EvA ar σ F (star A (Bf v)) X (fun s => (ma s.1).map fun q => (q.1, (q.2, s.2)))) : EvO (tCall (spTh (fun v => arC (rV v) X) Bf (fun x => f x.2)) [] E (tCons te ar)) σ F A Bf (bnd m1 fun r => bnd ma fun x => lft ((f x r).map (·.2))) := fun s b s' hm F1 H c O sm ho W1 Q q => by
  obtain ⟨r, s1, g1, hm⟩ := bnd_some hm
  obtain ⟨x, s2, g2, hm⟩ := bnd_some hm
  obtain ⟨g3, rfl⟩ := lft_some hm
  obtain ⟨⟨y, r2⟩, g4, g5⟩ := Option.map_eq_some_iff.mp g3
  cases g5
  refine h1 s r s1 g1 F1 H c O sm ho W1 _ fun v F2 H2 c2 cb sm2 o2 ob W2 => ?_
  have W2' : Wd F2 H2 ((c2 ++ cb) ++ O) := W2.perm (by
    rw [← List.append_assoc, List.append_assoc c2, List.append_assoc cb]
    have := (List.perm_append_comm (l₁ := cb) (l₂ := c2)).append_right O
    simpa using this)
  refine h2 v (s1, r) x (s', r) (by show (ma s1).map _ = _; rw [g2]; rfl) F2 H2 (c2 ++ cb) O (sm.trans sm2) ⟨c2, cb, rfl, o2, ob⟩ W2' _ fun vs F3 H3 c3 sm3 ⟨c4, c5, e3, o4, o5⟩ W3 r3 => ?_
  subst e3
  rw [List.append_nil]
  refine ⟨v, F3, c4 ++ O, c5, ((), x), r, r2, ⟨v, _, rfl, rfl, r3⟩, o5, W3.perm ?_, g4, fun F4 H4 c6 sm4 o6 W4 => ?_⟩
  · have := (List.perm_append_comm (l₁ := c4) (l₂ := c5)).append_right O
    simpa using this
  · exact q v F4 H4 c4 c6 ((sm2.trans sm3).trans sm4) (A.mono sm4 o4) o6 W4
/-- a method that returns a new thing, of a new thing -/
theorem eo_methN {T γ : Type} {mn : Str} {Bf : V → Ow T} {Uo : V → Ow γ} {f : M T γ} {m1 : M S T} (hh : InsHd Bf C mn) (h1 : EvO te σ F A Bf m1) :
    EvO (tMeth C mn (spSo (fun v => arOne (rV v)) Bf Uo (fun _ => f)) [] E te tNil) σ F A Uo (bnd m1 fun r => lft ((f r).map (·.1))) := fun s b s' hm F1 H c O sm ho W1 Q q => by
  obtain ⟨r, s1, g1, hm⟩ := bnd_some hm
  obtain ⟨g3, rfl⟩ := lft_some hm
  obtain ⟨⟨y, r2⟩, g4, g5⟩ := Option.map_eq_some_iff.mp g3
  cases g5
  refine h1 s r s' g1 F1 H c O sm ho W1 _ fun v F2 H2 c2 cb sm2 o2 ob W2 => ?_
  obtain ⟨p0, dx, fs, rest, rfl, rfl, hl⟩ := hh.hd ob
  refine ⟨p0, dx, fs, rfl, W2.hd, hl, ?_⟩
  refine ⟨.ref p0, F2, c2 ++ O, (p0, .ins C dx fs) :: rest, (), r, y, r2, ⟨_, rfl, rfl⟩, ob, W2, g4, fun v3 F3 H3 c5 cb3 s3 o3 o4 W3 => ?_⟩
  refine q v3 F3 H3 c2 cb3 (sm2.trans s3) (A.mono s3 o2) o4 (W3.sublist ?_)
  exact List.Sublist.append (List.Sublist.refl _) (List.sublist_append_right c5 (c2 ++ O))
end
end T

/-! T45: pop() of a list in a pool. -/
namespace T
open PySem L2
section
variable {S α β Ω : Type} {R : Rl α} {K : PySem.W.Frag} {σ : L2.St} {F : Hp} {A : Ow S} {te te0 : TE} {ps : List V} {g : S → List (List α)} {p : S → List (List α) → S} {m0 : M S Int}
/-- the last of the k-th list is taken away -/
def popP (g : S → List (List α)) (p : S → List (List α) → S) (k : Int) : M S α := fun s => ((g s)[k.toNat]?).bind fun xs => xs.getLast?.map fun y => (y, p s ((g s).set k.toNat xs.dropLast))
theorem ev_popP (h0 : Ev te0 σ F A (rRef ps) m0) (e : Emb A (oPool (oLst R) ps) g p) : Ev (tBM0 K "list" rPop te0) σ F A R (bnd m0 fun k => popP g p k) := fun s b s' hm F1 H c O sm ho W Q q => by
  obtain ⟨k, s0, h0m, hm⟩ := bnd_some hm
  unfold popP at hm
  obtain ⟨xs, hx, hm⟩ := Option.bind_eq_some_iff.mp hm
  obtain ⟨y, h2, h3⟩ := Option.map_eq_some_iff.mp hm
  cases h3
  refine h0 s k _ h0m F1 H c O sm ho W _ fun v F0 H0 c0 sm0 o0 W0 r0 => ?_
  obtain ⟨l, vs, xs', c3, rfl, hx', rp, W3, kk⟩ := emb_poolL e o0 W0 r0
  rw [hx] at hx'; cases hx'
  refine ⟨Or.inl ⟨rfl, vs, SqL.of W3.hd⟩, ?_⟩
  rw [List.getLast?_eq_getElem?] at h2
  obtain ⟨z, hz, rz⟩ := paired_get' rp h2
  rw [← paired_len rp] at hz
  obtain ⟨c4, o4, W4⟩ := kk F0 vs.dropLast _ (SameR _) (paired_dropLast rp) _ W3.set
  refine ⟨l, vs, z, rfl, rfl, W3.hd, hz, ?_⟩
  exact q z F0 _ c4 sm0 o4 W4 rz
end
end T

/-! T46: len(set(..)) of tuples of whole numbers; in and not in among data; max of a list. -/
namespace T
open PySem PySem.Spec PyProof.Rows L2
section
variable {X : Cx}
def tLenSetT (K : PySem.W.Frag) (ta : TE) : TE := fun σ H Q => ta σ H fun x H1 => ∃ (l : Addr) (ks : List (Addr × List Int)), x = V.ref l ∧ SqL K H1 l (ks.map fun p => V.ref p.1) ∧ (∀ p ∈ ks, SqT K H1 p.1 (p.2.map V.int)) ∧ ks.length < 64 ∧
  ∀ L : List (List Int), L.Nodup → (∀ z, z ∈ L ↔ z ∈ ks.map (·.2)) → Q (.int L.length) H1
theorem pe_lenSetT {a : Expr} {ta : TE} {p p2 q pos : Pos} (hu : X.A.units + 64 < cLine) (hc : X.calm = true) (hg : Gl X "len") (hm : X.mg "len" = none) (hg2 : Gl X "set") (hm2 : X.mg "set" = none) (ha : PE X a ta)
    (na : starEach [a] X.env = (false, eval a X.env) :: starEach [] X.env := by rfl) : PE X (.Call (.Name "len" p) [.Call (.Name "set" p2) [a] [] q] [] pos) (tLenSetT X.K ta) := by
  refine ⟨fun pins s σ H Q I h => ?_⟩
  refine Call_ (ld_blt I hg hm PySem.boot_len ?_)
  refine PyProof.Rows.callWith_builtin1 (PyProof.Rows.args_cons ?_ rfl) rfl rfl
  refine Call_ (ld_blt I hg2 hm2 PyProof.Rows.boot_set ?_)
  refine PyProof.Rows.callWith_type1 (PyProof.Rows.args_cons (thn (ha.run pins s σ H _ I h) fun v s1 ⟨x, H1, I1, r1, q1⟩ => PyProof.Rows.args_nil ?_) na) na rfl
  obtain ⟨l, ks, rfl, hl, hk, hf, q⟩ := q1
  cases r1
  obtain ⟨its, rv, pl, hz⟩ := I1.list hl
  refine call_set_tups (P := X.prog) (w := X.w) ks (I1.ok.hd hc) pl.isList (by simpa using refs_of_vals rv) (fun p hp => I1.isT (hk p hp)) hf (by omega) fun h' tk L es ep t R g k => ?_
  refine PyProof.Rows.args_nil ?_
  obtain ⟨o, ho, hex, hd⟩ := R.ob
  have hn : es.size = L.length := SetTR.size (s := { s1 with heap := h', toks := tk }) R
  have hft : t.fits es.size = true := SetTR.fits (s := { s1 with heap := h', toks := tk }) R
  have hfew := R.few
  have I2 : Inv X pins σ H1 { s1 with heap := h', toks := tk } := I1.kept fun b o e => k b o e
  refine call_len_set ho hex hd hft (by rw [hn] <;> omega) ⟨.int (L.map (·.2)).length, H1, I2.tok _, ⟨_, by rw [hn, List.length_map]⟩, q _ R.nd fun z => ?_⟩
  constructor
  · intro hz
    obtain ⟨p, hp, rfl⟩ := List.mem_map.mp hz
    exact List.mem_map.mpr ⟨p, List.mem_of_mem_take (g.sub p hp), rfl⟩
  · intro hz
    obtain ⟨p, hp, rfl⟩ := List.mem_map.mp hz
    exact g.all p (by rw [List.take_length]; exact hp)
theorem _root_.L2.Room.units65 {k : Nat} {A : Around} (r : L2.Room k A) : A.units + 65 < cLine := by have := r.un; omega
theorem kop_inDd {K : PySem.W.Frag} (hu : X.A.units + 65 < cLine) (e : X.K = K := by rfl) : OpR X (compareOp .In) (L2.rInD K) := by subst e; exact L2.op_inD hu
theorem kop_niDd {K : PySem.W.Frag} (hu : X.A.units + 65 < cLine) (e : X.K = K := by rfl) : OpR X (compareOp .NotIn) (L2.rNotInD K) := by subst e; exact L2.op_notInD hu
theorem kc_max {K : PySem.W.Frag} (hc : X.calm = true) (e : X.K = K := by rfl) : CallR X (.builtin "max") (rMax K) := by subst e; exact cr_max hc
end
/-- each one once -/
def uniq : List (List Int) → List (List Int)
  | [] => []
  | x :: xs => if x ∈ xs then uniq xs else x :: uniq xs
theorem uniq_mem : ∀ (xs : List (List Int)) (z : List Int), z ∈ uniq xs ↔ z ∈ xs
  | [], z => Iff.rfl
  | x :: xs, z => by
    unfold uniq
    split
    · rename_i h
      rw [uniq_mem xs, List.mem_cons]
      exact ⟨Or.inr, fun q => q.elim (fun e => by rw [e]; exact h) id⟩
    · rw [List.mem_cons, List.mem_cons, uniq_mem xs]
theorem uniq_nodup : ∀ xs : List (List Int), (uniq xs).Nodup
  | [] => List.nodup_nil
  | x :: xs => by
    unfold uniq
    split
    · exact uniq_nodup xs
    · rename_i h
      exact List.nodup_cons.mpr ⟨fun q => h ((uniq_mem xs x).mp q), uniq_nodup xs⟩
def nDist (xs : List (List Int)) : Option Int := if xs.length < 64 then some ((uniq xs).length : Int) else none
section
variable {S α β : Type} {R : Rl α} {R' : Rl β} {K : PySem.W.Frag} {σ : L2.St} {F : Hp} {A : Ow S} {te te0 : TE} {m : M S β} {v : V} {j : Nat}
theorem tups_of {F : Hp} : ∀ {vs : List V} {xs : List (List Int)}, Paired ((rTup rInt).r F) vs xs → ∃ ks : List (Addr × List Int), vs = ks.map (fun p => V.ref p.1) ∧ xs = ks.map (·.2) ∧ ∀ p ∈ ks, F p.1 = some (.tup (p.2.map V.int))
  | _, _, .nil => ⟨[], rfl, rfl, fun _ h => nomatch h⟩
  | _, x :: _, .cons ⟨p, us, e, hp, rp⟩ t => by
    obtain ⟨ks, e1, e2, e3⟩ := tups_of t
    refine ⟨(p, x) :: ks, by rw [e, e1]; rfl, by rw [e2]; rfl, fun q hq => ?_⟩
    rcases List.mem_cons.mp hq with rfl | hq
    · have : us = x.map V.int := vs_int rp
      rw [hp, this]
    · exact e3 q hq
theorem ev_lenSetT {ml : M S (List (List Int))} (he : Ev te σ F A (rLst (rTup rInt)) ml) : Ev (tLenSetT K te) σ F A rInt (bnd ml fun xs => lft (nDist xs)) := fun s b s' hm F1 H c O sm ho W Q q => by
  obtain ⟨xs, s1, h1, hm⟩ := bnd_some hm
  obtain ⟨h2, rfl⟩ := lft_some hm
  unfold nDist at h2
  split at h2
  · rename_i hl
    cases h2
    refine he s xs s' h1 F1 H c O sm ho W _ fun v F2 H2 c2 sm2 o2 W2 ⟨p, vs, ev, hp, rp⟩ => ?_
    obtain ⟨ks, e1, e2, e3⟩ := tups_of rp
    subst e1 e2
    refine ⟨p, ks, ev, SqL.of (W2.sub _ _ hp), fun z hz => SqT.of (W2.sub _ _ (e3 z hz)), by simpa using hl, fun L nd hm => ?_⟩
    have : L.Perm (uniq (ks.map (·.2))) := (List.perm_ext_iff_of_nodup nd (uniq_nodup _)).mpr fun z => by rw [hm, uniq_mem]
    exact q _ F2 H2 c2 sm2 o2 W2 (by rw [this.length_eq]; rfl)
  · cases h2
def inDd (d : PyData) (ds : List PyData) : Option Bool := if SeqAt.shaped d = true ∧ SeqAt.shaped (.list ds) = true then some (ds.any fun z => PyData.eqv z d) else none
theorem vl_inDd (D : RD R) (E : RD R') : VL2 (L2.rInD K) R (rLst R') rBool (fun a b => inDd (D.d a) (b.map E.d)) := fun F H O x y a b c W hx hy hf Q q => by
  simp only [inDd] at hf; split at hf
  · rename_i h; cases hf; exact ⟨_, _, Dp.mono W.sub (D.dp hx), Dp.mono W.sub ((dLst E).dp hy), h.1, h.2, q _ F H (SameR _) W rfl⟩
  · cases hf
theorem vl_niDd (D : RD R) (E : RD R') : VL2 (L2.rNotInD K) R (rLst R') rBool (fun a b => (inDd (D.d a) (b.map E.d)).map (!·)) := fun F H O x y a b c W hx hy hf Q q => by
  obtain ⟨z, hf, e⟩ := Option.map_eq_some_iff.mp hf
  simp only [inDd] at hf; split at hf
  · rename_i h; cases hf; subst e; exact ⟨_, _, Dp.mono W.sub (D.dp hx), Dp.mono W.sub ((dLst E).dp hy), h.1, h.2, q _ F H (SameR _) W rfl⟩
  · cases hf
theorem ev_inDdO {g : S → List α} {p : S → List α → S} (E : RD R') (D : RD R) (he : Ev te σ F A R' m) (hv : σ[j]? = some (some v)) (e : Emb A (oLst R v) g p) : Ev (tOp (L2.rInD K) te (tVar j)) σ F A rBool (bnd m fun y => gtL g fun xs => inDd (E.d y) (xs.map D.d)) := fun s b s' hm F1 H c O sm ho W Q q => by
  obtain ⟨y, s1, h1, hm⟩ := bnd_some hm
  obtain ⟨h2, rfl⟩ := gtL_some hm
  refine he s y s' h1 F1 H c O sm ho W _ fun vy F2 H2 c2 sm2 o2 W2 r2 => ⟨v, hv, ?_⟩
  simp only [inDd] at h2; split at h2
  · rename_i h; cases h2
    exact ⟨_, _, Dp.mono W2.sub (E.dp r2), dp_own D e o2 W2, h.1, h.2, q _ F2 H2 c2 sm2 o2 W2 rfl⟩
  · cases h2
theorem ev_niDdO {g : S → List α} {p : S → List α → S} (E : RD R') (D : RD R) (he : Ev te σ F A R' m) (hv : σ[j]? = some (some v)) (e : Emb A (oLst R v) g p) : Ev (tOp (L2.rNotInD K) te (tVar j)) σ F A rBool (bnd m fun y => gtL g fun xs => (inDd (E.d y) (xs.map D.d)).map (!·)) := fun s b s' hm F1 H c O sm ho W Q q => by
  obtain ⟨y, s1, h1, hm⟩ := bnd_some hm
  obtain ⟨h2, rfl⟩ := gtL_some hm
  refine he s y s' h1 F1 H c O sm ho W _ fun vy F2 H2 c2 sm2 o2 W2 r2 => ⟨v, hv, ?_⟩
  obtain ⟨z, h2, e⟩ := Option.map_eq_some_iff.mp h2
  simp only [inDd] at h2; split at h2
  · rename_i h; cases h2; subst e
    exact ⟨_, _, Dp.mono W2.sub (E.dp r2), dp_own D e o2 W2, h.1, h.2, q _ F2 H2 c2 sm2 o2 W2 rfl⟩
  · cases h2
theorem vl_maxL : VLc (rMax K) (arOne (rLst rInt)) rInt (fun xs => xs.max?) := fun F H O xs a c W ⟨v, e, p, vs, ev, hp, rp⟩ hf Q q => by
  subst e ev
  have e2 : vs = a.map V.int := vs_int rp
  subst e2
  have hm := List.max?_eq_some_iff.mp hf
  refine ⟨p, a, rfl, SqL.of (W.sub _ _ hp), List.length_pos_of_mem hm.1, fun m m1 m2 => ?_⟩
  have : m = c := Int.le_antisymm (hm.2 m m1) (m2 c hm.1)
  subst this
  exact q _ F H (SameR _) W rfl
end
end T

/-! T47: texts: split, partition, join, str(int), int(str), +, a sign of a text, a walk over a text. -/
namespace T
open PySem PySem.Spec PyProof.Rows L2
section
variable {S : Type} {K : PySem.W.Frag} {σ : L2.St} {F : Hp} {A : Ow S} {te ta tb : TE} {m ma mb : M S Str}
theorem pe_globS {X : Cx} {x z : Str} {pos : Pos} (hg : Gl X x) (hm : ∃ t, X.mg x = some (.str z t)) (hd : (x == ("__debug__" : Str)) = false := by decide) : PE X (.Name x pos) (tC (.str z)) := by
  obtain ⟨t, h⟩ := hm
  exact pe_glob hg h ⟨t, rfl⟩ hd
abbrev rSplitS : V → List V → Hp → VK → Prop := fun x xs H Q => ∃ a b, x = .str a ∧ xs = [.str b] ∧ (b.length == 0) = false ∧ a.length + 2 ≤ sizeLine ∧ rNewStrs (Txt.split a b) H Q
abbrev rPartS : V → List V → Hp → VK → Prop := fun x xs H Q => ∃ a b, x = .str a ∧ xs = [.str b] ∧ (b.length == 0) = false ∧ a.length ≤ sizeLine ∧
      ∀ p, H p = none → Q (.ref p) (upd H p (.tup [.str (Txt.partition a b).1, .str (Txt.partition a b).2.1, .str (Txt.partition a b).2.2]))
abbrev rJoinS (K : PySem.W.Frag) : V → List V → Hp → VK → Prop := fun x xs H Q => ∃ a p, ∃ ys : List Str, x = .str a ∧ xs = [.ref p] ∧ (SqL K H p (ys.map V.str) ∨ SqT K H p (ys.map V.str)) ∧
      (ys.map (·.length)).sum + ys.length * a.length ≤ 16777216 ∧ Q (.str (Txt.join a ys)) H
def splitS (a b : Str) : Option (List Str) := if (b.length == 0) = false ∧ a.length + 2 ≤ 1000000 then some (Txt.split a b) else none
def partS (a b : Str) : Option (Str × Str × Str) := if (b.length == 0) = false ∧ a.length ≤ 1000000 then some ((Txt.partition a b).1, (Txt.partition a b).2.1, (Txt.partition a b).2.2) else none
def joinS (a : Str) (ys : List Str) : Option Str := if (ys.map (·.length)).sum + ys.length * a.length ≤ 16777216 then some (Txt.join a ys) else none
theorem paired_str (F : Hp) : ∀ ys : List Str, Paired (rStr.r F) (ys.map V.str) ys
  | [] => .nil
  | y :: ys => .cons rfl (paired_str F ys)
theorem vs_strs {F : Hp} : ∀ {vs : List V} {ys : List Str}, Paired (rStr.r F) vs ys → vs = ys.map V.str
  | _, _, .nil => rfl
  | _, _, .cons h t => by rw [vs_strs t, show _ = V.str _ from h]; rfl
theorem lim_size : 1000000 ≤ sizeLine := by rw [sizeLine_eq]; decide
theorem eo_split (ha : Ev ta σ F A rStr ma) (hb : Ev tb σ F A rStr mb) : EvO (tM1 rSplitS ta tb) σ F A (oLst rStr) (bnd ma fun a => bnd mb fun b => lft (splitS a b)) := fun s b s' hm F1 H c O sm ho W Q q => by
  obtain ⟨x, s1, h1, hm⟩ := bnd_some hm
  obtain ⟨y, s2, h2, hm⟩ := bnd_some hm
  obtain ⟨h3, rfl⟩ := lft_some hm
  unfold splitS at h3
  split at h3
  · rename_i hc
    cases h3
    refine ha s x s1 h1 F1 H c O sm ho W _ fun v F2 H2 c2 sm2 o2 W2 r2 => ⟨⟨x, r2⟩, ?_⟩
    refine hb s1 y _ h2 F2 H2 c2 O (sm.trans sm2) o2 W2 _ fun u F3 H3 c3 sm3 o3 W3 r3 => ?_
    refine ⟨x, y, r2, by rw [show u = .str y from r3], hc.1, Nat.le_trans hc.2 lim_size, fun p np => ?_⟩
    exact q (.ref p) F3 _ c3 [(p, .lst ((Txt.split x y).map V.str))] (sm2.trans sm3) o3 ⟨p, _, rfl, rfl, paired_str _ _⟩ (W3.newO np)
  · cases h3
theorem ev_part (ha : Ev ta σ F A rStr ma) (hb : Ev tb σ F A rStr mb) : Ev (tM1 rPartS ta tb) σ F A (rTh (arC rStr (arC rStr (arOne rStr)))) (bnd ma fun a => bnd mb fun b => lft (partS a b)) := fun s b s' hm F1 H c O sm ho W Q q => by
  obtain ⟨x, s1, h1, hm⟩ := bnd_some hm
  obtain ⟨y, s2, h2, hm⟩ := bnd_some hm
  obtain ⟨h3, rfl⟩ := lft_some hm
  unfold partS at h3
  split at h3
  · rename_i hc
    cases h3
    refine ha s x s1 h1 F1 H c O sm ho W _ fun v F2 H2 c2 sm2 o2 W2 r2 => ⟨⟨x, r2⟩, ?_⟩
    refine hb s1 y _ h2 F2 H2 c2 O (sm.trans sm2) o2 W2 _ fun u F3 H3 c3 sm3 o3 W3 r3 => ?_
    refine ⟨x, y, r2, by rw [show u = .str y from r3], hc.1, Nat.le_trans hc.2 lim_size, fun p np => ?_⟩
    exact q (.ref p) _ _ c3 ((sm2.trans sm3).trans (W3.sameF np)) (A.mono (W3.sameF np) o3) (W3.newF np) ⟨p, _, rfl, upd_same, _, _, rfl, rfl, _, _, rfl, rfl, _, rfl, rfl⟩
  · cases h3
theorem ev_join {mb : M S (List Str)} (ha : Ev ta σ F A rStr ma) (hb : Ev tb σ F A (rLst rStr) mb) : Ev (tM1 (rJoinS K) ta tb) σ F A rStr (bnd ma fun a => bnd mb fun b => lft (joinS a b)) := fun s b s' hm F1 H c O sm ho W Q q => by
  obtain ⟨x, s1, h1, hm⟩ := bnd_some hm
  obtain ⟨y, s2, h2, hm⟩ := bnd_some hm
  obtain ⟨h3, rfl⟩ := lft_some hm
  unfold joinS at h3
  split at h3
  · rename_i hc
    cases h3
    refine ha s x s1 h1 F1 H c O sm ho W _ fun v F2 H2 c2 sm2 o2 W2 r2 => ⟨⟨x, r2⟩, ?_⟩
    refine hb s1 y _ h2 F2 H2 c2 O (sm.trans sm2) o2 W2 _ fun u F3 H3 c3 sm3 o3 W3 ⟨p, vs, ev, hp, rp⟩ => ?_
    have e := vs_strs rp
    subst e
    exact ⟨x, p, y, r2, by rw [ev], .inl (SqL.of (W3.sub _ _ hp)), hc, q _ F3 H3 c3 (sm2.trans sm3) o3 W3 rfl⟩
  · cases h3
theorem kpe_split {X : Cx} {o e : Expr} {to te : TE} {apos pos : Pos} (ho : PE X o to) (he : PE X e te) (hs : starEach [e] X.env = [(false, eval e X.env)] := by rfl) (hbase : attributeBase o "split" X.env (eval o X.env) = eval o X.env := by rfl) (hline : (apos.endLine == pos.line) = true := by rfl) :
    PE X (.Call (.Attribute o "split" apos) [e] [] pos) (tM1 rSplitS to te) := pe_split ho he hs hbase hline
theorem kpe_part {X : Cx} {o e : Expr} {to te : TE} {apos pos : Pos} (ho : PE X o to) (he : PE X e te) (hs : starEach [e] X.env = [(false, eval e X.env)] := by rfl) (hbase : attributeBase o "partition" X.env (eval o X.env) = eval o X.env := by rfl) (hline : (apos.endLine == pos.line) = true := by rfl) :
    PE X (.Call (.Attribute o "partition" apos) [e] [] pos) (tM1 rPartS to te) := pe_partition ho he hs hbase hline
theorem kpe_join {X : Cx} {o e : Expr} {to te : TE} {apos pos : Pos} (ho : PE X o to) (he : PE X e te) (eK : X.K = K := by rfl) (hs : starEach [e] X.env = [(false, eval e X.env)] := by rfl) (hbase : attributeBase o "join" X.env (eval o X.env) = eval o X.env := by rfl) (hline : (apos.endLine == pos.line) = true := by rfl) :
    PE X (.Call (.Attribute o "join" apos) [e] [] pos) (tM1 (rJoinS K) to te) := by subst eK; exact pe_join ho he hs hbase hline
/-- the signs of a text -/
def signsOf (x : Str) : List Str := x.cps.toList.map fun c => ⟨#[c]⟩
theorem ei_str (h : Ev te σ F A rStr m) : EvI (iStr te) σ F A rStr (bnd m fun x => ret (signsOf x)) := fun s b s' hm F1 H c O sm ho W Q q => by
  obtain ⟨x, s1, h1, hm⟩ := bnd_some hm
  obtain ⟨rfl, rfl⟩ := ret_some hm
  refine h s x _ h1 F1 H c O sm ho W _ fun v F2 H2 c2 s2 o2 W2 r2 => ⟨x, r2, q _ F2 H2 c2 s2 o2 W2 ?_⟩
  have hl : (signsOf x).length = x.cps.size := by simp [signsOf]
  refine ⟨_, _, hl ▸ walk_str (z := x), fun _ _ _ _ => trivial, fun i H3 v H' hi y F3 O3 s3 W3 => ?_⟩
  obtain ⟨rfl, c, hc, rfl⟩ := y
  refine ⟨F3, SameR _, W3, ⟨#[c]⟩, ?_, rfl⟩
  unfold signsOf
  rw [List.getElem?_map, Array.getElem?_toList, hc]; rfl
def sgAt (x : Str) (i : Int) : Option Str := if x.length ≤ 1000000 then (atI x.cps.toList i).map fun c => ⟨#[c]⟩ else none
theorem vl_ixS : VL2 rIxS rStr rInt rStr sgAt := fun F H O x y a b c W hx hy hf Q q => by
  unfold sgAt at hf; split at hf
  · rename_i h
    obtain ⟨z, hz, rfl⟩ := Option.map_eq_some_iff.mp hf
    exact ⟨a, b, z, hx, hy, Nat.le_trans h lim_size, hz, q _ F H (SameR _) W rfl⟩
  · cases hf
abbrev rIntStr : List V → Hp → VK → Prop := fun xs H Q => ∃ a n, xs = [.str a] ∧ PySem.intText? a = some n ∧ a.length ≤ 640 ∧ Q (.int n) H
def intS (a : Str) : Option Int := if a.length ≤ 640 then PySem.intText? a else none
theorem vl_intS : VLc rIntStr (arOne rStr) rInt intS := fun F H O xs a c W ⟨v, e, ev⟩ hf Q q => by
  unfold intS at hf; split at hf
  · rename_i h; exact ⟨a, c, by rw [e, ev], hf, h, q _ F H (SameR _) W rfl⟩
  · cases hf
abbrev rStrInt : List V → Hp → VK → Prop := fun xs H Q => ∃ i, xs = [.int i] ∧ i.natAbs.log2 < 1920 ∧ Q (.str (toString i)) H
def strI (i : Int) : Option Str := if i.natAbs.log2 < 1920 then some (toString i : String) else none
theorem vl_strI : VLc rStrInt (arOne rInt) rStr strI := fun F H O xs a c W ⟨v, e, ev⟩ hf Q q => by
  unfold strI at hf; split at hf
  · rename_i h; cases hf; exact ⟨a, by rw [e, ev], h, q _ F H (SameR _) W rfl⟩
  · cases hf
abbrev rInSg : R2 := fun x y H Q => ∃ (c : Nat) (z : Str), x = .str ⟨#[c]⟩ ∧ y = .str z ∧ Q (.bl (decide (c ∈ z.cps.toList))) H
def inSg (a z : Str) : Option Bool := match a with
  | ⟨⟨[c]⟩⟩ => some (decide (c ∈ z.cps.toList))
  | _ => none
theorem vl_inSg : VL2 rInSg rStr rStr rBool inSg := fun F H O x y a b c W hx hy hf Q q => by
  unfold inSg at hf; split at hf
  · cases hf; exact ⟨_, b, hx, hy, q _ F H (SameR _) W rfl⟩
  · cases hf
end
end T

/-! T48: xs.append(a raising call). -/
namespace T
open PySem L2
section
variable {S α Ω : Type} {R : Rl α} {K : PySem.W.Frag} {W : WX} {σ : L2.St} {F : Hp} {A : Ow S} {te : TE} {u : TS} {P : Post Ω} {g : S → List α} {p : S → List α → S} {mx : M S (α ⊕ Str)} {xz : Str → S → Ω} {v : V} {j : Nat}
theorem b_appX {f : S → Option Ω} (z : ∀ F', Same F F' → Rz K W A P σ F' xz) (hv : σ[j]? = some (some v)) (e : Emb A (oLst R v) g p) (he : EvX K W te σ F A R mx) (k : ∀ F', Same F F' → B u σ F' A P f) : B (tSeq (tDrop (tBM K "list" rAppend (tVar j) (tCons te tNil))) u) σ F A P (bndX xz mx fun x => bnd (upL g p fun xs => app xs x) fun _ => f) := fun s w hm F1 H c O sm ho W1 D q => by
  refine ⟨v, hv, ?_⟩
  obtain ⟨l0, vs0, c0, e0, _, W0, _⟩ := emb_list e ho W1
  refine ⟨by rw [e0]; exact Or.inl ⟨rfl, vs0, SqL.of W0.hd⟩, ?_⟩
  rcases bndX_some hm with ⟨x, s1, h1, hm⟩ | ⟨n, s1, h1, rfl⟩
  · obtain ⟨_, s2, h2, hm⟩ := bnd_some hm
    obtain ⟨xs, h2a, rfl⟩ := upL_some h2
    obtain ⟨rfl, hl⟩ := app_some h2a
    refine he s _ s1 h1 F1 H c O sm ho W1 _ fun y F2 H2 c2 sm2 o2 W2 r2 => ?_
    obtain ⟨l, vs, c3, rfl, rp, W3, kk⟩ := emb_list e o2 W2
    refine ⟨l, vs, y, rfl, rfl, W3.hd, by rw [paired_len rp]; exact lim_le hl, ?_⟩
    obtain ⟨c4, o4, W4⟩ := kk F2 _ (vs ++ [y]) (SameR _) (rp.snoc r2) _ W3.set
    exact k F2 (sm.trans sm2) _ w hm F2 _ c4 O (SameR _) o4 W4 D (P.mono sm2 q)
  · exact he s _ s1 h1 F1 H c O sm ho W1 _ fun F2 H2 c2 s2 o2 W2 => (z F1 sm).rz (D := D) (SameR _) q F2 H2 c2 s2 o2 W2
end
end T

/-! T49: things of one type read as of another: the functions named. -/
namespace T
open PySem L2
section
variable {α β γ δ : Type} {R : Rl α} {R' : Rl β} {R2 : Rl γ}
def coI (x : α) : Option α := some x
def coN (_ : α) : Option β := none
def coB (f : α → Option β) (o : Option α) : Option β := o.bind f
def coO (f : α → Option β) : Option α → Option (Option β)
  | none => some none
  | some x => (f x).map some
def coZ (_ : Unit) : Option (Option β) := some none
def coJ (f : α → Option β) (x : α) : Option (Option β) := (f x).map some
def coE (f : α → Option β) (g : γ → Option β) : α ⊕ γ → Option β := Sum.elim f g
def coL (f : α → Option β) (x : α) : Option (β ⊕ γ) := (f x).map Sum.inl
def coR (f : α → Option β) (x : α) : Option (γ ⊕ β) := (f x).map Sum.inr
def coC (f : α → Option β) (g : γ → Option δ) (x : α × γ) : Option (β × δ) := (f x.1).bind fun a => (g x.2).map fun b => (a, b)
def coM (f : α → Option β) (xs : List α) : Option (List β) := mapO f xs
theorem cop_I : CvP R R coI := cvp_id
theorem cop_N : CvP R R' coN := cvp_never
theorem cop_B {f : α → Option β} (h : CvP R R' f) : CvP (rOpt R) R' (coB f) := cvp_opt h
theorem cop_O {f : α → Option β} (h : CvP R R' f) : CvP (rOpt R) (rOpt R') (coO f) := fun F v o y r e => by
  cases o with
  | none => cases e; exact r
  | some x => exact cvp_some h F v x y r e
theorem cop_Z : CvP rNone (rOpt R) coZ := cvp_none
theorem cop_J {f : α → Option β} (h : CvP R R' f) : CvP R (rOpt R') (coJ f) := cvp_some h
theorem cop_E {f : α → Option β} {g : γ → Option β} (h : CvP R R' f) (k : CvP R2 R' g) : CvP (rSum R R2) R' (coE f g) := cvp_sum h k
theorem cop_L {f : α → Option β} (h : CvP R R' f) : CvP R (rSum R' R2) (coL f) := cvp_l h
theorem cop_R {f : α → Option β} (h : CvP R R' f) : CvP R (rSum R2 R') (coR f) := cvp_r h
theorem coa_C {T : Ar γ} {T' : Ar δ} {f : α → Option β} {g : γ → Option δ} (h : CvP R R' f) (k : CvA T T' g) : CvA (arC R T) (arC R' T') (coC f g) := cva_c h k
theorem cop_T {f : α → Option β} (h : CvP R R' f) : CvP (rTup R) (rTup R') (coM f) := cvp_tup h
theorem cop_M {f : α → Option β} (h : CvP R R' f) : CvP (rLst R) (rLst R') (coM f) := cvp_lst h
end
/-! str of a thing that may be None -/
section
open PySem.Spec PyProof.Rows
variable {X : Cx} {K : PySem.W.Frag}
abbrev rStrOpt : List V → Hp → VK → Prop := fun xs H Q => (∃ i, xs = [.int i] ∧ i.natAbs.log2 < 1920 ∧ Q (.str (toString i)) H) ∨ (xs = [.non] ∧ Q (.str "None") H)
theorem call_str_opt : CallR X (.type "str") rStrOpt := by
  intro pins s σ H xs us Q I r h
  rcases h with ⟨i, rfl, hz, q⟩ | ⟨rfl, q⟩
  · obtain ⟨u, rfl, t, rfl⟩ := vals1 r
    exact PySem.P.str_of_int hz ⟨.str _, H, I.tok _, ⟨_, rfl⟩, q⟩
  · obtain ⟨u, rfl, r1⟩ := vals1 r
    cases r1
    exact PySem.P.str_of_none ⟨.str _, H, I.tok _, ⟨_, rfl⟩, q⟩
def strO : Option Int → Option Str
  | none => some "None"
  | some i => strI i
theorem vl_strO : VLc rStrOpt (arOne (rOpt rInt)) rStr strO := fun F H O xs a c W ⟨v, e, ev⟩ hf Q q => by
  cases a with
  | none => cases hf; exact .inr ⟨by rw [e, ev], q _ F H (SameR _) W rfl⟩
  | some i =>
    have hf : strI i = some c := hf
    unfold strI at hf; split at hf
    · rename_i h; cases hf; exact .inl ⟨i, by rw [e, ev], h, q _ F H (SameR _) W rfl⟩
    · cases hf
end
end T

/-! P2: plain laws of mirrors with pools. -/
namespace T
open PySem L2
section
variable {S T' β Ω : Type} {s : S}
theorem tot_zmI {g : S → List T'} {p : S → List T' → S} {k : Int} {m : M T' β} {Q : β × S → Prop} : Tot (zmI g p k m) s Q ↔ ∃ t, (g s)[k.toNat]? = some t ∧ Tot m t (fun w => Q (w.1, p s ((g s).set k.toNat w.2))) := by
  unfold Tot zmI
  constructor
  · rintro ⟨w, e, q⟩
    cases h : (g s)[k.toNat]? with
    | none => rw [h] at e; cases e
    | some t =>
      rw [h] at e
      cases h2 : m t with
      | none => simp [h2] at e
      | some c => simp [h2] at e; subst e; exact ⟨t, rfl, c, h2, q⟩
  · rintro ⟨t, h, c, e, q⟩; exact ⟨_, by rw [h]; simp only [Option.bind]; rw [e]; rfl, q⟩
theorem tot_wp {f : S × List T' → Option Ω} {Q : Ω → Prop} : Tot (wp f) s Q ↔ Tot f (s, []) Q := Iff.rfl
theorem tot_psh {g : S → List T'} {p : S → List T' → S} {f : Int → S → Option Ω} {x : T'} {Q : Ω → Prop} : Tot (psh g p f x) s Q ↔ Tot (f (g s).length) (p s (g s ++ [x])) Q := Iff.rfl
theorem tot_pshL {g : S → List T'} {p : S → List T' → S} {f : List Int → S → Option Ω} {xs : List T'} {Q : Ω → Prop} : Tot (pshL g p f xs) s Q ↔ Tot (f (rngL (g s).length xs.length)) (p s (g s ++ xs)) Q := Iff.rfl
theorem tot_fthnF {Z ρ κ : Type} {m : S → Option (Fl (Z × S) ρ)} {h : Z → S → Option (Fl κ ρ)} {Q : Fl κ ρ → Prop} : Tot (fthnF m h) s Q ↔ Tot m s (fun r => match r with | .nx q => Tot (h q.1) q.2 Q | .rt b => Q (.rt b)) := by
  unfold Tot fthnF
  constructor
  · rintro ⟨w, e, q⟩
    cases h1 : m s with
    | none => rw [h1] at e; cases e
    | some c =>
      rw [h1] at e
      cases c with
      | nx z => exact ⟨_, rfl, w, e, q⟩
      | rt b => cases e; exact ⟨_, rfl, q⟩
  · rintro ⟨c, e, q⟩
    cases c with
    | nx z => obtain ⟨w, e2, q⟩ := q; exact ⟨w, by rw [e]; exact e2, q⟩
    | rt b => exact ⟨.rt b, by rw [e]; rfl, q⟩
theorem tot_fd0 {Z α : Type} {f : Z → α → M S Z} {z : Z} {Q : Z × S → Prop} : Tot (fd f z []) s Q ↔ Q (z, s) := tot_ret
theorem tot_fdc {Z α : Type} {f : Z → α → M S Z} {z : Z} {x : α} {xs : List α} {Q : Z × S → Prop} : Tot (fd f z (x :: xs)) s Q ↔ Tot (f z x) s (fun w => Tot (fd f w.1 xs) w.2 Q) := tot_bnd
theorem tot_mp0 {α : Type} {f : α → M S β} {Q : List β × S → Prop} : Tot (mp f []) s Q ↔ Q ([], s) := tot_ret
theorem tot_mpc {α : Type} {f : α → M S β} {x : α} {xs : List α} {Q : List β × S → Prop} : Tot (mp f (x :: xs)) s Q ↔ Tot (f x) s (fun w => Tot (mp f xs) w.2 (fun u => Q (w.1 :: u.1, u.2))) := by
  show Tot (bnd (f x) fun y => bnd (mp f xs) fun ys => ret (y :: ys)) s Q ↔ _
  rw [tot_bnd]
  simp only [tot_bnd, tot_ret]
theorem rng0_2 : rngL ((([] : List T').length : Nat) : Int) 2 = [0, 1] := rfl
theorem rng0_3 : rngL ((([] : List T').length : Nat) : Int) 3 = [0, 1, 2] := rfl
end
end T
namespace T
open PySem L2
/-! data equal to itself -/
structure DS {α : Type} {R : Rl α} (D : RD R) (n : Nat) : Prop where
  lay : ∀ x, (D.d x).canLay0 = true
  dep : ∀ x, (D.d x).depth ≤ n
  rf : ∀ x, PyData.eqv (D.d x) (D.d x) = true
theorem ds_ib : DS dIB 1 := ⟨fun x => by cases x <;> rfl, fun x => by cases x <;> simp [dIB, PyData.depth], fun x => by cases x <;> simp [dIB, PyData.eqv]⟩
theorem DE.ds {α : Type} {R : Rl α} {D : RD R} {n : Nat} (h : DE D n) : DS D n := ⟨h.lay, h.dep, fun x => (h.eq x x).mpr rfl⟩
theorem ds_tup {α : Type} {R : Rl α} {D : RD R} {n : Nat} (h : DS D n) : DS (dTup D) (n + 1) := by
  refine ⟨fun xs => ?_, fun xs => ?_, fun xs => ?_⟩
  · show PyData.canLay0 (.tuple (xs.map D.d)) = true
    rw [PyData.canLay0]
    induction xs with
    | nil => rfl
    | cons x xs ih => rw [List.map_cons, PyData.canLayAll0, h.lay x, ih]; rfl
  · show PyData.depth (.tuple (xs.map D.d)) ≤ n + 1
    rw [PyData.depth]
    have : PyData.depthAll (xs.map D.d) ≤ n := by
      induction xs with
      | nil => simp [PyData.depthAll]
      | cons x xs ih => rw [List.map_cons, PyData.depthAll]; have := h.dep x; omega
    omega
  · show PyData.eqv (.tuple (xs.map D.d)) (.tuple (xs.map D.d)) = true
    rw [PyData.eqv]
    induction xs with
    | nil => simp [PyData.eqvAll]
    | cons x xs ih => rw [List.map_cons, PyData.eqvAll, Bool.and_eq_true, h.rf, ih]; simp
theorem neD_refl {α : Type} {R : Rl α} {D : RD R} {n : Nat} (h : DS D n) (l : n ≤ 64) (x : α) : neD (D.d x) (D.d x) = some false := by
  have s : SeqAt.shaped (D.d x) = true := by
    unfold SeqAt.shaped; rw [h.lay, decide_eq_true (Nat.le_trans (h.dep x) l)]; rfl
  unfold neD; rw [if_pos ⟨s, s⟩, h.rf x]; rfl
end T
namespace T
open PySem L2
section
variable {S T' β Ω : Type} {s : S}
theorem tot_gtI {g : S → List T'} {k : Int} {f : T' → Option β} {Q : β × S → Prop} : Tot (gtI g k f) s Q ↔ ∃ t, (g s)[k.toNat]? = some t ∧ ∃ b, f t = some b ∧ Q (b, s) := by
  unfold Tot gtI
  constructor
  · rintro ⟨w, e, q⟩
    cases h : (g s)[k.toNat]? with
    | none => rw [h] at e; cases e
    | some t =>
      rw [h] at e
      cases h2 : f t with
      | none => simp [h2] at e
      | some c => simp [h2] at e; subst e; exact ⟨t, rfl, c, h2, q⟩
  · rintro ⟨t, h, c, e, q⟩; exact ⟨_, by rw [h]; simp only [Option.bind]; rw [e]; rfl, q⟩
theorem tot_upI {g : S → List T'} {p : S → List T' → S} {k : Int} {f : T' → Option T'} {Q : Unit × S → Prop} : Tot (upI g p k f) s Q ↔ ∃ t, (g s)[k.toNat]? = some t ∧ ∃ t', f t = some t' ∧ Q ((), p s ((g s).set k.toNat t')) := by
  unfold Tot upI
  constructor
  · rintro ⟨w, e, q⟩
    cases h : (g s)[k.toNat]? with
    | none => rw [h] at e; cases e
    | some t =>
      rw [h] at e
      cases h2 : f t with
      | none => simp [h2] at e
      | some c => simp [h2] at e; subst e; exact ⟨t, rfl, c, h2, q⟩
  · rintro ⟨t, h, c, e, q⟩; exact ⟨_, by rw [h]; simp only [Option.bind]; rw [e]; rfl, q⟩
end
end T
namespace T
open PySem L2
section
variable {S α Z Ω β : Type} {s : S}
theorem tot_bndX {xz : Str → S → Ω} {m : M S (α ⊕ Str)} {f : α → S → Option Ω} {Q : Ω → Prop} : Tot (bndX xz m f) s Q ↔ Tot m s (fun w => match w.1 with
    | .inl x => Tot (f x) w.2 Q
    | .inr n => Q (xz n w.2)) := by
  unfold Tot bndX
  constructor
  · rintro ⟨w, e, q⟩
    cases h : m s with
    | none => rw [h] at e; cases e
    | some p =>
      obtain ⟨p, s1⟩ := p
      rw [h] at e
      cases p with
      | inl x => exact ⟨_, rfl, w, e, q⟩
      | inr n => cases e; exact ⟨_, rfl, q⟩
  · rintro ⟨⟨p, s1⟩, h, q⟩
    cases p with
    | inl x => obtain ⟨w, e, q⟩ := q; exact ⟨w, by rw [h]; exact e, q⟩
    | inr n => exact ⟨_, by rw [h]; rfl, q⟩
theorem tot_tryM {cat : List Str} {zx : Str → Z} {m : S → Option ((Z × S) ⊕ (Str × S))} {Q : Z × S → Prop} : Tot (tryM cat zx m) s Q ↔ Tot m s (fun w => match w with
    | .inl q => Q q
    | .inr q => q.1 ∈ cat ∧ Q (zx q.1, q.2)) := by
  unfold Tot tryM
  constructor
  · rintro ⟨w, e, q⟩
    cases h : m s with
    | none => rw [h] at e; cases e
    | some p =>
      rw [h] at e
      cases p with
      | inl x => cases e; exact ⟨_, rfl, q⟩
      | inr n =>
        by_cases hn : n.1 ∈ cat
        · simp [hn] at e; subst e; exact ⟨_, rfl, hn, q⟩
        · simp [hn] at e
  · rintro ⟨p, h, q⟩
    cases p with
    | inl x => exact ⟨x, by rw [h]; rfl, q⟩
    | inr n => obtain ⟨hn, q⟩ := q; exact ⟨_, by rw [h]; simp [hn], q⟩
theorem okO_inl {γ : Type} {o : Option (γ ⊕ Str)} {b : γ} (h : o = some (.inl b)) : okO o = some b := by rw [h]; rfl
end
/-! data of sums -/
theorem ds_sum {α β : Type} {R : Rl α} {R' : Rl β} {D : RD R} {D' : RD R'} {n : Nat} (h : DS D n) (h' : DS D' n) : DS (dSum D D') n := ⟨fun x => match x with
  | .inl a => h.lay a
  | .inr a => h'.lay a, fun x => match x with
  | .inl a => h.dep a
  | .inr a => h'.dep a, fun x => match x with
  | .inl a => h.rf a
  | .inr a => h'.rf a⟩
theorem ds_lst {α : Type} {R : Rl α} {D : RD R} {n : Nat} (h : DS D n) : DS (dLst D) (n + 1) := by
  refine ⟨fun xs => ?_, fun xs => ?_, fun xs => ?_⟩
  · show PyData.canLay0 (.list (xs.map D.d)) = true
    rw [PyData.canLay0]
    induction xs with
    | nil => rfl
    | cons x xs ih => rw [List.map_cons, PyData.canLayAll0, h.lay x, ih]; rfl
  · show PyData.depth (.list (xs.map D.d)) ≤ n + 1
    rw [PyData.depth]
    have : PyData.depthAll (xs.map D.d) ≤ n := by
      induction xs with
      | nil => simp [PyData.depthAll]
      | cons x xs ih => rw [List.map_cons, PyData.depthAll]; have := h.dep x; omega
    omega
  · show PyData.eqv (.list (xs.map D.d)) (.list (xs.map D.d)) = true
    rw [PyData.eqv]
    induction xs with
    | nil => simp [PyData.eqvAll]
    | cons x xs ih => rw [List.map_cons, PyData.eqvAll, Bool.and_eq_true, h.rf, ih]; simp
theorem DS.up {α : Type} {R : Rl α} {D : RD R} {n m : Nat} (h : DS D n) (l : n ≤ m) : DS D m := ⟨h.lay, fun x => Nat.le_trans (h.dep x) l, h.rf⟩
theorem DS.shaped {α : Type} {R : Rl α} {D : RD R} {n : Nat} (h : DS D n) (l : n ≤ 64) (x : α) : SeqAt.shaped (D.d x) = true := by
  unfold SeqAt.shaped; rw [h.lay, decide_eq_true (Nat.le_trans (h.dep x) l)]; rfl
/-! data equal to itself, where its texts may be laid -/
structure DL {α : Type} {R : Rl α} (D : RD R) (n : Nat) (p : α → Prop) : Prop where
  lay : ∀ x, p x → (D.d x).canLay0 = true
  dep : ∀ x, (D.d x).depth ≤ n
  rf : ∀ x, PyData.eqv (D.d x) (D.d x) = true
structure DLA {α : Type} {A : Ar α} (D : AD A) (n : Nat) (p : α → Prop) : Prop where
  lay : ∀ x, p x → PyData.canLayAll0 (D.d x) = true
  dep : ∀ x, PyData.depthAll (D.d x) ≤ n
  rf : ∀ x, PyData.eqvAll (D.d x) (D.d x) = true
section
variable {α β : Type} {R : Rl α} {R' : Rl β} {D : RD R} {D' : RD R'} {n m : Nat} {p : α → Prop} {q : β → Prop} {A : Ar β} {E : AD A}
theorem DS.dl (h : DS D n) : DL D n (fun _ => True) := ⟨fun x _ => h.lay x, h.dep, h.rf⟩
theorem DE.dl (h : DE D n) : DL D n (fun _ => True) := h.ds.dl
theorem dl_str : DL dStr 1 (fun s => PySem.PyData.strOk s = true) := ⟨fun x h => by show PyData.canLay0 (.str x) = true; rw [PyData.canLay0]; exact h, fun x => by simp [dStr, PyData.depth], fun x => by simp [dStr, PyData.eqv]⟩
theorem DL.up (h : DL D n p) (l : n ≤ m) : DL D m p := ⟨h.lay, fun x => Nat.le_trans (h.dep x) l, h.rf⟩
theorem DL.imp {p' : α → Prop} (h : DL D n p) (k : ∀ x, p' x → p x) : DL D n p' := ⟨fun x hx => h.lay x (k x hx), h.dep, h.rf⟩
theorem dl_lay (h : DL D n p) (xs : List α) (hx : ∀ x ∈ xs, p x) : PyData.canLayAll0 (xs.map D.d) = true := by
  induction xs with
  | nil => rfl
  | cons x xs ih => rw [List.map_cons, PyData.canLayAll0, h.lay x (hx x List.mem_cons_self), ih fun y hy => hx y (List.mem_cons_of_mem _ hy)]; rfl
theorem dl_dep (h : DL D n p) (xs : List α) : PyData.depthAll (xs.map D.d) ≤ n := by
  induction xs with
  | nil => simp [PyData.depthAll]
  | cons x xs ih => rw [List.map_cons, PyData.depthAll]; have := h.dep x; omega
theorem dl_rf (h : DL D n p) (xs : List α) : PyData.eqvAll (xs.map D.d) (xs.map D.d) = true := by
  induction xs with
  | nil => simp [PyData.eqvAll]
  | cons x xs ih => rw [List.map_cons, PyData.eqvAll, Bool.and_eq_true, h.rf, ih]; simp
theorem dl_tup (h : DL D n p) : DL (dTup D) (n + 1) (fun xs => ∀ x ∈ xs, p x) := ⟨fun xs hx => by
  show PyData.canLay0 (.tuple (xs.map D.d)) = true
  rw [PyData.canLay0]; exact dl_lay h xs hx, fun xs => by
  show PyData.depth (.tuple (xs.map D.d)) ≤ n + 1
  rw [PyData.depth]; have := dl_dep h xs; omega, fun xs => by
  show PyData.eqv (.tuple (xs.map D.d)) (.tuple (xs.map D.d)) = true
  rw [PyData.eqv]; exact dl_rf h xs⟩
theorem dl_lst (h : DL D n p) : DL (dLst D) (n + 1) (fun xs => ∀ x ∈ xs, p x) := ⟨fun xs hx => by
  show PyData.canLay0 (.list (xs.map D.d)) = true
  rw [PyData.canLay0]; exact dl_lay h xs hx, fun xs => by
  show PyData.depth (.list (xs.map D.d)) ≤ n + 1
  rw [PyData.depth]; have := dl_dep h xs; omega, fun xs => by
  show PyData.eqv (.list (xs.map D.d)) (.list (xs.map D.d)) = true
  rw [PyData.eqv]; exact dl_rf h xs⟩
theorem dl_opt (h : DL D n p) (h1 : 1 ≤ n) : DL (dOpt D) n (fun o => ∀ x, o = some x → p x) := ⟨fun o hx => by
  cases o with
  | none => rfl
  | some x => exact h.lay x (hx x rfl), fun o => by
  cases o with
  | none => show PyData.depth .none ≤ n; simp [PyData.depth]; try omega
  | some x => exact h.dep x, fun o => by
  cases o with
  | none => show PyData.eqv .none .none = true; simp [PyData.eqv]
  | some x => exact h.rf x⟩
theorem dl_sum (h : DL D n p) (h' : DL D' n q) : DL (dSum D D') n (Sum.elim p q) := ⟨fun x hx => match x, hx with
  | .inl a, hx => h.lay a hx
  | .inr a, hx => h'.lay a hx, fun x => match x with
  | .inl a => h.dep a
  | .inr a => h'.dep a, fun x => match x with
  | .inl a => h.rf a
  | .inr a => h'.rf a⟩
theorem dla_one (h : DL D n p) : DLA (daOne D) n p := ⟨fun x hx => by
  show PyData.canLayAll0 [D.d x] = true
  rw [PyData.canLayAll0, h.lay x hx]; rfl, fun x => by
  show PyData.depthAll [D.d x] ≤ n
  rw [PyData.depthAll, PyData.depthAll]; have := h.dep x; omega, fun x => by
  show PyData.eqvAll [D.d x] [D.d x] = true
  rw [PyData.eqvAll, Bool.and_eq_true, h.rf]; simp [PyData.eqvAll]⟩
theorem dla_c (h : DL D n p) (k : DLA E n q) : DLA (daC D E) n (fun x => p x.1 ∧ q x.2) := ⟨fun x hx => by
  show PyData.canLayAll0 (D.d x.1 :: E.d x.2) = true
  rw [PyData.canLayAll0, h.lay _ hx.1, k.lay _ hx.2]; rfl, fun x => by
  show PyData.depthAll (D.d x.1 :: E.d x.2) ≤ n
  rw [PyData.depthAll]; have := h.dep x.1; have := k.dep x.2; omega, fun x => by
  show PyData.eqvAll (D.d x.1 :: E.d x.2) (D.d x.1 :: E.d x.2) = true
  rw [PyData.eqvAll, Bool.and_eq_true, h.rf, k.rf]; simp⟩
theorem dl_th (k : DLA E n q) : DL (dTh E) (n + 1) q := ⟨fun x hx => by
  show PyData.canLay0 (.tuple (E.d x)) = true
  rw [PyData.canLay0, k.lay x hx], fun x => by
  show PyData.depth (.tuple (E.d x)) ≤ n + 1
  rw [PyData.depth]; have := k.dep x; omega, fun x => by
  show PyData.eqv (.tuple (E.d x)) (.tuple (E.d x)) = true
  rw [PyData.eqv, k.rf]⟩
theorem DL.shaped (h : DL D n p) (l : n ≤ 64) {x : α} (hx : p x) : SeqAt.shaped (D.d x) = true := by
  unfold SeqAt.shaped; rw [h.lay x hx, decide_eq_true (Nat.le_trans (h.dep x) l)]; rfl
theorem neL_refl (h : DL D n p) (l : n ≤ 64) {x : α} (hx : p x) : neD (D.d x) (D.d x) = some false := by
  unfold neD; rw [if_pos ⟨h.shaped l hx, h.shaped l hx⟩, h.rf x]; rfl
theorem eqL_refl (h : DL D n p) (l : n ≤ 64) {x : α} (hx : p x) : eqD (D.d x) (D.d x) = some true := by
  unfold eqD; rw [if_pos ⟨h.shaped l hx, h.shaped l hx⟩, h.rf x]
/-- data that differ -/
theorem neL_diff (h : DL D n p) (h' : DL D' n q) (l : n ≤ 64) {x : α} {y : β} (hx : p x) (hy : q y) (e : PyData.eqv (D.d x) (D'.d y) = false) : neD (D.d x) (D'.d y) = some true := by
  unfold neD; rw [if_pos ⟨h.shaped l hx, h'.shaped l hy⟩, e]; rfl
theorem eqL_diff (h : DL D n p) (h' : DL D' n q) (l : n ≤ 64) {x : α} {y : β} (hx : p x) (hy : q y) (e : PyData.eqv (D.d x) (D'.d y) = false) : eqD (D.d x) (D'.d y) = some false := by
  unfold eqD; rw [if_pos ⟨h.shaped l hx, h'.shaped l hy⟩, e]
end
abbrev dWord : RD (rTh (arOne rStr)) := dTh (daOne dStr)
theorem dl_word : DL dWord 2 (fun s => PySem.PyData.strOk s = true) := dl_th (dla_one dl_str)
section
variable {S Z α β ρ : Type} {s : S}
theorem tot_fdE0 {f : Z → α → S → Option (Fl (Z × S) ρ)} {z : Z} {Q : Fl (Z × S) ρ → Prop} : Tot (fdE f z []) s Q ↔ Q (.nx (z, s)) := by
  unfold Tot; exact ⟨fun ⟨w, e, q⟩ => by cases e; exact q, fun q => ⟨_, rfl, q⟩⟩
theorem tot_fdEc {f : Z → α → S → Option (Fl (Z × S) ρ)} {z : Z} {x : α} {xs : List α} {Q : Fl (Z × S) ρ → Prop} : Tot (fdE f z (x :: xs)) s Q ↔ Tot (f z x) s (fun r => match r with
    | .nx w => Tot (fdE f w.1 xs) w.2 Q
    | .rt b => Q (.rt b)) := by
  unfold Tot
  constructor
  · rintro ⟨w, e, q⟩
    replace e : (f z x s).bind _ = some w := e
    cases h : f z x s with
    | none => rw [h] at e; cases e
    | some r =>
      rw [h] at e
      cases r with
      | nx p => exact ⟨_, rfl, w, e, q⟩
      | rt b => cases e; exact ⟨_, rfl, q⟩
  · rintro ⟨r, h, q⟩
    cases r with
    | nx p => obtain ⟨w, e, q⟩ := q; exact ⟨w, by show (f z x s).bind _ = _; rw [h]; exact e, q⟩
    | rt b => exact ⟨.rt b, by show (f z x s).bind _ = _; rw [h]; rfl, q⟩
/-- the first one for which p holds is returned -/
theorem tot_first {p : α → Bool} {mk : α → ρ} {f : Unit → α → S → Option (Fl (Unit × S) ρ)} : ∀ {xs : List α} {Q : Fl (Unit × S) ρ → Prop}, (∀ x ∈ xs, Tot (f () x) s (fun r => r = if p x = true then .rt (mk x) else .nx ((), s))) →
    (match (xs.filter p).head? with
      | some x => Q (.rt (mk x))
      | none => Q (.nx ((), s))) → Tot (fdE f () xs) s Q
  | [], Q, _, q => tot_fdE0.mpr q
  | x :: xs, Q, h, q => by
    rw [tot_fdEc]
    refine (h x List.mem_cons_self).mono fun r e => ?_
    subst e
    cases hp : p x with
    | true =>
      rw [List.filter_cons, if_pos hp] at q
      exact q
    | false =>
      rw [List.filter_cons, if_neg (by simp [hp])] at q
      exact tot_first (fun y hy => h y (List.mem_cons_of_mem _ hy)) q
theorem dPut_len {κ : Type} [DecidableEq κ] (kvs : List (κ × β)) (x : κ) (y : β) : (dPut kvs x y).length ≤ kvs.length + 1 := by
  unfold dPut; split <;> simp
theorem dSet_ok {κ : Type} [DecidableEq κ] {kvs : List (κ × β)} {x : κ} {y : β} (h : kvs.length < 1000000) : dSet kvs x y = some (dPut kvs x y) := if_pos h
end
theorem tot_whlE {S Z ρ : Type} {s : S} {c : Z → M S Bool} {f : Z → S → Option (Fl (Z × S) ρ)} {n : Nat} {z : Z} {Q : Fl (Z × S) ρ → Prop} (h : Tot (c z) s (fun w => (w.1 = true → Tot (f z) w.2 (fun r => match r with
    | .nx q => Tot (whlE c f n q.1) q.2 Q
    | .rt b => Q (.rt b))) ∧ (w.1 = false → Q (.nx (z, w.2))))) : Tot (whlE c f (n + 1) z) s Q := by
  show Tot (bnd (c z) fun b => bif b then (fun s => (f z s).bind fun r => match r with
    | .nx q => whlE c f n q.1 q.2
    | .rt b => some (.rt b)) else fun s => some (.nx (z, s))) s Q
  rw [tot_bnd]
  refine h.mono fun w q => ?_
  obtain ⟨b, s1⟩ := w
  cases b with
  | false => exact ⟨_, rfl, q.2 rfl⟩
  | true =>
    obtain ⟨r, e, q⟩ := q.1 rfl
    cases r with
    | nx p => obtain ⟨w, e2, q⟩ := q; exact ⟨w, by show (f z s1).bind _ = _; rw [e]; exact e2, q⟩
    | rt b => exact ⟨.rt b, by show (f z s1).bind _ = _; rw [e]; rfl, q⟩
theorem tot_tryO {S Z : Type} {s : S} {cat : List Str} {mb : S → Option ((Z × S) ⊕ (Str × S))} {mh : S → Option (Z × S)} {Q : Z × S → Prop} : Tot (tryO cat mb mh) s Q ↔ Tot mb s (fun w => match w with
    | .inl p => Q p
    | .inr q => q.1 ∈ cat ∧ Tot mh q.2 Q) := by
  unfold Tot tryO
  constructor
  · rintro ⟨w, e, q⟩
    cases h : mb s with
    | none => rw [h] at e; cases e
    | some r =>
      rw [h] at e
      cases r with
      | inl p => cases e; exact ⟨_, rfl, q⟩
      | inr p =>
        by_cases c : p.1 ∈ cat
        · simp [c] at e; exact ⟨_, rfl, c, w, e, q⟩
        · simp [c] at e
  · rintro ⟨r, h, q⟩
    cases r with
    | inl p => exact ⟨p, by rw [h]; rfl, q⟩
    | inr p =>
      obtain ⟨c, w, e, q⟩ := q
      exact ⟨w, by rw [h]; simp [c, e], q⟩
theorem tot_tryR {S Z Ω ρ : Type} {s : S} {cat : List Str} {emb : ρ → Ω} {mb : S → Option ((Z × S) ⊕ (Str × S))} {mh : S → Option ρ} {f : Z → S → Option Ω} {Q : Ω → Prop} : Tot (tryR cat emb mb mh f) s Q ↔ Tot mb s (fun w => match w with
    | .inl p => Tot (f p.1) p.2 Q
    | .inr q => q.1 ∈ cat ∧ Tot mh q.2 (fun r => Q (emb r))) := by
  unfold Tot tryR
  constructor
  · rintro ⟨w, e, q⟩
    cases h : mb s with
    | none => rw [h] at e; cases e
    | some r =>
      rw [h] at e
      cases r with
      | inl p => exact ⟨_, rfl, w, e, q⟩
      | inr p =>
        by_cases c : p.1 ∈ cat
        · simp [c] at e
          obtain ⟨x, hx, rfl⟩ := e
          exact ⟨_, rfl, c, x, hx, q⟩
        · simp [c] at e
  · rintro ⟨r, h, q⟩
    cases r with
    | inl p => obtain ⟨w, e, q⟩ := q; exact ⟨w, by rw [h]; exact e, q⟩
    | inr p =>
      obtain ⟨c, w, e, q⟩ := q
      exact ⟨emb w, by rw [h]; simp [c, e], q⟩
end T

namespace Law
open PySem L2 T
abbrev Out := T.Out
abbrev Act := T.Act
abbrev Vessel := T.Vessel
abbrev Spout := T.Spout
abbrev Net := T.Net
abbrev State := T.State
def top (i : Nat) : Stmt := PySem.Challenge.pw_tipwell_k14_nets_written_and_read.main.body.getD i (.Pass ⟨0, 0, 0, 0⟩)
structure Txt (K : PySem.W.Frag) (mg : Str → Option Value) : Prop where
  all : mg "all" = none
  bool : mg "bool" = none
  enumerate : mg "enumerate" = none
  int : mg "int" = none
  isinstance : mg "isinstance" = none
  len : mg "len" = none
  list : mg "list" = none
  range : mg "range" = none
  str : mg "str" = none
  tuple : mg "tuple" = none
  c_FIGURES : ∃ t, mg "FIGURES" = some (.str "0123456789" t)
  c_MOST : ∃ t, mg "MOST" = some (.int 12 t)
  c_MOST_BRIM : ∃ t, mg "MOST_BRIM" = some (.int 200 t)
  c_MOST_FIGURES : ∃ t, mg "MOST_FIGURES" = some (.int 9 t)
  c_MOST_SIZE : ∃ t, mg "MOST_SIZE" = some (.int 60 t)
  w_WORDS : mg "WORDS" = some (.ref (He.ga K "WORDS")) ∧ ∀ H, SqT K H (He.ga K "WORDS") ((["open", "shut", "turn"] : List Str).map V.str)
  x_NoText : XcT K mg "NoText"
section
variable {P : Program} {w : World} {K : PySem.W.Frag} {mg : Str → Option Value} {base : Heap} {C Cr : Addr}
/-! is_whole -/
abbrev s_is_whole : Stmt := top 8
abbrev N_is_whole : List Str := ["thing", "low", "high"]
theorem sc_is_whole : FnScope N_is_whole ["thing", "low", "high"] (defScope s_is_whole) := ⟨rfl, rfl, rfl, by decide +kernel, rfl, by decide +kernel, by decide +kernel⟩
def m_is_whole (xthing : Int) (xlow : Int) (xhigh : Int) : Option Bool := rn (bnd (bnd (bnd (bnd (ret xthing) fun a1 => bnd (ret ()) fun b2 => ret (a1, b2)) fun a3 => lft (some true)) fun b14 => bif b14 then (bnd (bnd (bnd (bnd (ret xthing) fun a4 => bnd (ret ()) fun b5 => ret (a4, b5)) fun a6 => lft (some false)) fun b7 => ret (!b7)) fun b13 => bif b13 then (bnd (bnd (ret xlow) fun a8 => bnd (ret xthing) fun b9 => lft (some (decide (a8 ≤ b9)))) fun b12 => bif b12 then (bnd (ret xthing) fun a10 => bnd (ret xhigh) fun b11 => lft (some (decide (a10 ≤ b11)))) else ret false) else ret false) else ret false) fun x15 s => some (x15, ()))
abbrev sp_is_whole : Sp := spP (arC rInt (arC rInt (arOne rInt))) rBool (fun x => m_is_whole x.1 x.2.1 x.2.2)
theorem ok_is_whole {f : Addr} {fd : FuncData} (F : Fun K "is_whole" "is_whole" s_is_whole f fd) (T : Txt K mg) : FnOk P w K mg base CX0 1 f fd ["thing", "low", "high"] sp_is_whole := by
  refine F.ok sc_is_whole (fun vs H Q E h => ?_) (fun cdv A outer s H vs Q E hr h => ?_)
  · obtain ⟨F, O, x, b, ⟨_, _, rfl, _, ⟨_, _, rfl, _, ⟨_, rfl, _⟩⟩⟩, _⟩ := h; rfl
  · obtain ⟨F, O, ⟨xthing, xlow, xhigh⟩, b, ⟨vthing, _, rfl, rthing, ⟨vlow, _, rfl, rlow, ⟨vhigh, rfl, rhigh⟩⟩⟩, W, hm, k⟩ := h
    replace rthing : rInt.r F vthing xthing := rthing
    replace rlow : rInt.r F vlow xlow := rlow
    replace rhigh : rInt.r F vhigh xhigh := rhigh
    replace hm : m_is_whole xthing xlow xhigh = some b := hm
    refine ⟨_, (pss_cons (ps_ret (pe_and (pe_callB (kc_isi (K := K)) (by rfl) T.isinstance (by decide +kernel) (pa_cons (pv 0) (pa_cons (pe_bltn (v := .ty "int") (by rfl) T.int (by decide +kernel) rfl) pa_nil))) (pe_and (pe_not (pe_callB (kc_isi (K := K)) (by rfl) T.isinstance (by decide +kernel) (pa_cons (pv 0) (pa_cons (pe_bltn (v := .ty "bool") (by rfl) T.bool (by decide +kernel) rfl) pa_nil)))) (pe_and (pe_cmpR op_le (pv 1) (pv 0) (nomark _)) (pe_one (pe_cmpR op_le (pv 0) (pv 2) (nomark _))))))) pss_nil), ?_⟩
    refine ok_P W hm k ?_
    show B _ [some vthing, some vlow, some vhigh] F emp _ _
    exact b_ret pr_emp (ev_and (ev_cb (vl_isi (bb := true) isi_int ) (ea_cons (ev_var rthing rfl) (ea_one (ev_ty (n := "int"))))) (ev_and (ev_not (ev_cb (vl_isi (bb := false) isi_int ) (ea_cons (ev_var rthing rfl) (ea_one (ev_ty (n := "bool")))))) (ev_and (ev_op vl_le (ev_var rlow rfl) (ev_var rthing rfl)) (ev_op vl_le (ev_var rthing rfl) (ev_var rhigh rfl)))))
/-! is_row@net -/
abbrev s_is_row_net : Stmt := top 9
abbrev N_is_row_net : List Str := ["thing", "low", "high"]
theorem sc_is_row_net : FnScope N_is_row_net ["thing", "low", "high"] (defScope s_is_row_net) := ⟨rfl, rfl, rfl, by decide +kernel, rfl, by decide +kernel, by decide +kernel⟩
def m_is_row_net (xthing : Net) (xlow : Int) (xhigh : Int) : Option Bool := rn (bnd (bnd (bnd (bnd (ret xthing) fun a1 => bnd (ret ()) fun b2 => ret (a1, b2)) fun a3 => lft (some true)) fun b11 => bif b11 then (bnd (bnd (ret xlow) fun a5 => bnd (bnd (ret xthing) fun a4 => lft (some (2 : Int))) fun b6 => lft (some (decide (a5 ≤ b6)))) fun b10 => bif b10 then (bnd (bnd (ret xthing) fun a7 => lft (some (2 : Int))) fun a8 => bnd (ret xhigh) fun b9 => lft (some (decide (a8 ≤ b9)))) else ret false) else ret false) fun x12 s => some (x12, ()))
abbrev sp_is_row_net : Sp := spP (arC rNet (arC rInt (arOne rInt))) rBool (fun x => m_is_row_net x.1 x.2.1 x.2.2)
theorem ok_is_row_net {f : Addr} {fd : FuncData} (F : Fun K "is_row" "is_row" s_is_row_net f fd) (T : Txt K mg) : FnOk P w K mg base CX0 1 f fd ["thing", "low", "high"] sp_is_row_net := by
  refine F.ok sc_is_row_net (fun vs H Q E h => ?_) (fun cdv A outer s H vs Q E hr h => ?_)
  · obtain ⟨F, O, x, b, ⟨_, _, rfl, _, ⟨_, _, rfl, _, ⟨_, rfl, _⟩⟩⟩, _⟩ := h; rfl
  · obtain ⟨F, O, ⟨xthing, xlow, xhigh⟩, b, ⟨vthing, _, rfl, rthing, ⟨vlow, _, rfl, rlow, ⟨vhigh, rfl, rhigh⟩⟩⟩, W, hm, k⟩ := h
    replace rthing : rNet.r F vthing xthing := rthing
    replace rlow : rInt.r F vlow xlow := rlow
    replace rhigh : rInt.r F vhigh xhigh := rhigh
    replace hm : m_is_row_net xthing xlow xhigh = some b := hm
    refine ⟨_, (pss_cons (ps_ret (pe_and (pe_callB (kc_isi (K := K)) (by rfl) T.isinstance (by decide +kernel) (pa_cons (pv 0) (pa_cons (pe_bltn (v := .ty "tuple") (by rfl) T.tuple (by decide +kernel) rfl) pa_nil))) (pe_and (pe_cmpR op_le (pv 1) (pe_callB (kc_len (K := K)) (by rfl) T.len (by decide +kernel) (pa_cons (pv 0) pa_nil)) (nomark _)) (pe_one (pe_cmpR op_le (pe_callB (kc_len (K := K)) (by rfl) T.len (by decide +kernel) (pa_cons (pv 0) pa_nil)) (pv 2) (nomark _)))))) pss_nil), ?_⟩
    refine ok_P W hm k ?_
    show B _ [some vthing, some vlow, some vhigh] F emp _ _
    exact b_ret pr_emp (ev_and (ev_cb (vl_isi (bb := true) isi_tuple ) (ea_cons (ev_var rthing rfl) (ea_one (ev_ty (n := "tuple"))))) (ev_and (ev_op vl_le (ev_var rlow rfl) (ev_cb vl_lenH (ea_one (ev_var rthing rfl)))) (ev_op vl_le (ev_cb vl_lenH (ea_one (ev_var rthing rfl))) (ev_var rhigh rfl))))
/-! is_row@vessels -/
abbrev s_is_row_vessels : Stmt := top 9
abbrev N_is_row_vessels : List Str := ["thing", "low", "high"]
theorem sc_is_row_vessels : FnScope N_is_row_vessels ["thing", "low", "high"] (defScope s_is_row_vessels) := ⟨rfl, rfl, rfl, by decide +kernel, rfl, by decide +kernel, by decide +kernel⟩
def m_is_row_vessels (xthing : (List Vessel)) (xlow : Int) (xhigh : Int) : Option Bool := rn (bnd (bnd (bnd (bnd (ret xthing) fun a1 => bnd (ret ()) fun b2 => ret (a1, b2)) fun a3 => lft (some true)) fun b11 => bif b11 then (bnd (bnd (ret xlow) fun a5 => bnd (bnd (ret xthing) fun a4 => lft (some (a4.length : Int))) fun b6 => lft (some (decide (a5 ≤ b6)))) fun b10 => bif b10 then (bnd (bnd (ret xthing) fun a7 => lft (some (a7.length : Int))) fun a8 => bnd (ret xhigh) fun b9 => lft (some (decide (a8 ≤ b9)))) else ret false) else ret false) fun x12 s => some (x12, ()))
abbrev sp_is_row_vessels : Sp := spP (arC (rTup rVessel) (arC rInt (arOne rInt))) rBool (fun x => m_is_row_vessels x.1 x.2.1 x.2.2)
theorem ok_is_row_vessels {f : Addr} {fd : FuncData} (F : Fun K "is_row" "is_row" s_is_row_vessels f fd) (T : Txt K mg) : FnOk P w K mg base CX0 1 f fd ["thing", "low", "high"] sp_is_row_vessels := by
  refine F.ok sc_is_row_vessels (fun vs H Q E h => ?_) (fun cdv A outer s H vs Q E hr h => ?_)
  · obtain ⟨F, O, x, b, ⟨_, _, rfl, _, ⟨_, _, rfl, _, ⟨_, rfl, _⟩⟩⟩, _⟩ := h; rfl
  · obtain ⟨F, O, ⟨xthing, xlow, xhigh⟩, b, ⟨vthing, _, rfl, rthing, ⟨vlow, _, rfl, rlow, ⟨vhigh, rfl, rhigh⟩⟩⟩, W, hm, k⟩ := h
    replace rthing : (rTup rVessel).r F vthing xthing := rthing
    replace rlow : rInt.r F vlow xlow := rlow
    replace rhigh : rInt.r F vhigh xhigh := rhigh
    replace hm : m_is_row_vessels xthing xlow xhigh = some b := hm
    refine ⟨_, (pss_cons (ps_ret (pe_and (pe_callB (kc_isi (K := K)) (by rfl) T.isinstance (by decide +kernel) (pa_cons (pv 0) (pa_cons (pe_bltn (v := .ty "tuple") (by rfl) T.tuple (by decide +kernel) rfl) pa_nil))) (pe_and (pe_cmpR op_le (pv 1) (pe_callB (kc_len (K := K)) (by rfl) T.len (by decide +kernel) (pa_cons (pv 0) pa_nil)) (nomark _)) (pe_one (pe_cmpR op_le (pe_callB (kc_len (K := K)) (by rfl) T.len (by decide +kernel) (pa_cons (pv 0) pa_nil)) (pv 2) (nomark _)))))) pss_nil), ?_⟩
    refine ok_P W hm k ?_
    show B _ [some vthing, some vlow, some vhigh] F emp _ _
    exact b_ret pr_emp (ev_and (ev_cb (vl_isi (bb := true) isi_tupleT ) (ea_cons (ev_var rthing rfl) (ea_one (ev_ty (n := "tuple"))))) (ev_and (ev_op vl_le (ev_var rlow rfl) (ev_cb vl_lenT (ea_one (ev_var rthing rfl)))) (ev_op vl_le (ev_cb vl_lenT (ea_one (ev_var rthing rfl))) (ev_var rhigh rfl))))
/-! is_row@spouts -/
abbrev s_is_row_spouts : Stmt := top 9
abbrev N_is_row_spouts : List Str := ["thing", "low", "high"]
theorem sc_is_row_spouts : FnScope N_is_row_spouts ["thing", "low", "high"] (defScope s_is_row_spouts) := ⟨rfl, rfl, rfl, by decide +kernel, rfl, by decide +kernel, by decide +kernel⟩
def m_is_row_spouts (xthing : (List Spout)) (xlow : Int) (xhigh : Int) : Option Bool := rn (bnd (bnd (bnd (bnd (ret xthing) fun a1 => bnd (ret ()) fun b2 => ret (a1, b2)) fun a3 => lft (some true)) fun b11 => bif b11 then (bnd (bnd (ret xlow) fun a5 => bnd (bnd (ret xthing) fun a4 => lft (some (a4.length : Int))) fun b6 => lft (some (decide (a5 ≤ b6)))) fun b10 => bif b10 then (bnd (bnd (ret xthing) fun a7 => lft (some (a7.length : Int))) fun a8 => bnd (ret xhigh) fun b9 => lft (some (decide (a8 ≤ b9)))) else ret false) else ret false) fun x12 s => some (x12, ()))
abbrev sp_is_row_spouts : Sp := spP (arC (rTup rSpout) (arC rInt (arOne rInt))) rBool (fun x => m_is_row_spouts x.1 x.2.1 x.2.2)
theorem ok_is_row_spouts {f : Addr} {fd : FuncData} (F : Fun K "is_row" "is_row" s_is_row_spouts f fd) (T : Txt K mg) : FnOk P w K mg base CX0 1 f fd ["thing", "low", "high"] sp_is_row_spouts := by
  refine F.ok sc_is_row_spouts (fun vs H Q E h => ?_) (fun cdv A outer s H vs Q E hr h => ?_)
  · obtain ⟨F, O, x, b, ⟨_, _, rfl, _, ⟨_, _, rfl, _, ⟨_, rfl, _⟩⟩⟩, _⟩ := h; rfl
  · obtain ⟨F, O, ⟨xthing, xlow, xhigh⟩, b, ⟨vthing, _, rfl, rthing, ⟨vlow, _, rfl, rlow, ⟨vhigh, rfl, rhigh⟩⟩⟩, W, hm, k⟩ := h
    replace rthing : (rTup rSpout).r F vthing xthing := rthing
    replace rlow : rInt.r F vlow xlow := rlow
    replace rhigh : rInt.r F vhigh xhigh := rhigh
    replace hm : m_is_row_spouts xthing xlow xhigh = some b := hm
    refine ⟨_, (pss_cons (ps_ret (pe_and (pe_callB (kc_isi (K := K)) (by rfl) T.isinstance (by decide +kernel) (pa_cons (pv 0) (pa_cons (pe_bltn (v := .ty "tuple") (by rfl) T.tuple (by decide +kernel) rfl) pa_nil))) (pe_and (pe_cmpR op_le (pv 1) (pe_callB (kc_len (K := K)) (by rfl) T.len (by decide +kernel) (pa_cons (pv 0) pa_nil)) (nomark _)) (pe_one (pe_cmpR op_le (pe_callB (kc_len (K := K)) (by rfl) T.len (by decide +kernel) (pa_cons (pv 0) pa_nil)) (pv 2) (nomark _)))))) pss_nil), ?_⟩
    refine ok_P W hm k ?_
    show B _ [some vthing, some vlow, some vhigh] F emp _ _
    exact b_ret pr_emp (ev_and (ev_cb (vl_isi (bb := true) isi_tupleT ) (ea_cons (ev_var rthing rfl) (ea_one (ev_ty (n := "tuple"))))) (ev_and (ev_op vl_le (ev_var rlow rfl) (ev_cb vl_lenT (ea_one (ev_var rthing rfl)))) (ev_op vl_le (ev_cb vl_lenT (ea_one (ev_var rthing rfl))) (ev_var rhigh rfl))))
/-! is_row@vessel -/
abbrev s_is_row_vessel : Stmt := top 9
abbrev N_is_row_vessel : List Str := ["thing", "low", "high"]
theorem sc_is_row_vessel : FnScope N_is_row_vessel ["thing", "low", "high"] (defScope s_is_row_vessel) := ⟨rfl, rfl, rfl, by decide +kernel, rfl, by decide +kernel, by decide +kernel⟩
def m_is_row_vessel (xthing : Vessel) (xlow : Int) (xhigh : Int) : Option Bool := rn (bnd (bnd (bnd (bnd (ret xthing) fun a1 => bnd (ret ()) fun b2 => ret (a1, b2)) fun a3 => lft (some true)) fun b11 => bif b11 then (bnd (bnd (ret xlow) fun a5 => bnd (bnd (ret xthing) fun a4 => lft (some (6 : Int))) fun b6 => lft (some (decide (a5 ≤ b6)))) fun b10 => bif b10 then (bnd (bnd (ret xthing) fun a7 => lft (some (6 : Int))) fun a8 => bnd (ret xhigh) fun b9 => lft (some (decide (a8 ≤ b9)))) else ret false) else ret false) fun x12 s => some (x12, ()))
abbrev sp_is_row_vessel : Sp := spP (arC rVessel (arC rInt (arOne rInt))) rBool (fun x => m_is_row_vessel x.1 x.2.1 x.2.2)
theorem ok_is_row_vessel {f : Addr} {fd : FuncData} (F : Fun K "is_row" "is_row" s_is_row_vessel f fd) (T : Txt K mg) : FnOk P w K mg base CX0 1 f fd ["thing", "low", "high"] sp_is_row_vessel := by
  refine F.ok sc_is_row_vessel (fun vs H Q E h => ?_) (fun cdv A outer s H vs Q E hr h => ?_)
  · obtain ⟨F, O, x, b, ⟨_, _, rfl, _, ⟨_, _, rfl, _, ⟨_, rfl, _⟩⟩⟩, _⟩ := h; rfl
  · obtain ⟨F, O, ⟨xthing, xlow, xhigh⟩, b, ⟨vthing, _, rfl, rthing, ⟨vlow, _, rfl, rlow, ⟨vhigh, rfl, rhigh⟩⟩⟩, W, hm, k⟩ := h
    replace rthing : rVessel.r F vthing xthing := rthing
    replace rlow : rInt.r F vlow xlow := rlow
    replace rhigh : rInt.r F vhigh xhigh := rhigh
    replace hm : m_is_row_vessel xthing xlow xhigh = some b := hm
    refine ⟨_, (pss_cons (ps_ret (pe_and (pe_callB (kc_isi (K := K)) (by rfl) T.isinstance (by decide +kernel) (pa_cons (pv 0) (pa_cons (pe_bltn (v := .ty "tuple") (by rfl) T.tuple (by decide +kernel) rfl) pa_nil))) (pe_and (pe_cmpR op_le (pv 1) (pe_callB (kc_len (K := K)) (by rfl) T.len (by decide +kernel) (pa_cons (pv 0) pa_nil)) (nomark _)) (pe_one (pe_cmpR op_le (pe_callB (kc_len (K := K)) (by rfl) T.len (by decide +kernel) (pa_cons (pv 0) pa_nil)) (pv 2) (nomark _)))))) pss_nil), ?_⟩
    refine ok_P W hm k ?_
    show B _ [some vthing, some vlow, some vhigh] F emp _ _
    exact b_ret pr_emp (ev_and (ev_cb (vl_isi (bb := true) isi_tuple ) (ea_cons (ev_var rthing rfl) (ea_one (ev_ty (n := "tuple"))))) (ev_and (ev_op vl_le (ev_var rlow rfl) (ev_cb vl_lenH (ea_one (ev_var rthing rfl)))) (ev_op vl_le (ev_cb vl_lenH (ea_one (ev_var rthing rfl))) (ev_var rhigh rfl))))
/-! is_row@outs -/
abbrev s_is_row_outs : Stmt := top 9
abbrev N_is_row_outs : List Str := ["thing", "low", "high"]
theorem sc_is_row_outs : FnScope N_is_row_outs ["thing", "low", "high"] (defScope s_is_row_outs) := ⟨rfl, rfl, rfl, by decide +kernel, rfl, by decide +kernel, by decide +kernel⟩
def m_is_row_outs (xthing : (List Out)) (xlow : Int) (xhigh : Int) : Option Bool := rn (bnd (bnd (bnd (bnd (ret xthing) fun a1 => bnd (ret ()) fun b2 => ret (a1, b2)) fun a3 => lft (some true)) fun b11 => bif b11 then (bnd (bnd (ret xlow) fun a5 => bnd (bnd (ret xthing) fun a4 => lft (some (a4.length : Int))) fun b6 => lft (some (decide (a5 ≤ b6)))) fun b10 => bif b10 then (bnd (bnd (ret xthing) fun a7 => lft (some (a7.length : Int))) fun a8 => bnd (ret xhigh) fun b9 => lft (some (decide (a8 ≤ b9)))) else ret false) else ret false) fun x12 s => some (x12, ()))
abbrev sp_is_row_outs : Sp := spP (arC (rTup rOut) (arC rInt (arOne rInt))) rBool (fun x => m_is_row_outs x.1 x.2.1 x.2.2)
theorem ok_is_row_outs {f : Addr} {fd : FuncData} (F : Fun K "is_row" "is_row" s_is_row_outs f fd) (T : Txt K mg) : FnOk P w K mg base CX0 1 f fd ["thing", "low", "high"] sp_is_row_outs := by
  refine F.ok sc_is_row_outs (fun vs H Q E h => ?_) (fun cdv A outer s H vs Q E hr h => ?_)
  · obtain ⟨F, O, x, b, ⟨_, _, rfl, _, ⟨_, _, rfl, _, ⟨_, rfl, _⟩⟩⟩, _⟩ := h; rfl
  · obtain ⟨F, O, ⟨xthing, xlow, xhigh⟩, b, ⟨vthing, _, rfl, rthing, ⟨vlow, _, rfl, rlow, ⟨vhigh, rfl, rhigh⟩⟩⟩, W, hm, k⟩ := h
    replace rthing : (rTup rOut).r F vthing xthing := rthing
    replace rlow : rInt.r F vlow xlow := rlow
    replace rhigh : rInt.r F vhigh xhigh := rhigh
    replace hm : m_is_row_outs xthing xlow xhigh = some b := hm
    refine ⟨_, (pss_cons (ps_ret (pe_and (pe_callB (kc_isi (K := K)) (by rfl) T.isinstance (by decide +kernel) (pa_cons (pv 0) (pa_cons (pe_bltn (v := .ty "tuple") (by rfl) T.tuple (by decide +kernel) rfl) pa_nil))) (pe_and (pe_cmpR op_le (pv 1) (pe_callB (kc_len (K := K)) (by rfl) T.len (by decide +kernel) (pa_cons (pv 0) pa_nil)) (nomark _)) (pe_one (pe_cmpR op_le (pe_callB (kc_len (K := K)) (by rfl) T.len (by decide +kernel) (pa_cons (pv 0) pa_nil)) (pv 2) (nomark _)))))) pss_nil), ?_⟩
    refine ok_P W hm k ?_
    show B _ [some vthing, some vlow, some vhigh] F emp _ _
    exact b_ret pr_emp (ev_and (ev_cb (vl_isi (bb := true) isi_tupleT ) (ea_cons (ev_var rthing rfl) (ea_one (ev_ty (n := "tuple"))))) (ev_and (ev_op vl_le (ev_var rlow rfl) (ev_cb vl_lenT (ea_one (ev_var rthing rfl)))) (ev_op vl_le (ev_cb vl_lenT (ea_one (ev_var rthing rfl))) (ev_var rhigh rfl))))
/-! is_row@acts -/
abbrev s_is_row_acts : Stmt := top 9
abbrev N_is_row_acts : List Str := ["thing", "low", "high"]
theorem sc_is_row_acts : FnScope N_is_row_acts ["thing", "low", "high"] (defScope s_is_row_acts) := ⟨rfl, rfl, rfl, by decide +kernel, rfl, by decide +kernel, by decide +kernel⟩
def m_is_row_acts (xthing : (List Act)) (xlow : Int) (xhigh : Int) : Option Bool := rn (bnd (bnd (bnd (bnd (ret xthing) fun a1 => bnd (ret ()) fun b2 => ret (a1, b2)) fun a3 => lft (some true)) fun b11 => bif b11 then (bnd (bnd (ret xlow) fun a5 => bnd (bnd (ret xthing) fun a4 => lft (some (a4.length : Int))) fun b6 => lft (some (decide (a5 ≤ b6)))) fun b10 => bif b10 then (bnd (bnd (ret xthing) fun a7 => lft (some (a7.length : Int))) fun a8 => bnd (ret xhigh) fun b9 => lft (some (decide (a8 ≤ b9)))) else ret false) else ret false) fun x12 s => some (x12, ()))
abbrev sp_is_row_acts : Sp := spP (arC (rTup rAct) (arC rInt (arOne rInt))) rBool (fun x => m_is_row_acts x.1 x.2.1 x.2.2)
theorem ok_is_row_acts {f : Addr} {fd : FuncData} (F : Fun K "is_row" "is_row" s_is_row_acts f fd) (T : Txt K mg) : FnOk P w K mg base CX0 1 f fd ["thing", "low", "high"] sp_is_row_acts := by
  refine F.ok sc_is_row_acts (fun vs H Q E h => ?_) (fun cdv A outer s H vs Q E hr h => ?_)
  · obtain ⟨F, O, x, b, ⟨_, _, rfl, _, ⟨_, _, rfl, _, ⟨_, rfl, _⟩⟩⟩, _⟩ := h; rfl
  · obtain ⟨F, O, ⟨xthing, xlow, xhigh⟩, b, ⟨vthing, _, rfl, rthing, ⟨vlow, _, rfl, rlow, ⟨vhigh, rfl, rhigh⟩⟩⟩, W, hm, k⟩ := h
    replace rthing : (rTup rAct).r F vthing xthing := rthing
    replace rlow : rInt.r F vlow xlow := rlow
    replace rhigh : rInt.r F vhigh xhigh := rhigh
    replace hm : m_is_row_acts xthing xlow xhigh = some b := hm
    refine ⟨_, (pss_cons (ps_ret (pe_and (pe_callB (kc_isi (K := K)) (by rfl) T.isinstance (by decide +kernel) (pa_cons (pv 0) (pa_cons (pe_bltn (v := .ty "tuple") (by rfl) T.tuple (by decide +kernel) rfl) pa_nil))) (pe_and (pe_cmpR op_le (pv 1) (pe_callB (kc_len (K := K)) (by rfl) T.len (by decide +kernel) (pa_cons (pv 0) pa_nil)) (nomark _)) (pe_one (pe_cmpR op_le (pe_callB (kc_len (K := K)) (by rfl) T.len (by decide +kernel) (pa_cons (pv 0) pa_nil)) (pv 2) (nomark _)))))) pss_nil), ?_⟩
    refine ok_P W hm k ?_
    show B _ [some vthing, some vlow, some vhigh] F emp _ _
    exact b_ret pr_emp (ev_and (ev_cb (vl_isi (bb := true) isi_tupleT ) (ea_cons (ev_var rthing rfl) (ea_one (ev_ty (n := "tuple"))))) (ev_and (ev_op vl_le (ev_var rlow rfl) (ev_cb vl_lenT (ea_one (ev_var rthing rfl)))) (ev_op vl_le (ev_cb vl_lenT (ea_one (ev_var rthing rfl))) (ev_var rhigh rfl))))
/-! is_row@out -/
abbrev s_is_row_out : Stmt := top 9
abbrev N_is_row_out : List Str := ["thing", "low", "high"]
theorem sc_is_row_out : FnScope N_is_row_out ["thing", "low", "high"] (defScope s_is_row_out) := ⟨rfl, rfl, rfl, by decide +kernel, rfl, by decide +kernel, by decide +kernel⟩
def m_is_row_out (xthing : Out) (xlow : Int) (xhigh : Int) : Option Bool := rn (bnd (bnd (bnd (bnd (ret xthing) fun a1 => bnd (ret ()) fun b2 => ret (a1, b2)) fun a3 => lft (some true)) fun b11 => bif b11 then (bnd (bnd (ret xlow) fun a5 => bnd (bnd (ret xthing) fun a4 => lft (some (2 : Int))) fun b6 => lft (some (decide (a5 ≤ b6)))) fun b10 => bif b10 then (bnd (bnd (ret xthing) fun a7 => lft (some (2 : Int))) fun a8 => bnd (ret xhigh) fun b9 => lft (some (decide (a8 ≤ b9)))) else ret false) else ret false) fun x12 s => some (x12, ()))
abbrev sp_is_row_out : Sp := spP (arC rOut (arC rInt (arOne rInt))) rBool (fun x => m_is_row_out x.1 x.2.1 x.2.2)
theorem ok_is_row_out {f : Addr} {fd : FuncData} (F : Fun K "is_row" "is_row" s_is_row_out f fd) (T : Txt K mg) : FnOk P w K mg base CX0 1 f fd ["thing", "low", "high"] sp_is_row_out := by
  refine F.ok sc_is_row_out (fun vs H Q E h => ?_) (fun cdv A outer s H vs Q E hr h => ?_)
  · obtain ⟨F, O, x, b, ⟨_, _, rfl, _, ⟨_, _, rfl, _, ⟨_, rfl, _⟩⟩⟩, _⟩ := h; rfl
  · obtain ⟨F, O, ⟨xthing, xlow, xhigh⟩, b, ⟨vthing, _, rfl, rthing, ⟨vlow, _, rfl, rlow, ⟨vhigh, rfl, rhigh⟩⟩⟩, W, hm, k⟩ := h
    replace rthing : rOut.r F vthing xthing := rthing
    replace rlow : rInt.r F vlow xlow := rlow
    replace rhigh : rInt.r F vhigh xhigh := rhigh
    replace hm : m_is_row_out xthing xlow xhigh = some b := hm
    refine ⟨_, (pss_cons (ps_ret (pe_and (pe_callB (kc_isi (K := K)) (by rfl) T.isinstance (by decide +kernel) (pa_cons (pv 0) (pa_cons (pe_bltn (v := .ty "tuple") (by rfl) T.tuple (by decide +kernel) rfl) pa_nil))) (pe_and (pe_cmpR op_le (pv 1) (pe_callB (kc_len (K := K)) (by rfl) T.len (by decide +kernel) (pa_cons (pv 0) pa_nil)) (nomark _)) (pe_one (pe_cmpR op_le (pe_callB (kc_len (K := K)) (by rfl) T.len (by decide +kernel) (pa_cons (pv 0) pa_nil)) (pv 2) (nomark _)))))) pss_nil), ?_⟩
    refine ok_P W hm k ?_
    show B _ [some vthing, some vlow, some vhigh] F emp _ _
    exact b_ret pr_emp (ev_and (ev_cb (vl_isi (bb := true) isi_tuple ) (ea_cons (ev_var rthing rfl) (ea_one (ev_ty (n := "tuple"))))) (ev_and (ev_op vl_le (ev_var rlow rfl) (ev_cb vl_lenH (ea_one (ev_var rthing rfl)))) (ev_op vl_le (ev_cb vl_lenH (ea_one (ev_var rthing rfl))) (ev_var rhigh rfl))))
/-! is_row@act -/
abbrev s_is_row_act : Stmt := top 9
abbrev N_is_row_act : List Str := ["thing", "low", "high"]
theorem sc_is_row_act : FnScope N_is_row_act ["thing", "low", "high"] (defScope s_is_row_act) := ⟨rfl, rfl, rfl, by decide +kernel, rfl, by decide +kernel, by decide +kernel⟩
def m_is_row_act (xthing : Act) (xlow : Int) (xhigh : Int) : Option Bool := rn (bnd (bnd (bnd (bnd (ret xthing) fun a1 => bnd (ret ()) fun b2 => ret (a1, b2)) fun a3 => lft (some true)) fun b11 => bif b11 then (bnd (bnd (ret xlow) fun a5 => bnd (bnd (ret xthing) fun a4 => lft (some (2 : Int))) fun b6 => lft (some (decide (a5 ≤ b6)))) fun b10 => bif b10 then (bnd (bnd (ret xthing) fun a7 => lft (some (2 : Int))) fun a8 => bnd (ret xhigh) fun b9 => lft (some (decide (a8 ≤ b9)))) else ret false) else ret false) fun x12 s => some (x12, ()))
abbrev sp_is_row_act : Sp := spP (arC rAct (arC rInt (arOne rInt))) rBool (fun x => m_is_row_act x.1 x.2.1 x.2.2)
theorem ok_is_row_act {f : Addr} {fd : FuncData} (F : Fun K "is_row" "is_row" s_is_row_act f fd) (T : Txt K mg) : FnOk P w K mg base CX0 1 f fd ["thing", "low", "high"] sp_is_row_act := by
  refine F.ok sc_is_row_act (fun vs H Q E h => ?_) (fun cdv A outer s H vs Q E hr h => ?_)
  · obtain ⟨F, O, x, b, ⟨_, _, rfl, _, ⟨_, _, rfl, _, ⟨_, rfl, _⟩⟩⟩, _⟩ := h; rfl
  · obtain ⟨F, O, ⟨xthing, xlow, xhigh⟩, b, ⟨vthing, _, rfl, rthing, ⟨vlow, _, rfl, rlow, ⟨vhigh, rfl, rhigh⟩⟩⟩, W, hm, k⟩ := h
    replace rthing : rAct.r F vthing xthing := rthing
    replace rlow : rInt.r F vlow xlow := rlow
    replace rhigh : rInt.r F vhigh xhigh := rhigh
    replace hm : m_is_row_act xthing xlow xhigh = some b := hm
    refine ⟨_, (pss_cons (ps_ret (pe_and (pe_callB (kc_isi (K := K)) (by rfl) T.isinstance (by decide +kernel) (pa_cons (pv 0) (pa_cons (pe_bltn (v := .ty "tuple") (by rfl) T.tuple (by decide +kernel) rfl) pa_nil))) (pe_and (pe_cmpR op_le (pv 1) (pe_callB (kc_len (K := K)) (by rfl) T.len (by decide +kernel) (pa_cons (pv 0) pa_nil)) (nomark _)) (pe_one (pe_cmpR op_le (pe_callB (kc_len (K := K)) (by rfl) T.len (by decide +kernel) (pa_cons (pv 0) pa_nil)) (pv 2) (nomark _)))))) pss_nil), ?_⟩
    refine ok_P W hm k ?_
    show B _ [some vthing, some vlow, some vhigh] F emp _ _
    exact b_ret pr_emp (ev_and (ev_cb (vl_isi (bb := true) isi_tuple ) (ea_cons (ev_var rthing rfl) (ea_one (ev_ty (n := "tuple"))))) (ev_and (ev_op vl_le (ev_var rlow rfl) (ev_cb vl_lenH (ea_one (ev_var rthing rfl)))) (ev_op vl_le (ev_cb vl_lenH (ea_one (ev_var rthing rfl))) (ev_var rhigh rfl))))
/-! is_row@spout -/
abbrev s_is_row_spout : Stmt := top 9
abbrev N_is_row_spout : List Str := ["thing", "low", "high"]
theorem sc_is_row_spout : FnScope N_is_row_spout ["thing", "low", "high"] (defScope s_is_row_spout) := ⟨rfl, rfl, rfl, by decide +kernel, rfl, by decide +kernel, by decide +kernel⟩
def m_is_row_spout (xthing : Spout) (xlow : Int) (xhigh : Int) : Option Bool := rn (bnd (bnd (bnd (bnd (ret xthing) fun a1 => bnd (ret ()) fun b2 => ret (a1, b2)) fun a3 => lft (some true)) fun b11 => bif b11 then (bnd (bnd (ret xlow) fun a5 => bnd (bnd (ret xthing) fun a4 => lft (some (3 : Int))) fun b6 => lft (some (decide (a5 ≤ b6)))) fun b10 => bif b10 then (bnd (bnd (ret xthing) fun a7 => lft (some (3 : Int))) fun a8 => bnd (ret xhigh) fun b9 => lft (some (decide (a8 ≤ b9)))) else ret false) else ret false) fun x12 s => some (x12, ()))
abbrev sp_is_row_spout : Sp := spP (arC rSpout (arC rInt (arOne rInt))) rBool (fun x => m_is_row_spout x.1 x.2.1 x.2.2)
theorem ok_is_row_spout {f : Addr} {fd : FuncData} (F : Fun K "is_row" "is_row" s_is_row_spout f fd) (T : Txt K mg) : FnOk P w K mg base CX0 1 f fd ["thing", "low", "high"] sp_is_row_spout := by
  refine F.ok sc_is_row_spout (fun vs H Q E h => ?_) (fun cdv A outer s H vs Q E hr h => ?_)
  · obtain ⟨F, O, x, b, ⟨_, _, rfl, _, ⟨_, _, rfl, _, ⟨_, rfl, _⟩⟩⟩, _⟩ := h; rfl
  · obtain ⟨F, O, ⟨xthing, xlow, xhigh⟩, b, ⟨vthing, _, rfl, rthing, ⟨vlow, _, rfl, rlow, ⟨vhigh, rfl, rhigh⟩⟩⟩, W, hm, k⟩ := h
    replace rthing : rSpout.r F vthing xthing := rthing
    replace rlow : rInt.r F vlow xlow := rlow
    replace rhigh : rInt.r F vhigh xhigh := rhigh
    replace hm : m_is_row_spout xthing xlow xhigh = some b := hm
    refine ⟨_, (pss_cons (ps_ret (pe_and (pe_callB (kc_isi (K := K)) (by rfl) T.isinstance (by decide +kernel) (pa_cons (pv 0) (pa_cons (pe_bltn (v := .ty "tuple") (by rfl) T.tuple (by decide +kernel) rfl) pa_nil))) (pe_and (pe_cmpR op_le (pv 1) (pe_callB (kc_len (K := K)) (by rfl) T.len (by decide +kernel) (pa_cons (pv 0) pa_nil)) (nomark _)) (pe_one (pe_cmpR op_le (pe_callB (kc_len (K := K)) (by rfl) T.len (by decide +kernel) (pa_cons (pv 0) pa_nil)) (pv 2) (nomark _)))))) pss_nil), ?_⟩
    refine ok_P W hm k ?_
    show B _ [some vthing, some vlow, some vhigh] F emp _ _
    exact b_ret pr_emp (ev_and (ev_cb (vl_isi (bb := true) isi_tuple ) (ea_cons (ev_var rthing rfl) (ea_one (ev_ty (n := "tuple"))))) (ev_and (ev_op vl_le (ev_var rlow rfl) (ev_cb vl_lenH (ea_one (ev_var rthing rfl)))) (ev_op vl_le (ev_cb vl_lenH (ea_one (ev_var rthing rfl))) (ev_var rhigh rfl))))
/-! is_out -/
abbrev s_is_out : Stmt := top 10
abbrev N_is_out : List Str := ["thing", "many"]
theorem sc_is_out : FnScope N_is_out ["thing", "many"] (defScope s_is_out) := ⟨rfl, rfl, rfl, by decide +kernel, rfl, by decide +kernel, by decide +kernel⟩
def m_is_out (xthing : Out) (xmany : Int) : Option Bool := rn (bnd (bnd (bnd (bnd (bnd (ret xthing) fun a3 => bnd (bnd (ret (2 : Int)) fun a1 => bnd (ret (2 : Int)) fun b2 => ret (a1, b2)) fun b4 => ret (a3, b4)) fun a5 => lft (m_is_row_out a5.1 a5.2.1 a5.2.2)) fun b6 => ret (!b6)) fun b14 => bif b14 then ret true else (bnd (bnd (bnd (bnd (ret xthing) fun a7 => ret a7.2) fun a10 => bnd (bnd (ret (1 : Int)) fun a8 => bnd (ret (60 : Int)) fun b9 => ret (a8, b9)) fun b11 => ret (a10, b11)) fun a12 => lft (m_is_whole a12.1 a12.2.1 a12.2.2)) fun b13 => ret (!b13))) fun b15 => bif b15 then (bnd (ret false) fun x16 s => some (x16, ())) else (bnd (bnd (bnd (bnd (ret xthing) fun a17 => ret a17.1) fun a18 => bnd (ret ()) fun b19 => lft (some a18.isNone)) fun b29 => bif b29 then ret true else (bnd (bnd (bnd (bnd (ret xthing) fun a20 => ret a20.1) fun o21 => lft o21) fun a26 => bnd (bnd (ret (0 : Int)) fun a24 => bnd (bnd (ret xmany) fun a22 => bnd (ret (1 : Int)) fun b23 => lft (some (a22 - b23))) fun b25 => ret (a24, b25)) fun b27 => ret (a26, b27)) fun a28 => lft (m_is_whole a28.1 a28.2.1 a28.2.2))) fun x30 s => some (x30, ())))
abbrev sp_is_out : Sp := spP (arC rOut (arOne rInt)) rBool (fun x => m_is_out x.1 x.2)
theorem ok_is_out {f : Addr} {fd : FuncData} (F : Fun K "is_out" "is_out" s_is_out f fd) (T : Txt K mg) (c_is_row_out : Kn P w K mg base CX0 1 "is_row" ["thing", "low", "high"] sp_is_row_out) (c_is_whole : Kn P w K mg base CX0 1 "is_whole" ["thing", "low", "high"] sp_is_whole) : FnOk P w K mg base CX0 2 f fd ["thing", "many"] sp_is_out := by
  refine F.ok sc_is_out (fun vs H Q E h => ?_) (fun cdv A outer s H vs Q E hr h => ?_)
  · obtain ⟨F, O, x, b, ⟨_, _, rfl, _, ⟨_, rfl, _⟩⟩, _⟩ := h; rfl
  · obtain ⟨F, O, ⟨xthing, xmany⟩, b, ⟨vthing, _, rfl, rthing, ⟨vmany, rfl, rmany⟩⟩, W, hm, k⟩ := h
    replace rthing : rOut.r F vthing xthing := rthing
    replace rmany : rInt.r F vmany xmany := rmany
    replace hm : m_is_out xthing xmany = some b := hm
    refine ⟨_, (pss_cons (ps_if (PW.pt (pw_or (pt_not (pt_val (pe_kn c_is_row_out hr (by decide) (by rfl) (pa_cons (pv 0) (pa_cons pe_int (pa_cons pe_int pa_nil)))))) (pw_or1 (pt_not (pt_val (pe_kn c_is_whole hr (by decide) (by rfl) (pa_cons (pe_ix (kix_tup (K := K)) (pv 0) pe_int (fun _ _ => rfl)) (pa_cons pe_int (pa_cons (pe_globI (i := 60) rfl T.c_MOST_SIZE) pa_nil))))))))) (pss_cons (ps_ret pe_bl) pss_nil) pss_nil) (pss_cons (ps_ret (pe_or (pe_cmpR op_isN (pe_ix (kix_tup (K := K)) (pv 0) pe_int (fun _ _ => rfl)) pe_non (nomark _)) (pe_one (pe_kn c_is_whole hr (by decide) (by rfl) (pa_cons (pe_ix (kix_tup (K := K)) (pv 0) pe_int (fun _ _ => rfl)) (pa_cons pe_int (pa_cons (pe_op op_sub (pv 1) pe_int) pa_nil))))))) pss_nil)), ?_⟩
    refine ok_P W hm k ?_
    show B _ [some vthing, some vmany] F emp _ _
    exact b_ifR (et_or (et_not (et_B (ev_callP (ea_cons (ev_var rthing rfl) (ea_cons ev_int (ea_one ev_int)))))) (et_not (et_B (ev_callP (ea_cons (ev_prj (prj_s prj_1) (ev_var rthing rfl)) (ea_cons ev_int (ea_one ev_int))))))) (b_ret pr_emp ev_bl) (b_ret pr_emp (ev_or (ev_op vl_isNone (ev_prj prj_0 (ev_var rthing rfl)) ev_non) (ev_callP (ea_cons (ev_unopt (ev_prj prj_0 (ev_var rthing rfl))) (ea_cons ev_int (ea_one (ev_op vl_sub (ev_var rmany rfl) ev_int)))))))
/-! is_act -/
abbrev s_is_act : Stmt := top 11
abbrev N_is_act : List Str := ["thing", "spouts"]
theorem sc_is_act : FnScope N_is_act ["thing", "spouts"] (defScope s_is_act) := ⟨rfl, rfl, rfl, by decide +kernel, rfl, by decide +kernel, by decide +kernel⟩
def m_is_act (xthing : Act) (xspouts : Int) : Option Bool := rn (bnd (bnd (bnd (bnd (bnd (ret xthing) fun a3 => bnd (bnd (ret (2 : Int)) fun a1 => bnd (ret (2 : Int)) fun b2 => ret (a1, b2)) fun b4 => ret (a3, b4)) fun a5 => lft (m_is_row_act a5.1 a5.2.1 a5.2.2)) fun b6 => ret (!b6)) fun b12 => bif b12 then ret true else (bnd (bnd (bnd (bnd (ret xthing) fun a7 => ret a7.1) fun a8 => bnd (ret ()) fun b9 => ret (a8, b9)) fun a10 => lft (some true)) fun b11 => ret (!b11))) fun b13 => bif b13 then (bnd (ret false) fun x14 s => some (x14, ())) else (bnd (bnd (bnd (bnd (ret xthing) fun a15 => ret a15.1) fun a16 => ret ((["open", "shut", "turn"] : List Str).any fun b => decide (b = a16))) fun b25 => bif b25 then (bnd (bnd (bnd (ret xthing) fun a17 => ret a17.2) fun a22 => bnd (bnd (ret (0 : Int)) fun a20 => bnd (bnd (ret xspouts) fun a18 => bnd (ret (1 : Int)) fun b19 => lft (some (a18 - b19))) fun b21 => ret (a20, b21)) fun b23 => ret (a22, b23)) fun a24 => lft (m_is_whole a24.1 a24.2.1 a24.2.2)) else ret false) fun x26 s => some (x26, ())))
abbrev sp_is_act : Sp := spP (arC rAct (arOne rInt)) rBool (fun x => m_is_act x.1 x.2)
theorem ok_is_act {f : Addr} {fd : FuncData} (F : Fun K "is_act" "is_act" s_is_act f fd) (T : Txt K mg) (c_is_row_act : Kn P w K mg base CX0 1 "is_row" ["thing", "low", "high"] sp_is_row_act) (c_is_whole : Kn P w K mg base CX0 1 "is_whole" ["thing", "low", "high"] sp_is_whole) : FnOk P w K mg base CX0 2 f fd ["thing", "spouts"] sp_is_act := by
  refine F.ok sc_is_act (fun vs H Q E h => ?_) (fun cdv A outer s H vs Q E hr h => ?_)
  · obtain ⟨F, O, x, b, ⟨_, _, rfl, _, ⟨_, rfl, _⟩⟩, _⟩ := h; rfl
  · obtain ⟨F, O, ⟨xthing, xspouts⟩, b, ⟨vthing, _, rfl, rthing, ⟨vspouts, rfl, rspouts⟩⟩, W, hm, k⟩ := h
    replace rthing : rAct.r F vthing xthing := rthing
    replace rspouts : rInt.r F vspouts xspouts := rspouts
    replace hm : m_is_act xthing xspouts = some b := hm
    refine ⟨_, (pss_cons (ps_if (PW.pt (pw_or (pt_not (pt_val (pe_kn c_is_row_act hr (by decide) (by rfl) (pa_cons (pv 0) (pa_cons pe_int (pa_cons pe_int pa_nil)))))) (pw_or1 (pt_not (pt_val (pe_callB (kc_isi (K := K)) (by rfl) T.isinstance (by decide +kernel) (pa_cons (pe_ix (kix_tup (K := K)) (pv 0) pe_int (fun _ _ => rfl)) (pa_cons (pe_bltn (v := .ty "str") (by rfl) T.str (by decide +kernel) rfl) pa_nil)))))))) (pss_cons (ps_ret pe_bl) pss_nil) pss_nil) (pss_cons (ps_ret (pe_and (pe_cmpR (kop_in (K := K)) (pe_ix (kix_tup (K := K)) (pv 0) pe_int (fun _ _ => rfl)) (pe_glob (v := .ref (He.ga K "WORDS")) rfl T.w_WORDS.1 rfl) (by rfl)) (pe_one (pe_kn c_is_whole hr (by decide) (by rfl) (pa_cons (pe_ix (kix_tup (K := K)) (pv 0) pe_int (fun _ _ => rfl)) (pa_cons pe_int (pa_cons (pe_op op_sub (pv 1) pe_int) pa_nil))))))) pss_nil)), ?_⟩
    refine ok_P W hm k ?_
    show B _ [some vthing, some vspouts] F emp _ _
    exact b_ifR (et_or (et_not (et_B (ev_callP (ea_cons (ev_var rthing rfl) (ea_cons ev_int (ea_one ev_int)))))) (et_not (et_B (ev_cb (vl_isi (bb := true) isi_str ) (ea_cons (ev_prj prj_0 (ev_var rthing rfl)) (ea_one (ev_ty (n := "str")))))))) (b_ret pr_emp ev_bl) (b_ret pr_emp (ev_and (ev_inW T.w_WORDS.2 (ev_prj prj_0 (ev_var rthing rfl))) (ev_callP (ea_cons (ev_prj (prj_s prj_1) (ev_var rthing rfl)) (ea_cons ev_int (ea_one (ev_op vl_sub (ev_var rspouts rfl) ev_int)))))))
/-! is_vessel -/
abbrev s_is_vessel : Stmt := top 12
abbrev N_is_vessel : List Str := ["thing", "number", "many", "spouts", "act", "out"]
theorem sc_is_vessel : FnScope N_is_vessel ["thing", "number", "many", "spouts"] (defScope s_is_vessel) := ⟨rfl, rfl, rfl, by decide +kernel, rfl, by decide +kernel, by decide +kernel⟩
def m_is_vessel (xthing : Vessel) (xnumber : Int) (xmany : Int) (xspouts : Int) : Option Bool := rn (bnd (bnd (bnd (bnd (bnd (ret xthing) fun a3 => bnd (bnd (ret (6 : Int)) fun a1 => bnd (ret (6 : Int)) fun b2 => ret (a1, b2)) fun b4 => ret (a3, b4)) fun a5 => lft (m_is_row_vessel a5.1 a5.2.1 a5.2.2)) fun b6 => ret (!b6)) fun b23 => bif b23 then ret true else (bnd (bnd (bnd (bnd (bnd (ret xthing) fun a7 => ret a7.1) fun a10 => bnd (bnd (ret (1 : Int)) fun a8 => bnd (ret (60 : Int)) fun b9 => ret (a8, b9)) fun b11 => ret (a10, b11)) fun a12 => lft (m_is_whole a12.1 a12.2.1 a12.2.2)) fun b13 => ret (!b13)) fun b22 => bif b22 then ret true else (bnd (bnd (bnd (bnd (ret xthing) fun a14 => ret a14.2.1) fun a18 => bnd (bnd (bnd (ret xthing) fun a15 => ret a15.1) fun a16 => bnd (ret (200 : Int)) fun b17 => ret (a16, b17)) fun b19 => ret (a18, b19)) fun a20 => lft (m_is_whole a20.1 a20.2.1 a20.2.2)) fun b21 => ret (!b21)))) fun b24 => bif b24 then (bnd (ret false) fun x25 s => some (x25, ())) else (bnd (bnd (bnd (bnd (bnd (bnd (ret xthing) fun a27 => ret a27.2.2.1) fun a30 => bnd (bnd (ret (1 : Int)) fun a28 => bnd (ret (3 : Int)) fun b29 => ret (a28, b29)) fun b31 => ret (a30, b31)) fun a32 => lft (m_is_row_outs a32.1 a32.2.1 a32.2.2)) fun b33 => ret (!b33)) fun b50 => bif b50 then ret true else (bnd (bnd (bnd (bnd (ret xthing) fun a34 => ret a34.2.2.1) fun q46 => bnd (lft (chk q46)) fun q47 => mp (fun x36 => bnd (bnd (ret x36) fun a42 => bnd (ret xmany) fun b43 => ret (a42, b43)) fun a44 => lft (m_is_out a44.1 a44.2)) q47) fun a48 => lft (some (a48.all id))) fun b49 => ret (!b49))) fun b51 => bif b51 then (bnd (ret false) fun x52 s => some (x52, ())) else (bnd (bnd (bnd (bnd (bnd (bnd (ret xthing) fun a53 => ret a53.2.2.2.1) fun a54 => bnd (ret ()) fun b55 => ret (a54, b55)) fun a56 => lft (some true)) fun b57 => ret (!b57)) fun b74 => bif b74 then ret true else (bnd (bnd (bnd (ret xthing) fun a58 => ret a58.2.2.2.2.1) fun a59 => bnd (ret ()) fun b60 => lft (some (!a59.isNone))) fun b73 => bif b73 then (bnd (bnd (bnd (bnd (bnd (ret xthing) fun a61 => ret a61.2.2.2.2.1) fun o62 => lft o62) fun a69 => bnd (bnd (bnd (ret xnumber) fun a63 => bnd (ret (1 : Int)) fun b64 => lft (some (a63 + b64))) fun a67 => bnd (bnd (ret xmany) fun a65 => bnd (ret (1 : Int)) fun b66 => lft (some (a65 - b66))) fun b68 => ret (a67, b68)) fun b70 => ret (a69, b70)) fun a71 => lft (m_is_whole a71.1 a71.2.1 a71.2.2)) fun b72 => ret (!b72)) else ret false)) fun b75 => bif b75 then (bnd (ret false) fun x76 s => some (x76, ())) else (bnd (bnd (bnd (bnd (bnd (ret xthing) fun a78 => ret a78.2.2.2.2.2) fun a81 => bnd (bnd (ret (0 : Int)) fun a79 => bnd (ret (3 : Int)) fun b80 => ret (a79, b80)) fun b82 => ret (a81, b82)) fun a83 => lft (m_is_row_acts a83.1 a83.2.1 a83.2.2)) fun b99 => bif b99 then (bnd (bnd (bnd (ret xthing) fun a84 => ret a84.2.2.2.2.2) fun q96 => bnd (lft (chk q96)) fun q97 => mp (fun x86 => bnd (bnd (ret x86) fun a92 => bnd (ret xspouts) fun b93 => ret (a92, b93)) fun a94 => lft (m_is_act a94.1 a94.2)) q97) fun a98 => lft (some (a98.all id))) else ret false) fun x100 s => some (x100, ())))))
abbrev sp_is_vessel : Sp := spP (arC rVessel (arC rInt (arC rInt (arOne rInt)))) rBool (fun x => m_is_vessel x.1 x.2.1 x.2.2.1 x.2.2.2)
theorem ok_is_vessel {f : Addr} {fd : FuncData} (F : Fun K "is_vessel" "is_vessel" s_is_vessel f fd) (T : Txt K mg) (c_is_row_vessel : Kn P w K mg base CX0 1 "is_row" ["thing", "low", "high"] sp_is_row_vessel) (c_is_whole : Kn P w K mg base CX0 1 "is_whole" ["thing", "low", "high"] sp_is_whole) (c_is_row_outs : Kn P w K mg base CX0 1 "is_row" ["thing", "low", "high"] sp_is_row_outs) (c_is_out : Kn P w K mg base CX0 2 "is_out" ["thing", "many"] sp_is_out) (c_is_row_acts : Kn P w K mg base CX0 1 "is_row" ["thing", "low", "high"] sp_is_row_acts) (c_is_act : Kn P w K mg base CX0 2 "is_act" ["thing", "spouts"] sp_is_act) : FnOk P w K mg base CX0 3 f fd ["thing", "number", "many", "spouts"] sp_is_vessel := by
  refine F.ok sc_is_vessel (fun vs H Q E h => ?_) (fun cdv A outer s H vs Q E hr h => ?_)
  · obtain ⟨F, O, x, b, ⟨_, _, rfl, _, ⟨_, _, rfl, _, ⟨_, _, rfl, _, ⟨_, rfl, _⟩⟩⟩⟩, _⟩ := h; rfl
  · obtain ⟨F, O, ⟨xthing, xnumber, xmany, xspouts⟩, b, ⟨vthing, _, rfl, rthing, ⟨vnumber, _, rfl, rnumber, ⟨vmany, _, rfl, rmany, ⟨vspouts, rfl, rspouts⟩⟩⟩⟩, W, hm, k⟩ := h
    replace rthing : rVessel.r F vthing xthing := rthing
    replace rnumber : rInt.r F vnumber xnumber := rnumber
    replace rmany : rInt.r F vmany xmany := rmany
    replace rspouts : rInt.r F vspouts xspouts := rspouts
    replace hm : m_is_vessel xthing xnumber xmany xspouts = some b := hm
    refine ⟨_, (pss_cons (ps_if (PW.pt (pw_or (pt_not (pt_val (pe_kn c_is_row_vessel hr (by decide) (by rfl) (pa_cons (pv 0) (pa_cons pe_int (pa_cons pe_int pa_nil)))))) (pw_or (pt_not (pt_val (pe_kn c_is_whole hr (by decide) (by rfl) (pa_cons (pe_ix (kix_tup (K := K)) (pv 0) pe_int (fun _ _ => rfl)) (pa_cons pe_int (pa_cons (pe_globI (i := 60) rfl T.c_MOST_SIZE) pa_nil)))))) (pw_or1 (pt_not (pt_val (pe_kn c_is_whole hr (by decide) (by rfl) (pa_cons (pe_ix (kix_tup (K := K)) (pv 0) pe_int (fun _ _ => rfl)) (pa_cons (pe_ix (kix_tup (K := K)) (pv 0) pe_int (fun _ _ => rfl)) (pa_cons (pe_globI (i := 200) rfl T.c_MOST_BRIM) pa_nil)))))))))) (pss_cons (ps_ret pe_bl) pss_nil) pss_nil) (pss_cons (ps_if (PW.pt (pw_or (pt_not (pt_val (pe_kn c_is_row_outs hr (by decide) (by rfl) (pa_cons (pe_ix (kix_tup (K := K)) (pv 0) pe_int (fun _ _ => rfl)) (pa_cons pe_int (pa_cons pe_int pa_nil)))))) (pw_or1 (pt_not (pt_val (pe_callB (kc_all (K := K) (by rfl)) (by rfl) T.all (by decide +kernel) (pa_cons (pe_lc (g := (gName 5)) (tt := tYes) (by rfl) sc_is_vessel.nd (kpi_tup (K := K) (pe_ix (kix_tup (K := K)) (pv 0) pe_int (fun _ _ => rfl))) (blkOk_by (N := N_is_vessel) (sc := defScope s_is_vessel) (own := [("out", 5)]) (by decide +kernel)) (fun _ _ _ _ _ => (pg_name (i := 5) sc_is_vessel.nd rfl (by first | exact Or.inl rfl | exact Or.inr rfl))) (fun _ _ _ _ _ => pts_nil) (fun _ _ _ _ _ => (pe_kn c_is_out hr (by decide) (by rfl) (pa_cons (pv 5) (pa_cons (pv 2) pa_nil))))) pa_nil))))))) (pss_cons (ps_ret pe_bl) pss_nil) pss_nil) (pss_cons (ps_if (PW.pt (pw_or (pt_not (pt_val (pe_callB (kc_isi (K := K)) (by rfl) T.isinstance (by decide +kernel) (pa_cons (pe_ix (kix_tup (K := K)) (pv 0) pe_int (fun _ _ => rfl)) (pa_cons (pe_bltn (v := .ty "bool") (by rfl) T.bool (by decide +kernel) rfl) pa_nil))))) (pw_or1 (PW.pt (pw_and (pt_cmpR op_notN (pe_ix (kix_tup (K := K)) (pv 0) pe_int (fun _ _ => rfl)) pe_non (nomark _)) (pw_and1 (pt_not (pt_val (pe_kn c_is_whole hr (by decide) (by rfl) (pa_cons (pe_ix (kix_tup (K := K)) (pv 0) pe_int (fun _ _ => rfl)) (pa_cons (pe_op op_add (pv 1) pe_int) (pa_cons (pe_op op_sub (pv 2) pe_int) pa_nil)))))))))))) (pss_cons (ps_ret pe_bl) pss_nil) pss_nil) (pss_cons (ps_ret (pe_and (pe_kn c_is_row_acts hr (by decide) (by rfl) (pa_cons (pe_ix (kix_tup (K := K)) (pv 0) pe_int (fun _ _ => rfl)) (pa_cons pe_int (pa_cons pe_int pa_nil)))) (pe_one (pe_callB (kc_all (K := K) (by rfl)) (by rfl) T.all (by decide +kernel) (pa_cons (pe_lc (g := (gName 4)) (tt := tYes) (by rfl) sc_is_vessel.nd (kpi_tup (K := K) (pe_ix (kix_tup (K := K)) (pv 0) pe_int (fun _ _ => rfl))) (blkOk_by (N := N_is_vessel) (sc := defScope s_is_vessel) (own := [("act", 4)]) (by decide +kernel)) (fun _ _ _ _ _ => (pg_name (i := 4) sc_is_vessel.nd rfl (by first | exact Or.inl rfl | exact Or.inr rfl))) (fun _ _ _ _ _ => pts_nil) (fun _ _ _ _ _ => (pe_kn c_is_act hr (by decide) (by rfl) (pa_cons (pv 4) (pa_cons (pv 3) pa_nil))))) pa_nil))))) pss_nil)))), ?_⟩
    refine ok_P W hm k ?_
    show B _ [some vthing, some vnumber, some vmany, some vspouts, none, none] F emp _ _
    exact b_ifR (et_or (et_not (et_B (ev_callP (ea_cons (ev_var rthing rfl) (ea_cons ev_int (ea_one ev_int)))))) (et_or (et_not (et_B (ev_callP (ea_cons (ev_prj prj_0 (ev_var rthing rfl)) (ea_cons ev_int (ea_one ev_int)))))) (et_not (et_B (ev_callP (ea_cons (ev_prj (prj_s prj_0) (ev_var rthing rfl)) (ea_cons (ev_prj prj_0 (ev_var rthing rfl)) (ea_one ev_int)))))))) (b_ret pr_emp ev_bl) (b_ifR (et_or (et_not (et_B (ev_callP (ea_cons (ev_prj (prj_s (prj_s prj_0)) (ev_var rthing rfl)) (ea_cons ev_int (ea_one ev_int)))))) (et_not (et_B (ev_cb vl_allL (ea_one (ev_frz (eo_lcA (ei_tup (ev_prj (prj_s (prj_s prj_0)) (ev_var rthing rfl))) (fun v35 x36 F37 s38 r39 => cb_all go_name (fun w40 k41 => by subst k41; exact wipe_s _ _ (by decide) (wipe_w _ _)) (fun w40 k41 => by subst k41; exact ev_σ (σ' := [some vthing, some vnumber, some vmany, some vspouts, none, some v35]) rfl (ev_callP (ea_cons (ev_var r39 rfl) (ea_one (ev_var (rInt.mono s38 rmany) rfl))))))))))))) (b_ret pr_emp ev_bl) (b_ifR (et_or (et_not (et_B (ev_cb (vl_isi (bb := true) isi_bool ) (ea_cons (ev_prj (prj_s (prj_s (prj_s prj_0))) (ev_var rthing rfl)) (ea_one (ev_ty (n := "bool"))))))) (et_and (et_test (ev_op vl_notNone (ev_prj (prj_s (prj_s (prj_s (prj_s prj_0)))) (ev_var rthing rfl)) ev_non)) (et_not (et_B (ev_callP (ea_cons (ev_unopt (ev_prj (prj_s (prj_s (prj_s (prj_s prj_0)))) (ev_var rthing rfl))) (ea_cons (ev_op vl_add (ev_var rnumber rfl) ev_int) (ea_one (ev_op vl_sub (ev_var rmany rfl) ev_int))))))))) (b_ret pr_emp ev_bl) (b_ret pr_emp (ev_and (ev_callP (ea_cons (ev_prj (prj_s (prj_s (prj_s (prj_s (prj_s prj_1))))) (ev_var rthing rfl)) (ea_cons ev_int (ea_one ev_int)))) (ev_cb vl_allL (ea_one (ev_frz (eo_lcA (ei_tup (ev_prj (prj_s (prj_s (prj_s (prj_s (prj_s prj_1))))) (ev_var rthing rfl))) (fun v85 x86 F87 s88 r89 => cb_all go_name (fun w90 k91 => by subst k91; exact wipe_s _ _ (by decide) (wipe_w _ _)) (fun w90 k91 => by subst k91; exact ev_σ (σ' := [some vthing, some vnumber, some vmany, some vspouts, some v85, none]) rfl (ev_callP (ea_cons (ev_var r89 rfl) (ea_one (ev_var (rInt.mono s88 rspouts) rfl))))))))))))))
/-! is_spout -/
abbrev s_is_spout : Stmt := top 13
abbrev N_is_spout : List Str := ["thing", "many"]
theorem sc_is_spout : FnScope N_is_spout ["thing", "many"] (defScope s_is_spout) := ⟨rfl, rfl, rfl, by decide +kernel, rfl, by decide +kernel, by decide +kernel⟩
def m_is_spout (xthing : Spout) (xmany : Int) : Option Bool := rn (bnd (bnd (bnd (bnd (bnd (ret xthing) fun a3 => bnd (bnd (ret (3 : Int)) fun a1 => bnd (ret (3 : Int)) fun b2 => ret (a1, b2)) fun b4 => ret (a3, b4)) fun a5 => lft (m_is_row_spout a5.1 a5.2.1 a5.2.2)) fun b6 => ret (!b6)) fun b16 => bif b16 then ret true else (bnd (bnd (bnd (bnd (ret xthing) fun a7 => ret a7.1) fun a12 => bnd (bnd (ret (0 : Int)) fun a10 => bnd (bnd (ret xmany) fun a8 => bnd (ret (1 : Int)) fun b9 => lft (some (a8 - b9))) fun b11 => ret (a10, b11)) fun b13 => ret (a12, b13)) fun a14 => lft (m_is_whole a14.1 a14.2.1 a14.2.2)) fun b15 => ret (!b15))) fun b17 => bif b17 then (bnd (ret false) fun x18 s => some (x18, ())) else (bnd (bnd (bnd (bnd (bnd (ret xthing) fun a19 => ret a19.2.1) fun a22 => bnd (bnd (ret (0 : Int)) fun a20 => bnd (ret (60 : Int)) fun b21 => ret (a20, b21)) fun b23 => ret (a22, b23)) fun a24 => lft (m_is_whole a24.1 a24.2.1 a24.2.2)) fun b29 => bif b29 then (bnd (bnd (bnd (ret xthing) fun a25 => ret a25.2.2) fun a26 => bnd (ret ()) fun b27 => ret (a26, b27)) fun a28 => lft (some true)) else ret false) fun x30 s => some (x30, ())))
abbrev sp_is_spout : Sp := spP (arC rSpout (arOne rInt)) rBool (fun x => m_is_spout x.1 x.2)
theorem ok_is_spout {f : Addr} {fd : FuncData} (F : Fun K "is_spout" "is_spout" s_is_spout f fd) (T : Txt K mg) (c_is_row_spout : Kn P w K mg base CX0 1 "is_row" ["thing", "low", "high"] sp_is_row_spout) (c_is_whole : Kn P w K mg base CX0 1 "is_whole" ["thing", "low", "high"] sp_is_whole) : FnOk P w K mg base CX0 2 f fd ["thing", "many"] sp_is_spout := by
  refine F.ok sc_is_spout (fun vs H Q E h => ?_) (fun cdv A outer s H vs Q E hr h => ?_)
  · obtain ⟨F, O, x, b, ⟨_, _, rfl, _, ⟨_, rfl, _⟩⟩, _⟩ := h; rfl
  · obtain ⟨F, O, ⟨xthing, xmany⟩, b, ⟨vthing, _, rfl, rthing, ⟨vmany, rfl, rmany⟩⟩, W, hm, k⟩ := h
    replace rthing : rSpout.r F vthing xthing := rthing
    replace rmany : rInt.r F vmany xmany := rmany
    replace hm : m_is_spout xthing xmany = some b := hm
    refine ⟨_, (pss_cons (ps_if (PW.pt (pw_or (pt_not (pt_val (pe_kn c_is_row_spout hr (by decide) (by rfl) (pa_cons (pv 0) (pa_cons pe_int (pa_cons pe_int pa_nil)))))) (pw_or1 (pt_not (pt_val (pe_kn c_is_whole hr (by decide) (by rfl) (pa_cons (pe_ix (kix_tup (K := K)) (pv 0) pe_int (fun _ _ => rfl)) (pa_cons pe_int (pa_cons (pe_op op_sub (pv 1) pe_int) pa_nil))))))))) (pss_cons (ps_ret pe_bl) pss_nil) pss_nil) (pss_cons (ps_ret (pe_and (pe_kn c_is_whole hr (by decide) (by rfl) (pa_cons (pe_ix (kix_tup (K := K)) (pv 0) pe_int (fun _ _ => rfl)) (pa_cons pe_int (pa_cons (pe_globI (i := 60) rfl T.c_MOST_SIZE) pa_nil)))) (pe_one (pe_callB (kc_isi (K := K)) (by rfl) T.isinstance (by decide +kernel) (pa_cons (pe_ix (kix_tup (K := K)) (pv 0) pe_int (fun _ _ => rfl)) (pa_cons (pe_bltn (v := .ty "bool") (by rfl) T.bool (by decide +kernel) rfl) pa_nil)))))) pss_nil)), ?_⟩
    refine ok_P W hm k ?_
    show B _ [some vthing, some vmany] F emp _ _
    exact b_ifR (et_or (et_not (et_B (ev_callP (ea_cons (ev_var rthing rfl) (ea_cons ev_int (ea_one ev_int)))))) (et_not (et_B (ev_callP (ea_cons (ev_prj prj_0 (ev_var rthing rfl)) (ea_cons ev_int (ea_one (ev_op vl_sub (ev_var rmany rfl) ev_int)))))))) (b_ret pr_emp ev_bl) (b_ret pr_emp (ev_and (ev_callP (ea_cons (ev_prj (prj_s prj_0) (ev_var rthing rfl)) (ea_cons ev_int (ea_one ev_int)))) (ev_cb (vl_isi (bb := true) isi_bool ) (ea_cons (ev_prj (prj_s (prj_s prj_1)) (ev_var rthing rfl)) (ea_one (ev_ty (n := "bool")))))))
/-! is_net -/
abbrev s_is_net : Stmt := top 14
abbrev N_is_net : List Str := ["thing", "vessels", "spouts", "spout", "k", "vessel"]
theorem sc_is_net : FnScope N_is_net ["thing"] (defScope s_is_net) := ⟨rfl, rfl, rfl, by decide +kernel, rfl, by decide +kernel, by decide +kernel⟩
def m_is_net (xthing : Net) : Option Bool := rn (bnd (bnd (bnd (bnd (bnd (ret xthing) fun a3 => bnd (bnd (ret (2 : Int)) fun a1 => bnd (ret (2 : Int)) fun b2 => ret (a1, b2)) fun b4 => ret (a3, b4)) fun a5 => lft (m_is_row_net a5.1 a5.2.1 a5.2.2)) fun b6 => ret (!b6)) fun b24 => bif b24 then ret true else (bnd (bnd (bnd (bnd (bnd (ret xthing) fun a8 => ret a8.1) fun a11 => bnd (bnd (ret (1 : Int)) fun a9 => bnd (ret (12 : Int)) fun b10 => ret (a9, b10)) fun b12 => ret (a11, b12)) fun a13 => lft (m_is_row_vessels a13.1 a13.2.1 a13.2.2)) fun b14 => ret (!b14)) fun b23 => bif b23 then ret true else (bnd (bnd (bnd (bnd (ret xthing) fun a16 => ret a16.2) fun a19 => bnd (bnd (ret (0 : Int)) fun a17 => bnd (ret (12 : Int)) fun b18 => ret (a17, b18)) fun b20 => ret (a19, b20)) fun a21 => lft (m_is_row_spouts a21.1 a21.2.1 a21.2.2)) fun b22 => ret (!b22)))) fun b25 => bif b25 then (bnd (ret false) fun x26 s => some (x26, ())) else (bnd (ret xthing) fun x28 => bnd (bnd (bnd (bnd (bnd (ret x28.1) fun a46 => ret (enumL a46)) fun q69 => bnd (lft (chk q69)) fun q70 => mp (fun x48 => bnd (bnd (ret x48.2) fun a65 => bnd (bnd (ret x48.1) fun a63 => bnd (bnd (bnd (ret x28.1) fun a59 => lft (some (a59.length : Int))) fun a61 => bnd (bnd (ret x28.2) fun a60 => lft (some (a60.length : Int))) fun b62 => ret (a61, b62)) fun b64 => ret (a63, b64)) fun b66 => ret (a65, b66)) fun a67 => lft (m_is_vessel a67.1 a67.2.1 a67.2.2.1 a67.2.2.2)) q70) fun a71 => lft (some (a71.all id))) fun b72 => ret (!b72)) fun b73 => bif b73 then (bnd (ret false) fun x74 s => some (x74, ())) else (bnd (bnd (bnd (ret x28.2) fun q87 => bnd (lft (chk q87)) fun q88 => mp (fun x76 => bnd (bnd (ret x76) fun a83 => bnd (bnd (ret x28.1) fun a82 => lft (some (a82.length : Int))) fun b84 => ret (a83, b84)) fun a85 => lft (m_is_spout a85.1 a85.2)) q88) fun a89 => lft (some (a89.all id))) fun x90 s => some (x90, ()))))
abbrev sp_is_net : Sp := spP (arOne rNet) rBool (fun x => m_is_net x)
theorem ok_is_net {f : Addr} {fd : FuncData} (F : Fun K "is_net" "is_net" s_is_net f fd) (T : Txt K mg) (c_is_row_net : Kn P w K mg base CX0 1 "is_row" ["thing", "low", "high"] sp_is_row_net) (c_is_row_vessels : Kn P w K mg base CX0 1 "is_row" ["thing", "low", "high"] sp_is_row_vessels) (c_is_row_spouts : Kn P w K mg base CX0 1 "is_row" ["thing", "low", "high"] sp_is_row_spouts) (c_is_vessel : Kn P w K mg base CX0 3 "is_vessel" ["thing", "number", "many", "spouts"] sp_is_vessel) (c_is_spout : Kn P w K mg base CX0 2 "is_spout" ["thing", "many"] sp_is_spout) : FnOk P w K mg base CX0 4 f fd ["thing"] sp_is_net := by
  refine F.ok sc_is_net (fun vs H Q E h => ?_) (fun cdv A outer s H vs Q E hr h => ?_)
  · obtain ⟨F, O, x, b, ⟨_, rfl, _⟩, _⟩ := h; rfl
  · obtain ⟨F, O, xthing, b, ⟨vthing, rfl, rthing⟩, W, hm, k⟩ := h
    replace rthing : rNet.r F vthing xthing := rthing
    replace hm : m_is_net xthing = some b := hm
    refine ⟨_, (pss_cons (ps_if (PW.pt (pw_or (pt_not (pt_val (pe_kn c_is_row_net hr (by decide) (by rfl) (pa_cons (pv 0) (pa_cons pe_int (pa_cons pe_int pa_nil)))))) (pw_or (pt_not (pt_val (pe_kn c_is_row_vessels hr (by decide) (by rfl) (pa_cons (pe_ix (kix_tup (K := K)) (pv 0) pe_int (fun _ _ => rfl)) (pa_cons pe_int (pa_cons (pe_globI (i := 12) rfl T.c_MOST) pa_nil)))))) (pw_or1 (pt_not (pt_val (pe_kn c_is_row_spouts hr (by decide) (by rfl) (pa_cons (pe_ix (kix_tup (K := K)) (pv 0) pe_int (fun _ _ => rfl)) (pa_cons pe_int (pa_cons (pe_globI (i := 12) rfl T.c_MOST) pa_nil)))))))))) (pss_cons (ps_ret pe_bl) pss_nil) pss_nil) (pss_cons (ps_asg (pv 0) (kpg_tup (K := K) (by rfl) (pgs_cons (pg_name (i := 1) sc_is_net.nd rfl (by first | exact Or.inl rfl | exact Or.inr rfl)) (pgs_cons (pg_name (i := 2) sc_is_net.nd rfl (by first | exact Or.inl rfl | exact Or.inr rfl)) pgs_nil)))) (pss_cons (ps_if (pt_not (pt_val (pe_callB (kc_all (K := K) (by rfl)) (by rfl) T.all (by decide +kernel) (pa_cons (pe_lc (g := (gTup K 2 (gCons (gName 4) (gCons (gName 5) gNil)))) (tt := tYes) (by rfl) sc_is_net.nd (kpi_enumT (K := K) (by rfl) T.enumerate (pa_cons (pv 1) pa_nil)) (blkOk_by (N := N_is_net) (sc := defScope s_is_net) (own := [("k", 4), ("vessel", 5)]) (by decide +kernel)) (fun _ _ _ _ _ => (kpg_tup (K := K) (by rfl) (pgs_cons (pg_name (i := 4) sc_is_net.nd rfl (by first | exact Or.inl rfl | exact Or.inr rfl)) (pgs_cons (pg_name (i := 5) sc_is_net.nd rfl (by first | exact Or.inl rfl | exact Or.inr rfl)) pgs_nil)))) (fun _ _ _ _ _ => pts_nil) (fun _ _ _ _ _ => (pe_kn c_is_vessel hr (by decide) (by rfl) (pa_cons (pv 5) (pa_cons (pv 4) (pa_cons (pe_callB (kc_len (K := K)) (by rfl) T.len (by decide +kernel) (pa_cons (pv 1) pa_nil)) (pa_cons (pe_callB (kc_len (K := K)) (by rfl) T.len (by decide +kernel) (pa_cons (pv 2) pa_nil)) pa_nil))))))) pa_nil)))) (pss_cons (ps_ret pe_bl) pss_nil) pss_nil) (pss_cons (ps_ret (pe_callB (kc_all (K := K) (by rfl)) (by rfl) T.all (by decide +kernel) (pa_cons (pe_lc (g := (gName 3)) (tt := tYes) (by rfl) sc_is_net.nd (kpi_tup (K := K) (pv 2)) (blkOk_by (N := N_is_net) (sc := defScope s_is_net) (own := [("spout", 3)]) (by decide +kernel)) (fun _ _ _ _ _ => (pg_name (i := 3) sc_is_net.nd rfl (by first | exact Or.inl rfl | exact Or.inr rfl))) (fun _ _ _ _ _ => pts_nil) (fun _ _ _ _ _ => (pe_kn c_is_spout hr (by decide) (by rfl) (pa_cons (pv 3) (pa_cons (pe_callB (kc_len (K := K)) (by rfl) T.len (by decide +kernel) (pa_cons (pv 1) pa_nil)) pa_nil))))) pa_nil))) pss_nil)))), ?_⟩
    refine ok_P W hm k ?_
    show B _ [some vthing, none, none, none, none, none] F emp _ _
    exact b_ifR (et_or (et_not (et_B (ev_callP (ea_cons (ev_var rthing rfl) (ea_cons ev_int (ea_one ev_int)))))) (et_or (et_not (et_B (ev_callP (ea_cons (ev_prj prj_0 (ev_var rthing rfl)) (ea_cons ev_int (ea_one ev_int)))))) (et_not (et_B (ev_callP (ea_cons (ev_prj (prj_s prj_1) (ev_var rthing rfl)) (ea_cons ev_int (ea_one ev_int)))))))) (b_ret pr_emp ev_bl) (b_unp (ev_var rthing rfl) (fun _ _ _ _ r35 => go_t2 r35) fun v27 x28 F29 w32 s30 r31 ⟨v41, v42, r43, r44, e45⟩ => by subst e45; exact b_σ (σ' := [some vthing, some v41, some v42, none, none, none]) rfl (b_ifR (et_not (et_B (ev_cb vl_allL (ea_one (ev_frz (eo_lcA (ei_enumT (ev_var r43 rfl)) (fun v47 x48 F49 s50 r51 => cb_all (go_t2 r51) (fun w52 ⟨v54, v55, r56, r57, e58⟩ => by subst e58; exact wipe_s _ _ (by decide) (wipe_s _ _ (by decide) (wipe_w _ _))) (fun w52 ⟨v54, v55, r56, r57, e58⟩ => by subst e58; exact ev_σ (σ' := [some vthing, some v41, some v42, none, some v54, some v55]) rfl (ev_callP (ea_cons (ev_var r57 rfl) (ea_cons (ev_var r56 rfl) (ea_cons (ev_cb vl_lenT (ea_one (ev_var ((rTup rVessel).mono s50 r43) rfl))) (ea_one (ev_cb vl_lenT (ea_one (ev_var ((rTup rSpout).mono s50 r44) rfl)))))))))))))))) (b_ret pr_emp ev_bl) (b_ret pr_emp (ev_cb vl_allL (ea_one (ev_frz (eo_lcA (ei_tup (ev_var r44 rfl)) (fun v75 x76 F77 s78 r79 => cb_all go_name (fun w80 k81 => by subst k81; exact wipe_s _ _ (by decide) (wipe_w _ _)) (fun w80 k81 => by subst k81; exact ev_σ (σ' := [some vthing, some v41, some v42, some v75, none, none]) rfl (ev_callP (ea_cons (ev_var r79 rfl) (ea_one (ev_cb vl_lenT (ea_one (ev_var ((rTup rVessel).mono s78 r43) rfl)))))))))))))))
/-! _law_draw -/
abbrev s_law_draw : Stmt := top 29
abbrev N_law_draw : List Str := ["tape", "many", "prime", "cell", "found"]
theorem sc_law_draw : FnScope N_law_draw ["tape", "many"] (defScope s_law_draw) := ⟨rfl, rfl, rfl, by decide +kernel, rfl, by decide +kernel, by decide +kernel⟩
def m_law_draw (xmany : Int) : M Tape Int := bnd (ret (2305843009213693951 : Int)) fun x2 => bnd (bnd (bnd (gtL (fun s => s) fun a6 => some a6.2.2) fun a7 => bnd (ret xmany) fun b8 => lft (some (decide (a7 < b8)))) fun b9 => bif b9 then (bnd (ret (0 : Int)) fun x11 => bnd (bnd (bnd (bnd (gtL (fun s => s) fun a15 => some a15.1) fun a16 => lft (some (a16.length : Int))) fun a17 => bnd (ret (0 : Int)) fun b18 => lft (some (decide (b18 < a17)))) fun b19 => bif b19 then (bnd (bnd (gtL (fun s => s) fun a20 => some a20.1) fun a26 => bnd (bnd (gtL (fun s => s) fun a21 => some a21.2.1) fun a24 => bnd (bnd (gtL (fun s => s) fun a22 => some a22.1) fun a23 => lft (some (a23.length : Int))) fun b25 => lft (modI a24 b25)) fun b27 => lft (atI a26 b27)) fun x29 => fun s => some (x29, s)) else (fun s => some (x11, s))) fun z37 => bnd (bnd (bnd (bnd (gtL (fun s => s) fun a46 => some a46.2.1) fun a49 => bnd (bnd (gtL (fun s => s) fun a47 => some a47.1) fun a48 => lft (some (a48.length : Int))) fun b50 => lft (some (decide (b50 ≤ a49)))) fun b55 => bif b55 then ret true else (bnd (ret z37) fun a53 => bnd (bnd (ret (10 : Int)) fun a51 => bnd (ret (18 : Int)) fun b52 => lft (powI a51 b52)) fun b54 => lft (some (decide (a53 < b54))))) fun b56 => bif b56 then (bnd (bnd (bnd (ret z37) fun a60 => bnd (bnd (ret (1000003 : Int)) fun a58 => bnd (gtL (fun s => s) fun a57 => some a57.2.1) fun b59 => lft (mulI a58 b59)) fun b61 => lft (some (a60 + b61))) fun a62 => bnd (ret x2) fun b63 => lft (modI a62 b63)) fun x65 => bnd (bnd (bnd (bnd (bnd (ret x65) fun a69 => bnd (ret x65) fun b70 => lft (mulI a69 b70)) fun a73 => bnd (bnd (ret (1181783497276652981 : Int)) fun a71 => bnd (ret x65) fun b72 => lft (mulI a71 b72)) fun b74 => lft (some (a73 + b74))) fun a75 => bnd (ret (2049848353892358983 : Int)) fun b76 => lft (some (a75 + b76))) fun a77 => bnd (ret x2) fun b78 => lft (modI a77 b78)) fun x80 => bnd (bnd (bnd (bnd (ret x80) fun a84 => bnd (ret x80) fun b85 => lft (mulI a84 b85)) fun a86 => bnd (ret (1442695040888963407 : Int)) fun b87 => lft (some (a86 + b87))) fun a88 => bnd (ret x2) fun b89 => lft (modI a88 b89)) fun x91 => fun s => some (x91, s)) else (fun s => some (z37, s))) fun z99 => bnd (bnd (gtL (fun s => s) fun a108 => some a108.2.1) fun a109 => bnd (ret (1 : Int)) fun b110 => lft (some (a109 + b110))) fun a115 => bnd (upL (fun s => s) (fun s t => t) fun b116 => some (b116.1, a115, b116.2.2)) fun _ => bnd (ret z99) fun a113 => bnd (upL (fun s => s) (fun s t => t) fun b114 => some (b114.1, b114.2.1, a113)) fun _ => fun s => some ((), s)) else (fun s => some ((), s))) fun z119 => bnd (bnd (gtL (fun s => s) fun a127 => some a127.2.2) fun a128 => bnd (ret xmany) fun b129 => lft (modI a128 b129)) fun x131 => bnd (bnd (gtL (fun s => s) fun a135 => some a135.2.2) fun a136 => bnd (ret xmany) fun b137 => lft (divI a136 b137)) fun a139 => bnd (upL (fun s => s) (fun s t => t) fun b140 => some (b140.1, b140.2.1, a139)) fun _ => bnd (ret x131) fun x138 s => some (x138, s)
abbrev sp_law_draw : Sp := spS (fun v => (arC (rV v) (arOne rInt))) (fun v => oLh tapeA v) rInt (fun x => m_law_draw x.2)
theorem ok_law_draw {f : Addr} {fd : FuncData} (F : Fun K "_law_draw" "_law_draw" s_law_draw f fd) (T : Txt K mg) : FnOk P w K mg base CX0 1 f fd ["tape", "many"] sp_law_draw := by
  refine F.ok sc_law_draw (fun vs H Q E h => ?_) (fun cdv A outer s H vs Q E hr h => ?_)
  · obtain ⟨i, F, O, c, x, s, b, s1, ⟨_, _, rfl, _, ⟨_, rfl, _⟩⟩, _⟩ := h; rfl
  · obtain ⟨i0, F, O, c, ⟨_, xmany⟩, s, b, s1, ⟨vtape, _, rfl, rfl, ⟨vmany, rfl, rmany⟩⟩, ho, W, hm, k⟩ := h
    replace rmany : rInt.r F vmany xmany := rmany
    replace hm : m_law_draw xmany s = some (b, s1) := hm
    refine ⟨_, (pss_cons (ps_set (i := 2) sc_law_draw.nd rfl (Or.inl rfl) pe_int) (Evl.pss_cut (ps_if (pt_cmpR op_lt (pe_ix (kix_list (K := K)) (pv 0) pe_int (fun _ _ => rfl)) (pv 1) (nomark _)) (pss_cons (ps_set (i := 3) sc_law_draw.nd rfl (Or.inl rfl) pe_int) (Evl.pss_cut (ps_if (pt_cmpR op_gt (pe_callB (kc_len (K := K)) (by rfl) T.len (by decide +kernel) (pa_cons (pe_ix (kix_list (K := K)) (pv 0) pe_int (fun _ _ => rfl)) pa_nil)) pe_int (nomark _)) (pss_cons (ps_set (i := 3) sc_law_draw.nd rfl (Or.inl rfl) (pe_ix (kix_list (K := K)) (pe_ix (kix_list (K := K)) (pv 0) pe_int (fun _ _ => rfl)) (pe_op op_mod (pe_ix (kix_list (K := K)) (pv 0) pe_int (fun _ _ => rfl)) (pe_callB (kc_len (K := K)) (by rfl) T.len (by decide +kernel) (pa_cons (pe_ix (kix_list (K := K)) (pv 0) pe_int (fun _ _ => rfl)) pa_nil))) (fun _ _ => rfl))) pss_nil) pss_nil) (Evl.pss_cut (ps_if (PW.pt (pw_or (pt_cmpR op_ge (pe_ix (kix_list (K := K)) (pv 0) pe_int (fun _ _ => rfl)) (pe_callB (kc_len (K := K)) (by rfl) T.len (by decide +kernel) (pa_cons (pe_ix (kix_list (K := K)) (pv 0) pe_int (fun _ _ => rfl)) pa_nil)) (nomark _)) (pw_or1 (pt_cmpR op_lt (pv 3) (pe_op op_pow pe_int pe_int) (nomark _))))) (pss_cons (ps_set (i := 3) sc_law_draw.nd rfl (Or.inl rfl) (pe_op op_mod (pe_op op_add (pv 3) (pe_op op_mul pe_int (pe_ix (kix_list (K := K)) (pv 0) pe_int (fun _ _ => rfl)))) (pv 2))) (pss_cons (ps_set (i := 3) sc_law_draw.nd rfl (Or.inl rfl) (pe_op op_mod (pe_op op_add (pe_op op_add (pe_op op_mul (pv 3) (pv 3)) (pe_op op_mul pe_int (pv 3))) pe_int) (pv 2))) (pss_cons (ps_set (i := 3) sc_law_draw.nd rfl (Or.inl rfl) (pe_op op_mod (pe_op op_add (pe_op op_mul (pv 3) (pv 3)) pe_int) (pv 2))) pss_nil))) pss_nil) (pss_cons (ps_asg (pe_op op_add (pe_ix (kix_list (K := K)) (pv 0) pe_int (fun _ _ => rfl)) pe_int) (pg_sub (pv 0) pe_int set_list)) (pss_cons (ps_asg (pv 3) (pg_sub (pv 0) pe_int set_list)) pss_nil))))) pss_nil) (pss_cons (ps_set (i := 4) sc_law_draw.nd rfl (Or.inl rfl) (pe_op op_mod (pe_ix (kix_list (K := K)) (pv 0) pe_int (fun _ _ => rfl)) (pv 1))) (pss_cons (ps_asg (pe_op op_fdivW (pe_ix (kix_list (K := K)) (pv 0) pe_int (fun _ _ => rfl)) (pv 1)) (pg_sub (pv 0) pe_int set_list)) (pss_cons (ps_ret (pv 4)) pss_nil))))), ?_⟩
    refine ok_S W ho hm k ?_
    show B _ [some vtape, some vmany, none, none, none] F (oLh tapeA vtape) _ _
    exact b_set ev_int fun v1 x2 F3 s4 r5 => b_σ (σ' := [some vtape, some vmany, some v1, none, none]) rfl (b_ifJ (Sl := (fun (z : Unit) (F : Hp) (σ : L2.St) => ∃ (u1 : Option V), σ = [some vtape, some vmany, some v1, u1, none])) (et_test (ev_op vl_lt (ev_prjO rfl emb_id (prj_s (prj_s prj_1))) (ev_var (rInt.mono s4 rmany) rfl))) (b_set ev_int fun v10 x11 F12 s13 r14 => b_σ (σ' := [some vtape, some vmany, some v1, some v10, none]) rfl (b_ifJ (Sl := (fun (z : Int) (F : Hp) (σ : L2.St) => ∃ (u1 : V), σ = [some vtape, some vmany, some v1, some u1, none] ∧ rInt.r F u1 z)) (et_test (ev_op vl_gt (ev_cb vl_lenL (ea_one (ev_prjO rfl emb_id prj_0))) ev_int)) (b_set (ev_op vl_ixL (ev_prjO rfl emb_id prj_0) (ev_op vl_mod (ev_prjO rfl emb_id (prj_s prj_0)) (ev_cb vl_lenL (ea_one (ev_prjO rfl emb_id prj_0))))) fun v28 x29 F30 s31 r32 => b_σ (σ' := [some vtape, some vmany, some v1, some v28, none]) rfl (b_nx pr_id (fun F33 s34 => ⟨v28, rfl, (rInt.mono s34 r32)⟩))) (b_nx pr_id (fun F35 s36 => ⟨v10, rfl, (rInt.mono s36 r14)⟩)) (fun z37 F38 w39 s40 h41 => by obtain ⟨v43, e44, r45⟩ := h41; subst e44; exact b_ifJ (Sl := (fun (z : Int) (F : Hp) (σ : L2.St) => ∃ (u1 : V), σ = [some vtape, some vmany, some v1, some u1, none] ∧ rInt.r F u1 z)) (et_or (et_test (ev_op vl_ge (ev_prjO rfl emb_id (prj_s prj_0)) (ev_cb vl_lenL (ea_one (ev_prjO rfl emb_id prj_0))))) (et_test (ev_op vl_lt (ev_var r45 rfl) (ev_op vl_pow ev_int ev_int)))) (b_set (ev_op vl_mod (ev_op vl_add (ev_var r45 rfl) (ev_op vl_mul ev_int (ev_prjO rfl emb_id (prj_s prj_0)))) (ev_var (rInt.mono (s13.trans s40) r5) rfl)) fun v64 x65 F66 s67 r68 => b_σ (σ' := [some vtape, some vmany, some v1, some v64, none]) rfl (b_set (ev_op vl_mod (ev_op vl_add (ev_op vl_add (ev_op vl_mul (ev_var r68 rfl) (ev_var r68 rfl)) (ev_op vl_mul ev_int (ev_var r68 rfl))) ev_int) (ev_var (rInt.mono ((s13.trans s40).trans s67) r5) rfl)) fun v79 x80 F81 s82 r83 => b_σ (σ' := [some vtape, some vmany, some v1, some v79, none]) rfl (b_set (ev_op vl_mod (ev_op vl_add (ev_op vl_mul (ev_var r83 rfl) (ev_var r83 rfl)) ev_int) (ev_var (rInt.mono (((s13.trans s40).trans s67).trans s82) r5) rfl)) fun v90 x91 F92 s93 r94 => b_σ (σ' := [some vtape, some vmany, some v1, some v90, none]) rfl (b_nx pr_id (fun F95 s96 => ⟨v90, rfl, (rInt.mono s96 r94)⟩))))) (b_nx pr_id (fun F97 s98 => ⟨v43, rfl, (rInt.mono s98 r45)⟩)) (fun z99 F100 w101 s102 h103 => by obtain ⟨v105, e106, r107⟩ := h103; subst e106; exact b_setH rfl emb_id (pst_s pst_0) (ev_op vl_add (ev_prjO rfl emb_id (prj_s prj_0)) ev_int) (b_setH rfl emb_id (pst_s (pst_s pst_1)) (ev_var r107 rfl) (b_nx pr_id (fun F111 s112 => ⟨_, rfl⟩))))))) (b_nx pr_id (fun F117 s118 => ⟨_, rfl⟩)) (fun z119 F120 w121 s122 h123 => by obtain ⟨o125, e126⟩ := h123; subst e126; exact b_set (ev_op vl_mod (ev_prjO rfl emb_id (prj_s (prj_s prj_1))) (ev_var (rInt.mono (s4.trans s122) rmany) rfl)) fun v130 x131 F132 s133 r134 => b_σ (σ' := [some vtape, some vmany, some v1, o125, some v130]) rfl (b_setH rfl emb_id (pst_s (pst_s pst_1)) (ev_op vl_div (ev_prjO rfl emb_id (prj_s (prj_s prj_1))) (ev_var (rInt.mono ((s4.trans s122).trans s133) rmany) rfl)) (b_ret pr_id (ev_var r134 rfl)))))
/-! _law_outs -/
abbrev s_law_outs : Stmt := top 31
abbrev N_law_outs : List Str := ["tape", "many", "small", "outs", "k", "target", "parts"]
theorem sc_law_outs : FnScope N_law_outs ["tape", "many", "small"] (defScope s_law_outs) := ⟨rfl, rfl, rfl, by decide +kernel, rfl, by decide +kernel, by decide +kernel⟩
def m_law_outs (xmany : Int) (xsmall : Bool) : M Tape (List Out) := bnd (bnd (ret ([] : List Out)) fun a1 => lft (few a1)) (nw (bnd (bnd (bnd (ret (1 : Int)) fun a27 => bnd (bnd (bnd (bnd (bnd (bnd (ret ()) fun a11 => bnd (ret (2 : Int)) fun b12 => ret (a11, b12)) fun a13 => zm (fun s => s.1) (fun s t => (t, s.2)) (m_law_draw a13.2)) fun a19 => bnd (bnd (bnd (bnd (ret ()) fun a14 => bnd (ret (3 : Int)) fun b15 => ret (a14, b15)) fun a16 => zm (fun s => s.1) (fun s t => (t, s.2)) (m_law_draw a16.2)) fun a17 => bnd (ret []) fun b18 => ret (a17 :: b18)) fun b20 => ret (a19 :: b20)) fun a21 => lft (few a21)) fun a25 => bnd (bnd (bnd (ret ()) fun a22 => bnd (ret (2 : Int)) fun b23 => ret (a22, b23)) fun a24 => zm (fun s => s.1) (fun s t => (t, s.2)) (m_law_draw a24.2)) fun b26 => lft (atI a25 b26)) fun b28 => lft (some (a27 + b28))) fun a29 => lft (rng 0 a29)) fun q139 => bnd (fd (fun z32 x33 => bnd (bnd (bnd (bnd (ret (none : (Option Int))) fun a60 => bnd (bnd (bnd (bnd (bnd (ret ()) fun a50 => bnd (ret xmany) fun b51 => ret (a50, b51)) fun a52 => zm (fun s => s.1) (fun s t => (t, s.2)) (m_law_draw a52.2)) fun a => ret (some a)) fun a58 => bnd (bnd (bnd (bnd (bnd (ret ()) fun a53 => bnd (ret xmany) fun b54 => ret (a53, b54)) fun a55 => zm (fun s => s.1) (fun s t => (t, s.2)) (m_law_draw a55.2)) fun a => ret (some a)) fun a56 => bnd (ret []) fun b57 => ret (a56 :: b57)) fun b59 => ret (a58 :: b59)) fun b61 => ret (a60 :: b61)) fun a62 => lft (few a62)) fun a66 => bnd (bnd (bnd (ret ()) fun a63 => bnd (ret (3 : Int)) fun b64 => ret (a63, b64)) fun a65 => zm (fun s => s.1) (fun s t => (t, s.2)) (m_law_draw a65.2)) fun b67 => lft (atI a66 b67)) fun x69 => bnd (bnd (bnd (bnd (bnd (bnd (ret ()) fun a87 => bnd (ret (3 : Int)) fun b88 => ret (a87, b88)) fun a89 => zm (fun s => s.1) (fun s t => (t, s.2)) (m_law_draw a89.2)) fun a103 => bnd (bnd (bnd (bnd (ret ()) fun a98 => bnd (bnd (bnd (bnd (ret (60 : Int)) fun a92 => bnd (bnd (ret (3 : Int)) fun a90 => bnd (ret []) fun b91 => ret (a90 :: b91)) fun b93 => ret (a92 :: b93)) fun a94 => lft (few a94)) fun a96 => bnd (bnd (ret xsmall) fun a95 => lft (some (intB a95))) fun b97 => lft (atI a96 b97)) fun b99 => ret (a98, b99)) fun a100 => zm (fun s => s.1) (fun s t => (t, s.2)) (m_law_draw a100.2)) fun a101 => bnd (ret []) fun b102 => ret (a101 :: b102)) fun b104 => ret (a103 :: b104)) fun a105 => lft (few a105)) fun a111 => bnd (bnd (bnd (bnd (ret ()) fun a106 => bnd (ret (4 : Int)) fun b107 => ret (a106, b107)) fun a108 => zm (fun s => s.1) (fun s t => (t, s.2)) (m_law_draw a108.2)) fun a109 => bnd (ret (3 : Int)) fun b110 => lft (divI a109 b110)) fun b112 => lft (atI a111 b112)) fun x114 => bnd (bnd (ret x69) fun a120 => bnd (bnd (ret (1 : Int)) fun a118 => bnd (ret x114) fun b119 => lft (some (a118 + b119))) fun b121 => ret (a120, b121)) fun a124 => bnd (upL (fun s => s.2) (fun s t => (s.1, t)) fun b125 => app b125 a124) fun _ => fun s => some ((), s)) () q139) fun z126 => bnd (gtL (fun s => s.2) fun a135 => some a135) fun x136 s => some (x136, s.1)))
abbrev sp_law_outs : Sp := spS (fun v => (arC (rV v) (arC rInt (arOne rBool)))) (fun v => oLh tapeA v) (rTup rOut) (fun x => m_law_outs x.2.1 x.2.2)
theorem ok_law_outs {f : Addr} {fd : FuncData} (F : Fun K "_law_outs" "_law_outs" s_law_outs f fd) (T : Txt K mg) (c_law_draw : Kn P w K mg base CX0 1 "_law_draw" ["tape", "many"] sp_law_draw) : FnOk P w K mg base CX0 2 f fd ["tape", "many", "small"] sp_law_outs := by
  refine F.ok sc_law_outs (fun vs H Q E h => ?_) (fun cdv A outer s H vs Q E hr h => ?_)
  · obtain ⟨i, F, O, c, x, s, b, s1, ⟨_, _, rfl, _, ⟨_, _, rfl, _, ⟨_, rfl, _⟩⟩⟩, _⟩ := h; rfl
  · obtain ⟨i0, F, O, c, ⟨_, xmany, xsmall⟩, s, b, s1, ⟨vtape, _, rfl, rfl, ⟨vmany, _, rfl, rmany, ⟨vsmall, rfl, rsmall⟩⟩⟩, ho, W, hm, k⟩ := h
    replace rmany : rInt.r F vmany xmany := rmany
    replace rsmall : rBool.r F vsmall xsmall := rsmall
    replace hm : m_law_outs xmany xsmall s = some (b, s1) := hm
    refine ⟨_, (pss_cons (ps_set (i := 3) sc_law_outs.nd rfl (Or.inl rfl) (pe_lst pa_nil)) (pss_cons (ps_for PassesOwn.never (by rfl) (pi_range1 (by rfl) T.range (pa_cons (pe_op op_add pe_int (pe_ix (kix_list (K := K)) (pe_lst (pa_cons (pe_kn c_law_draw hr (by decide) (by rfl) (pa_cons (pv 0) (pa_cons pe_int pa_nil))) (pa_cons (pe_kn c_law_draw hr (by decide) (by rfl) (pa_cons (pv 0) (pa_cons pe_int pa_nil))) pa_nil))) (pe_kn c_law_draw hr (by decide) (by rfl) (pa_cons (pv 0) (pa_cons pe_int pa_nil))) (fun _ _ => rfl))) pa_nil)) (pg_name (i := 4) sc_law_outs.nd rfl (by first | exact Or.inl rfl | exact Or.inr rfl)) (pss_cons (ps_set (i := 5) sc_law_outs.nd rfl (Or.inl rfl) (pe_ix (kix_list (K := K)) (pe_lst (pa_cons pe_non (pa_cons (pe_kn c_law_draw hr (by decide) (by rfl) (pa_cons (pv 0) (pa_cons (pv 1) pa_nil))) (pa_cons (pe_kn c_law_draw hr (by decide) (by rfl) (pa_cons (pv 0) (pa_cons (pv 1) pa_nil))) pa_nil)))) (pe_kn c_law_draw hr (by decide) (by rfl) (pa_cons (pv 0) (pa_cons pe_int pa_nil))) (fun _ _ => rfl))) (pss_cons (ps_set (i := 6) sc_law_outs.nd rfl (Or.inl rfl) (pe_ix (kix_list (K := K)) (pe_lst (pa_cons (pe_kn c_law_draw hr (by decide) (by rfl) (pa_cons (pv 0) (pa_cons pe_int pa_nil))) (pa_cons (pe_kn c_law_draw hr (by decide) (by rfl) (pa_cons (pv 0) (pa_cons (pe_ix (kix_list (K := K)) (pe_lst (pa_cons pe_int (pa_cons pe_int pa_nil))) (pe_callTy call_int1 (by rfl) T.int (by decide +kernel) (pa_cons (pv 2) pa_nil)) (fun _ _ => rfl)) pa_nil))) pa_nil))) (pe_op op_fdivW (pe_kn c_law_draw hr (by decide) (by rfl) (pa_cons (pv 0) (pa_cons pe_int pa_nil))) pe_int) (fun _ _ => rfl))) (pss_cons (ps_expr (kpe_bm (K := K) PySem.F.plainAttrs_list PySem.F.slot_list_append PySem.F.type_list_append mt_append (pv 3) (pa_cons (pe_tup (pa_cons (pv 5) (pa_cons (pe_op op_add pe_int (pv 6)) pa_nil))) pa_nil))) pss_nil)))) (pss_cons (ps_ret (pe_callTy (kc_tuple (K := K)) (by rfl) T.tuple (by decide +kernel) (pa_cons (pv 3) pa_nil))) pss_nil))), ?_⟩
    refine ok_S W ho hm k ?_
    show B _ [some vtape, some vmany, some vsmall, none, none, none, none] F (oLh tapeA vtape) _ _
    exact b_new (eo_lst (eal_nil (R := rOut))) fun v2 F3 s4 => b_σ (σ' := [some vtape, some vmany, some vsmall, some v2, none, none, none]) rfl (b_for (z0 := ()) (Sl := (fun (z : Unit) (F : Hp) (σ : L2.St) => ∃ (u1 : Option V) (u2 : Option V) (u3 : Option V), σ = [some vtape, some vmany, some vsmall, some v2, u1, u2, u3])) (ei_rng1 (ev_op vl_add ev_int (ev_op vl_ixL (ev_frz (eo_lst (eal_cons (ev_callS vtape (emb_l emb_id) (ea_cons (ev_var (R := rV vtape) (x := ()) rfl rfl) (ea_one ev_int))) (eal_cons (ev_callS vtape (emb_l emb_id) (ea_cons (ev_var (R := rV vtape) (x := ()) rfl rfl) (ea_one ev_int))) eal_nil)))) (ev_callS vtape (emb_l emb_id) (ea_cons (ev_var (R := rV vtape) (x := ()) rfl rfl) (ea_one ev_int)))))) (fun F137 s138 => ⟨_, _, _, rfl⟩) (fun z32 x33 v34 F35 w36 s37 h38 r39 => by obtain ⟨o40, o41, o42, e43⟩ := h38; subst e43; exact b_go go_name (fun _ k => by subst k; exact b_σ (σ' := [some vtape, some vmany, some vsmall, some v2, some v34, o41, o42]) rfl (b_set (R := (rOpt rInt)) (ev_op vl_ixL (ev_frz (eo_lst (eal_cons (ev_nonO (R := rInt)) (eal_cons (ev_opt (ev_callS vtape (emb_l emb_id) (ea_cons (ev_var (R := rV vtape) (x := ()) rfl rfl) (ea_one (ev_var (rInt.mono (s4.trans s37) rmany) rfl))))) (eal_cons (ev_opt (ev_callS vtape (emb_l emb_id) (ea_cons (ev_var (R := rV vtape) (x := ()) rfl rfl) (ea_one (ev_var (rInt.mono (s4.trans s37) rmany) rfl))))) eal_nil))))) (ev_callS vtape (emb_l emb_id) (ea_cons (ev_var (R := rV vtape) (x := ()) rfl rfl) (ea_one ev_int)))) fun v68 x69 F70 s71 r72 => b_σ (σ' := [some vtape, some vmany, some vsmall, some v2, some v34, some v68, o42]) rfl (b_set (ev_op vl_ixL (ev_frz (eo_lst (eal_cons (ev_callS vtape (emb_l emb_id) (ea_cons (ev_var (R := rV vtape) (x := ()) rfl rfl) (ea_one ev_int))) (eal_cons (ev_callS vtape (emb_l emb_id) (ea_cons (ev_var (R := rV vtape) (x := ()) rfl rfl) (ea_one (ev_op vl_ixL (ev_frz (eo_lst (eal_cons ev_int (eal_cons ev_int eal_nil)))) (ev_cb vl_intB (ea_one (ev_var (rBool.mono ((s4.trans s37).trans s71) rsmall) rfl))))))) eal_nil)))) (ev_op vl_div (ev_callS vtape (emb_l emb_id) (ea_cons (ev_var (R := rV vtape) (x := ()) rfl rfl) (ea_one ev_int))) ev_int)) fun v113 x114 F115 s116 r117 => b_σ (σ' := [some vtape, some vmany, some vsmall, some v2, some v34, some v68, some v113]) rfl (b_app rfl (emb_r emb_id) (ev_tup (by decide) (ea_cons (ev_var ((rOpt rInt).mono s116 r72) rfl) (ea_one (ev_op vl_add ev_int (ev_var r117 rfl))))) (b_nx pr_id (fun F122 s123 => ⟨_, _, _, rfl⟩))))))) (fun z126 F127 w128 s129 h130 => by obtain ⟨o131, o132, o133, e134⟩ := h130; subst e134; exact b_ret (pr_l pr_id) (ev_cbO vh_tuple rfl (emb_r emb_id))) (fun _ _ _ _ s ⟨a0, a1, a2, e⟩ => ⟨a0, a1, a2, e⟩))
/-! _law_vessel -/
abbrev s_law_vessel : Stmt := top 32
abbrev N_law_vessel : List Str := ["tape", "number", "many", "spouts", "small", "size", "brim", "spill", "acts", "k"]
theorem sc_law_vessel : FnScope N_law_vessel ["tape", "number", "many", "spouts", "small"] (defScope s_law_vessel) := ⟨rfl, rfl, rfl, by decide +kernel, rfl, by decide +kernel, by decide +kernel⟩
def m_law_vessel (xnumber : Int) (xmany : Int) (xspouts : Int) (xsmall : Bool) : M Tape Vessel := bnd (bnd (ret (1 : Int)) fun a57 => bnd (bnd (bnd (bnd (bnd (bnd (ret ()) fun a31 => bnd (bnd (bnd (bnd (ret (9 : Int)) fun a25 => bnd (bnd (ret (4 : Int)) fun a23 => bnd (ret []) fun b24 => ret (a23 :: b24)) fun b26 => ret (a25 :: b26)) fun a27 => lft (few a27)) fun a29 => bnd (bnd (ret xsmall) fun a28 => lft (some (intB a28))) fun b30 => lft (atI a29 b30)) fun b32 => ret (a31, b32)) fun a33 => zm (fun s => s) (fun s t => t) (m_law_draw a33.2)) fun a47 => bnd (bnd (bnd (bnd (ret ()) fun a42 => bnd (bnd (bnd (bnd (ret (60 : Int)) fun a36 => bnd (bnd (ret (4 : Int)) fun a34 => bnd (ret []) fun b35 => ret (a34 :: b35)) fun b37 => ret (a36 :: b37)) fun a38 => lft (few a38)) fun a40 => bnd (bnd (ret xsmall) fun a39 => lft (some (intB a39))) fun b41 => lft (atI a40 b41)) fun b43 => ret (a42, b43)) fun a44 => zm (fun s => s) (fun s t => t) (m_law_draw a44.2)) fun a45 => bnd (ret []) fun b46 => ret (a45 :: b46)) fun b48 => ret (a47 :: b48)) fun a49 => lft (few a49)) fun a55 => bnd (bnd (bnd (bnd (ret ()) fun a50 => bnd (ret (4 : Int)) fun b51 => ret (a50, b51)) fun a52 => zm (fun s => s) (fun s t => t) (m_law_draw a52.2)) fun a53 => bnd (ret (3 : Int)) fun b54 => lft (divI a53 b54)) fun b56 => lft (atI a55 b56)) fun b58 => lft (some (a57 + b58))) fun x60 => bnd (bnd (ret x60) fun a88 => bnd (bnd (bnd (bnd (ret (0 : Int)) fun a76 => bnd (bnd (bnd (bnd (ret ()) fun a71 => bnd (bnd (ret (201 : Int)) fun a69 => bnd (ret x60) fun b70 => lft (some (a69 - b70))) fun b72 => ret (a71, b72)) fun a73 => zm (fun s => s) (fun s t => t) (m_law_draw a73.2)) fun a74 => bnd (ret []) fun b75 => ret (a74 :: b75)) fun b77 => ret (a76 :: b77)) fun a78 => lft (few a78)) fun a86 => bnd (bnd (bnd (bnd (ret ()) fun a79 => bnd (ret (2 : Int)) fun b80 => ret (a79, b80)) fun a81 => zm (fun s => s) (fun s t => t) (m_law_draw a81.2)) fun a84 => bnd (bnd (bnd (ret xsmall) fun b82 => ret (!b82)) fun a83 => lft (some (intB a83))) fun b85 => lft (mulI a84 b85)) fun b87 => lft (atI a86 b87)) fun b89 => lft (some (a88 + b89))) fun x91 => bnd (bnd (bnd (bnd (bnd (ret ()) fun a95 => bnd (ret (2 : Int)) fun b96 => ret (a95, b96)) fun a97 => zm (fun s => s) (fun s t => t) (m_law_draw a97.2)) fun a98 => bnd (ret (0 : Int)) fun b99 => lft (some (decide (a98 = b99)))) fun b100 => bif b100 then (bnd (bnd (ret x60) fun a104 => bnd (bnd (bnd (ret ()) fun a101 => bnd (ret (3 : Int)) fun b102 => ret (a101, b102)) fun a103 => zm (fun s => s) (fun s t => t) (m_law_draw a103.2)) fun b105 => lft (some (a104 + b105))) fun x107 => fun s => some (x107, s)) else (fun s => some (x91, s))) fun z115 => bnd (ret (none : (Option Int))) fun x125 => bnd (bnd (bnd (bnd (bnd (ret xnumber) fun a129 => bnd (ret (1 : Int)) fun b130 => lft (some (a129 + b130))) fun a131 => bnd (ret xmany) fun b132 => lft (some (decide (a131 < b132)))) fun b138 => bif b138 then (bnd (bnd (bnd (ret ()) fun a133 => bnd (ret (2 : Int)) fun b134 => ret (a133, b134)) fun a135 => zm (fun s => s) (fun s t => t) (m_law_draw a135.2)) fun a136 => bnd (ret (0 : Int)) fun b137 => lft (some (decide (a136 = b137)))) else ret false) fun b139 => bif b139 then (bnd (bnd (bnd (bnd (ret xnumber) fun a140 => bnd (ret (1 : Int)) fun b141 => lft (some (a140 + b141))) fun a149 => bnd (bnd (bnd (ret ()) fun a146 => bnd (bnd (bnd (ret xmany) fun a142 => bnd (ret xnumber) fun b143 => lft (some (a142 - b143))) fun a144 => bnd (ret (1 : Int)) fun b145 => lft (some (a144 - b145))) fun b147 => ret (a146, b147)) fun a148 => zm (fun s => s) (fun s t => t) (m_law_draw a148.2)) fun b150 => lft (some (a149 + b150))) fun a => ret (some a)) fun x152 => fun s => some (x152, s)) else (fun s => some (x125, s))) fun z160 => bnd (bnd (ret ([] : List Act)) fun a169 => lft (few a169)) (nw (bnd (bnd (bnd (ret xspouts) fun a173 => bnd (ret (0 : Int)) fun b174 => lft (some (decide (b174 < a173)))) fun b175 => bif b175 then (bnd (bnd (bnd (bnd (bnd (ret ()) fun a176 => bnd (ret (11 : Int)) fun b177 => ret (a176, b177)) fun a178 => zm (fun s => s.1) (fun s t => (t, s.2)) (m_law_draw a178.2)) fun a179 => bnd (ret (3 : Int)) fun b180 => lft (divI a179 b180)) fun a181 => lft (rng 0 a181)) fun q226 => bnd (fd (fun z184 x185 => bnd (bnd (bnd (bnd (bnd (ret ("open" : Str)) fun a198 => bnd (bnd (ret ("shut" : Str)) fun a196 => bnd (bnd (ret ("turn" : Str)) fun a194 => bnd (ret []) fun b195 => ret (a194 :: b195)) fun b197 => ret (a196 :: b197)) fun b199 => ret (a198 :: b199)) fun a200 => lft (few a200)) fun a204 => bnd (bnd (bnd (ret ()) fun a201 => bnd (ret (3 : Int)) fun b202 => ret (a201, b202)) fun a203 => zm (fun s => s.1) (fun s t => (t, s.2)) (m_law_draw a203.2)) fun b205 => lft (atI a204 b205)) fun a209 => bnd (bnd (bnd (ret ()) fun a206 => bnd (ret xspouts) fun b207 => ret (a206, b207)) fun a208 => zm (fun s => s.1) (fun s t => (t, s.2)) (m_law_draw a208.2)) fun b210 => ret (a209, b210)) fun a213 => bnd (upL (fun s => s.2) (fun s t => (s.1, t)) fun b214 => app b214 a213) fun _ => fun s => some ((), s)) () q226) fun z215 => fun s => some ((), s)) else (fun s => some ((), s))) fun z229 => bnd (bnd (ret x60) fun a256 => bnd (bnd (ret z115) fun a254 => bnd (bnd (bnd (bnd (ret ()) fun a239 => bnd (bnd (ret xmany) fun a237 => bnd (ret xsmall) fun b238 => ret (a237, b238)) fun b240 => ret (a239, b240)) fun a241 => zm (fun s => s.1) (fun s t => (t, s.2)) (m_law_outs a241.2.1 a241.2.2)) fun a252 => bnd (bnd (bnd (bnd (bnd (ret ()) fun a242 => bnd (ret (2 : Int)) fun b243 => ret (a242, b243)) fun a244 => zm (fun s => s.1) (fun s t => (t, s.2)) (m_law_draw a244.2)) fun a245 => bnd (ret (1 : Int)) fun b246 => lft (some (decide (a245 = b246)))) fun a250 => bnd (bnd (ret z160) fun a248 => bnd (gtL (fun s => s.2) fun a247 => some a247) fun b249 => ret (a248, b249)) fun b251 => ret (a250, b251)) fun b253 => ret (a252, b253)) fun b255 => ret (a254, b255)) fun b257 => ret (a256, b257)) fun x258 s => some (x258, s.1)))
abbrev sp_law_vessel : Sp := spS (fun v => (arC (rV v) (arC rInt (arC rInt (arC rInt (arOne rBool)))))) (fun v => oLh tapeA v) rVessel (fun x => m_law_vessel x.2.1 x.2.2.1 x.2.2.2.1 x.2.2.2.2)
theorem ok_law_vessel {f : Addr} {fd : FuncData} (F : Fun K "_law_vessel" "_law_vessel" s_law_vessel f fd) (T : Txt K mg) (c_law_draw : Kn P w K mg base CX0 1 "_law_draw" ["tape", "many"] sp_law_draw) (c_law_outs : Kn P w K mg base CX0 2 "_law_outs" ["tape", "many", "small"] sp_law_outs) : FnOk P w K mg base CX0 3 f fd ["tape", "number", "many", "spouts", "small"] sp_law_vessel := by
  refine F.ok sc_law_vessel (fun vs H Q E h => ?_) (fun cdv A outer s H vs Q E hr h => ?_)
  · obtain ⟨i, F, O, c, x, s, b, s1, ⟨_, _, rfl, _, ⟨_, _, rfl, _, ⟨_, _, rfl, _, ⟨_, _, rfl, _, ⟨_, rfl, _⟩⟩⟩⟩⟩, _⟩ := h; rfl
  · obtain ⟨i0, F, O, c, ⟨_, xnumber, xmany, xspouts, xsmall⟩, s, b, s1, ⟨vtape, _, rfl, rfl, ⟨vnumber, _, rfl, rnumber, ⟨vmany, _, rfl, rmany, ⟨vspouts, _, rfl, rspouts, ⟨vsmall, rfl, rsmall⟩⟩⟩⟩⟩, ho, W, hm, k⟩ := h
    replace rnumber : rInt.r F vnumber xnumber := rnumber
    replace rmany : rInt.r F vmany xmany := rmany
    replace rspouts : rInt.r F vspouts xspouts := rspouts
    replace rsmall : rBool.r F vsmall xsmall := rsmall
    replace hm : m_law_vessel xnumber xmany xspouts xsmall s = some (b, s1) := hm
    refine ⟨_, (pss_cons (ps_set (i := 5) sc_law_vessel.nd rfl (Or.inl rfl) (pe_op op_add pe_int (pe_ix (kix_list (K := K)) (pe_lst (pa_cons (pe_kn c_law_draw hr (by decide) (by rfl) (pa_cons (pv 0) (pa_cons (pe_ix (kix_list (K := K)) (pe_lst (pa_cons pe_int (pa_cons pe_int pa_nil))) (pe_callTy call_int1 (by rfl) T.int (by decide +kernel) (pa_cons (pv 4) pa_nil)) (fun _ _ => rfl)) pa_nil))) (pa_cons (pe_kn c_law_draw hr (by decide) (by rfl) (pa_cons (pv 0) (pa_cons (pe_ix (kix_list (K := K)) (pe_lst (pa_cons pe_int (pa_cons pe_int pa_nil))) (pe_callTy call_int1 (by rfl) T.int (by decide +kernel) (pa_cons (pv 4) pa_nil)) (fun _ _ => rfl)) pa_nil))) pa_nil))) (pe_op op_fdivW (pe_kn c_law_draw hr (by decide) (by rfl) (pa_cons (pv 0) (pa_cons pe_int pa_nil))) pe_int) (fun _ _ => rfl)))) (pss_cons (ps_set (i := 6) sc_law_vessel.nd rfl (Or.inl rfl) (pe_op op_add (pv 5) (pe_ix (kix_list (K := K)) (pe_lst (pa_cons pe_int (pa_cons (pe_kn c_law_draw hr (by decide) (by rfl) (pa_cons (pv 0) (pa_cons (pe_op op_sub pe_int (pv 5)) pa_nil))) pa_nil))) (pe_op op_mul (pe_kn c_law_draw hr (by decide) (by rfl) (pa_cons (pv 0) (pa_cons pe_int pa_nil))) (pe_callTy call_int1 (by rfl) T.int (by decide +kernel) (pa_cons (pe_not (pv 4)) pa_nil))) (fun _ _ => rfl)))) (Evl.pss_cut (ps_if (pt_cmpR op_eq (pe_kn c_law_draw hr (by decide) (by rfl) (pa_cons (pv 0) (pa_cons pe_int pa_nil))) pe_int (nomark _)) (pss_cons (ps_set (i := 6) sc_law_vessel.nd rfl (Or.inl rfl) (pe_op op_add (pv 5) (pe_kn c_law_draw hr (by decide) (by rfl) (pa_cons (pv 0) (pa_cons pe_int pa_nil))))) pss_nil) pss_nil) (pss_cons (ps_set (i := 7) sc_law_vessel.nd rfl (Or.inl rfl) pe_non) (Evl.pss_cut (ps_if (PW.pt (pw_and (pt_cmpR op_lt (pe_op op_add (pv 1) pe_int) (pv 2) (nomark _)) (pw_and1 (pt_cmpR op_eq (pe_kn c_law_draw hr (by decide) (by rfl) (pa_cons (pv 0) (pa_cons pe_int pa_nil))) pe_int (nomark _))))) (pss_cons (ps_set (i := 7) sc_law_vessel.nd rfl (Or.inl rfl) (pe_op op_add (pe_op op_add (pv 1) pe_int) (pe_kn c_law_draw hr (by decide) (by rfl) (pa_cons (pv 0) (pa_cons (pe_op op_sub (pe_op op_sub (pv 2) (pv 1)) pe_int) pa_nil))))) pss_nil) pss_nil) (pss_cons (ps_set (i := 8) sc_law_vessel.nd rfl (Or.inl rfl) (pe_lst pa_nil)) (Evl.pss_cut (ps_if (pt_cmpR op_gt (pv 3) pe_int (nomark _)) (pss_cons (ps_for PassesOwn.never (by rfl) (pi_range1 (by rfl) T.range (pa_cons (pe_op op_fdivW (pe_kn c_law_draw hr (by decide) (by rfl) (pa_cons (pv 0) (pa_cons pe_int pa_nil))) pe_int) pa_nil)) (pg_name (i := 9) sc_law_vessel.nd rfl (by first | exact Or.inl rfl | exact Or.inr rfl)) (pss_cons (ps_expr (kpe_bm (K := K) PySem.F.plainAttrs_list PySem.F.slot_list_append PySem.F.type_list_append mt_append (pv 8) (pa_cons (pe_tup (pa_cons (pe_ix (kix_list (K := K)) (pe_lst (pa_cons pe_str (pa_cons pe_str (pa_cons pe_str pa_nil)))) (pe_kn c_law_draw hr (by decide) (by rfl) (pa_cons (pv 0) (pa_cons pe_int pa_nil))) (fun _ _ => rfl)) (pa_cons (pe_kn c_law_draw hr (by decide) (by rfl) (pa_cons (pv 0) (pa_cons (pv 3) pa_nil))) pa_nil))) pa_nil))) pss_nil)) pss_nil) pss_nil) (pss_cons (ps_ret (pe_tup (pa_cons (pv 5) (pa_cons (pv 6) (pa_cons (pe_kn c_law_outs hr (by decide) (by rfl) (pa_cons (pv 0) (pa_cons (pv 2) (pa_cons (pv 4) pa_nil)))) (pa_cons (pe_cmpR op_eq (pe_kn c_law_draw hr (by decide) (by rfl) (pa_cons (pv 0) (pa_cons pe_int pa_nil))) pe_int (nomark _)) (pa_cons (pv 7) (pa_cons (pe_callTy (kc_tuple (K := K)) (by rfl) T.tuple (by decide +kernel) (pa_cons (pv 8) pa_nil)) pa_nil)))))))) pss_nil)))))))), ?_⟩
    refine ok_S W ho hm k ?_
    show B _ [some vtape, some vnumber, some vmany, some vspouts, some vsmall, none, none, none, none, none] F (oLh tapeA vtape) _ _
    exact b_set (ev_op vl_add ev_int (ev_op vl_ixL (ev_frz (eo_lst (eal_cons (ev_callS vtape emb_id (ea_cons (ev_var (R := rV vtape) (x := ()) rfl rfl) (ea_one (ev_op vl_ixL (ev_frz (eo_lst (eal_cons ev_int (eal_cons ev_int eal_nil)))) (ev_cb vl_intB (ea_one (ev_var rsmall rfl))))))) (eal_cons (ev_callS vtape emb_id (ea_cons (ev_var (R := rV vtape) (x := ()) rfl rfl) (ea_one (ev_op vl_ixL (ev_frz (eo_lst (eal_cons ev_int (eal_cons ev_int eal_nil)))) (ev_cb vl_intB (ea_one (ev_var rsmall rfl))))))) eal_nil)))) (ev_op vl_div (ev_callS vtape emb_id (ea_cons (ev_var (R := rV vtape) (x := ()) rfl rfl) (ea_one ev_int))) ev_int))) fun v59 x60 F61 s62 r63 => b_σ (σ' := [some vtape, some vnumber, some vmany, some vspouts, some vsmall, some v59, none, none, none, none]) rfl (b_set (ev_op vl_add (ev_var r63 rfl) (ev_op vl_ixL (ev_frz (eo_lst (eal_cons ev_int (eal_cons (ev_callS vtape emb_id (ea_cons (ev_var (R := rV vtape) (x := ()) rfl rfl) (ea_one (ev_op vl_sub ev_int (ev_var r63 rfl))))) eal_nil)))) (ev_op vl_mul (ev_callS vtape emb_id (ea_cons (ev_var (R := rV vtape) (x := ()) rfl rfl) (ea_one ev_int))) (ev_cb vl_intB (ea_one (ev_not (ev_var (rBool.mono s62 rsmall) rfl))))))) fun v90 x91 F92 s93 r94 => b_σ (σ' := [some vtape, some vnumber, some vmany, some vspouts, some vsmall, some v59, some v90, none, none, none]) rfl (b_ifJ (Sl := (fun (z : Int) (F : Hp) (σ : L2.St) => ∃ (u1 : V), σ = [some vtape, some vnumber, some vmany, some vspouts, some vsmall, some v59, some u1, none, none, none] ∧ rInt.r F u1 z)) (et_test (ev_op vl_eqI (ev_callS vtape emb_id (ea_cons (ev_var (R := rV vtape) (x := ()) rfl rfl) (ea_one ev_int))) ev_int)) (b_set (ev_op vl_add (ev_var (rInt.mono s93 r63) rfl) (ev_callS vtape emb_id (ea_cons (ev_var (R := rV vtape) (x := ()) rfl rfl) (ea_one ev_int)))) fun v106 x107 F108 s109 r110 => b_σ (σ' := [some vtape, some vnumber, some vmany, some vspouts, some vsmall, some v59, some v106, none, none, none]) rfl (b_nx pr_id (fun F111 s112 => ⟨v106, rfl, (rInt.mono s112 r110)⟩))) (b_nx pr_id (fun F113 s114 => ⟨v90, rfl, (rInt.mono s114 r94)⟩)) (fun z115 F116 w117 s118 h119 => by obtain ⟨v121, e122, r123⟩ := h119; subst e122; exact b_set (R := (rOpt rInt)) (ev_nonO (R := rInt)) fun v124 x125 F126 s127 r128 => b_σ (σ' := [some vtape, some vnumber, some vmany, some vspouts, some vsmall, some v59, some v121, some v124, none, none]) rfl (b_ifJ (Sl := (fun (z : (Option Int)) (F : Hp) (σ : L2.St) => ∃ (u1 : V), σ = [some vtape, some vnumber, some vmany, some vspouts, some vsmall, some v59, some v121, some u1, none, none] ∧ (rOpt rInt).r F u1 z)) (et_and (et_test (ev_op vl_lt (ev_op vl_add (ev_var (rInt.mono (((s62.trans s93).trans s118).trans s127) rnumber) rfl) ev_int) (ev_var (rInt.mono (((s62.trans s93).trans s118).trans s127) rmany) rfl))) (et_test (ev_op vl_eqI (ev_callS vtape emb_id (ea_cons (ev_var (R := rV vtape) (x := ()) rfl rfl) (ea_one ev_int))) ev_int))) (b_set (R := (rOpt rInt)) (ev_opt (ev_op vl_add (ev_op vl_add (ev_var (rInt.mono (((s62.trans s93).trans s118).trans s127) rnumber) rfl) ev_int) (ev_callS vtape emb_id (ea_cons (ev_var (R := rV vtape) (x := ()) rfl rfl) (ea_one (ev_op vl_sub (ev_op vl_sub (ev_var (rInt.mono (((s62.trans s93).trans s118).trans s127) rmany) rfl) (ev_var (rInt.mono (((s62.trans s93).trans s118).trans s127) rnumber) rfl)) ev_int)))))) fun v151 x152 F153 s154 r155 => b_σ (σ' := [some vtape, some vnumber, some vmany, some vspouts, some vsmall, some v59, some v121, some v151, none, none]) rfl (b_nx pr_id (fun F156 s157 => ⟨v151, rfl, ((rOpt rInt).mono s157 r155)⟩))) (b_nx pr_id (fun F158 s159 => ⟨v124, rfl, ((rOpt rInt).mono s159 r128)⟩)) (fun z160 F161 w162 s163 h164 => by obtain ⟨v166, e167, r168⟩ := h164; subst e167; exact b_new (eo_lst (eal_nil (R := rAct))) fun v170 F171 s172 => b_σ (σ' := [some vtape, some vnumber, some vmany, some vspouts, some vsmall, some v59, some v121, some v166, some v170, none]) rfl (b_ifJ (Sl := (fun (z : Unit) (F : Hp) (σ : L2.St) => ∃ (u1 : Option V), σ = [some vtape, some vnumber, some vmany, some vspouts, some vsmall, some v59, some v121, some v166, some v170, u1])) (et_test (ev_op vl_gt (ev_var (rInt.mono (((((s62.trans s93).trans s118).trans s127).trans s163).trans s172) rspouts) rfl) ev_int)) (b_for (z0 := ()) (Sl := (fun (z : Unit) (F : Hp) (σ : L2.St) => ∃ (u1 : Option V), σ = [some vtape, some vnumber, some vmany, some vspouts, some vsmall, some v59, some v121, some v166, some v170, u1])) (ei_rng1 (ev_op vl_div (ev_callS vtape (emb_l emb_id) (ea_cons (ev_var (R := rV vtape) (x := ()) rfl rfl) (ea_one ev_int))) ev_int)) (fun F224 s225 => ⟨_, rfl⟩) (fun z184 x185 v186 F187 w188 s189 h190 r191 => by obtain ⟨o192, e193⟩ := h190; subst e193; exact b_go go_name (fun _ k => by subst k; exact b_σ (σ' := [some vtape, some vnumber, some vmany, some vspouts, some vsmall, some v59, some v121, some v166, some v170, some v186]) rfl (b_app rfl (emb_r emb_id) (ev_tup (by decide) (ea_cons (ev_op vl_ixL (ev_frz (eo_lst (eal_cons ev_str (eal_cons ev_str (eal_cons ev_str eal_nil))))) (ev_callS vtape (emb_l emb_id) (ea_cons (ev_var (R := rV vtape) (x := ()) rfl rfl) (ea_one ev_int)))) (ea_one (ev_callS vtape (emb_l emb_id) (ea_cons (ev_var (R := rV vtape) (x := ()) rfl rfl) (ea_one (ev_var (rInt.mono ((((((s62.trans s93).trans s118).trans s127).trans s163).trans s172).trans s189) rspouts) rfl))))))) (b_nx pr_id (fun F211 s212 => ⟨_, rfl⟩))))) (fun z215 F216 w217 s218 h219 => by obtain ⟨o220, e221⟩ := h219; subst e221; exact b_nx pr_id (fun F222 s223 => ⟨_, rfl⟩)) (fun _ _ _ _ s ⟨a0, e⟩ => ⟨a0, e⟩)) (b_nx pr_id (fun F227 s228 => ⟨_, rfl⟩)) (fun z229 F230 w231 s232 h233 => by obtain ⟨o235, e236⟩ := h233; subst e236; exact b_ret (pr_l pr_id) (ev_tup (by decide) (ea_cons (ev_var (rInt.mono (((((s93.trans s118).trans s127).trans s163).trans s172).trans s232) r63) rfl) (ea_cons (ev_var (rInt.mono (((s127.trans s163).trans s172).trans s232) r123) rfl) (ea_cons (ev_callS vtape (emb_l emb_id) (ea_cons (ev_var (R := rV vtape) (x := ()) rfl rfl) (ea_cons (ev_var (rInt.mono ((((((s62.trans s93).trans s118).trans s127).trans s163).trans s172).trans s232) rmany) rfl) (ea_one (ev_var (rBool.mono ((((((s62.trans s93).trans s118).trans s127).trans s163).trans s172).trans s232) rsmall) rfl))))) (ea_cons (ev_op vl_eqI (ev_callS vtape (emb_l emb_id) (ea_cons (ev_var (R := rV vtape) (x := ()) rfl rfl) (ea_one ev_int))) ev_int) (ea_cons (ev_var ((rOpt rInt).mono (s172.trans s232) r168) rfl) (ea_one (ev_cbO vh_tuple rfl (emb_r emb_id))))))))))))))))
/-! _law_net -/
abbrev s_law_net : Stmt := top 33
abbrev N_law_net : List Str := ["tape", "most", "small", "many", "spouts", "vessels", "found", "k", "flow"]
theorem sc_law_net : FnScope N_law_net ["tape", "most", "small"] (defScope s_law_net) := ⟨rfl, rfl, rfl, by decide +kernel, rfl, by decide +kernel, by decide +kernel⟩
def m_law_net (xmost : Int) (xsmall : Bool) : M Tape Net := bnd (bnd (ret (1 : Int)) fun a4 => bnd (bnd (bnd (ret ()) fun a1 => bnd (ret xmost) fun b2 => ret (a1, b2)) fun a3 => zm (fun s => s) (fun s t => t) (m_law_draw a3.2)) fun b5 => lft (some (a4 + b5))) fun x7 => bnd (bnd (bnd (bnd (bnd (bnd (ret ()) fun a17 => bnd (ret (4 : Int)) fun b18 => ret (a17, b18)) fun a19 => zm (fun s => s) (fun s t => t) (m_law_draw a19.2)) fun a25 => bnd (bnd (bnd (bnd (ret ()) fun a20 => bnd (ret (13 : Int)) fun b21 => ret (a20, b21)) fun a22 => zm (fun s => s) (fun s t => t) (m_law_draw a22.2)) fun a23 => bnd (ret []) fun b24 => ret (a23 :: b24)) fun b26 => ret (a25 :: b26)) fun a27 => lft (few a27)) fun a33 => bnd (bnd (bnd (bnd (ret ()) fun a28 => bnd (ret (4 : Int)) fun b29 => ret (a28, b29)) fun a30 => zm (fun s => s) (fun s t => t) (m_law_draw a30.2)) fun a31 => bnd (ret (3 : Int)) fun b32 => lft (divI a31 b32)) fun b34 => lft (atI a33 b34)) fun x36 => bnd (bnd (bnd (ret x7) fun a40 => lft (rng 0 a40)) fun q58 => bnd (lft (chk q58)) fun q59 => mp (fun x42 => bnd (bnd (ret ()) fun a54 => bnd (bnd (ret x42) fun a52 => bnd (bnd (ret x7) fun a50 => bnd (bnd (ret x36) fun a48 => bnd (ret xsmall) fun b49 => ret (a48, b49)) fun b51 => ret (a50, b51)) fun b53 => ret (a52, b53)) fun b55 => ret (a54, b55)) fun a56 => zm (fun s => s) (fun s t => t) (m_law_vessel a56.2.1 a56.2.2.1 a56.2.2.2.1 a56.2.2.2.2)) q59) fun x61 => bnd (bnd (ret ([] : List Spout)) fun a65 => lft (few a65)) (nw (bnd (bnd (ret x36) fun a69 => lft (rng 0 a69)) fun q159 => bnd (fd (fun z72 x73 => bnd (bnd (bnd (bnd (bnd (bnd (ret ()) fun a97 => bnd (ret (4 : Int)) fun b98 => ret (a97, b98)) fun a99 => zm (fun s => s.1) (fun s t => (t, s.2)) (m_law_draw a99.2)) fun a113 => bnd (bnd (bnd (bnd (ret ()) fun a108 => bnd (bnd (bnd (bnd (ret (61 : Int)) fun a102 => bnd (bnd (ret (4 : Int)) fun a100 => bnd (ret []) fun b101 => ret (a100 :: b101)) fun b103 => ret (a102 :: b103)) fun a104 => lft (few a104)) fun a106 => bnd (bnd (ret xsmall) fun a105 => lft (some (intB a105))) fun b107 => lft (atI a106 b107)) fun b109 => ret (a108, b109)) fun a110 => zm (fun s => s.1) (fun s t => (t, s.2)) (m_law_draw a110.2)) fun a111 => bnd (ret []) fun b112 => ret (a111 :: b112)) fun b114 => ret (a113 :: b114)) fun a115 => lft (few a115)) fun a121 => bnd (bnd (bnd (bnd (ret ()) fun a116 => bnd (ret (4 : Int)) fun b117 => ret (a116, b117)) fun a118 => zm (fun s => s.1) (fun s t => (t, s.2)) (m_law_draw a118.2)) fun a119 => bnd (ret (3 : Int)) fun b120 => lft (divI a119 b120)) fun b122 => lft (atI a121 b122)) fun x124 => bnd (bnd (bnd (bnd (ret ()) fun a128 => bnd (ret x7) fun b129 => ret (a128, b129)) fun a130 => zm (fun s => s.1) (fun s t => (t, s.2)) (m_law_draw a130.2)) fun a138 => bnd (bnd (ret x124) fun a136 => bnd (bnd (bnd (bnd (ret ()) fun a131 => bnd (ret (4 : Int)) fun b132 => ret (a131, b132)) fun a133 => zm (fun s => s.1) (fun s t => (t, s.2)) (m_law_draw a133.2)) fun a134 => bnd (ret (0 : Int)) fun b135 => lft (some (decide (b135 < a134)))) fun b137 => ret (a136, b137)) fun b139 => ret (a138, b139)) fun a142 => bnd (upL (fun s => s.2) (fun s t => (s.1, t)) fun b143 => app b143 a142) fun _ => fun s => some ((), s)) () q159) fun z144 => bnd (bnd (bnd (ret x61) fun a152 => lft (some a152)) fun a154 => bnd (gtL (fun s => s.2) fun a153 => some a153) fun b155 => ret (a154, b155)) fun x156 s => some (x156, s.1)))
abbrev sp_law_net : Sp := spS (fun v => (arC (rV v) (arC rInt (arOne rBool)))) (fun v => oLh tapeA v) rNet (fun x => m_law_net x.2.1 x.2.2)
theorem ok_law_net {f : Addr} {fd : FuncData} (F : Fun K "_law_net" "_law_net" s_law_net f fd) (T : Txt K mg) (c_law_draw : Kn P w K mg base CX0 1 "_law_draw" ["tape", "many"] sp_law_draw) (c_law_vessel : Kn P w K mg base CX0 3 "_law_vessel" ["tape", "number", "many", "spouts", "small"] sp_law_vessel) : FnOk P w K mg base CX0 4 f fd ["tape", "most", "small"] sp_law_net := by
  refine F.ok sc_law_net (fun vs H Q E h => ?_) (fun cdv A outer s H vs Q E hr h => ?_)
  · obtain ⟨i, F, O, c, x, s, b, s1, ⟨_, _, rfl, _, ⟨_, _, rfl, _, ⟨_, rfl, _⟩⟩⟩, _⟩ := h; rfl
  · obtain ⟨i0, F, O, c, ⟨_, xmost, xsmall⟩, s, b, s1, ⟨vtape, _, rfl, rfl, ⟨vmost, _, rfl, rmost, ⟨vsmall, rfl, rsmall⟩⟩⟩, ho, W, hm, k⟩ := h
    replace rmost : rInt.r F vmost xmost := rmost
    replace rsmall : rBool.r F vsmall xsmall := rsmall
    replace hm : m_law_net xmost xsmall s = some (b, s1) := hm
    refine ⟨_, (pss_cons (ps_set (i := 3) sc_law_net.nd rfl (Or.inr rfl) (pe_op op_add pe_int (pe_kn c_law_draw hr (by decide) (by rfl) (pa_cons (pv 0) (pa_cons (pv 1) pa_nil))))) (pss_cons (ps_set (i := 4) sc_law_net.nd rfl (Or.inr rfl) (pe_ix (kix_list (K := K)) (pe_lst (pa_cons (pe_kn c_law_draw hr (by decide) (by rfl) (pa_cons (pv 0) (pa_cons pe_int pa_nil))) (pa_cons (pe_kn c_law_draw hr (by decide) (by rfl) (pa_cons (pv 0) (pa_cons pe_int pa_nil))) pa_nil))) (pe_op op_fdivW (pe_kn c_law_draw hr (by decide) (by rfl) (pa_cons (pv 0) (pa_cons pe_int pa_nil))) pe_int) (fun _ _ => rfl))) (pss_cons (ps_setLc (i := 5) (g := (gName 7)) (tt := tYes) (by rfl) sc_law_net.nd rfl rfl (sw_true rfl rfl rfl (by decide +kernel)) (pi_range1 (by rfl) T.range (pa_cons (pv 3) pa_nil)) (blkOk_by (N := N_law_net) (sc := defScope s_law_net) (own := [("k", 7)]) (by decide +kernel)) (fun _ _ _ _ _ => (pg_name (i := 7) sc_law_net.nd rfl (by first | exact Or.inl rfl | exact Or.inr rfl))) (fun _ _ _ _ _ => pts_nil) (fun _ _ _ _ _ => (pe_kn c_law_vessel hr (by decide) (by rfl) (pa_cons (pv 0) (pa_cons (pv 7) (pa_cons (pv 3) (pa_cons (pv 4) (pa_cons (pv 2) pa_nil)))))))) (pss_cons (ps_set (i := 6) sc_law_net.nd rfl (Or.inl rfl) (pe_lst pa_nil)) (pss_cons (ps_for PassesOwn.never (by rfl) (pi_range1 (by rfl) T.range (pa_cons (pv 4) pa_nil)) (pg_name (i := 7) sc_law_net.nd rfl (by first | exact Or.inl rfl | exact Or.inr rfl)) (pss_cons (ps_set (i := 8) sc_law_net.nd rfl (Or.inl rfl) (pe_ix (kix_list (K := K)) (pe_lst (pa_cons (pe_kn c_law_draw hr (by decide) (by rfl) (pa_cons (pv 0) (pa_cons pe_int pa_nil))) (pa_cons (pe_kn c_law_draw hr (by decide) (by rfl) (pa_cons (pv 0) (pa_cons (pe_ix (kix_list (K := K)) (pe_lst (pa_cons pe_int (pa_cons pe_int pa_nil))) (pe_callTy call_int1 (by rfl) T.int (by decide +kernel) (pa_cons (pv 2) pa_nil)) (fun _ _ => rfl)) pa_nil))) pa_nil))) (pe_op op_fdivW (pe_kn c_law_draw hr (by decide) (by rfl) (pa_cons (pv 0) (pa_cons pe_int pa_nil))) pe_int) (fun _ _ => rfl))) (pss_cons (ps_expr (kpe_bm (K := K) PySem.F.plainAttrs_list PySem.F.slot_list_append PySem.F.type_list_append mt_append (pv 6) (pa_cons (pe_tup (pa_cons (pe_kn c_law_draw hr (by decide) (by rfl) (pa_cons (pv 0) (pa_cons (pv 3) pa_nil))) (pa_cons (pv 8) (pa_cons (pe_cmpR op_gt (pe_kn c_law_draw hr (by decide) (by rfl) (pa_cons (pv 0) (pa_cons pe_int pa_nil))) pe_int (nomark _)) pa_nil)))) pa_nil))) pss_nil))) (pss_cons (ps_ret (pe_tup (pa_cons (pe_callTy (kc_tuple (K := K)) (by rfl) T.tuple (by decide +kernel) (pa_cons (pv 5) pa_nil)) (pa_cons (pe_callTy (kc_tuple (K := K)) (by rfl) T.tuple (by decide +kernel) (pa_cons (pv 6) pa_nil)) pa_nil)))) pss_nil)))))), ?_⟩
    refine ok_S W ho hm k ?_
    show B _ [some vtape, some vmost, some vsmall, none, none, none, none, none, none] F (oLh tapeA vtape) _ _
    exact b_set (ev_op vl_add ev_int (ev_callS vtape emb_id (ea_cons (ev_var (R := rV vtape) (x := ()) rfl rfl) (ea_one (ev_var rmost rfl))))) fun v6 x7 F8 s9 r10 => b_σ (σ' := [some vtape, some vmost, some vsmall, some v6, none, none, none, none, none]) rfl (b_set (ev_op vl_ixL (ev_frz (eo_lst (eal_cons (ev_callS vtape emb_id (ea_cons (ev_var (R := rV vtape) (x := ()) rfl rfl) (ea_one ev_int))) (eal_cons (ev_callS vtape emb_id (ea_cons (ev_var (R := rV vtape) (x := ()) rfl rfl) (ea_one ev_int))) eal_nil)))) (ev_op vl_div (ev_callS vtape emb_id (ea_cons (ev_var (R := rV vtape) (x := ()) rfl rfl) (ea_one ev_int))) ev_int)) fun v35 x36 F37 s38 r39 => b_σ (σ' := [some vtape, some vmost, some vsmall, some v6, some v35, none, none, none, none]) rfl (b_set (ev_frz (eo_lcA (ei_rng1 (ev_var (rInt.mono s38 r10) rfl)) (fun v41 x42 F43 s44 r45 => cb_all go_name (fun w46 k47 => by subst k47; exact wipe_s _ _ (by decide) (wipe_w _ _)) (fun w46 k47 => by subst k47; exact ev_σ (σ' := [some vtape, some vmost, some vsmall, some v6, some v35, none, none, some v41, none]) rfl (ev_callS vtape emb_id (ea_cons (ev_var (R := rV vtape) (x := ()) rfl rfl) (ea_cons (ev_var r45 rfl) (ea_cons (ev_var (rInt.mono (s38.trans s44) r10) rfl) (ea_cons (ev_var (rInt.mono s44 r39) rfl) (ea_one (ev_var (rBool.mono ((s9.trans s38).trans s44) rsmall) rfl))))))))))) fun v60 x61 F62 s63 r64 => b_σ (σ' := [some vtape, some vmost, some vsmall, some v6, some v35, some v60, none, none, none]) rfl (b_new (eo_lst (eal_nil (R := rSpout))) fun v66 F67 s68 => b_σ (σ' := [some vtape, some vmost, some vsmall, some v6, some v35, some v60, some v66, none, none]) rfl (b_for (z0 := ()) (Sl := (fun (z : Unit) (F : Hp) (σ : L2.St) => ∃ (u1 : Option V) (u2 : Option V), σ = [some vtape, some vmost, some vsmall, some v6, some v35, some v60, some v66, u1, u2])) (ei_rng1 (ev_var (rInt.mono (s63.trans s68) r39) rfl)) (fun F157 s158 => ⟨_, _, rfl⟩) (fun z72 x73 v74 F75 w76 s77 h78 r79 => by obtain ⟨o80, o81, e82⟩ := h78; subst e82; exact b_go go_name (fun _ k => by subst k; exact b_σ (σ' := [some vtape, some vmost, some vsmall, some v6, some v35, some v60, some v66, some v74, o81]) rfl (b_set (ev_op vl_ixL (ev_frz (eo_lst (eal_cons (ev_callS vtape (emb_l emb_id) (ea_cons (ev_var (R := rV vtape) (x := ()) rfl rfl) (ea_one ev_int))) (eal_cons (ev_callS vtape (emb_l emb_id) (ea_cons (ev_var (R := rV vtape) (x := ()) rfl rfl) (ea_one (ev_op vl_ixL (ev_frz (eo_lst (eal_cons ev_int (eal_cons ev_int eal_nil)))) (ev_cb vl_intB (ea_one (ev_var (rBool.mono ((((s9.trans s38).trans s63).trans s68).trans s77) rsmall) rfl))))))) eal_nil)))) (ev_op vl_div (ev_callS vtape (emb_l emb_id) (ea_cons (ev_var (R := rV vtape) (x := ()) rfl rfl) (ea_one ev_int))) ev_int)) fun v123 x124 F125 s126 r127 => b_σ (σ' := [some vtape, some vmost, some vsmall, some v6, some v35, some v60, some v66, some v74, some v123]) rfl (b_app rfl (emb_r emb_id) (ev_tup (by decide) (ea_cons (ev_callS vtape (emb_l emb_id) (ea_cons (ev_var (R := rV vtape) (x := ()) rfl rfl) (ea_one (ev_var (rInt.mono ((((s38.trans s63).trans s68).trans s77).trans s126) r10) rfl)))) (ea_cons (ev_var r127 rfl) (ea_one (ev_op vl_gt (ev_callS vtape (emb_l emb_id) (ea_cons (ev_var (R := rV vtape) (x := ()) rfl rfl) (ea_one ev_int))) ev_int))))) (b_nx pr_id (fun F140 s141 => ⟨_, _, rfl⟩)))))) (fun z144 F145 w146 s147 h148 => by obtain ⟨o149, o150, e151⟩ := h148; subst e151; exact b_ret (pr_l pr_id) (ev_tup (by decide) (ea_cons (ev_cb vl_tupleL (ea_one (ev_var (R := (rLst rVessel)) ((rLst rVessel).mono (s68.trans s147) r64) rfl))) (ea_one (ev_cbO vh_tuple rfl (emb_r emb_id)))))) (fun _ _ _ _ s ⟨a0, a1, e⟩ => ⟨a0, a1, e⟩)))))
/-! target_text -/
abbrev s_target_text : Stmt := top 18
abbrev N_target_text : List Str := ["target"]
theorem sc_target_text : FnScope N_target_text ["target"] (defScope s_target_text) := ⟨rfl, rfl, rfl, by decide +kernel, rfl, by decide +kernel, by decide +kernel⟩
def m_target_text (xtarget : (Option Int)) : Option Str := rn (bnd (bnd (ret xtarget) fun a1 => bnd (ret ()) fun b2 => lft (some a1.isNone)) fun b3 => bif b3 then (bnd (ret ("ground" : Str)) fun x4 s => some (x4, ())) else (bnd (bnd (ret xtarget) fun a5 => lft (strO a5)) fun x6 s => some (x6, ())))
abbrev sp_target_text : Sp := spP (arOne (rOpt rInt)) rStr (fun x => m_target_text x)
theorem ok_target_text {f : Addr} {fd : FuncData} (F : Fun K "target_text" "target_text" s_target_text f fd) (T : Txt K mg) : FnOk P w K mg base CX0 1 f fd ["target"] sp_target_text := by
  refine F.ok sc_target_text (fun vs H Q E h => ?_) (fun cdv A outer s H vs Q E hr h => ?_)
  · obtain ⟨F, O, x, b, ⟨_, rfl, _⟩, _⟩ := h; rfl
  · obtain ⟨F, O, xtarget, b, ⟨vtarget, rfl, rtarget⟩, W, hm, k⟩ := h
    replace rtarget : (rOpt rInt).r F vtarget xtarget := rtarget
    replace hm : m_target_text xtarget = some b := hm
    refine ⟨_, (pss_cons (ps_if (pt_cmpR op_isN (pv 0) pe_non (nomark _)) (pss_cons (ps_ret pe_str) pss_nil) pss_nil) (pss_cons (ps_ret (pe_callTy call_str_opt (by rfl) T.str (by decide +kernel) (pa_cons (pv 0) pa_nil))) pss_nil)), ?_⟩
    refine ok_P W hm k ?_
    show B _ [some vtarget] F emp _ _
    exact b_ifR (et_test (ev_op vl_isNone (ev_var rtarget rfl) ev_non)) (b_ret pr_emp ev_str) (b_ret pr_emp (ev_cb vl_strO (ea_one (ev_var rtarget rfl))))
/-! vessel_text -/
abbrev s_vessel_text : Stmt := top 19
abbrev N_vessel_text : List Str := ["vessel", "size", "brim", "outs", "holds", "spill", "acts", "words", "target", "parts", "word", "spout"]
theorem sc_vessel_text : FnScope N_vessel_text ["vessel"] (defScope s_vessel_text) := ⟨rfl, rfl, rfl, by decide +kernel, rfl, by decide +kernel, by decide +kernel⟩
def m_vessel_text (xvessel : Vessel) : Option Str := rn (bnd (ret xvessel) fun x2 => bnd (bnd (bnd (ret ("vessel" : Str)) fun a36 => bnd (bnd (bnd (ret x2.1) fun a30 => lft (strI a30)) fun a34 => bnd (bnd (bnd (ret x2.2.1) fun a31 => lft (strI a31)) fun a32 => bnd (ret []) fun b33 => ret (a32 :: b33)) fun b35 => ret (a34 :: b35)) fun b37 => ret (a36 :: b37)) fun a38 => lft (few a38)) (nw (bnd (bnd (ret ("," : Str)) fun a42 => bnd (bnd (ret x2.2.2.1) fun q63 => bnd (lft (chk q63)) fun q64 => mp (fun x45 => bnd (bnd (bnd (ret x45.1) fun a56 => lft (m_target_text a56)) fun a57 => bnd (ret ("*" : Str)) fun b58 => lft (addS a57 b58)) fun a60 => bnd (bnd (ret x45.2) fun a59 => lft (strI a59)) fun b61 => lft (addS a60 b61)) q64) fun b43 => lft (joinS a42 b43)) fun a106 => bnd (upL (fun s => s.2) (fun s t => (s.1, t)) fun b107 => app b107 a106) fun _ => bnd (bnd (ret x2.2.2.2.1) fun b65 => bif b65 then (ret ("holds" : Str)) else (ret ("loses" : Str))) fun a104 => bnd (upL (fun s => s.2) (fun s t => (s.1, t)) fun b105 => app b105 a104) fun _ => bnd (bnd (ret x2.2.2.2.2.1) fun a66 => lft (m_target_text a66)) fun a102 => bnd (upL (fun s => s.2) (fun s t => (s.1, t)) fun b103 => app b103 a102) fun _ => bnd (bnd (bnd (ret x2.2.2.2.2.2) fun a68 => bnd (bnd (ret ([] : List Act)) fun a67 => lft (few a67)) fun b69 => lft (neD ((dTup dAct).d a68) ((dTup dAct).d b69))) fun b92 => bif b92 then (bnd (ret ("," : Str)) fun a70 => bnd (bnd (ret x2.2.2.2.2.2) fun q90 => bnd (lft (chk q90)) fun q91 => mp (fun x73 => bnd (bnd (ret x73.1) fun a84 => bnd (ret ("." : Str)) fun b85 => lft (addS a84 b85)) fun a87 => bnd (bnd (ret x73.2) fun a86 => lft (strI a86)) fun b88 => lft (addS a87 b88)) q91) fun b71 => lft (joinS a70 b71)) else (ret ("-" : Str))) fun a100 => bnd (upL (fun s => s.2) (fun s t => (s.1, t)) fun b101 => app b101 a100) fun _ => fzL (fun s => s.2) (fun s => s.1) fun x93 => bnd (bnd (ret (" " : Str)) fun a97 => bnd (ret x93) fun b98 => lft (joinS a97 b98)) fun x99 s => some (x99, ()))))
abbrev sp_vessel_text : Sp := spP (arOne rVessel) rStr (fun x => m_vessel_text x)
theorem ok_vessel_text {f : Addr} {fd : FuncData} (F : Fun K "vessel_text" "vessel_text" s_vessel_text f fd) (T : Txt K mg) (c_target_text : Kn P w K mg base CX0 1 "target_text" ["target"] sp_target_text) : FnOk P w K mg base CX0 2 f fd ["vessel"] sp_vessel_text := by
  refine F.ok sc_vessel_text (fun vs H Q E h => ?_) (fun cdv A outer s H vs Q E hr h => ?_)
  · obtain ⟨F, O, x, b, ⟨_, rfl, _⟩, _⟩ := h; rfl
  · obtain ⟨F, O, xvessel, b, ⟨vvessel, rfl, rvessel⟩, W, hm, k⟩ := h
    replace rvessel : rVessel.r F vvessel xvessel := rvessel
    replace hm : m_vessel_text xvessel = some b := hm
    refine ⟨_, (pss_cons (ps_asg (pv 0) (kpg_tup (K := K) (by rfl) (pgs_cons (pg_name (i := 1) sc_vessel_text.nd rfl (by first | exact Or.inl rfl | exact Or.inr rfl)) (pgs_cons (pg_name (i := 2) sc_vessel_text.nd rfl (by first | exact Or.inl rfl | exact Or.inr rfl)) (pgs_cons (pg_name (i := 3) sc_vessel_text.nd rfl (by first | exact Or.inl rfl | exact Or.inr rfl)) (pgs_cons (pg_name (i := 4) sc_vessel_text.nd rfl (by first | exact Or.inl rfl | exact Or.inr rfl)) (pgs_cons (pg_name (i := 5) sc_vessel_text.nd rfl (by first | exact Or.inl rfl | exact Or.inr rfl)) (pgs_cons (pg_name (i := 6) sc_vessel_text.nd rfl (by first | exact Or.inl rfl | exact Or.inr rfl)) pgs_nil)))))))) (pss_cons (ps_set (i := 7) sc_vessel_text.nd rfl (Or.inl rfl) (pe_lst (pa_cons pe_str (pa_cons (pe_callTy call_str_int (by rfl) T.str (by decide +kernel) (pa_cons (pv 1) pa_nil)) (pa_cons (pe_callTy call_str_int (by rfl) T.str (by decide +kernel) (pa_cons (pv 2) pa_nil)) pa_nil))))) (pss_cons (ps_expr (kpe_bm (K := K) PySem.F.plainAttrs_list PySem.F.slot_list_append PySem.F.type_list_append mt_append (pv 7) (pa_cons (kpe_join (K := K) pe_str (pe_lc (g := (gTup K 2 (gCons (gName 8) (gCons (gName 9) gNil)))) (tt := tYes) (by rfl) sc_vessel_text.nd (kpi_tup (K := K) (pv 3)) (blkOk_by (N := N_vessel_text) (sc := defScope s_vessel_text) (own := [("target", 8), ("parts", 9)]) (by decide +kernel)) (fun _ _ _ _ _ => (kpg_tup (K := K) (by rfl) (pgs_cons (pg_name (i := 8) sc_vessel_text.nd rfl (by first | exact Or.inl rfl | exact Or.inr rfl)) (pgs_cons (pg_name (i := 9) sc_vessel_text.nd rfl (by first | exact Or.inl rfl | exact Or.inr rfl)) pgs_nil)))) (fun _ _ _ _ _ => pts_nil) (fun _ _ _ _ _ => (pe_op op_add_str (pe_op op_add_str (pe_kn c_target_text hr (by decide) (by rfl) (pa_cons (pv 8) pa_nil)) pe_str) (pe_callTy call_str_int (by rfl) T.str (by decide +kernel) (pa_cons (pv 9) pa_nil)))))) pa_nil))) (pss_cons (ps_expr (kpe_bm (K := K) PySem.F.plainAttrs_list PySem.F.slot_list_append PySem.F.type_list_append mt_append (pv 7) (pa_cons (pe_ifExp (pt_val (pv 4)) pe_str pe_str) pa_nil))) (pss_cons (ps_expr (kpe_bm (K := K) PySem.F.plainAttrs_list PySem.F.slot_list_append PySem.F.type_list_append mt_append (pv 7) (pa_cons (pe_kn c_target_text hr (by decide) (by rfl) (pa_cons (pv 5) pa_nil)) pa_nil))) (pss_cons (ps_expr (kpe_bm (K := K) PySem.F.plainAttrs_list PySem.F.slot_list_append PySem.F.type_list_append mt_append (pv 7) (pa_cons (pe_ifExp (pt_cmpR (kop_neD (K := K) hr.units) (pv 6) (pe_tup pa_nil) (nomark _)) (kpe_join (K := K) pe_str (pe_lc (g := (gTup K 2 (gCons (gName 10) (gCons (gName 11) gNil)))) (tt := tYes) (by rfl) sc_vessel_text.nd (kpi_tup (K := K) (pv 6)) (blkOk_by (N := N_vessel_text) (sc := defScope s_vessel_text) (own := [("word", 10), ("spout", 11)]) (by decide +kernel)) (fun _ _ _ _ _ => (kpg_tup (K := K) (by rfl) (pgs_cons (pg_name (i := 10) sc_vessel_text.nd rfl (by first | exact Or.inl rfl | exact Or.inr rfl)) (pgs_cons (pg_name (i := 11) sc_vessel_text.nd rfl (by first | exact Or.inl rfl | exact Or.inr rfl)) pgs_nil)))) (fun _ _ _ _ _ => pts_nil) (fun _ _ _ _ _ => (pe_op op_add_str (pe_op op_add_str (pv 10) pe_str) (pe_callTy call_str_int (by rfl) T.str (by decide +kernel) (pa_cons (pv 11) pa_nil)))))) pe_str) pa_nil))) (pss_cons (ps_ret (kpe_join (K := K) pe_str (pv 7))) pss_nil))))))), ?_⟩
    refine ok_P W hm k ?_
    show B _ [some vvessel, none, none, none, none, none, none, none, none, none, none, none] F emp _ _
    exact b_unp (ev_var rvessel rfl) (fun _ _ _ _ r9 => go_t6 r9) fun v1 x2 F3 w6 s4 r5 ⟨v15, v16, v17, v18, v19, v20, r21, r22, r23, r24, r25, r26, e27⟩ => by subst e27; exact b_σ (σ' := [some vvessel, some v15, some v16, some v17, some v18, some v19, some v20, none, none, none, none, none]) rfl (b_new (eo_lst (eal_cons ev_str (eal_cons (ev_cb vl_strI (ea_one (ev_var r21 rfl))) (eal_cons (ev_cb vl_strI (ea_one (ev_var r22 rfl))) eal_nil)))) fun v39 F40 s41 => b_σ (σ' := [some vvessel, some v15, some v16, some v17, some v18, some v19, some v20, some v39, none, none, none, none]) rfl (b_app rfl (emb_r emb_id) (ev_join ev_str (ev_frz (eo_lcA (ei_tup (ev_var ((rTup rOut).mono s41 r23) rfl)) (fun v44 x45 F46 s47 r48 => cb_all (go_t2 r48) (fun w49 ⟨v51, v52, r53, r54, e55⟩ => by subst e55; exact wipe_s _ _ (by decide) (wipe_s _ _ (by decide) (wipe_w _ _))) (fun w49 ⟨v51, v52, r53, r54, e55⟩ => by subst e55; exact ev_σ (σ' := [some vvessel, some v15, some v16, some v17, some v18, some v19, some v20, some v39, some v51, some v52, none, none]) rfl (ev_op vl_addS (ev_op vl_addS (ev_callP (ea_one (ev_var r53 rfl))) ev_str) (ev_cb vl_strI (ea_one (ev_var r54 rfl))))))))) (b_app rfl (emb_r emb_id) (ev_if (et_B (ev_var (rBool.mono s41 r24) rfl)) ev_str ev_str) (b_app rfl (emb_r emb_id) (ev_callP (ea_one (ev_var ((rOpt rInt).mono s41 r25) rfl))) (b_app rfl (emb_r emb_id) (ev_if (et_test (ev_op (vl_neD (dTup dAct) (dTup dAct)) (ev_var ((rTup rAct).mono s41 r26) rfl) (ev_tupl (eal_nil (R := rAct))))) (ev_join ev_str (ev_frz (eo_lcA (ei_tup (ev_var ((rTup rAct).mono s41 r26) rfl)) (fun v72 x73 F74 s75 r76 => cb_all (go_t2 r76) (fun w77 ⟨v79, v80, r81, r82, e83⟩ => by subst e83; exact wipe_s _ _ (by decide) (wipe_s _ _ (by decide) (wipe_w _ _))) (fun w77 ⟨v79, v80, r81, r82, e83⟩ => by subst e83; exact ev_σ (σ' := [some vvessel, some v15, some v16, some v17, some v18, some v19, some v20, some v39, none, none, some v79, some v80]) rfl (ev_op vl_addS (ev_op vl_addS (ev_var r81 rfl) ev_str) (ev_cb vl_strI (ea_one (ev_var r82 rfl))))))))) ev_str) (b_fzL rm_r fun x93 F94 s95 r96 => b_ret pr_emp (ev_join ev_str (ev_var r96 rfl))))))))
/-! spout_text -/
abbrev s_spout_text : Stmt := top 20
abbrev N_spout_text : List Str := ["spout", "target", "flow", "is_open"]
theorem sc_spout_text : FnScope N_spout_text ["spout"] (defScope s_spout_text) := ⟨rfl, rfl, rfl, by decide +kernel, rfl, by decide +kernel, by decide +kernel⟩
def m_spout_text (xspout : Spout) : Option Str := rn (bnd (ret xspout) fun x2 => bnd (bnd (ret (" " : Str)) fun a22 => bnd (bnd (bnd (ret ("spout" : Str)) fun a33 => bnd (bnd (bnd (ret x2.1) fun a24 => lft (strI a24)) fun a31 => bnd (bnd (bnd (ret x2.2.1) fun a25 => lft (strI a25)) fun a29 => bnd (bnd (bnd (ret x2.2.2) fun b26 => bif b26 then (ret ("open" : Str)) else (ret ("shut" : Str))) fun a27 => bnd (ret []) fun b28 => ret (a27 :: b28)) fun b30 => ret (a29 :: b30)) fun b32 => ret (a31 :: b32)) fun b34 => ret (a33 :: b34)) fun a35 => lft (few a35)) fun b23 => lft (joinS a22 b23)) fun x36 s => some (x36, ()))
abbrev sp_spout_text : Sp := spP (arOne rSpout) rStr (fun x => m_spout_text x)
theorem ok_spout_text {f : Addr} {fd : FuncData} (F : Fun K "spout_text" "spout_text" s_spout_text f fd) (T : Txt K mg) : FnOk P w K mg base CX0 1 f fd ["spout"] sp_spout_text := by
  refine F.ok sc_spout_text (fun vs H Q E h => ?_) (fun cdv A outer s H vs Q E hr h => ?_)
  · obtain ⟨F, O, x, b, ⟨_, rfl, _⟩, _⟩ := h; rfl
  · obtain ⟨F, O, xspout, b, ⟨vspout, rfl, rspout⟩, W, hm, k⟩ := h
    replace rspout : rSpout.r F vspout xspout := rspout
    replace hm : m_spout_text xspout = some b := hm
    refine ⟨_, (pss_cons (ps_asg (pv 0) (kpg_tup (K := K) (by rfl) (pgs_cons (pg_name (i := 1) sc_spout_text.nd rfl (by first | exact Or.inl rfl | exact Or.inr rfl)) (pgs_cons (pg_name (i := 2) sc_spout_text.nd rfl (by first | exact Or.inl rfl | exact Or.inr rfl)) (pgs_cons (pg_name (i := 3) sc_spout_text.nd rfl (by first | exact Or.inl rfl | exact Or.inr rfl)) pgs_nil))))) (pss_cons (ps_ret (kpe_join (K := K) pe_str (pe_lst (pa_cons pe_str (pa_cons (pe_callTy call_str_int (by rfl) T.str (by decide +kernel) (pa_cons (pv 1) pa_nil)) (pa_cons (pe_callTy call_str_int (by rfl) T.str (by decide +kernel) (pa_cons (pv 2) pa_nil)) (pa_cons (pe_ifExp (pt_val (pv 3)) pe_str pe_str) pa_nil))))))) pss_nil)), ?_⟩
    refine ok_P W hm k ?_
    show B _ [some vspout, none, none, none] F emp _ _
    exact b_unp (ev_var rspout rfl) (fun _ _ _ _ r9 => go_t3 r9) fun v1 x2 F3 w6 s4 r5 ⟨v15, v16, v17, r18, r19, r20, e21⟩ => by subst e21; exact b_σ (σ' := [some vspout, some v15, some v16, some v17]) rfl (b_ret pr_emp (ev_join ev_str (ev_frz (eo_lst (eal_cons ev_str (eal_cons (ev_cb vl_strI (ea_one (ev_var r18 rfl))) (eal_cons (ev_cb vl_strI (ea_one (ev_var r19 rfl))) (eal_cons (ev_if (et_B (ev_var r20 rfl)) ev_str ev_str) eal_nil))))))))
/-! net_text -/
abbrev s_net_text : Stmt := top 21
abbrev N_net_text : List Str := ["net", "vessel", "spout"]
theorem sc_net_text : FnScope N_net_text ["net"] (defScope s_net_text) := ⟨rfl, rfl, rfl, by decide +kernel, rfl, by decide +kernel, by decide +kernel⟩
def m_net_text (xnet : Net) : Option Str := rn (bnd (bnd (ret ("\n" : Str)) fun a1 => bnd (bnd (bnd (bnd (ret xnet) fun a3 => ret a3.1) fun q13 => bnd (lft (chk q13)) fun q14 => mp (fun x5 => bnd (ret x5) fun a11 => lft (m_vessel_text a11)) q14) fun a27 => bnd (bnd (bnd (ret xnet) fun a15 => ret a15.2) fun q25 => bnd (lft (chk q25)) fun q26 => mp (fun x17 => bnd (ret x17) fun a23 => lft (m_spout_text a23)) q26) fun b28 => lft (catL a27 b28)) fun b2 => lft (joinS a1 b2)) fun x29 s => some (x29, ()))
abbrev sp_net_text : Sp := spP (arOne rNet) rStr (fun x => m_net_text x)
theorem ok_net_text {f : Addr} {fd : FuncData} (F : Fun K "net_text" "net_text" s_net_text f fd) (T : Txt K mg) (c_vessel_text : Kn P w K mg base CX0 2 "vessel_text" ["vessel"] sp_vessel_text) (c_spout_text : Kn P w K mg base CX0 1 "spout_text" ["spout"] sp_spout_text) : FnOk P w K mg base CX0 3 f fd ["net"] sp_net_text := by
  refine F.ok sc_net_text (fun vs H Q E h => ?_) (fun cdv A outer s H vs Q E hr h => ?_)
  · obtain ⟨F, O, x, b, ⟨_, rfl, _⟩, _⟩ := h; rfl
  · obtain ⟨F, O, xnet, b, ⟨vnet, rfl, rnet⟩, W, hm, k⟩ := h
    replace rnet : rNet.r F vnet xnet := rnet
    replace hm : m_net_text xnet = some b := hm
    refine ⟨_, (pss_cons (ps_ret (kpe_join (K := K) pe_str (pe_op op_cat (pe_lc (g := (gName 1)) (tt := tYes) (by rfl) sc_net_text.nd (kpi_tup (K := K) (pe_ix (kix_tup (K := K)) (pv 0) pe_int (fun _ _ => rfl))) (blkOk_by (N := N_net_text) (sc := defScope s_net_text) (own := [("vessel", 1)]) (by decide +kernel)) (fun _ _ _ _ _ => (pg_name (i := 1) sc_net_text.nd rfl (by first | exact Or.inl rfl | exact Or.inr rfl))) (fun _ _ _ _ _ => pts_nil) (fun _ _ _ _ _ => (pe_kn c_vessel_text hr (by decide) (by rfl) (pa_cons (pv 1) pa_nil)))) (pe_lc (g := (gName 2)) (tt := tYes) (by rfl) sc_net_text.nd (kpi_tup (K := K) (pe_ix (kix_tup (K := K)) (pv 0) pe_int (fun _ _ => rfl))) (blkOk_by (N := N_net_text) (sc := defScope s_net_text) (own := [("spout", 2)]) (by decide +kernel)) (fun _ _ _ _ _ => (pg_name (i := 2) sc_net_text.nd rfl (by first | exact Or.inl rfl | exact Or.inr rfl))) (fun _ _ _ _ _ => pts_nil) (fun _ _ _ _ _ => (pe_kn c_spout_text hr (by decide) (by rfl) (pa_cons (pv 2) pa_nil))))))) pss_nil), ?_⟩
    refine ok_P W hm k ?_
    show B _ [some vnet, none, none] F emp _ _
    exact b_ret pr_emp (ev_join ev_str (ev_frz (eo_op vo_cat (ev_frz (eo_lcA (ei_tup (ev_prj prj_0 (ev_var rnet rfl))) (fun v4 x5 F6 s7 r8 => cb_all go_name (fun w9 k10 => by subst k10; exact wipe_s _ _ (by decide) (wipe_w _ _)) (fun w9 k10 => by subst k10; exact ev_σ (σ' := [some vnet, some v4, none]) rfl (ev_callP (ea_one (ev_var r8 rfl))))))) (ev_frz (eo_lcA (ei_tup (ev_prj (prj_s prj_1) (ev_var rnet rfl))) (fun v16 x17 F18 s19 r20 => cb_all go_name (fun w21 k22 => by subst k22; exact wipe_s _ _ (by decide) (wipe_w _ _)) (fun w21 k22 => by subst k22; exact ev_σ (σ' := [some vnet, none, some v16]) rfl (ev_callP (ea_one (ev_var r20 rfl))))))))))
/-! read_number -/
abbrev s_read_number : Stmt := top 22
abbrev N_read_number : List Str := ["word", "sign"]
theorem sc_read_number : FnScope N_read_number ["word"] (defScope s_read_number) := ⟨rfl, rfl, rfl, by decide +kernel, rfl, by decide +kernel, by decide +kernel⟩
def m_read_number (xword : Str) : Option (Option Int) := rn (bnd (bnd (bnd (ret xword) fun a1 => bnd (ret ("" : Str)) fun b2 => lft (some (decide (a1 = b2)))) fun b22 => bif b22 then ret true else (bnd (bnd (bnd (ret xword) fun a3 => lft (lenS a3)) fun a4 => bnd (ret (9 : Int)) fun b5 => lft (some (decide (b5 < a4)))) fun b21 => bif b21 then ret true else (bnd (bnd (bnd (bnd (ret xword) fun a6 => ret (signsOf a6)) fun q17 => bnd (lft (chk q17)) fun q18 => mp (fun x8 => bnd (ret x8) fun a14 => bnd (ret ("0123456789" : Str)) fun b15 => lft (inSg a14 b15)) q18) fun a19 => lft (some (a19.all id))) fun b20 => ret (!b20)))) fun b23 => bif b23 then (bnd (ret (none : (Option Int))) fun x24 s => some (x24, ())) else (bnd (bnd (bnd (bnd (ret xword) fun a25 => bnd (ret (0 : Int)) fun b26 => lft (sgAt a25 b26)) fun a27 => bnd (ret ("0" : Str)) fun b28 => lft (some (decide (a27 = b28)))) fun b31 => bif b31 then (bnd (ret xword) fun a29 => bnd (ret ("0" : Str)) fun b30 => lft (some (!decide (a29 = b30)))) else ret false) fun b32 => bif b32 then (bnd (ret (none : (Option Int))) fun x33 s => some (x33, ())) else (bnd (bnd (bnd (ret xword) fun a34 => lft (intS a34)) fun a => ret (some a)) fun x35 s => some (x35, ()))))
abbrev sp_read_number : Sp := spP (arOne rStr) (rOpt rInt) (fun x => m_read_number x)
theorem ok_read_number {f : Addr} {fd : FuncData} (F : Fun K "read_number" "read_number" s_read_number f fd) (T : Txt K mg) : FnOk P w K mg base CX0 1 f fd ["word"] sp_read_number := by
  refine F.ok sc_read_number (fun vs H Q E h => ?_) (fun cdv A outer s H vs Q E hr h => ?_)
  · obtain ⟨F, O, x, b, ⟨_, rfl, _⟩, _⟩ := h; rfl
  · obtain ⟨F, O, xword, b, ⟨vword, rfl, rword⟩, W, hm, k⟩ := h
    replace rword : rStr.r F vword xword := rword
    replace hm : m_read_number xword = some b := hm
    refine ⟨_, (pss_cons (ps_if (PW.pt (pw_or (pt_cmpR op_eq (pv 0) pe_str (nomark _)) (pw_or (pt_cmpR op_gt (pe_callB call_len_str (by rfl) T.len (by decide +kernel) (pa_cons (pv 0) pa_nil)) (pe_globI (i := 9) rfl T.c_MOST_FIGURES) (nomark _)) (pw_or1 (pt_not (pt_val (pe_callB (kc_all (K := K) (by rfl)) (by rfl) T.all (by decide +kernel) (pa_cons (pe_lc (g := (gName 1)) (tt := tYes) (by rfl) sc_read_number.nd (pi_str (pv 0)) (blkOk_by (N := N_read_number) (sc := defScope s_read_number) (own := [("sign", 1)]) (by decide +kernel)) (fun _ _ _ _ _ => (pg_name (i := 1) sc_read_number.nd rfl (by first | exact Or.inl rfl | exact Or.inr rfl))) (fun _ _ _ _ _ => pts_nil) (fun _ _ _ _ _ => (pe_cmpR op_in_sign (pv 1) (pe_globS (z := "0123456789") rfl T.c_FIGURES) (by rfl)))) pa_nil)))))))) (pss_cons (ps_ret pe_non) pss_nil) pss_nil) (pss_cons (ps_if (PW.pt (pw_and (pt_cmpR op_eq (pe_ix ix_str (pv 0) pe_int (fun _ _ => rfl)) pe_str (nomark _)) (pw_and1 (pt_cmpR op_ne (pv 0) pe_str (nomark _))))) (pss_cons (ps_ret pe_non) pss_nil) pss_nil) (pss_cons (ps_ret (pe_callTy call_int_str (by rfl) T.int (by decide +kernel) (pa_cons (pv 0) pa_nil))) pss_nil))), ?_⟩
    refine ok_P W hm k ?_
    show B _ [some vword, none] F emp _ _
    exact b_ifR (et_or (et_test (ev_op vl_eqS (ev_var rword rfl) ev_str)) (et_or (et_test (ev_op vl_gt (ev_cb vl_lenS (ea_one (ev_var rword rfl))) ev_int)) (et_not (et_B (ev_cb vl_allL (ea_one (ev_frz (eo_lcA (ei_str (ev_var rword rfl)) (fun v7 x8 F9 s10 r11 => cb_all go_name (fun w12 k13 => by subst k13; exact wipe_s _ _ (by decide) (wipe_w _ _)) (fun w12 k13 => by subst k13; exact ev_σ (σ' := [some vword, some v7]) rfl (ev_op vl_inSg (ev_var r11 rfl) ev_str))))))))))) (b_ret pr_emp (ev_nonO (R := rInt))) (b_ifR (et_and (et_test (ev_op vl_eqS (ev_op vl_ixS (ev_var rword rfl) ev_int) ev_str)) (et_test (ev_op vl_neS (ev_var rword rfl) ev_str))) (b_ret pr_emp (ev_nonO (R := rInt))) (b_ret pr_emp (ev_opt (ev_cb vl_intS (ea_one (ev_var rword rfl))))))
/-! read_target -/
abbrev s_read_target : Stmt := top 23
abbrev N_read_target : List Str := ["word", "number"]
theorem sc_read_target : FnScope N_read_target ["word"] (defScope s_read_target) := ⟨rfl, rfl, rfl, by decide +kernel, rfl, by decide +kernel, by decide +kernel⟩
def m_read_target (xword : Str) : Option (Option (Int ⊕ Str)) := rn (bnd (bnd (ret xword) fun a1 => bnd (ret ("ground" : Str)) fun b2 => lft (some (decide (a1 = b2)))) fun b3 => bif b3 then (bnd (ret (none : (Option (Int ⊕ Str)))) fun x4 s => some (x4, ())) else (bnd (bnd (ret xword) fun a5 => lft (m_read_number a5)) fun x7 => bnd (bnd (ret x7) fun a11 => bnd (ret ()) fun b12 => lft (some a11.isNone)) fun b13 => bif b13 then (bnd (bnd (bnd (ret ("none" : Str)) fun x14 => ret (.inr x14 : (Int ⊕ Str))) fun a => ret (some a)) fun x15 s => some (x15, ())) else (bnd (bnd (bnd (bnd (ret x7) fun o16 => lft o16) fun x17 => ret (.inl x17 : (Int ⊕ Str))) fun a => ret (some a)) fun x18 s => some (x18, ()))))
abbrev sp_read_target : Sp := spP (arOne rStr) (rOpt (rSum rInt rStr)) (fun x => m_read_target x)
theorem ok_read_target {f : Addr} {fd : FuncData} (F : Fun K "read_target" "read_target" s_read_target f fd) (T : Txt K mg) (c_read_number : Kn P w K mg base CX0 1 "read_number" ["word"] sp_read_number) : FnOk P w K mg base CX0 2 f fd ["word"] sp_read_target := by
  refine F.ok sc_read_target (fun vs H Q E h => ?_) (fun cdv A outer s H vs Q E hr h => ?_)
  · obtain ⟨F, O, x, b, ⟨_, rfl, _⟩, _⟩ := h; rfl
  · obtain ⟨F, O, xword, b, ⟨vword, rfl, rword⟩, W, hm, k⟩ := h
    replace rword : rStr.r F vword xword := rword
    replace hm : m_read_target xword = some b := hm
    refine ⟨_, (pss_cons (ps_if (pt_cmpR op_eq (pv 0) pe_str (nomark _)) (pss_cons (ps_ret pe_non) pss_nil) pss_nil) (pss_cons (ps_set (i := 1) sc_read_target.nd rfl (Or.inl rfl) (pe_kn c_read_number hr (by decide) (by rfl) (pa_cons (pv 0) pa_nil))) (pss_cons (ps_if (pt_cmpR op_isN (pv 1) pe_non (nomark _)) (pss_cons (ps_ret pe_str) pss_nil) pss_nil) (pss_cons (ps_ret (pv 1)) pss_nil)))), ?_⟩
    refine ok_P W hm k ?_
    show B _ [some vword, none] F emp _ _
    exact b_ifR (et_test (ev_op vl_eqS (ev_var rword rfl) ev_str)) (b_ret pr_emp (ev_nonO (R := (rSum rInt rStr)))) (b_set (R := (rOpt rInt)) (ev_callP (ea_one (ev_var rword rfl))) fun v6 x7 F8 s9 r10 => b_σ (σ' := [some vword, some v6]) rfl (b_ifR (et_test (ev_op vl_isNone (ev_var r10 rfl) ev_non)) (b_ret pr_emp (ev_opt (ev_inr ev_str))) (b_ret pr_emp (ev_opt (ev_inl (ev_unopt (ev_var r10 rfl)))))))
/-! read_pairs -/
abbrev s_read_pairs : Stmt := top 24
abbrev N_read_pairs : List Str := ["word", "sign", "part"]
theorem sc_read_pairs : FnScope N_read_pairs ["word", "sign"] (defScope s_read_pairs) := ⟨rfl, rfl, rfl, by decide +kernel, rfl, by decide +kernel, by decide +kernel⟩
def m_read_pairs (xword : Str) (xsign : Str) : Option (List (Str × Str × Str)) := rn (bnd (bnd (bnd (ret xword) fun a1 => bnd (ret ("," : Str)) fun b2 => lft (splitS a1 b2)) fun q13 => bnd (lft (chk q13)) fun q14 => mp (fun x4 => bnd (ret x4) fun a10 => bnd (ret xsign) fun b11 => lft (partS a10 b11)) q14) fun x15 s => some (x15, ()))
abbrev sp_read_pairs : Sp := spP (arC rStr (arOne rStr)) (rLst (rTh (arC rStr (arC rStr (arOne rStr))))) (fun x => m_read_pairs x.1 x.2)
theorem ok_read_pairs {f : Addr} {fd : FuncData} (F : Fun K "read_pairs" "read_pairs" s_read_pairs f fd) (T : Txt K mg) : FnOk P w K mg base CX0 1 f fd ["word", "sign"] sp_read_pairs := by
  refine F.ok sc_read_pairs (fun vs H Q E h => ?_) (fun cdv A outer s H vs Q E hr h => ?_)
  · obtain ⟨F, O, x, b, ⟨_, _, rfl, _, ⟨_, rfl, _⟩⟩, _⟩ := h; rfl
  · obtain ⟨F, O, ⟨xword, xsign⟩, b, ⟨vword, _, rfl, rword, ⟨vsign, rfl, rsign⟩⟩, W, hm, k⟩ := h
    replace rword : rStr.r F vword xword := rword
    replace rsign : rStr.r F vsign xsign := rsign
    replace hm : m_read_pairs xword xsign = some b := hm
    refine ⟨_, (pss_cons (ps_ret (pe_lc (g := (gName 2)) (tt := tYes) (by rfl) sc_read_pairs.nd (kpi_list (K := K) (kpe_split (pv 0) pe_str)) (blkOk_by (N := N_read_pairs) (sc := defScope s_read_pairs) (own := [("part", 2)]) (by decide +kernel)) (fun _ _ _ _ _ => (pg_name (i := 2) sc_read_pairs.nd rfl (by first | exact Or.inl rfl | exact Or.inr rfl))) (fun _ _ _ _ _ => pts_nil) (fun _ _ _ _ _ => (kpe_part (pv 2) (pv 1))))) pss_nil), ?_⟩
    refine ok_P W hm k ?_
    show B _ [some vword, some vsign, none] F emp _ _
    exact b_ret pr_emp (ev_frz (eo_lcA (ei_lst (ev_frz (eo_split (ev_var rword rfl) ev_str))) (fun v3 x4 F5 s6 r7 => cb_all go_name (fun w8 k9 => by subst k9; exact wipe_s _ _ (by decide) (wipe_w _ _)) (fun w8 k9 => by subst k9; exact ev_σ (σ' := [some vword, some vsign, some v3]) rfl (ev_part (ev_var r7 rfl) (ev_var (rStr.mono s6 rsign) rfl))))))
/-! read_vessel -/
abbrev s_read_vessel : Stmt := top 25
abbrev N_read_vessel : List Str := ["words", "outs", "acts", "ahead", "sign", "back"]
theorem sc_read_vessel : FnScope N_read_vessel ["words"] (defScope s_read_vessel) := ⟨rfl, rfl, rfl, by decide +kernel, rfl, by decide +kernel, by decide +kernel⟩
def m_read_vessel (xwords : (List Str)) : Option (((Option Int) × (Option Int) × (List ((Option (Int ⊕ Str)) × (Option Int))) × Bool × (Option (Int ⊕ Str)) × (List (Str × (Option Int)))) ⊕ Str) := rn (bnd (bnd (bnd (bnd (ret xwords) fun a1 => lft (some (a1.length : Int))) fun a2 => bnd (ret (6 : Int)) fun b3 => lft (some (!decide (a2 = b3)))) fun b13 => bif b13 then ret true else (bnd (bnd (ret xwords) fun a4 => bnd (ret (3 : Int)) fun b5 => lft (atI a4 b5)) fun a11 => bnd (bnd (bnd (ret ("holds" : Str)) fun a8 => bnd (bnd (ret ("loses" : Str)) fun a6 => bnd (ret []) fun b7 => ret (a6 :: b7)) fun b9 => ret (a8 :: b9)) fun a10 => lft (few a10)) fun b12 => lft (some (!b12.any fun b => decide (b = a11))))) fun b14 => bif b14 then (fun s => some ((fun n s => (.inr n, ())) "NoText" s)) else (bnd (bnd (bnd (bnd (bnd (bnd (ret xwords) fun a17 => bnd (ret (2 : Int)) fun b18 => lft (atI a17 b18)) fun a19 => bnd (ret ("*" : Str)) fun b20 => ret (a19, b20)) fun a21 => lft (m_read_pairs a21.1 a21.2)) fun q41 => bnd (lft (chk q41)) fun q42 => mp (fun x23 => bnd (bnd (ret x23.1) fun a36 => lft (m_read_target a36)) fun a38 => bnd (bnd (ret x23.2.2) fun a37 => lft (m_read_number a37)) fun b39 => ret (a38, b39)) q42) fun a43 => lft (some a43)) fun x45 => bnd (bnd (ret ([] : List (Str × (Option Int)))) fun a49 => lft (few a49)) fun x51 => bnd (bnd (bnd (bnd (ret xwords) fun a55 => bnd (ret (5 : Int)) fun b56 => lft (atI a55 b56)) fun a57 => bnd (ret ("-" : Str)) fun b58 => lft (some (!decide (a57 = b58)))) fun b59 => bif b59 then (bnd (bnd (bnd (bnd (bnd (bnd (ret xwords) fun a60 => bnd (ret (5 : Int)) fun b61 => lft (atI a60 b61)) fun a62 => bnd (ret ("." : Str)) fun b63 => ret (a62, b63)) fun a64 => lft (m_read_pairs a64.1 a64.2)) fun q83 => bnd (lft (chk q83)) fun q84 => mp (fun x66 => bnd (ret x66.1) fun a80 => bnd (bnd (ret x66.2.2) fun a79 => lft (m_read_number a79)) fun b81 => ret (a80, b81)) q84) fun a85 => lft (some a85)) fun x87 => fun s => some (x87, s)) else (fun s => some (x51, s))) fun z95 => bnd (bnd (bnd (bnd (ret xwords) fun a104 => bnd (ret (0 : Int)) fun b105 => lft (atI a104 b105)) fun a106 => lft (m_read_number a106)) fun a125 => bnd (bnd (bnd (bnd (ret xwords) fun a107 => bnd (ret (1 : Int)) fun b108 => lft (atI a107 b108)) fun a109 => lft (m_read_number a109)) fun a123 => bnd (bnd (ret x45) fun a121 => bnd (bnd (bnd (bnd (ret xwords) fun a110 => bnd (ret (3 : Int)) fun b111 => lft (atI a110 b111)) fun a112 => bnd (ret ("holds" : Str)) fun b113 => lft (some (decide (a112 = b113)))) fun a119 => bnd (bnd (bnd (bnd (ret xwords) fun a114 => bnd (ret (4 : Int)) fun b115 => lft (atI a114 b115)) fun a116 => lft (m_read_target a116)) fun a117 => bnd (ret z95) fun b118 => ret (a117, b118)) fun b120 => ret (a119, b120)) fun b122 => ret (a121, b122)) fun b124 => ret (a123, b124)) fun b126 => ret (a125, b126)) fun x127 s => some (.inl x127, ())))
abbrev sp_read_vessel (K : PySem.W.Frag) : Sp := spPX K (arOne (rLst rStr)) (rTh (arC (rOpt rInt) (arC (rOpt rInt) (arC (rTup (rTh (arC (rOpt (rSum rInt rStr)) (arOne (rOpt rInt))))) (arC rBool (arC (rOpt (rSum rInt rStr)) (arOne (rTup (rTh (arC rStr (arOne (rOpt rInt)))))))))))) (fun x => m_read_vessel x)
theorem ok_read_vessel {f : Addr} {fd : FuncData} (F : Fun K "read_vessel" "read_vessel" s_read_vessel f fd) (T : Txt K mg) (c_read_pairs : Kn P w K mg base CX0 1 "read_pairs" ["word", "sign"] sp_read_pairs) (c_read_target : Kn P w K mg base CX0 2 "read_target" ["word"] sp_read_target) (c_read_number : Kn P w K mg base CX0 1 "read_number" ["word"] sp_read_number) : FnOk P w K mg base (L2.CX P w) 3 f fd ["words"] (sp_read_vessel K) := by
  refine F.okX sc_read_vessel (fun vs H Q E h => ?_) (fun cdv A outer s H vs Q E hr h => ?_)
  · obtain ⟨F, O, x, b, ⟨_, rfl, _⟩, _⟩ := h; rfl
  · obtain ⟨F, O, xwords, b, ⟨vwords, rfl, rwords⟩, W, hm, k⟩ := h
    replace rwords : (rLst rStr).r F vwords xwords := rwords
    replace hm : m_read_vessel xwords = some b := hm
    refine ⟨_, (pss_cons (ps_if (PW.pt (pw_or (pt_cmpR op_ne (pe_callB (kc_len (K := K)) (by rfl) T.len (by decide +kernel) (pa_cons (pv 0) pa_nil)) pe_int (nomark _)) (pw_or1 (pt_cmpR (kop_notIn (K := K)) (pe_ix (kix_list (K := K)) (pv 0) pe_int (fun _ _ => rfl)) (pe_tup (pa_cons pe_str (pa_cons pe_str pa_nil))) (by rfl))))) (pss_one (ps_raiseX (K := K) (by rfl) (takes_of rfl rfl rfl rfl) T.x_NoText (by rfl))) pss_nil) (pss_cons (ps_set (i := 1) sc_read_vessel.nd rfl (Or.inl rfl) (pe_callTy (kc_tuple (K := K)) (by rfl) T.tuple (by decide +kernel) (pa_cons (pe_lc (g := (gTup K 3 (gCons (gName 3) (gCons (gName 4) (gCons (gName 5) gNil))))) (tt := tYes) (by rfl) sc_read_vessel.nd (kpi_list (K := K) (pe_kn c_read_pairs hr (by decide) (by rfl) (pa_cons (pe_ix (kix_list (K := K)) (pv 0) pe_int (fun _ _ => rfl)) (pa_cons pe_str pa_nil)))) (blkOk_by (N := N_read_vessel) (sc := defScope s_read_vessel) (own := [("ahead", 3), ("sign", 4), ("back", 5)]) (by decide +kernel)) (fun _ _ _ _ _ => (kpg_tup (K := K) (by rfl) (pgs_cons (pg_name (i := 3) sc_read_vessel.nd rfl (by first | exact Or.inl rfl | exact Or.inr rfl)) (pgs_cons (pg_name (i := 4) sc_read_vessel.nd rfl (by first | exact Or.inl rfl | exact Or.inr rfl)) (pgs_cons (pg_name (i := 5) sc_read_vessel.nd rfl (by first | exact Or.inl rfl | exact Or.inr rfl)) pgs_nil))))) (fun _ _ _ _ _ => pts_nil) (fun _ _ _ _ _ => (pe_tup (pa_cons (pe_kn c_read_target hr (by decide) (by rfl) (pa_cons (pv 3) pa_nil)) (pa_cons (pe_kn c_read_number hr (by decide) (by rfl) (pa_cons (pv 5) pa_nil)) pa_nil))))) pa_nil))) (pss_cons (ps_set (i := 2) sc_read_vessel.nd rfl (Or.inl rfl) (pe_tup pa_nil)) (Evl.pss_cut (ps_if (pt_cmpR op_ne (pe_ix (kix_list (K := K)) (pv 0) pe_int (fun _ _ => rfl)) pe_str (nomark _)) (pss_cons (ps_set (i := 2) sc_read_vessel.nd rfl (Or.inl rfl) (pe_callTy (kc_tuple (K := K)) (by rfl) T.tuple (by decide +kernel) (pa_cons (pe_lc (g := (gTup K 3 (gCons (gName 3) (gCons (gName 4) (gCons (gName 5) gNil))))) (tt := tYes) (by rfl) sc_read_vessel.nd (kpi_list (K := K) (pe_kn c_read_pairs hr (by decide) (by rfl) (pa_cons (pe_ix (kix_list (K := K)) (pv 0) pe_int (fun _ _ => rfl)) (pa_cons pe_str pa_nil)))) (blkOk_by (N := N_read_vessel) (sc := defScope s_read_vessel) (own := [("ahead", 3), ("sign", 4), ("back", 5)]) (by decide +kernel)) (fun _ _ _ _ _ => (kpg_tup (K := K) (by rfl) (pgs_cons (pg_name (i := 3) sc_read_vessel.nd rfl (by first | exact Or.inl rfl | exact Or.inr rfl)) (pgs_cons (pg_name (i := 4) sc_read_vessel.nd rfl (by first | exact Or.inl rfl | exact Or.inr rfl)) (pgs_cons (pg_name (i := 5) sc_read_vessel.nd rfl (by first | exact Or.inl rfl | exact Or.inr rfl)) pgs_nil))))) (fun _ _ _ _ _ => pts_nil) (fun _ _ _ _ _ => (pe_tup (pa_cons (pv 3) (pa_cons (pe_kn c_read_number hr (by decide) (by rfl) (pa_cons (pv 5) pa_nil)) pa_nil))))) pa_nil))) pss_nil) pss_nil) (pss_cons (ps_ret (pe_tup (pa_cons (pe_kn c_read_number hr (by decide) (by rfl) (pa_cons (pe_ix (kix_list (K := K)) (pv 0) pe_int (fun _ _ => rfl)) pa_nil)) (pa_cons (pe_kn c_read_number hr (by decide) (by rfl) (pa_cons (pe_ix (kix_list (K := K)) (pv 0) pe_int (fun _ _ => rfl)) pa_nil)) (pa_cons (pv 1) (pa_cons (pe_cmpR op_eq (pe_ix (kix_list (K := K)) (pv 0) pe_int (fun _ _ => rfl)) pe_str (nomark _)) (pa_cons (pe_kn c_read_target hr (by decide) (by rfl) (pa_cons (pe_ix (kix_list (K := K)) (pv 0) pe_int (fun _ _ => rfl)) pa_nil)) (pa_cons (pv 2) pa_nil)))))))) pss_nil))))), ?_⟩
    refine ok_PX W hm k ?_
    show B _ [some vwords, none, none, none, none, none] F emp _ _
    exact b_ifRaise (fun _ _ => rz_rt pr_emp) (et_or (et_test (ev_op vl_neI (ev_cb vl_lenL (ea_one (ev_var rwords rfl))) ev_int)) (et_test (ev_op vl_niST (ev_op vl_ixL (ev_var rwords rfl) ev_int) (ev_tupl (eal_cons ev_str (eal_cons ev_str eal_nil)))))) (fun F15 s16 => b_set (ev_cb vl_tupleL (ea_one (ev_frz (eo_lcA (ei_lst (ev_callP (ea_cons (ev_op vl_ixL (ev_var ((rLst rStr).mono s16 rwords) rfl) ev_int) (ea_one ev_str)))) (fun v22 x23 F24 s25 r26 => cb_all (go_t3 r26) (fun w27 ⟨v29, v30, v31, r32, r33, r34, e35⟩ => by subst e35; exact wipe_s _ _ (by decide) (wipe_s _ _ (by decide) (wipe_s _ _ (by decide) (wipe_w _ _)))) (fun w27 ⟨v29, v30, v31, r32, r33, r34, e35⟩ => by subst e35; exact ev_σ (σ' := [some vwords, none, none, some v29, some v30, some v31]) rfl (ev_tup (by decide) (ea_cons (ev_callP (ea_one (ev_var r32 rfl))) (ea_one (ev_callP (ea_one (ev_var r34 rfl)))))))))))) fun v44 x45 F46 s47 r48 => b_σ (σ' := [some vwords, some v44, none, none, none, none]) rfl (b_set (ev_tupl (eal_nil (R := (rTh (arC rStr (arOne (rOpt rInt))))))) fun v50 x51 F52 s53 r54 => b_σ (σ' := [some vwords, some v44, some v50, none, none, none]) rfl (b_ifJ (Sl := (fun (z : (List (Str × (Option Int)))) (F : Hp) (σ : L2.St) => ∃ (u1 : V), σ = [some vwords, some v44, some u1, none, none, none] ∧ (rTup (rTh (arC rStr (arOne (rOpt rInt))))).r F u1 z)) (et_test (ev_op vl_neS (ev_op vl_ixL (ev_var ((rLst rStr).mono ((s16.trans s47).trans s53) rwords) rfl) ev_int) ev_str)) (b_set (ev_cb vl_tupleL (ea_one (ev_frz (eo_lcA (ei_lst (ev_callP (ea_cons (ev_op vl_ixL (ev_var ((rLst rStr).mono ((s16.trans s47).trans s53) rwords) rfl) ev_int) (ea_one ev_str)))) (fun v65 x66 F67 s68 r69 => cb_all (go_t3 r69) (fun w70 ⟨v72, v73, v74, r75, r76, r77, e78⟩ => by subst e78; exact wipe_s _ _ (by decide) (wipe_s _ _ (by decide) (wipe_s _ _ (by decide) (wipe_w _ _)))) (fun w70 ⟨v72, v73, v74, r75, r76, r77, e78⟩ => by subst e78; exact ev_σ (σ' := [some vwords, some v44, some v50, some v72, some v73, some v74]) rfl (ev_tup (by decide) (ea_cons (ev_var r75 rfl) (ea_one (ev_callP (ea_one (ev_var r77 rfl)))))))))))) fun v86 x87 F88 s89 r90 => b_σ (σ' := [some vwords, some v44, some v86, none, none, none]) rfl (b_nx pr_id (fun F91 s92 => ⟨v86, rfl, ((rTup (rTh (arC rStr (arOne (rOpt rInt))))).mono s92 r90)⟩))) (b_nx pr_id (fun F93 s94 => ⟨v50, rfl, ((rTup (rTh (arC rStr (arOne (rOpt rInt))))).mono s94 r54)⟩)) (fun z95 F96 w97 s98 h99 => by obtain ⟨v101, e102, r103⟩ := h99; subst e102; exact b_retX pr_emp (ev_tup (by decide) (ea_cons (ev_callP (ea_one (ev_op vl_ixL (ev_var ((rLst rStr).mono (((s16.trans s47).trans s53).trans s98) rwords) rfl) ev_int))) (ea_cons (ev_callP (ea_one (ev_op vl_ixL (ev_var ((rLst rStr).mono (((s16.trans s47).trans s53).trans s98) rwords) rfl) ev_int))) (ea_cons (ev_var ((rTup (rTh (arC (rOpt (rSum rInt rStr)) (arOne (rOpt rInt))))).mono (s53.trans s98) r48) rfl) (ea_cons (ev_op vl_eqS (ev_op vl_ixL (ev_var ((rLst rStr).mono (((s16.trans s47).trans s53).trans s98) rwords) rfl) ev_int) ev_str) (ea_cons (ev_callP (ea_one (ev_op vl_ixL (ev_var ((rLst rStr).mono (((s16.trans s47).trans s53).trans s98) rwords) rfl) ev_int))) (ea_one (ev_var r103 rfl))))))))))))
/-! read_spout -/
abbrev s_read_spout : Stmt := top 26
abbrev N_read_spout : List Str := ["words"]
theorem sc_read_spout : FnScope N_read_spout ["words"] (defScope s_read_spout) := ⟨rfl, rfl, rfl, by decide +kernel, rfl, by decide +kernel, by decide +kernel⟩
def m_read_spout (xwords : (List Str)) : Option (((Option Int) × (Option Int) × Bool) ⊕ Str) := rn (bnd (bnd (bnd (bnd (ret xwords) fun a1 => lft (some (a1.length : Int))) fun a2 => bnd (ret (3 : Int)) fun b3 => lft (some (!decide (a2 = b3)))) fun b13 => bif b13 then ret true else (bnd (bnd (ret xwords) fun a4 => bnd (ret (2 : Int)) fun b5 => lft (atI a4 b5)) fun a11 => bnd (bnd (bnd (ret ("open" : Str)) fun a8 => bnd (bnd (ret ("shut" : Str)) fun a6 => bnd (ret []) fun b7 => ret (a6 :: b7)) fun b9 => ret (a8 :: b9)) fun a10 => lft (few a10)) fun b12 => lft (some (!b12.any fun b => decide (b = a11))))) fun b14 => bif b14 then (fun s => some ((fun n s => (.inr n, ())) "NoText" s)) else (bnd (bnd (bnd (bnd (ret xwords) fun a17 => bnd (ret (0 : Int)) fun b18 => lft (atI a17 b18)) fun a19 => lft (m_read_number a19)) fun a29 => bnd (bnd (bnd (bnd (ret xwords) fun a20 => bnd (ret (1 : Int)) fun b21 => lft (atI a20 b21)) fun a22 => lft (m_read_number a22)) fun a27 => bnd (bnd (bnd (ret xwords) fun a23 => bnd (ret (2 : Int)) fun b24 => lft (atI a23 b24)) fun a25 => bnd (ret ("open" : Str)) fun b26 => lft (some (decide (a25 = b26)))) fun b28 => ret (a27, b28)) fun b30 => ret (a29, b30)) fun x31 s => some (.inl x31, ())))
abbrev sp_read_spout (K : PySem.W.Frag) : Sp := spPX K (arOne (rLst rStr)) (rTh (arC (rOpt rInt) (arC (rOpt rInt) (arOne rBool)))) (fun x => m_read_spout x)
theorem ok_read_spout {f : Addr} {fd : FuncData} (F : Fun K "read_spout" "read_spout" s_read_spout f fd) (T : Txt K mg) (c_read_number : Kn P w K mg base CX0 1 "read_number" ["word"] sp_read_number) : FnOk P w K mg base (L2.CX P w) 2 f fd ["words"] (sp_read_spout K) := by
  refine F.okX sc_read_spout (fun vs H Q E h => ?_) (fun cdv A outer s H vs Q E hr h => ?_)
  · obtain ⟨F, O, x, b, ⟨_, rfl, _⟩, _⟩ := h; rfl
  · obtain ⟨F, O, xwords, b, ⟨vwords, rfl, rwords⟩, W, hm, k⟩ := h
    replace rwords : (rLst rStr).r F vwords xwords := rwords
    replace hm : m_read_spout xwords = some b := hm
    refine ⟨_, (pss_cons (ps_if (PW.pt (pw_or (pt_cmpR op_ne (pe_callB (kc_len (K := K)) (by rfl) T.len (by decide +kernel) (pa_cons (pv 0) pa_nil)) pe_int (nomark _)) (pw_or1 (pt_cmpR (kop_notIn (K := K)) (pe_ix (kix_list (K := K)) (pv 0) pe_int (fun _ _ => rfl)) (pe_tup (pa_cons pe_str (pa_cons pe_str pa_nil))) (by rfl))))) (pss_one (ps_raiseX (K := K) (by rfl) (takes_of rfl rfl rfl rfl) T.x_NoText (by rfl))) pss_nil) (pss_cons (ps_ret (pe_tup (pa_cons (pe_kn c_read_number hr (by decide) (by rfl) (pa_cons (pe_ix (kix_list (K := K)) (pv 0) pe_int (fun _ _ => rfl)) pa_nil)) (pa_cons (pe_kn c_read_number hr (by decide) (by rfl) (pa_cons (pe_ix (kix_list (K := K)) (pv 0) pe_int (fun _ _ => rfl)) pa_nil)) (pa_cons (pe_cmpR op_eq (pe_ix (kix_list (K := K)) (pv 0) pe_int (fun _ _ => rfl)) pe_str (nomark _)) pa_nil))))) pss_nil)), ?_⟩
    refine ok_PX W hm k ?_
    show B _ [some vwords] F emp _ _
    exact b_ifRaise (fun _ _ => rz_rt pr_emp) (et_or (et_test (ev_op vl_neI (ev_cb vl_lenL (ea_one (ev_var rwords rfl))) ev_int)) (et_test (ev_op vl_niST (ev_op vl_ixL (ev_var rwords rfl) ev_int) (ev_tupl (eal_cons ev_str (eal_cons ev_str eal_nil)))))) (fun F15 s16 => b_retX pr_emp (ev_tup (by decide) (ea_cons (ev_callP (ea_one (ev_op vl_ixL (ev_var ((rLst rStr).mono s16 rwords) rfl) ev_int))) (ea_cons (ev_callP (ea_one (ev_op vl_ixL (ev_var ((rLst rStr).mono s16 rwords) rfl) ev_int))) (ea_one (ev_op vl_eqS (ev_op vl_ixL (ev_var ((rLst rStr).mono s16 rwords) rfl) ev_int) ev_str))))))
/-! read_net -/
abbrev s_read_net : Stmt := top 27
abbrev N_read_net : List Str := ["text", "vessels", "spouts", "line", "words", "net"]
theorem sc_read_net : FnScope N_read_net ["text"] (defScope s_read_net) := ⟨rfl, rfl, rfl, by decide +kernel, rfl, by decide +kernel, by decide +kernel⟩
def m_read_net (xtext : Str) : Option (((List ((Option Int) × (Option Int) × (List ((Option (Int ⊕ Str)) × (Option Int))) × Bool × (Option (Int ⊕ Str)) × (List (Str × (Option Int))))) × (List ((Option Int) × (Option Int) × Bool))) ⊕ Str) := rn (bnd (bnd (bnd (bnd (ret xtext) fun a1 => bnd (ret ()) fun b2 => ret (a1, b2)) fun a3 => lft (some true)) fun b4 => ret (!b4)) fun b5 => bif b5 then (fun s => some ((fun n s => (.inr n, ())) "NoText" s)) else (bnd (bnd (ret ([] : List ((Option Int) × (Option Int) × (List ((Option (Int ⊕ Str)) × (Option Int))) × Bool × (Option (Int ⊕ Str)) × (List (Str × (Option Int)))))) fun a8 => lft (few a8)) (nw (bnd (bnd (ret ([] : List ((Option Int) × (Option Int) × Bool))) fun a12 => lft (few a12)) (nw (bnd (bnd (ret xtext) fun a16 => bnd (ret ("\n" : Str)) fun b17 => lft (splitS a16 b17)) fun q119 => fthn (fdE (fun z20 x21 => bnd (bnd (ret x21) fun a31 => bnd (ret (" " : Str)) fun b32 => lft (splitS a31 b32)) fun x34 => fthnF (bnd (bnd (bnd (ret x34) fun a38 => bnd (ret (0 : Int)) fun b39 => lft (atI a38 b39)) fun a40 => bnd (ret ("vessel" : Str)) fun b41 => lft (some (decide (a40 = b41)))) fun b42 => bif b42 then (bndX (fun n s => .rt (.inr n, ())) (bnd (bnd (ret x34) fun a44 => bnd (bnd (ret (1 : Int)) fun a43 => ret (some a43)) fun b45 => bnd (ret none) fun c46 => ret (cutV' a44 b45 c46)) fun a47 => lft (m_read_vessel a47)) fun a48 => bnd (upL (fun s => s.1.2) (fun s t => ((s.1.1, t), s.2)) fun b49 => app b49 a48) fun _ => fun s => some (.nx ((), s))) else (fthnF (bnd (bnd (bnd (ret x34) fun a54 => bnd (ret (0 : Int)) fun b55 => lft (atI a54 b55)) fun a56 => bnd (ret ("spout" : Str)) fun b57 => lft (some (decide (a56 = b57)))) fun b58 => bif b58 then (bndX (fun n s => .rt (.inr n, ())) (bnd (bnd (ret x34) fun a60 => bnd (bnd (ret (1 : Int)) fun a59 => ret (some a59)) fun b61 => bnd (ret none) fun c62 => ret (cutV' a60 b61 c62)) fun a63 => lft (m_read_spout a63)) fun a64 => bnd (upL (fun s => s.2) (fun s t => (s.1, t)) fun b65 => app b65 a64) fun _ => fun s => some (.nx ((), s))) else (fun s => some ((fun n s => .rt (.inr n, ())) "NoText" s))) fun z70 => fun s => some (.nx ((), s)))) fun z79 => fun s => some (.nx ((), s))) () q119) fun z88 => bnd (bnd (gtL (fun s => s.1.2) fun a96 => some a96) fun a98 => bnd (gtL (fun s => s.2) fun a97 => some a97) fun b99 => ret (a98, b99)) fun x101 => bnd (bnd (bnd (bnd (bnd (ret x101) fun x105 => lft (((coC (coM (coC (coB (coI : Int → Option Int)) (coC (coB (coI : Int → Option Int)) (coC (coM (coC (coO (coE (coI : Int → Option Int) (coN : Str → Option Int))) (coB (coI : Int → Option Int)))) (coC (coI : Bool → Option Bool) (coC (coO (coE (coI : Int → Option Int) (coN : Str → Option Int))) (coM (coC (coI : Str → Option Str) (coB (coI : Int → Option Int)))))))))) (coM (coC (coB (coI : Int → Option Int)) (coC (coB (coI : Int → Option Int)) (coI : Bool → Option Bool))))) : ((List ((Option Int) × (Option Int) × (List ((Option (Int ⊕ Str)) × (Option Int))) × Bool × (Option (Int ⊕ Str)) × (List (Str × (Option Int))))) × (List ((Option Int) × (Option Int) × Bool))) → Option Net) x105)) fun a106 => lft (m_is_net a106)) fun b107 => ret (!b107)) fun b112 => bif b112 then ret true else (bnd (bnd (bnd (ret x101) fun x108 => lft (((coC (coM (coC (coB (coI : Int → Option Int)) (coC (coB (coI : Int → Option Int)) (coC (coM (coC (coO (coE (coI : Int → Option Int) (coN : Str → Option Int))) (coB (coI : Int → Option Int)))) (coC (coI : Bool → Option Bool) (coC (coO (coE (coI : Int → Option Int) (coN : Str → Option Int))) (coM (coC (coI : Str → Option Str) (coB (coI : Int → Option Int)))))))))) (coM (coC (coB (coI : Int → Option Int)) (coC (coB (coI : Int → Option Int)) (coI : Bool → Option Bool))))) : ((List ((Option Int) × (Option Int) × (List ((Option (Int ⊕ Str)) × (Option Int))) × Bool × (Option (Int ⊕ Str)) × (List (Str × (Option Int))))) × (List ((Option Int) × (Option Int) × Bool))) → Option Net) x108)) fun a109 => lft (m_net_text a109)) fun a110 => bnd (ret xtext) fun b111 => lft (some (!decide (a110 = b111))))) fun b113 => bif b113 then (fun s => some ((fun n s => (.inr n, ())) "NoText" s)) else (bnd (ret x101) fun x116 s => some (.inl x116, ()))))))))
abbrev sp_read_net (K : PySem.W.Frag) : Sp := spPX K (arOne rStr) (rTh (arC (rTup (rTh (arC (rOpt rInt) (arC (rOpt rInt) (arC (rTup (rTh (arC (rOpt (rSum rInt rStr)) (arOne (rOpt rInt))))) (arC rBool (arC (rOpt (rSum rInt rStr)) (arOne (rTup (rTh (arC rStr (arOne (rOpt rInt))))))))))))) (arOne (rTup (rTh (arC (rOpt rInt) (arC (rOpt rInt) (arOne rBool)))))))) (fun x => m_read_net x)
theorem ok_read_net {f : Addr} {fd : FuncData} (F : Fun K "read_net" "read_net" s_read_net f fd) (T : Txt K mg) (c_read_vessel : Kn P w K mg base (L2.CX P w) 3 "read_vessel" ["words"] (sp_read_vessel K)) (c_read_spout : Kn P w K mg base (L2.CX P w) 2 "read_spout" ["words"] (sp_read_spout K)) (c_is_net : Kn P w K mg base CX0 4 "is_net" ["thing"] sp_is_net) (c_net_text : Kn P w K mg base CX0 3 "net_text" ["net"] sp_net_text) : FnOk P w K mg base (L2.CX P w) 5 f fd ["text"] (sp_read_net K) := by
  refine F.okX sc_read_net (fun vs H Q E h => ?_) (fun cdv A outer s H vs Q E hr h => ?_)
  · obtain ⟨F, O, x, b, ⟨_, rfl, _⟩, _⟩ := h; rfl
  · obtain ⟨F, O, xtext, b, ⟨vtext, rfl, rtext⟩, W, hm, k⟩ := h
    replace rtext : rStr.r F vtext xtext := rtext
    replace hm : m_read_net xtext = some b := hm
    refine ⟨_, (pss_cons (ps_if (pt_not (pt_val (pe_callB (kc_isi (K := K)) (by rfl) T.isinstance (by decide +kernel) (pa_cons (pv 0) (pa_cons (pe_bltn (v := .ty "str") (by rfl) T.str (by decide +kernel) rfl) pa_nil))))) (pss_one (ps_raiseX (K := K) (by rfl) (takes_of rfl rfl rfl rfl) T.x_NoText (by rfl))) pss_nil) (pss_cons (ps_set (i := 1) sc_read_net.nd rfl (Or.inl rfl) (pe_lst pa_nil)) (pss_cons (ps_set (i := 2) sc_read_net.nd rfl (Or.inl rfl) (pe_lst pa_nil)) (pss_cons (ps_for (passes_of rfl) (by rfl) (kpi_list (K := K) (kpe_split (pv 0) pe_str)) (pg_name (i := 3) sc_read_net.nd rfl (by first | exact Or.inl rfl | exact Or.inr rfl)) (pss_cons (ps_set (i := 4) sc_read_net.nd rfl (Or.inl rfl) (kpe_split (pv 3) pe_str)) (Evl.pss_cut (ps_if (pt_cmpR op_eq (pe_ix (kix_list (K := K)) (pv 4) pe_int (fun _ _ => rfl)) pe_str (nomark _)) (pss_cons (ps_expr (kpe_bm (K := K) PySem.F.plainAttrs_list PySem.F.slot_list_append PySem.F.type_list_append mt_append (pv 1) (pa_cons (pe_knS c_read_vessel (takes_of rfl rfl rfl rfl) hr (by decide) (by rfl) (pa_cons (pe_slice (ksl_list (K := K)) (pv 4) (po_some pe_int) po_none) pa_nil)) pa_nil))) pss_nil) (Evl.pss_cut (ps_if (pt_cmpR op_eq (pe_ix (kix_list (K := K)) (pv 4) pe_int (fun _ _ => rfl)) pe_str (nomark _)) (pss_cons (ps_expr (kpe_bm (K := K) PySem.F.plainAttrs_list PySem.F.slot_list_append PySem.F.type_list_append mt_append (pv 2) (pa_cons (pe_knS c_read_spout (takes_of rfl rfl rfl rfl) hr (by decide) (by rfl) (pa_cons (pe_slice (ksl_list (K := K)) (pv 4) (po_some pe_int) po_none) pa_nil)) pa_nil))) pss_nil) (pss_cons (ps_raiseX (K := K) (by rfl) (takes_of rfl rfl rfl rfl) T.x_NoText (by rfl)) pss_nil)) pss_nil)) pss_nil))) (pss_cons (ps_set (i := 5) sc_read_net.nd rfl (Or.inl rfl) (pe_tup (pa_cons (pe_callTy (kc_tuple (K := K)) (by rfl) T.tuple (by decide +kernel) (pa_cons (pv 1) pa_nil)) (pa_cons (pe_callTy (kc_tuple (K := K)) (by rfl) T.tuple (by decide +kernel) (pa_cons (pv 2) pa_nil)) pa_nil)))) (pss_cons (ps_if (PW.pt (pw_or (pt_not (pt_val (pe_kn c_is_net hr (by decide) (by rfl) (pa_cons (pv 5) pa_nil)))) (pw_or1 (pt_cmpR op_ne (pe_kn c_net_text hr (by decide) (by rfl) (pa_cons (pv 5) pa_nil)) (pv 0) (nomark _))))) (pss_one (ps_raiseX (K := K) (by rfl) (takes_of rfl rfl rfl rfl) T.x_NoText (by rfl))) pss_nil) (pss_cons (ps_ret (pv 5)) pss_nil))))))), ?_⟩
    refine ok_PX W hm k ?_
    show B _ [some vtext, none, none, none, none, none] F emp _ _
    exact b_ifRaise (fun _ _ => rz_rt pr_emp) (et_not (et_B (ev_cb (vl_isi (bb := true) isi_str ) (ea_cons (ev_var rtext rfl) (ea_one (ev_ty (n := "str"))))))) (fun F6 s7 => b_new (eo_lst (eal_nil (R := (rTh (arC (rOpt rInt) (arC (rOpt rInt) (arC (rTup (rTh (arC (rOpt (rSum rInt rStr)) (arOne (rOpt rInt))))) (arC rBool (arC (rOpt (rSum rInt rStr)) (arOne (rTup (rTh (arC rStr (arOne (rOpt rInt))))))))))))))) fun v9 F10 s11 => b_σ (σ' := [some vtext, some v9, none, none, none, none]) rfl (b_new (eo_lst (eal_nil (R := (rTh (arC (rOpt rInt) (arC (rOpt rInt) (arOne rBool))))))) fun v13 F14 s15 => b_σ (σ' := [some vtext, some v9, some v13, none, none, none]) rfl (b_forEG (z0 := ()) (Sl := (fun (z : Unit) (F : Hp) (σ : L2.St) => ∃ (u1 : Option V) (u2 : Option V), σ = [some vtext, some v9, some v13, u1, u2, none])) (ei_lst (ev_frz (eo_split (ev_var (rStr.mono ((s7.trans s11).trans s15) rtext) rfl) ev_str))) (fun F117 s118 => ⟨_, _, rfl⟩) (fun z20 x21 v22 F23 w24 s25 h26 r27 => by obtain ⟨o28, o29, e30⟩ := h26; subst e30; exact b_go go_name (fun _ k => by subst k; exact b_σ (σ' := [some vtext, some v9, some v13, some v22, o29, none]) rfl (b_set (ev_frz (eo_split (ev_var r27 rfl) ev_str)) fun v33 x34 F35 s36 r37 => b_σ (σ' := [some vtext, some v9, some v13, some v22, some v33, none]) rfl (b_ifEFG (Sl := (fun (z : Unit) (F : Hp) (σ : L2.St) => σ = [some vtext, some v9, some v13, some v22, some v33, none])) (et_test (ev_op vl_eqS (ev_op vl_ixL (ev_var r37 rfl) ev_int) ev_str)) (b_appX (fun _ _ => rz_fl (rz_rt pr_emp)) rfl (emb_l (emb_r emb_id)) (evx_callP (ea_one (ev_frz (eo_slL (ev_var r37 rfl) (ep_some ev_int) ep_none)))) fun F50 s51 => b_nxFG pr_id (fun F52 s53 => rfl)) (b_ifEFG (Sl := (fun (z : Unit) (F : Hp) (σ : L2.St) => σ = [some vtext, some v9, some v13, some v22, some v33, none])) (et_test (ev_op vl_eqS (ev_op vl_ixL (ev_var r37 rfl) ev_int) ev_str)) (b_appX (fun _ _ => rz_fl (rz_rt pr_emp)) rfl (emb_r emb_id) (evx_callP (ea_one (ev_frz (eo_slL (ev_var r37 rfl) (ep_some ev_int) ep_none)))) fun F66 s67 => b_nxFG pr_id (fun F68 s69 => rfl)) (b_raise (fun _ _ => rz_fl (rz_rt pr_emp))) (fun z70 F71 w72 s73 h74 => by subst h74; exact b_nxFG pr_id (fun F77 s78 => rfl))) (fun z79 F80 w81 s82 h83 => by subst h83; exact b_nxFG pr_id (fun F86 s87 => ⟨_, _, rfl⟩)))))) (fun z88 F89 w90 s91 h92 => by obtain ⟨o93, o94, e95⟩ := h92; subst e95; exact b_set (ev_tup (by decide) (ea_cons (ev_cbO vh_tuple rfl (emb_l (emb_r emb_id))) (ea_one (ev_cbO vh_tuple rfl (emb_r emb_id))))) fun v100 x101 F102 s103 r104 => b_σ (σ' := [some vtext, some v9, some v13, o93, o94, some v100]) rfl (b_ifRaise (fun _ _ => rz_rt pr_emp) (et_or (et_not (et_B (ev_callP (ea_one (ev_cvP (R := (rTh (arC (rTup (rTh (arC (rOpt rInt) (arC (rOpt rInt) (arC (rTup (rTh (arC (rOpt (rSum rInt rStr)) (arOne (rOpt rInt))))) (arC rBool (arC (rOpt (rSum rInt rStr)) (arOne (rTup (rTh (arC rStr (arOne (rOpt rInt))))))))))))) (arOne (rTup (rTh (arC (rOpt rInt) (arC (rOpt rInt) (arOne rBool))))))))) (R' := rNet) (cvp_th (coa_C (cop_T (cvp_th (coa_C (cop_B cop_I) (coa_C (cop_B cop_I) (coa_C (cop_T (cvp_th (coa_C (cop_O (cop_E cop_I cop_N)) (cva_one (cop_B cop_I))))) (coa_C cop_I (coa_C (cop_O (cop_E cop_I cop_N)) (cva_one (cop_T (cvp_th (coa_C cop_I (cva_one (cop_B cop_I))))))))))))) (cva_one (cop_T (cvp_th (coa_C (cop_B cop_I) (coa_C (cop_B cop_I) (cva_one cop_I)))))))) (ev_var r104 rfl)))))) (et_test (ev_op vl_neS (ev_callP (ea_one (ev_cvP (R := (rTh (arC (rTup (rTh (arC (rOpt rInt) (arC (rOpt rInt) (arC (rTup (rTh (arC (rOpt (rSum rInt rStr)) (arOne (rOpt rInt))))) (arC rBool (arC (rOpt (rSum rInt rStr)) (arOne (rTup (rTh (arC rStr (arOne (rOpt rInt))))))))))))) (arOne (rTup (rTh (arC (rOpt rInt) (arC (rOpt rInt) (arOne rBool))))))))) (R' := rNet) (cvp_th (coa_C (cop_T (cvp_th (coa_C (cop_B cop_I) (coa_C (cop_B cop_I) (coa_C (cop_T (cvp_th (coa_C (cop_O (cop_E cop_I cop_N)) (cva_one (cop_B cop_I))))) (coa_C cop_I (coa_C (cop_O (cop_E cop_I cop_N)) (cva_one (cop_T (cvp_th (coa_C cop_I (cva_one (cop_B cop_I))))))))))))) (cva_one (cop_T (cvp_th (coa_C (cop_B cop_I) (coa_C (cop_B cop_I) (cva_one cop_I)))))))) (ev_var r104 rfl)))) (ev_var (rStr.mono ((((s7.trans s11).trans s15).trans s91).trans s103) rtext) rfl)))) (fun F114 s115 => b_retX pr_emp (ev_var ((rTh (arC (rTup (rTh (arC (rOpt rInt) (arC (rOpt rInt) (arC (rTup (rTh (arC (rOpt (rSum rInt rStr)) (arOne (rOpt rInt))))) (arC rBool (arC (rOpt (rSum rInt rStr)) (arOne (rTup (rTh (arC rStr (arOne (rOpt rInt))))))))))))) (arOne (rTup (rTh (arC (rOpt rInt) (arC (rOpt rInt) (arOne rBool)))))))).mono s115 r104) rfl)))) (fun _ _ _ _ s ⟨a0, a1, e⟩ => ⟨a0, a1, e⟩))))
/-! _law_goal -/
abbrev s_law_goal : Stmt := top 36
abbrev N_law_goal : List Str := ["target"]
theorem sc_law_goal : FnScope N_law_goal ["target"] (defScope s_law_goal) := ⟨rfl, rfl, rfl, by decide +kernel, rfl, by decide +kernel, by decide +kernel⟩
def m_law_goal (xtarget : (Option Int)) : Option Str := rn (bnd (bnd (bnd (bnd (bnd (ret xtarget) fun a2 => lft (strO a2)) fun a5 => bnd (bnd (ret ("ground" : Str)) fun a3 => bnd (ret []) fun b4 => ret (a3 :: b4)) fun b6 => ret (a5 :: b6)) fun a7 => lft (few a7)) fun a11 => bnd (bnd (bnd (ret xtarget) fun a8 => bnd (ret ()) fun b9 => lft (some a8.isNone)) fun a10 => lft (some (intB a10))) fun b12 => lft (atI a11 b12)) fun x13 s => some (x13, ()))
abbrev sp_law_goal : Sp := spP (arOne (rOpt rInt)) rStr (fun x => m_law_goal x)
theorem ok_law_goal {f : Addr} {fd : FuncData} (F : Fun K "_law_goal" "_law_goal" s_law_goal f fd) (T : Txt K mg) : FnOk P w K mg base CX0 1 f fd ["target"] sp_law_goal := by
  refine F.ok sc_law_goal (fun vs H Q E h => ?_) (fun cdv A outer s H vs Q E hr h => ?_)
  · obtain ⟨F, O, x, b, ⟨_, rfl, _⟩, _⟩ := h; rfl
  · obtain ⟨F, O, xtarget, b, ⟨vtarget, rfl, rtarget⟩, W, hm, k⟩ := h
    replace rtarget : (rOpt rInt).r F vtarget xtarget := rtarget
    replace hm : m_law_goal xtarget = some b := hm
    refine ⟨_, (pss_cons (ps_ret (pe_ix (kix_list (K := K)) (pe_lst (pa_cons (pe_callTy call_str_opt (by rfl) T.str (by decide +kernel) (pa_cons (pv 0) pa_nil)) (pa_cons pe_str pa_nil))) (pe_callTy call_int1 (by rfl) T.int (by decide +kernel) (pa_cons (pe_cmpR op_isN (pv 0) pe_non (nomark _)) pa_nil)) (fun _ _ => rfl))) pss_nil), ?_⟩
    refine ok_P W hm k ?_
    show B _ [some vtarget] F emp _ _
    exact b_ret pr_emp (ev_op vl_ixL (ev_frz (eo_lst (eal_cons (ev_cb vl_strO (ea_one (ev_var rtarget rfl))) (eal_cons ev_str eal_nil)))) (ev_cb vl_intB (ea_one (ev_op vl_isNone (ev_var rtarget rfl) ev_non))))
/-! _law_text -/
abbrev s_law_text : Stmt := top 37
abbrev N_law_text : List Str := ["net", "rows", "size", "brim", "outs", "holds", "spill", "acts", "words", "target", "flow", "is_open", "out", "word", "spout"]
theorem sc_law_text : FnScope N_law_text ["net"] (defScope s_law_text) := ⟨rfl, rfl, rfl, by decide +kernel, rfl, by decide +kernel, by decide +kernel⟩
def m_law_text (xnet : Net) : Option Str := rn (bnd (bnd (ret ([] : List Str)) fun a1 => lft (few a1)) (nw (bnd (bnd (ret xnet) fun a5 => ret a5.1) fun q241 => bnd (fd (fun z8 x9 => bnd (bnd (bnd (ret ("vessel" : Str)) fun a65 => bnd (bnd (bnd (ret x9.1) fun a37 => lft (strI a37)) fun a63 => bnd (bnd (bnd (ret x9.2.1) fun a38 => lft (strI a38)) fun a61 => bnd (bnd (bnd (ret ("," : Str)) fun a39 => bnd (bnd (ret x9.2.2.1) fun q57 => bnd (lft (chk q57)) fun q58 => mp (fun x42 => bnd (bnd (bnd (bnd (ret x42) fun a48 => ret a48.1) fun a49 => lft (m_law_goal a49)) fun a50 => bnd (ret ("*" : Str)) fun b51 => lft (addS a50 b51)) fun a54 => bnd (bnd (bnd (ret x42) fun a52 => ret a52.2) fun a53 => lft (strI a53)) fun b55 => lft (addS a54 b55)) q58) fun b40 => lft (joinS a39 b40)) fun a59 => bnd (ret []) fun b60 => ret (a59 :: b60)) fun b62 => ret (a61 :: b62)) fun b64 => ret (a63 :: b64)) fun b66 => ret (a65 :: b66)) fun a67 => lft (few a67)) (nw (bnd (bnd (bnd (bnd (bnd (bnd (bnd (ret ("loses" : Str)) fun a87 => bnd (bnd (ret ("holds" : Str)) fun a85 => bnd (ret []) fun b86 => ret (a85 :: b86)) fun b88 => ret (a87 :: b88)) fun a89 => lft (few a89)) fun a91 => bnd (bnd (ret x9.2.2.2.1) fun a90 => lft (some (intB a90))) fun b92 => lft (atI a91 b92)) fun a96 => bnd (bnd (bnd (ret x9.2.2.2.2.1) fun a93 => lft (m_law_goal a93)) fun a94 => bnd (ret []) fun b95 => ret (a94 :: b95)) fun b97 => ret (a96 :: b97)) fun a98 => lft (few a98)) fun a99 => gtL (fun s => s.2) fun b100 => catL b100 a99) (rb (fun s t => (s.1, t)) (bnd (bnd (ret ("," : Str)) fun a107 => bnd (bnd (ret x9.2.2.2.2.2) fun q127 => bnd (lft (chk q127)) fun q128 => mp (fun x110 => bnd (bnd (ret x110.1) fun a121 => bnd (ret ("." : Str)) fun b122 => lft (addS a121 b122)) fun a124 => bnd (bnd (ret x110.2) fun a123 => lft (strI a123)) fun b125 => lft (addS a124 b125)) q128) fun b108 => lft (joinS a107 b108)) fun a158 => bnd (upL (fun s => s.2) (fun s t => (s.1, t)) fun b159 => app b159 a158) fun _ => bnd (bnd (bnd (ret x9.2.2.2.2.2) fun a130 => bnd (bnd (ret ([] : List Act)) fun a129 => lft (few a129)) fun b131 => lft (eqD ((dTup dAct).d a130) ((dTup dAct).d b131))) fun b132 => bif b132 then (bnd (ret ("-" : Str)) fun a136 => bnd (bnd (ret (1 : Int)) fun a133 => ret (-a133)) fun b137 => bnd (upL (fun s => s.2) (fun s t => (s.1, t)) fun c138 => setI c138 b137 a136) fun _ => fun s => some ((), s)) else (fun s => some ((), s))) fun z141 => fzL (fun s => s.2) (fun s => s.1) fun x148 => bnd (bnd (ret (" " : Str)) fun a152 => bnd (ret x148) fun b153 => lft (joinS a152 b153)) fun a156 => bnd (upL (fun s => s.2) (fun s t => (s.1, t)) fun b157 => app b157 a156) fun _ => fun s => some ((), s)))))) () q241) fun z160 => bnd (bnd (ret xnet) fun a173 => ret a173.2) fun q238 => bnd (fd (fun z176 x177 => bnd (bnd (ret (" " : Str)) fun a195 => bnd (bnd (bnd (ret ("spout" : Str)) fun a213 => bnd (bnd (bnd (ret x177.1) fun a197 => lft (strI a197)) fun a211 => bnd (bnd (bnd (ret x177.2.1) fun a198 => lft (strI a198)) fun a209 => bnd (bnd (bnd (bnd (bnd (ret ("shut" : Str)) fun a201 => bnd (bnd (ret ("open" : Str)) fun a199 => bnd (ret []) fun b200 => ret (a199 :: b200)) fun b202 => ret (a201 :: b202)) fun a203 => lft (few a203)) fun a205 => bnd (bnd (ret x177.2.2) fun a204 => lft (some (intB a204))) fun b206 => lft (atI a205 b206)) fun a207 => bnd (ret []) fun b208 => ret (a207 :: b208)) fun b210 => ret (a209 :: b210)) fun b212 => ret (a211 :: b212)) fun b214 => ret (a213 :: b214)) fun a215 => lft (few a215)) fun b196 => lft (joinS a195 b196)) fun a218 => bnd (upL (fun s => s.2) (fun s t => (s.1, t)) fun b219 => app b219 a218) fun _ => fun s => some ((), s)) () q238) fun z220 => fzL (fun s => s.2) (fun s => s.1) fun x229 => bnd (bnd (ret ("\n" : Str)) fun a233 => bnd (ret x229) fun b234 => lft (joinS a233 b234)) fun x235 s => some (x235, ()))))
abbrev sp_law_text : Sp := spP (arOne rNet) rStr (fun x => m_law_text x)
theorem ok_law_text {f : Addr} {fd : FuncData} (F : Fun K "_law_text" "_law_text" s_law_text f fd) (T : Txt K mg) (c_law_goal : Kn P w K mg base CX0 1 "_law_goal" ["target"] sp_law_goal) : FnOk P w K mg base CX0 2 f fd ["net"] sp_law_text := by
  refine F.ok sc_law_text (fun vs H Q E h => ?_) (fun cdv A outer s H vs Q E hr h => ?_)
  · obtain ⟨F, O, x, b, ⟨_, rfl, _⟩, _⟩ := h; rfl
  · obtain ⟨F, O, xnet, b, ⟨vnet, rfl, rnet⟩, W, hm, k⟩ := h
    replace rnet : rNet.r F vnet xnet := rnet
    replace hm : m_law_text xnet = some b := hm
    refine ⟨_, (pss_cons (ps_set (i := 1) sc_law_text.nd rfl (Or.inl rfl) (pe_lst pa_nil)) (pss_cons (ps_for PassesOwn.never (by rfl) (kpi_tup (K := K) (pe_ix (kix_tup (K := K)) (pv 0) pe_int (fun _ _ => rfl))) (kpg_tup (K := K) (by rfl) (pgs_cons (pg_name (i := 2) sc_law_text.nd rfl (by first | exact Or.inl rfl | exact Or.inr rfl)) (pgs_cons (pg_name (i := 3) sc_law_text.nd rfl (by first | exact Or.inl rfl | exact Or.inr rfl)) (pgs_cons (pg_name (i := 4) sc_law_text.nd rfl (by first | exact Or.inl rfl | exact Or.inr rfl)) (pgs_cons (pg_name (i := 5) sc_law_text.nd rfl (by first | exact Or.inl rfl | exact Or.inr rfl)) (pgs_cons (pg_name (i := 6) sc_law_text.nd rfl (by first | exact Or.inl rfl | exact Or.inr rfl)) (pgs_cons (pg_name (i := 7) sc_law_text.nd rfl (by first | exact Or.inl rfl | exact Or.inr rfl)) pgs_nil))))))) (pss_cons (ps_set (i := 8) sc_law_text.nd rfl (Or.inl rfl) (pe_lst (pa_cons pe_str (pa_cons (pe_callTy call_str_int (by rfl) T.str (by decide +kernel) (pa_cons (pv 2) pa_nil)) (pa_cons (pe_callTy call_str_int (by rfl) T.str (by decide +kernel) (pa_cons (pv 3) pa_nil)) (pa_cons (kpe_join (K := K) pe_str (pe_lc (g := (gName 12)) (tt := tYes) (by rfl) sc_law_text.nd (kpi_tup (K := K) (pv 4)) (blkOk_by (N := N_law_text) (sc := defScope s_law_text) (own := [("out", 12)]) (by decide +kernel)) (fun _ _ _ _ _ => (pg_name (i := 12) sc_law_text.nd rfl (by first | exact Or.inl rfl | exact Or.inr rfl))) (fun _ _ _ _ _ => pts_nil) (fun _ _ _ _ _ => (pe_op op_add_str (pe_op op_add_str (pe_kn c_law_goal hr (by decide) (by rfl) (pa_cons (pe_ix (kix_tup (K := K)) (pv 12) pe_int (fun _ _ => rfl)) pa_nil)) pe_str) (pe_callTy call_str_int (by rfl) T.str (by decide +kernel) (pa_cons (pe_ix (kix_tup (K := K)) (pv 12) pe_int (fun _ _ => rfl)) pa_nil)))))) pa_nil)))))) (pss_cons (ps_set (i := 8) sc_law_text.nd rfl (Or.inl rfl) (pe_op op_cat (pv 8) (pe_lst (pa_cons (pe_ix (kix_list (K := K)) (pe_lst (pa_cons pe_str (pa_cons pe_str pa_nil))) (pe_callTy call_int1 (by rfl) T.int (by decide +kernel) (pa_cons (pv 5) pa_nil)) (fun _ _ => rfl)) (pa_cons (pe_kn c_law_goal hr (by decide) (by rfl) (pa_cons (pv 6) pa_nil)) pa_nil))))) (pss_cons (ps_expr (kpe_bm (K := K) PySem.F.plainAttrs_list PySem.F.slot_list_append PySem.F.type_list_append mt_append (pv 8) (pa_cons (kpe_join (K := K) pe_str (pe_lc (g := (gTup K 2 (gCons (gName 13) (gCons (gName 14) gNil)))) (tt := tYes) (by rfl) sc_law_text.nd (kpi_tup (K := K) (pv 7)) (blkOk_by (N := N_law_text) (sc := defScope s_law_text) (own := [("word", 13), ("spout", 14)]) (by decide +kernel)) (fun _ _ _ _ _ => (kpg_tup (K := K) (by rfl) (pgs_cons (pg_name (i := 13) sc_law_text.nd rfl (by first | exact Or.inl rfl | exact Or.inr rfl)) (pgs_cons (pg_name (i := 14) sc_law_text.nd rfl (by first | exact Or.inl rfl | exact Or.inr rfl)) pgs_nil)))) (fun _ _ _ _ _ => pts_nil) (fun _ _ _ _ _ => (pe_op op_add_str (pe_op op_add_str (pv 13) pe_str) (pe_callTy call_str_int (by rfl) T.str (by decide +kernel) (pa_cons (pv 14) pa_nil)))))) pa_nil))) (Evl.pss_cut (ps_if (pt_cmpR (kop_eqD (K := K) hr.units) (pv 7) (pe_tup pa_nil) (nomark _)) (pss_cons (ps_asg pe_str (pg_sub (pv 8) (pe_un un_neg pe_int) set_list)) pss_nil) pss_nil) (pss_cons (ps_expr (kpe_bm (K := K) PySem.F.plainAttrs_list PySem.F.slot_list_append PySem.F.type_list_append mt_append (pv 1) (pa_cons (kpe_join (K := K) pe_str (pv 8)) pa_nil))) pss_nil)))))) (pss_cons (ps_for PassesOwn.never (by rfl) (kpi_tup (K := K) (pe_ix (kix_tup (K := K)) (pv 0) pe_int (fun _ _ => rfl))) (kpg_tup (K := K) (by rfl) (pgs_cons (pg_name (i := 9) sc_law_text.nd rfl (by first | exact Or.inl rfl | exact Or.inr rfl)) (pgs_cons (pg_name (i := 10) sc_law_text.nd rfl (by first | exact Or.inl rfl | exact Or.inr rfl)) (pgs_cons (pg_name (i := 11) sc_law_text.nd rfl (by first | exact Or.inl rfl | exact Or.inr rfl)) pgs_nil)))) (pss_cons (ps_expr (kpe_bm (K := K) PySem.F.plainAttrs_list PySem.F.slot_list_append PySem.F.type_list_append mt_append (pv 1) (pa_cons (kpe_join (K := K) pe_str (pe_lst (pa_cons pe_str (pa_cons (pe_callTy call_str_int (by rfl) T.str (by decide +kernel) (pa_cons (pv 9) pa_nil)) (pa_cons (pe_callTy call_str_int (by rfl) T.str (by decide +kernel) (pa_cons (pv 10) pa_nil)) (pa_cons (pe_ix (kix_list (K := K)) (pe_lst (pa_cons pe_str (pa_cons pe_str pa_nil))) (pe_callTy call_int1 (by rfl) T.int (by decide +kernel) (pa_cons (pv 11) pa_nil)) (fun _ _ => rfl)) pa_nil)))))) pa_nil))) pss_nil)) (pss_cons (ps_ret (kpe_join (K := K) pe_str (pv 1))) pss_nil)))), ?_⟩
    refine ok_P W hm k ?_
    show B _ [some vnet, none, none, none, none, none, none, none, none, none, none, none, none, none, none] F emp _ _
    exact b_new (eo_lst (eal_nil (R := rStr))) fun v2 F3 s4 => b_σ (σ' := [some vnet, some v2, none, none, none, none, none, none, none, none, none, none, none, none, none]) rfl (b_for (z0 := ()) (Sl := (fun (z : Unit) (F : Hp) (σ : L2.St) => ∃ (u1 : Option V) (u2 : Option V) (u3 : Option V) (u4 : Option V) (u5 : Option V) (u6 : Option V) (u7 : Option V), σ = [some vnet, some v2, u1, u2, u3, u4, u5, u6, u7, none, none, none, none, none, none])) (ei_tup (ev_prj prj_0 (ev_var (rNet.mono s4 rnet) rfl))) (fun F239 s240 => ⟨_, _, _, _, _, _, _, rfl⟩) (fun z8 x9 v10 F11 w12 s13 h14 r15 => by obtain ⟨o16, o17, o18, o19, o20, o21, o22, e23⟩ := h14; subst e23; exact b_go (go_t6 r15) (fun _ ⟨v24, v25, v26, v27, v28, v29, r30, r31, r32, r33, r34, r35, e36⟩ => by subst e36; exact b_σ (σ' := [some vnet, some v2, some v24, some v25, some v26, some v27, some v28, some v29, o22, none, none, none, none, none, none]) rfl (b_new (eo_lst (eal_cons ev_str (eal_cons (ev_cb vl_strI (ea_one (ev_var r30 rfl))) (eal_cons (ev_cb vl_strI (ea_one (ev_var r31 rfl))) (eal_cons (ev_join ev_str (ev_frz (eo_lcA (ei_tup (ev_var r32 rfl)) (fun v41 x42 F43 s44 r45 => cb_all go_name (fun w46 k47 => by subst k47; exact wipe_s _ _ (by decide) (wipe_w _ _)) (fun w46 k47 => by subst k47; exact ev_σ (σ' := [some vnet, some v2, some v24, some v25, some v26, some v27, some v28, some v29, o22, none, none, none, some v41, none, none]) rfl (ev_op vl_addS (ev_op vl_addS (ev_callP (ea_one (ev_prj prj_0 (ev_var r45 rfl)))) ev_str) (ev_cb vl_strI (ea_one (ev_prj (prj_s prj_1) (ev_var r45 rfl)))))))))) eal_nil))))) fun v68 F69 s70 => b_σ (σ' := [some vnet, some v2, some v24, some v25, some v26, some v27, some v28, some v29, some v68, none, none, none, none, none, none]) rfl (b_rb (A' := fun v => (star (star emp (oLst rStr v2)) (oLst rStr v))) (eo_catO rfl (emb_r emb_id) (ev_frz (eo_lst (eal_cons (ev_op vl_ixL (ev_frz (eo_lst (eal_cons ev_str (eal_cons ev_str eal_nil)))) (ev_cb vl_intB (ea_one (ev_var (rBool.mono s70 r33) rfl)))) (eal_cons (ev_callP (ea_one (ev_var ((rOpt rInt).mono s70 r34) rfl))) eal_nil))))) (fun v => rpl_r) fun v104 F105 s106 => b_σ (σ' := [some vnet, some v2, some v24, some v25, some v26, some v27, some v28, some v29, some v104, none, none, none, none, none, none]) rfl (b_app rfl (emb_r emb_id) (ev_join ev_str (ev_frz (eo_lcA (ei_tup (ev_var ((rTup rAct).mono (s70.trans s106) r35) rfl)) (fun v109 x110 F111 s112 r113 => cb_all (go_t2 r113) (fun w114 ⟨v116, v117, r118, r119, e120⟩ => by subst e120; exact wipe_s _ _ (by decide) (wipe_s _ _ (by decide) (wipe_w _ _))) (fun w114 ⟨v116, v117, r118, r119, e120⟩ => by subst e120; exact ev_σ (σ' := [some vnet, some v2, some v24, some v25, some v26, some v27, some v28, some v29, some v104, none, none, none, none, some v116, some v117]) rfl (ev_op vl_addS (ev_op vl_addS (ev_var r118 rfl) ev_str) (ev_cb vl_strI (ea_one (ev_var r119 rfl))))))))) (b_ifJ (Sl := (fun (z : Unit) (F : Hp) (σ : L2.St) => σ = [some vnet, some v2, some v24, some v25, some v26, some v27, some v28, some v29, some v104, none, none, none, none, none, none])) (et_test (ev_op (vl_eqD (dTup dAct) (dTup dAct)) (ev_var ((rTup rAct).mono (s70.trans s106) r35) rfl) (ev_tupl (eal_nil (R := rAct))))) (b_setL rfl (emb_r emb_id) ev_str (ev_neg ev_int) (b_nx pr_id (fun F134 s135 => rfl))) (b_nx pr_id (fun F139 s140 => rfl)) (fun z141 F142 w143 s144 h145 => by subst h145; exact b_fzL rm_r fun x148 F149 s150 r151 => b_app rfl (emb_r emb_id) (ev_join ev_str (ev_var r151 rfl)) (b_nx pr_id (fun F154 s155 => ⟨_, _, _, _, _, _, _, rfl⟩))))))))) (fun z160 F161 w162 s163 h164 => by obtain ⟨o165, o166, o167, o168, o169, o170, o171, e172⟩ := h164; subst e172; exact b_for (z0 := ()) (Sl := (fun (z : Unit) (F : Hp) (σ : L2.St) => ∃ (u1 : Option V) (u2 : Option V) (u3 : Option V), σ = [some vnet, some v2, o165, o166, o167, o168, o169, o170, o171, u1, u2, u3, none, none, none])) (ei_tup (ev_prj (prj_s prj_1) (ev_var (rNet.mono (s4.trans s163) rnet) rfl))) (fun F236 s237 => ⟨_, _, _, rfl⟩) (fun z176 x177 v178 F179 w180 s181 h182 r183 => by obtain ⟨o184, o185, o186, e187⟩ := h182; subst e187; exact b_go (go_t3 r183) (fun _ ⟨v188, v189, v190, r191, r192, r193, e194⟩ => by subst e194; exact b_σ (σ' := [some vnet, some v2, o165, o166, o167, o168, o169, o170, o171, some v188, some v189, some v190, none, none, none]) rfl (b_app rfl (emb_r emb_id) (ev_join ev_str (ev_frz (eo_lst (eal_cons ev_str (eal_cons (ev_cb vl_strI (ea_one (ev_var r191 rfl))) (eal_cons (ev_cb vl_strI (ea_one (ev_var r192 rfl))) (eal_cons (ev_op vl_ixL (ev_frz (eo_lst (eal_cons ev_str (eal_cons ev_str eal_nil)))) (ev_cb vl_intB (ea_one (ev_var r193 rfl)))) eal_nil))))))) (b_nx pr_id (fun F216 s217 => ⟨_, _, _, rfl⟩))))) (fun z220 F221 w222 s223 h224 => by obtain ⟨o225, o226, o227, e228⟩ := h224; subst e228; exact b_fzL rm_r fun x229 F230 s231 r232 => b_ret pr_emp (ev_join ev_str (ev_var r232 rfl))) (fun _ _ _ _ s ⟨a0, a1, a2, e⟩ => ⟨a0, a1, a2, e⟩)) (fun _ _ _ _ s ⟨a0, a1, a2, a3, a4, a5, a6, e⟩ => ⟨a0, a1, a2, a3, a4, a5, a6, e⟩))
/-! _law_whole -/
abbrev s_law_whole : Stmt := top 30
abbrev N_law_whole : List Str := ["thing", "low", "high"]
theorem sc_law_whole : FnScope N_law_whole ["thing", "low", "high"] (defScope s_law_whole) := ⟨rfl, rfl, rfl, by decide +kernel, rfl, by decide +kernel, by decide +kernel⟩
def m_law_whole (xthing : Int) (xlow : Int) (xhigh : Int) : Option Bool := rn (bnd (bnd (bnd (bnd (ret xthing) fun a1 => bnd (ret ()) fun b2 => ret (a1, b2)) fun a3 => lft (some true)) fun b14 => bif b14 then (bnd (bnd (bnd (bnd (ret xthing) fun a4 => bnd (ret ()) fun b5 => ret (a4, b5)) fun a6 => lft (some false)) fun b7 => ret (!b7)) fun b13 => bif b13 then (bnd (bnd (ret xlow) fun a8 => bnd (ret xthing) fun b9 => lft (some (decide (a8 ≤ b9)))) fun b12 => bif b12 then (bnd (ret xthing) fun a10 => bnd (ret xhigh) fun b11 => lft (some (decide (a10 ≤ b11)))) else ret false) else ret false) else ret false) fun x15 s => some (x15, ()))
abbrev sp_law_whole : Sp := spP (arC rInt (arC rInt (arOne rInt))) rBool (fun x => m_law_whole x.1 x.2.1 x.2.2)
theorem ok_law_whole {f : Addr} {fd : FuncData} (F : Fun K "_law_whole" "_law_whole" s_law_whole f fd) (T : Txt K mg) : FnOk P w K mg base CX0 1 f fd ["thing", "low", "high"] sp_law_whole := by
  refine F.ok sc_law_whole (fun vs H Q E h => ?_) (fun cdv A outer s H vs Q E hr h => ?_)
  · obtain ⟨F, O, x, b, ⟨_, _, rfl, _, ⟨_, _, rfl, _, ⟨_, rfl, _⟩⟩⟩, _⟩ := h; rfl
  · obtain ⟨F, O, ⟨xthing, xlow, xhigh⟩, b, ⟨vthing, _, rfl, rthing, ⟨vlow, _, rfl, rlow, ⟨vhigh, rfl, rhigh⟩⟩⟩, W, hm, k⟩ := h
    replace rthing : rInt.r F vthing xthing := rthing
    replace rlow : rInt.r F vlow xlow := rlow
    replace rhigh : rInt.r F vhigh xhigh := rhigh
    replace hm : m_law_whole xthing xlow xhigh = some b := hm
    refine ⟨_, (pss_cons (ps_ret (pe_and (pe_callB (kc_isi (K := K)) (by rfl) T.isinstance (by decide +kernel) (pa_cons (pv 0) (pa_cons (pe_bltn (v := .ty "int") (by rfl) T.int (by decide +kernel) rfl) pa_nil))) (pe_and (pe_not (pe_callB (kc_isi (K := K)) (by rfl) T.isinstance (by decide +kernel) (pa_cons (pv 0) (pa_cons (pe_bltn (v := .ty "bool") (by rfl) T.bool (by decide +kernel) rfl) pa_nil)))) (pe_and (pe_cmpR op_le (pv 1) (pv 0) (nomark _)) (pe_one (pe_cmpR op_le (pv 0) (pv 2) (nomark _))))))) pss_nil), ?_⟩
    refine ok_P W hm k ?_
    show B _ [some vthing, some vlow, some vhigh] F emp _ _
    exact b_ret pr_emp (ev_and (ev_cb (vl_isi (bb := true) isi_int ) (ea_cons (ev_var rthing rfl) (ea_one (ev_ty (n := "int"))))) (ev_and (ev_not (ev_cb (vl_isi (bb := false) isi_int ) (ea_cons (ev_var rthing rfl) (ea_one (ev_ty (n := "bool")))))) (ev_and (ev_op vl_le (ev_var rlow rfl) (ev_var rthing rfl)) (ev_op vl_le (ev_var rthing rfl) (ev_var rhigh rfl)))))
/-! _law_is_vessel -/
abbrev s_law_is_vessel : Stmt := top 35
abbrev N_law_is_vessel : List Str := ["thing", "number", "many", "spouts", "pair", "target", "parts", "word", "spout"]
theorem sc_law_is_vessel : FnScope N_law_is_vessel ["thing", "number", "many", "spouts"] (defScope s_law_is_vessel) := ⟨rfl, rfl, rfl, by decide +kernel, rfl, by decide +kernel, by decide +kernel⟩
def m_law_is_vessel (xthing : Vessel) (xnumber : Int) (xmany : Int) (xspouts : Int) : Option Bool := rn (bnd (bnd (bnd (bnd (bnd (ret xthing) fun a1 => bnd (ret ()) fun b2 => ret (a1, b2)) fun a3 => lft (some true)) fun b4 => ret (!b4)) fun b16 => bif b16 then ret true else (bnd (bnd (bnd (ret xthing) fun a5 => lft (some (6 : Int))) fun a6 => bnd (ret (6 : Int)) fun b7 => lft (some (!decide (a6 = b7)))) fun b15 => bif b15 then ret true else (bnd (bnd (bnd (bnd (ret xthing) fun a8 => ret a8.1) fun a11 => bnd (bnd (ret (1 : Int)) fun a9 => bnd (ret (60 : Int)) fun b10 => ret (a9, b10)) fun b12 => ret (a11, b12)) fun a13 => lft (m_law_whole a13.1 a13.2.1 a13.2.2)) fun b14 => ret (!b14)))) fun b17 => bif b17 then (bnd (ret false) fun x18 s => some (x18, ())) else (bnd (bnd (bnd (bnd (bnd (bnd (ret xthing) fun a19 => ret a19.2.1) fun a23 => bnd (bnd (bnd (ret xthing) fun a20 => ret a20.1) fun a21 => bnd (ret (200 : Int)) fun b22 => ret (a21, b22)) fun b24 => ret (a23, b24)) fun a25 => lft (m_law_whole a25.1 a25.2.1 a25.2.2)) fun b26 => ret (!b26)) fun b32 => bif b32 then ret true else (bnd (bnd (bnd (bnd (ret xthing) fun a27 => ret a27.2.2.2.1) fun a28 => bnd (ret ()) fun b29 => ret (a28, b29)) fun a30 => lft (some true)) fun b31 => ret (!b31))) fun b33 => bif b33 then (bnd (ret false) fun x34 s => some (x34, ())) else (bnd (bnd (bnd (bnd (bnd (bnd (ret xthing) fun a35 => ret a35.2.2.1) fun a36 => bnd (ret ()) fun b37 => ret (a36, b37)) fun a38 => lft (some true)) fun b39 => ret (!b39)) fun b47 => bif b47 then ret true else (bnd (bnd (ret (1 : Int)) fun a42 => bnd (bnd (bnd (ret xthing) fun a40 => ret a40.2.2.1) fun a41 => lft (some (a41.length : Int))) fun b43 => bnd (lft (some (decide (a42 ≤ b43)))) fun d45 => bif d45 then (bnd (ret (3 : Int)) fun c44 => lft (some (decide (b43 ≤ c44)))) else ret false) fun b46 => ret (!b46))) fun b48 => bif b48 then (bnd (ret false) fun x49 s => some (x49, ())) else (bnd (bnd (bnd (bnd (bnd (bnd (ret xthing) fun a50 => ret a50.2.2.2.2.2) fun a51 => bnd (ret ()) fun b52 => ret (a51, b52)) fun a53 => lft (some true)) fun b54 => ret (!b54)) fun b59 => bif b59 then ret true else (bnd (bnd (bnd (ret xthing) fun a55 => ret a55.2.2.2.2.2) fun a56 => lft (some (a56.length : Int))) fun a57 => bnd (ret (3 : Int)) fun b58 => lft (some (decide (b58 < a57))))) fun b60 => bif b60 then (bnd (ret false) fun x61 s => some (x61, ())) else (bnd (bnd (bnd (bnd (ret xthing) fun a62 => ret a62.2.2.1) fun x64 => ret (x64.map Sum.inl)) fun a66 => bnd (bnd (bnd (ret xthing) fun a63 => ret a63.2.2.2.2.2) fun x65 => ret (x65.map Sum.inr)) fun b67 => lft (catL a66 b67)) fun q227 => fthn (fdE (fun z70 x71 => bnd (bnd (bnd (bnd (bnd (ret x71) fun a80 => bnd (ret ()) fun b81 => ret (a80, b81)) fun a82 => lft (some true)) fun b83 => ret (!b83)) fun b87 => bif b87 then ret true else (bnd (bnd (ret x71) fun a84 => lft (Sum.elim (fun _ => some (2 : Int)) (fun _ => some (2 : Int)) a84)) fun a85 => bnd (ret (2 : Int)) fun b86 => lft (some (!decide (a85 = b86))))) fun b88 => bif b88 then rtF (bnd (ret false) fun x89 s => some (x89, ())) else (fun s => some (.nx ((), s)))) () q227) fun z92 => bnd (bnd (ret xthing) fun a99 => ret a99.2.2.1) fun q224 => fthn (fdE (fun z102 x103 => bnd (bnd (bnd (bnd (ret x103.1) fun a118 => bnd (ret ()) fun b119 => lft (some (!a118.isNone))) fun b129 => bif b129 then (bnd (bnd (bnd (bnd (ret x103.1) fun o120 => lft o120) fun a125 => bnd (bnd (ret (0 : Int)) fun a123 => bnd (bnd (ret xmany) fun a121 => bnd (ret (1 : Int)) fun b122 => lft (some (a121 - b122))) fun b124 => ret (a123, b124)) fun b126 => ret (a125, b126)) fun a127 => lft (m_law_whole a127.1 a127.2.1 a127.2.2)) fun b128 => ret (!b128)) else ret false) fun b136 => bif b136 then ret true else (bnd (bnd (bnd (ret x103.2) fun a132 => bnd (bnd (ret (1 : Int)) fun a130 => bnd (ret (60 : Int)) fun b131 => ret (a130, b131)) fun b133 => ret (a132, b133)) fun a134 => lft (m_law_whole a134.1 a134.2.1 a134.2.2)) fun b135 => ret (!b135))) fun b137 => bif b137 then rtF (bnd (ret false) fun x138 s => some (x138, ())) else (fun s => some (.nx ((), s)))) () q224) fun z141 => bnd (bnd (ret xthing) fun a149 => ret a149.2.2.2.2.2) fun q221 => fthn (fdE (fun z152 x153 => bnd (bnd (bnd (bnd (bnd (ret x153.1) fun a168 => bnd (ret ()) fun b169 => ret (a168, b169)) fun a170 => lft (some true)) fun b171 => ret (!b171)) fun b190 => bif b190 then ret true else (bnd (bnd (ret x153.1) fun a179 => bnd (bnd (bnd (ret ("open" : Str)) fun a176 => bnd (bnd (ret ("shut" : Str)) fun a174 => bnd (bnd (ret ("turn" : Str)) fun a172 => bnd (ret []) fun b173 => ret (a172 :: b173)) fun b175 => ret (a174 :: b175)) fun b177 => ret (a176 :: b177)) fun a178 => lft (few a178)) fun b180 => lft (some (!b180.any fun b => decide (b = a179)))) fun b189 => bif b189 then ret true else (bnd (bnd (bnd (ret x153.2) fun a185 => bnd (bnd (ret (0 : Int)) fun a183 => bnd (bnd (ret xspouts) fun a181 => bnd (ret (1 : Int)) fun b182 => lft (some (a181 - b182))) fun b184 => ret (a183, b184)) fun b186 => ret (a185, b186)) fun a187 => lft (m_law_whole a187.1 a187.2.1 a187.2.2)) fun b188 => ret (!b188)))) fun b191 => bif b191 then rtF (bnd (ret false) fun x192 s => some (x192, ())) else (fun s => some (.nx ((), s)))) () q221) fun z195 => bnd (bnd (bnd (bnd (ret xthing) fun a203 => ret a203.2.2.2.2.1) fun a204 => bnd (ret ()) fun b205 => lft (some a204.isNone)) fun b217 => bif b217 then ret true else (bnd (bnd (bnd (bnd (ret xthing) fun a206 => ret a206.2.2.2.2.1) fun o207 => lft o207) fun a214 => bnd (bnd (bnd (ret xnumber) fun a208 => bnd (ret (1 : Int)) fun b209 => lft (some (a208 + b209))) fun a212 => bnd (bnd (ret xmany) fun a210 => bnd (ret (1 : Int)) fun b211 => lft (some (a210 - b211))) fun b213 => ret (a212, b213)) fun b215 => ret (a214, b215)) fun a216 => lft (m_law_whole a216.1 a216.2.1 a216.2.2))) fun x218 s => some (x218, ()))))))
abbrev sp_law_is_vessel : Sp := spP (arC rVessel (arC rInt (arC rInt (arOne rInt)))) rBool (fun x => m_law_is_vessel x.1 x.2.1 x.2.2.1 x.2.2.2)
theorem ok_law_is_vessel {f : Addr} {fd : FuncData} (F : Fun K "_law_is_vessel" "_law_is_vessel" s_law_is_vessel f fd) (T : Txt K mg) (c_law_whole : Kn P w K mg base CX0 1 "_law_whole" ["thing", "low", "high"] sp_law_whole) : FnOk P w K mg base CX0 2 f fd ["thing", "number", "many", "spouts"] sp_law_is_vessel := by
  refine F.ok sc_law_is_vessel (fun vs H Q E h => ?_) (fun cdv A outer s H vs Q E hr h => ?_)
  · obtain ⟨F, O, x, b, ⟨_, _, rfl, _, ⟨_, _, rfl, _, ⟨_, _, rfl, _, ⟨_, rfl, _⟩⟩⟩⟩, _⟩ := h; rfl
  · obtain ⟨F, O, ⟨xthing, xnumber, xmany, xspouts⟩, b, ⟨vthing, _, rfl, rthing, ⟨vnumber, _, rfl, rnumber, ⟨vmany, _, rfl, rmany, ⟨vspouts, rfl, rspouts⟩⟩⟩⟩, W, hm, k⟩ := h
    replace rthing : rVessel.r F vthing xthing := rthing
    replace rnumber : rInt.r F vnumber xnumber := rnumber
    replace rmany : rInt.r F vmany xmany := rmany
    replace rspouts : rInt.r F vspouts xspouts := rspouts
    replace hm : m_law_is_vessel xthing xnumber xmany xspouts = some b := hm
    refine ⟨_, (pss_cons (ps_if (PW.pt (pw_or (pt_not (pt_val (pe_callB (kc_isi (K := K)) (by rfl) T.isinstance (by decide +kernel) (pa_cons (pv 0) (pa_cons (pe_bltn (v := .ty "tuple") (by rfl) T.tuple (by decide +kernel) rfl) pa_nil))))) (pw_or (pt_cmpR op_ne (pe_callB (kc_len (K := K)) (by rfl) T.len (by decide +kernel) (pa_cons (pv 0) pa_nil)) pe_int (nomark _)) (pw_or1 (pt_not (pt_val (pe_kn c_law_whole hr (by decide) (by rfl) (pa_cons (pe_ix (kix_tup (K := K)) (pv 0) pe_int (fun _ _ => rfl)) (pa_cons pe_int (pa_cons pe_int pa_nil)))))))))) (pss_cons (ps_ret pe_bl) pss_nil) pss_nil) (pss_cons (ps_if (PW.pt (pw_or (pt_not (pt_val (pe_kn c_law_whole hr (by decide) (by rfl) (pa_cons (pe_ix (kix_tup (K := K)) (pv 0) pe_int (fun _ _ => rfl)) (pa_cons (pe_ix (kix_tup (K := K)) (pv 0) pe_int (fun _ _ => rfl)) (pa_cons pe_int pa_nil)))))) (pw_or1 (pt_not (pt_val (pe_callB (kc_isi (K := K)) (by rfl) T.isinstance (by decide +kernel) (pa_cons (pe_ix (kix_tup (K := K)) (pv 0) pe_int (fun _ _ => rfl)) (pa_cons (pe_bltn (v := .ty "bool") (by rfl) T.bool (by decide +kernel) rfl) pa_nil)))))))) (pss_cons (ps_ret pe_bl) pss_nil) pss_nil) (pss_cons (ps_if (PW.pt (pw_or (pt_not (pt_val (pe_callB (kc_isi (K := K)) (by rfl) T.isinstance (by decide +kernel) (pa_cons (pe_ix (kix_tup (K := K)) (pv 0) pe_int (fun _ _ => rfl)) (pa_cons (pe_bltn (v := .ty "tuple") (by rfl) T.tuple (by decide +kernel) rfl) pa_nil))))) (pw_or1 (pt_not (pt_chain op_le op_le pe_int (pe_callB (kc_len (K := K)) (by rfl) T.len (by decide +kernel) (pa_cons (pe_ix (kix_tup (K := K)) (pv 0) pe_int (fun _ _ => rfl)) pa_nil)) pe_int))))) (pss_cons (ps_ret pe_bl) pss_nil) pss_nil) (pss_cons (ps_if (PW.pt (pw_or (pt_not (pt_val (pe_callB (kc_isi (K := K)) (by rfl) T.isinstance (by decide +kernel) (pa_cons (pe_ix (kix_tup (K := K)) (pv 0) pe_int (fun _ _ => rfl)) (pa_cons (pe_bltn (v := .ty "tuple") (by rfl) T.tuple (by decide +kernel) rfl) pa_nil))))) (pw_or1 (pt_cmpR op_gt (pe_callB (kc_len (K := K)) (by rfl) T.len (by decide +kernel) (pa_cons (pe_ix (kix_tup (K := K)) (pv 0) pe_int (fun _ _ => rfl)) pa_nil)) pe_int (nomark _))))) (pss_cons (ps_ret pe_bl) pss_nil) pss_nil) (pss_cons (ps_for PassesOwn.never (by rfl) (kpi_tup (K := K) (pe_op (kop_catT (K := K)) (pe_ix (kix_tup (K := K)) (pv 0) pe_int (fun _ _ => rfl)) (pe_ix (kix_tup (K := K)) (pv 0) pe_int (fun _ _ => rfl)))) (pg_name (i := 4) sc_law_is_vessel.nd rfl (by first | exact Or.inl rfl | exact Or.inr rfl)) (pss_cons (ps_if (PW.pt (pw_or (pt_not (pt_val (pe_callB (kc_isi (K := K)) (by rfl) T.isinstance (by decide +kernel) (pa_cons (pv 4) (pa_cons (pe_bltn (v := .ty "tuple") (by rfl) T.tuple (by decide +kernel) rfl) pa_nil))))) (pw_or1 (pt_cmpR op_ne (pe_callB (kc_len (K := K)) (by rfl) T.len (by decide +kernel) (pa_cons (pv 4) pa_nil)) pe_int (nomark _))))) (pss_cons (ps_ret pe_bl) pss_nil) pss_nil) pss_nil)) (pss_cons (ps_for PassesOwn.never (by rfl) (kpi_tup (K := K) (pe_ix (kix_tup (K := K)) (pv 0) pe_int (fun _ _ => rfl))) (kpg_tup (K := K) (by rfl) (pgs_cons (pg_name (i := 5) sc_law_is_vessel.nd rfl (by first | exact Or.inl rfl | exact Or.inr rfl)) (pgs_cons (pg_name (i := 6) sc_law_is_vessel.nd rfl (by first | exact Or.inl rfl | exact Or.inr rfl)) pgs_nil))) (pss_cons (ps_if (PW.pt (pw_or (PW.pt (pw_and (pt_cmpR op_notN (pv 5) pe_non (nomark _)) (pw_and1 (pt_not (pt_val (pe_kn c_law_whole hr (by decide) (by rfl) (pa_cons (pv 5) (pa_cons pe_int (pa_cons (pe_op op_sub (pv 2) pe_int) pa_nil))))))))) (pw_or1 (pt_not (pt_val (pe_kn c_law_whole hr (by decide) (by rfl) (pa_cons (pv 6) (pa_cons pe_int (pa_cons pe_int pa_nil))))))))) (pss_cons (ps_ret pe_bl) pss_nil) pss_nil) pss_nil)) (pss_cons (ps_for PassesOwn.never (by rfl) (kpi_tup (K := K) (pe_ix (kix_tup (K := K)) (pv 0) pe_int (fun _ _ => rfl))) (kpg_tup (K := K) (by rfl) (pgs_cons (pg_name (i := 7) sc_law_is_vessel.nd rfl (by first | exact Or.inl rfl | exact Or.inr rfl)) (pgs_cons (pg_name (i := 8) sc_law_is_vessel.nd rfl (by first | exact Or.inl rfl | exact Or.inr rfl)) pgs_nil))) (pss_cons (ps_if (PW.pt (pw_or (pt_not (pt_val (pe_callB (kc_isi (K := K)) (by rfl) T.isinstance (by decide +kernel) (pa_cons (pv 7) (pa_cons (pe_bltn (v := .ty "str") (by rfl) T.str (by decide +kernel) rfl) pa_nil))))) (pw_or (pt_cmpR (kop_notIn (K := K)) (pv 7) (pe_lst (pa_cons pe_str (pa_cons pe_str (pa_cons pe_str pa_nil)))) (by rfl)) (pw_or1 (pt_not (pt_val (pe_kn c_law_whole hr (by decide) (by rfl) (pa_cons (pv 8) (pa_cons pe_int (pa_cons (pe_op op_sub (pv 3) pe_int) pa_nil)))))))))) (pss_cons (ps_ret pe_bl) pss_nil) pss_nil) pss_nil)) (pss_cons (ps_ret (pe_or (pe_cmpR op_isN (pe_ix (kix_tup (K := K)) (pv 0) pe_int (fun _ _ => rfl)) pe_non (nomark _)) (pe_one (pe_kn c_law_whole hr (by decide) (by rfl) (pa_cons (pe_ix (kix_tup (K := K)) (pv 0) pe_int (fun _ _ => rfl)) (pa_cons (pe_op op_add (pv 1) pe_int) (pa_cons (pe_op op_sub (pv 2) pe_int) pa_nil))))))) pss_nil)))))))), ?_⟩
    refine ok_P W hm k ?_
    show B _ [some vthing, some vnumber, some vmany, some vspouts, none, none, none, none, none] F emp _ _
    exact b_ifR (et_or (et_not (et_B (ev_cb (vl_isi (bb := true) isi_tuple ) (ea_cons (ev_var rthing rfl) (ea_one (ev_ty (n := "tuple"))))))) (et_or (et_test (ev_op vl_neI (ev_cb vl_lenH (ea_one (ev_var rthing rfl))) ev_int)) (et_not (et_B (ev_callP (ea_cons (ev_prj prj_0 (ev_var rthing rfl)) (ea_cons ev_int (ea_one ev_int)))))))) (b_ret pr_emp ev_bl) (b_ifR (et_or (et_not (et_B (ev_callP (ea_cons (ev_prj (prj_s prj_0) (ev_var rthing rfl)) (ea_cons (ev_prj prj_0 (ev_var rthing rfl)) (ea_one ev_int)))))) (et_not (et_B (ev_cb (vl_isi (bb := true) isi_bool ) (ea_cons (ev_prj (prj_s (prj_s (prj_s prj_0))) (ev_var rthing rfl)) (ea_one (ev_ty (n := "bool")))))))) (b_ret pr_emp ev_bl) (b_ifR (et_or (et_not (et_B (ev_cb (vl_isi (bb := true) isi_tupleT ) (ea_cons (ev_prj (prj_s (prj_s prj_0)) (ev_var rthing rfl)) (ea_one (ev_ty (n := "tuple"))))))) (et_not (et_chain vl_le vl_le ev_int (ev_cb vl_lenT (ea_one (ev_prj (prj_s (prj_s prj_0)) (ev_var rthing rfl)))) ev_int))) (b_ret pr_emp ev_bl) (b_ifR (et_or (et_not (et_B (ev_cb (vl_isi (bb := true) isi_tupleT ) (ea_cons (ev_prj (prj_s (prj_s (prj_s (prj_s (prj_s prj_1))))) (ev_var rthing rfl)) (ea_one (ev_ty (n := "tuple"))))))) (et_test (ev_op vl_gt (ev_cb vl_lenT (ea_one (ev_prj (prj_s (prj_s (prj_s (prj_s (prj_s prj_1))))) (ev_var rthing rfl)))) ev_int))) (b_ret pr_emp ev_bl) (b_forE (z0 := ()) (Sl := (fun (z : Unit) (F : Hp) (σ : L2.St) => ∃ (u1 : Option V), σ = [some vthing, some vnumber, some vmany, some vspouts, u1, none, none, none, none])) (ei_tup (ev_op vl_catT (ev_tupL (ev_prj (prj_s (prj_s prj_0)) (ev_var rthing rfl))) (ev_tupR (ev_prj (prj_s (prj_s (prj_s (prj_s (prj_s prj_1))))) (ev_var rthing rfl))))) (fun F225 s226 => ⟨_, rfl⟩) (fun z70 x71 v72 F73 w74 s75 h76 r77 => by obtain ⟨o78, e79⟩ := h76; subst e79; exact b_go go_name (fun _ k => by subst k; exact b_σ (σ' := [some vthing, some vnumber, some vmany, some vspouts, some v72, none, none, none, none]) rfl (b_ifRF (et_or (et_not (et_B (ev_cb (vl_isi (bb := true) (isi_sum isi_tuple isi_tuple)) (ea_cons (ev_var r77 rfl) (ea_one (ev_ty (n := "tuple"))))))) (et_test (ev_op vl_neI (ev_cb (vl_sum (f := fun _ => some (2 : Int)) (g := fun _ => some (2 : Int)) vl_lenH vl_lenH) (ea_one (ev_var r77 rfl))) ev_int))) (b_ret pr_emp ev_bl) (b_nxF pr_id (fun F90 s91 => ⟨_, rfl⟩))))) (fun z92 F93 w94 s95 h96 => by obtain ⟨o97, e98⟩ := h96; subst e98; exact b_forE (z0 := ()) (Sl := (fun (z : Unit) (F : Hp) (σ : L2.St) => ∃ (u1 : Option V) (u2 : Option V), σ = [some vthing, some vnumber, some vmany, some vspouts, o97, u1, u2, none, none])) (ei_tup (ev_prj (prj_s (prj_s prj_0)) (ev_var (rVessel.mono s95 rthing) rfl))) (fun F222 s223 => ⟨_, _, rfl⟩) (fun z102 x103 v104 F105 w106 s107 h108 r109 => by obtain ⟨o110, o111, e112⟩ := h108; subst e112; exact b_go (go_t2 r109) (fun _ ⟨v113, v114, r115, r116, e117⟩ => by subst e117; exact b_σ (σ' := [some vthing, some vnumber, some vmany, some vspouts, o97, some v113, some v114, none, none]) rfl (b_ifRF (et_or (et_and (et_test (ev_op vl_notNone (ev_var r115 rfl) ev_non)) (et_not (et_B (ev_callP (ea_cons (ev_unopt (ev_var r115 rfl)) (ea_cons ev_int (ea_one (ev_op vl_sub (ev_var (rInt.mono (s95.trans s107) rmany) rfl) ev_int)))))))) (et_not (et_B (ev_callP (ea_cons (ev_var r116 rfl) (ea_cons ev_int (ea_one ev_int))))))) (b_ret pr_emp ev_bl) (b_nxF pr_id (fun F139 s140 => ⟨_, _, rfl⟩))))) (fun z141 F142 w143 s144 h145 => by obtain ⟨o146, o147, e148⟩ := h145; subst e148; exact b_forE (z0 := ()) (Sl := (fun (z : Unit) (F : Hp) (σ : L2.St) => ∃ (u1 : Option V) (u2 : Option V), σ = [some vthing, some vnumber, some vmany, some vspouts, o97, o146, o147, u1, u2])) (ei_tup (ev_prj (prj_s (prj_s (prj_s (prj_s (prj_s prj_1))))) (ev_var (rVessel.mono (s95.trans s144) rthing) rfl))) (fun F219 s220 => ⟨_, _, rfl⟩) (fun z152 x153 v154 F155 w156 s157 h158 r159 => by obtain ⟨o160, o161, e162⟩ := h158; subst e162; exact b_go (go_t2 r159) (fun _ ⟨v163, v164, r165, r166, e167⟩ => by subst e167; exact b_σ (σ' := [some vthing, some vnumber, some vmany, some vspouts, o97, o146, o147, some v163, some v164]) rfl (b_ifRF (et_or (et_not (et_B (ev_cb (vl_isi (bb := true) isi_str ) (ea_cons (ev_var r165 rfl) (ea_one (ev_ty (n := "str"))))))) (et_or (et_test (ev_op vl_niSL (ev_var r165 rfl) (ev_frz (eo_lst (eal_cons ev_str (eal_cons ev_str (eal_cons ev_str eal_nil))))))) (et_not (et_B (ev_callP (ea_cons (ev_var r166 rfl) (ea_cons ev_int (ea_one (ev_op vl_sub (ev_var (rInt.mono ((s95.trans s144).trans s157) rspouts) rfl) ev_int))))))))) (b_ret pr_emp ev_bl) (b_nxF pr_id (fun F193 s194 => ⟨_, _, rfl⟩))))) (fun z195 F196 w197 s198 h199 => by obtain ⟨o200, o201, e202⟩ := h199; subst e202; exact b_ret pr_emp (ev_or (ev_op vl_isNone (ev_prj (prj_s (prj_s (prj_s (prj_s prj_0)))) (ev_var (rVessel.mono ((s95.trans s144).trans s198) rthing) rfl)) ev_non) (ev_callP (ea_cons (ev_unopt (ev_prj (prj_s (prj_s (prj_s (prj_s prj_0)))) (ev_var (rVessel.mono ((s95.trans s144).trans s198) rthing) rfl))) (ea_cons (ev_op vl_add (ev_var (rInt.mono ((s95.trans s144).trans s198) rnumber) rfl) ev_int) (ea_one (ev_op vl_sub (ev_var (rInt.mono ((s95.trans s144).trans s198) rmany) rfl) ev_int))))))) (fun _ _ _ _ s ⟨a0, a1, e⟩ => ⟨a0, a1, e⟩)) (fun _ _ _ _ s ⟨a0, a1, e⟩ => ⟨a0, a1, e⟩)) (fun _ _ _ _ s ⟨a0, e⟩ => ⟨a0, e⟩)))))
/-! _law_is_net -/
abbrev s_law_is_net : Stmt := top 34
abbrev N_law_is_net : List Str := ["thing", "number", "spout", "part"]
theorem sc_law_is_net : FnScope N_law_is_net ["thing"] (defScope s_law_is_net) := ⟨rfl, rfl, rfl, by decide +kernel, rfl, by decide +kernel, by decide +kernel⟩
def m_law_is_net (xthing : Net) : Option Bool := rn (bnd (bnd (bnd (bnd (bnd (ret xthing) fun a1 => bnd (ret ()) fun b2 => ret (a1, b2)) fun a3 => lft (some true)) fun b4 => ret (!b4)) fun b25 => bif b25 then ret true else (bnd (bnd (bnd (ret xthing) fun a5 => lft (some (2 : Int))) fun a6 => bnd (ret (2 : Int)) fun b7 => lft (some (!decide (a6 = b7)))) fun b24 => bif b24 then ret true else (bnd (bnd (bnd (bnd (ret xthing) fun x8 => ret [Sum.inl x8.1, Sum.inr x8.2]) fun q20 => bnd (lft (chk q20)) fun q21 => mp (fun x10 => bnd (bnd (ret x10) fun a16 => bnd (ret ()) fun b17 => ret (a16, b17)) fun a18 => lft (some true)) q21) fun a22 => lft (some (a22.all id))) fun b23 => ret (!b23)))) fun b26 => bif b26 then (bnd (ret false) fun x27 s => some (x27, ())) else (bnd (bnd (bnd (bnd (ret (1 : Int)) fun a30 => bnd (bnd (bnd (ret xthing) fun a28 => ret a28.1) fun a29 => lft (some (a29.length : Int))) fun b31 => bnd (lft (some (decide (a30 ≤ b31)))) fun d33 => bif d33 then (bnd (ret (12 : Int)) fun c32 => lft (some (decide (b31 ≤ c32)))) else ret false) fun b34 => ret (!b34)) fun b39 => bif b39 then ret true else (bnd (bnd (bnd (ret xthing) fun a35 => ret a35.2) fun a36 => lft (some (a36.length : Int))) fun a37 => bnd (ret (12 : Int)) fun b38 => lft (some (decide (b38 < a37))))) fun b40 => bif b40 then (bnd (ret false) fun x41 s => some (x41, ())) else (bnd (bnd (bnd (bnd (ret xthing) fun a42 => ret a42.1) fun a43 => lft (some (a43.length : Int))) fun a44 => lft (rng 0 a44)) fun q148 => fthn (fdE (fun z47 x48 => bnd (bnd (bnd (bnd (bnd (bnd (ret xthing) fun a57 => ret a57.1) fun a58 => bnd (ret x48) fun b59 => lft (atI a58 b59)) fun a68 => bnd (bnd (ret x48) fun a66 => bnd (bnd (bnd (bnd (ret xthing) fun a60 => ret a60.1) fun a61 => lft (some (a61.length : Int))) fun a64 => bnd (bnd (bnd (ret xthing) fun a62 => ret a62.2) fun a63 => lft (some (a63.length : Int))) fun b65 => ret (a64, b65)) fun b67 => ret (a66, b67)) fun b69 => ret (a68, b69)) fun a70 => lft (m_law_is_vessel a70.1 a70.2.1 a70.2.2.1 a70.2.2.2)) fun b71 => ret (!b71)) fun b72 => bif b72 then rtF (bnd (ret false) fun x73 s => some (x73, ())) else (fun s => some (.nx ((), s)))) () q148) fun z76 => bnd (bnd (ret xthing) fun a83 => ret a83.2) fun q145 => fthn (fdE (fun z86 x87 => bnd (bnd (bnd (bnd (bnd (ret x87) fun a96 => bnd (ret ()) fun b97 => ret (a96, b97)) fun a98 => lft (some true)) fun b99 => ret (!b99)) fun b109 => bif b109 then ret true else (bnd (bnd (bnd (ret x87) fun a100 => lft (some (3 : Int))) fun a101 => bnd (ret (3 : Int)) fun b102 => lft (some (!decide (a101 = b102)))) fun b108 => bif b108 then ret true else (bnd (bnd (bnd (bnd (ret x87) fun a103 => ret a103.2.2) fun a104 => bnd (ret ()) fun b105 => ret (a104, b105)) fun a106 => lft (some true)) fun b107 => ret (!b107)))) fun b110 => bif b110 then rtF (bnd (ret false) fun x111 s => some (x111, ())) else (bnd (bnd (bnd (bnd (bnd (bnd (ret x87) fun a112 => ret a112.1) fun a119 => bnd (bnd (ret (0 : Int)) fun a117 => bnd (bnd (bnd (bnd (ret xthing) fun a113 => ret a113.1) fun a114 => lft (some (a114.length : Int))) fun a115 => bnd (ret (1 : Int)) fun b116 => lft (some (a115 - b116))) fun b118 => ret (a117, b118)) fun b120 => ret (a119, b120)) fun a121 => lft (m_law_whole a121.1 a121.2.1 a121.2.2)) fun b122 => ret (!b122)) fun b130 => bif b130 then ret true else (bnd (bnd (bnd (bnd (ret x87) fun a123 => ret a123.2.1) fun a126 => bnd (bnd (ret (0 : Int)) fun a124 => bnd (ret (60 : Int)) fun b125 => ret (a124, b125)) fun b127 => ret (a126, b127)) fun a128 => lft (m_law_whole a128.1 a128.2.1 a128.2.2)) fun b129 => ret (!b129))) fun b131 => bif b131 then rtF (bnd (ret false) fun x132 s => some (x132, ())) else (fun s => some (.nx ((), s))))) () q145) fun z135 => bnd (ret true) fun x142 s => some (x142, ()))))
abbrev sp_law_is_net : Sp := spP (arOne rNet) rBool (fun x => m_law_is_net x)
theorem ok_law_is_net {f : Addr} {fd : FuncData} (F : Fun K "_law_is_net" "_law_is_net" s_law_is_net f fd) (T : Txt K mg) (c_law_is_vessel : Kn P w K mg base CX0 2 "_law_is_vessel" ["thing", "number", "many", "spouts"] sp_law_is_vessel) (c_law_whole : Kn P w K mg base CX0 1 "_law_whole" ["thing", "low", "high"] sp_law_whole) : FnOk P w K mg base CX0 3 f fd ["thing"] sp_law_is_net := by
  refine F.ok sc_law_is_net (fun vs H Q E h => ?_) (fun cdv A outer s H vs Q E hr h => ?_)
  · obtain ⟨F, O, x, b, ⟨_, rfl, _⟩, _⟩ := h; rfl
  · obtain ⟨F, O, xthing, b, ⟨vthing, rfl, rthing⟩, W, hm, k⟩ := h
    replace rthing : rNet.r F vthing xthing := rthing
    replace hm : m_law_is_net xthing = some b := hm
    refine ⟨_, (pss_cons (ps_if (PW.pt (pw_or (pt_not (pt_val (pe_callB (kc_isi (K := K)) (by rfl) T.isinstance (by decide +kernel) (pa_cons (pv 0) (pa_cons (pe_bltn (v := .ty "tuple") (by rfl) T.tuple (by decide +kernel) rfl) pa_nil))))) (pw_or (pt_cmpR op_ne (pe_callB (kc_len (K := K)) (by rfl) T.len (by decide +kernel) (pa_cons (pv 0) pa_nil)) pe_int (nomark _)) (pw_or1 (pt_not (pt_val (pe_callB (kc_all (K := K) (by rfl)) (by rfl) T.all (by decide +kernel) (pa_cons (pe_lc (g := (gName 3)) (tt := tYes) (by rfl) sc_law_is_net.nd (kpi_tup (K := K) (pv 0)) (blkOk_by (N := N_law_is_net) (sc := defScope s_law_is_net) (own := [("part", 3)]) (by decide +kernel)) (fun _ _ _ _ _ => (pg_name (i := 3) sc_law_is_net.nd rfl (by first | exact Or.inl rfl | exact Or.inr rfl))) (fun _ _ _ _ _ => pts_nil) (fun _ _ _ _ _ => (pe_callB (kc_isi (K := K)) (by rfl) T.isinstance (by decide +kernel) (pa_cons (pv 3) (pa_cons (pe_bltn (v := .ty "tuple") (by rfl) T.tuple (by decide +kernel) rfl) pa_nil))))) pa_nil)))))))) (pss_cons (ps_ret pe_bl) pss_nil) pss_nil) (pss_cons (ps_if (PW.pt (pw_or (pt_not (pt_chain op_le op_le pe_int (pe_callB (kc_len (K := K)) (by rfl) T.len (by decide +kernel) (pa_cons (pe_ix (kix_tup (K := K)) (pv 0) pe_int (fun _ _ => rfl)) pa_nil)) pe_int)) (pw_or1 (pt_cmpR op_gt (pe_callB (kc_len (K := K)) (by rfl) T.len (by decide +kernel) (pa_cons (pe_ix (kix_tup (K := K)) (pv 0) pe_int (fun _ _ => rfl)) pa_nil)) pe_int (nomark _))))) (pss_cons (ps_ret pe_bl) pss_nil) pss_nil) (pss_cons (ps_for PassesOwn.never (by rfl) (pi_range1 (by rfl) T.range (pa_cons (pe_callB (kc_len (K := K)) (by rfl) T.len (by decide +kernel) (pa_cons (pe_ix (kix_tup (K := K)) (pv 0) pe_int (fun _ _ => rfl)) pa_nil)) pa_nil)) (pg_name (i := 1) sc_law_is_net.nd rfl (by first | exact Or.inl rfl | exact Or.inr rfl)) (pss_cons (ps_if (pt_not (pt_val (pe_kn c_law_is_vessel hr (by decide) (by rfl) (pa_cons (pe_ix (kix_tup (K := K)) (pe_ix (kix_tup (K := K)) (pv 0) pe_int (fun _ _ => rfl)) (pv 1) (fun _ _ => rfl)) (pa_cons (pv 1) (pa_cons (pe_callB (kc_len (K := K)) (by rfl) T.len (by decide +kernel) (pa_cons (pe_ix (kix_tup (K := K)) (pv 0) pe_int (fun _ _ => rfl)) pa_nil)) (pa_cons (pe_callB (kc_len (K := K)) (by rfl) T.len (by decide +kernel) (pa_cons (pe_ix (kix_tup (K := K)) (pv 0) pe_int (fun _ _ => rfl)) pa_nil)) pa_nil))))))) (pss_cons (ps_ret pe_bl) pss_nil) pss_nil) pss_nil)) (pss_cons (ps_for PassesOwn.never (by rfl) (kpi_tup (K := K) (pe_ix (kix_tup (K := K)) (pv 0) pe_int (fun _ _ => rfl))) (pg_name (i := 2) sc_law_is_net.nd rfl (by first | exact Or.inl rfl | exact Or.inr rfl)) (pss_cons (ps_if (PW.pt (pw_or (pt_not (pt_val (pe_callB (kc_isi (K := K)) (by rfl) T.isinstance (by decide +kernel) (pa_cons (pv 2) (pa_cons (pe_bltn (v := .ty "tuple") (by rfl) T.tuple (by decide +kernel) rfl) pa_nil))))) (pw_or (pt_cmpR op_ne (pe_callB (kc_len (K := K)) (by rfl) T.len (by decide +kernel) (pa_cons (pv 2) pa_nil)) pe_int (nomark _)) (pw_or1 (pt_not (pt_val (pe_callB (kc_isi (K := K)) (by rfl) T.isinstance (by decide +kernel) (pa_cons (pe_ix (kix_tup (K := K)) (pv 2) pe_int (fun _ _ => rfl)) (pa_cons (pe_bltn (v := .ty "bool") (by rfl) T.bool (by decide +kernel) rfl) pa_nil))))))))) (pss_cons (ps_ret pe_bl) pss_nil) pss_nil) (pss_cons (ps_if (PW.pt (pw_or (pt_not (pt_val (pe_kn c_law_whole hr (by decide) (by rfl) (pa_cons (pe_ix (kix_tup (K := K)) (pv 2) pe_int (fun _ _ => rfl)) (pa_cons pe_int (pa_cons (pe_op op_sub (pe_callB (kc_len (K := K)) (by rfl) T.len (by decide +kernel) (pa_cons (pe_ix (kix_tup (K := K)) (pv 0) pe_int (fun _ _ => rfl)) pa_nil)) pe_int) pa_nil)))))) (pw_or1 (pt_not (pt_val (pe_kn c_law_whole hr (by decide) (by rfl) (pa_cons (pe_ix (kix_tup (K := K)) (pv 2) pe_int (fun _ _ => rfl)) (pa_cons pe_int (pa_cons pe_int pa_nil))))))))) (pss_cons (ps_ret pe_bl) pss_nil) pss_nil) pss_nil))) (pss_cons (ps_ret pe_bl) pss_nil))))), ?_⟩
    refine ok_P W hm k ?_
    show B _ [some vthing, none, none, none] F emp _ _
    exact b_ifR (et_or (et_not (et_B (ev_cb (vl_isi (bb := true) isi_tuple ) (ea_cons (ev_var rthing rfl) (ea_one (ev_ty (n := "tuple"))))))) (et_or (et_test (ev_op vl_neI (ev_cb vl_lenH (ea_one (ev_var rthing rfl))) ev_int)) (et_not (et_B (ev_cb vl_allL (ea_one (ev_frz (eo_lcA (ei_tup (ev_th2U (ev_var rthing rfl))) (fun v9 x10 F11 s12 r13 => cb_all go_name (fun w14 k15 => by subst k15; exact wipe_s _ _ (by decide) (wipe_w _ _)) (fun w14 k15 => by subst k15; exact ev_σ (σ' := [some vthing, none, none, some v9]) rfl (ev_cb (vl_isi (bb := true) (isi_sum isi_tupleT isi_tupleT)) (ea_cons (ev_var r13 rfl) (ea_one (ev_ty (n := "tuple"))))))))))))))) (b_ret pr_emp ev_bl) (b_ifR (et_or (et_not (et_chain vl_le vl_le ev_int (ev_cb vl_lenT (ea_one (ev_prj prj_0 (ev_var rthing rfl)))) ev_int)) (et_test (ev_op vl_gt (ev_cb vl_lenT (ea_one (ev_prj (prj_s prj_1) (ev_var rthing rfl)))) ev_int))) (b_ret pr_emp ev_bl) (b_forE (z0 := ()) (Sl := (fun (z : Unit) (F : Hp) (σ : L2.St) => ∃ (u1 : Option V), σ = [some vthing, u1, none, none])) (ei_rng1 (ev_cb vl_lenT (ea_one (ev_prj prj_0 (ev_var rthing rfl))))) (fun F146 s147 => ⟨_, rfl⟩) (fun z47 x48 v49 F50 w51 s52 h53 r54 => by obtain ⟨o55, e56⟩ := h53; subst e56; exact b_go go_name (fun _ k => by subst k; exact b_σ (σ' := [some vthing, some v49, none, none]) rfl (b_ifRF (et_not (et_B (ev_callP (ea_cons (ev_op vl_ixT (ev_prj prj_0 (ev_var (rNet.mono s52 rthing) rfl)) (ev_var r54 rfl)) (ea_cons (ev_var r54 rfl) (ea_cons (ev_cb vl_lenT (ea_one (ev_prj prj_0 (ev_var (rNet.mono s52 rthing) rfl)))) (ea_one (ev_cb vl_lenT (ea_one (ev_prj (prj_s prj_1) (ev_var (rNet.mono s52 rthing) rfl))))))))))) (b_ret pr_emp ev_bl) (b_nxF pr_id (fun F74 s75 => ⟨_, rfl⟩))))) (fun z76 F77 w78 s79 h80 => by obtain ⟨o81, e82⟩ := h80; subst e82; exact b_forE (z0 := ()) (Sl := (fun (z : Unit) (F : Hp) (σ : L2.St) => ∃ (u1 : Option V), σ = [some vthing, o81, u1, none])) (ei_tup (ev_prj (prj_s prj_1) (ev_var (rNet.mono s79 rthing) rfl))) (fun F143 s144 => ⟨_, rfl⟩) (fun z86 x87 v88 F89 w90 s91 h92 r93 => by obtain ⟨o94, e95⟩ := h92; subst e95; exact b_go go_name (fun _ k => by subst k; exact b_σ (σ' := [some vthing, o81, some v88, none]) rfl (b_ifRF (et_or (et_not (et_B (ev_cb (vl_isi (bb := true) isi_tuple ) (ea_cons (ev_var r93 rfl) (ea_one (ev_ty (n := "tuple"))))))) (et_or (et_test (ev_op vl_neI (ev_cb vl_lenH (ea_one (ev_var r93 rfl))) ev_int)) (et_not (et_B (ev_cb (vl_isi (bb := true) isi_bool ) (ea_cons (ev_prj (prj_s (prj_s prj_1)) (ev_var r93 rfl)) (ea_one (ev_ty (n := "bool"))))))))) (b_ret pr_emp ev_bl) (b_ifRF (et_or (et_not (et_B (ev_callP (ea_cons (ev_prj prj_0 (ev_var r93 rfl)) (ea_cons ev_int (ea_one (ev_op vl_sub (ev_cb vl_lenT (ea_one (ev_prj prj_0 (ev_var (rNet.mono (s79.trans s91) rthing) rfl)))) ev_int))))))) (et_not (et_B (ev_callP (ea_cons (ev_prj (prj_s prj_0) (ev_var r93 rfl)) (ea_cons ev_int (ea_one ev_int))))))) (b_ret pr_emp ev_bl) (b_nxF pr_id (fun F133 s134 => ⟨_, rfl⟩)))))) (fun z135 F136 w137 s138 h139 => by obtain ⟨o140, e141⟩ := h139; subst e141; exact b_ret pr_emp ev_bl) (fun _ _ _ _ s ⟨a0, e⟩ => ⟨a0, e⟩)) (fun _ _ _ _ s ⟨a0, e⟩ => ⟨a0, e⟩)))
/-! law -/
abbrev s_law : Stmt := top 38
abbrev N_law : List Str := ["script", "tape", "turn", "net", "text", "found"]
theorem sc_law : FnScope N_law ["script"] (defScope s_law) := ⟨rfl, rfl, rfl, by decide +kernel, rfl, by decide +kernel, by decide +kernel⟩
def m_law : M Tape Bool := bnd (bnd (ret (4 : Int)) fun a1 => lft (rng 0 a1)) fun q68 => fthn (fdE (fun z4 x5 => bnd (bnd (bnd (ret ()) fun a21 => bnd (bnd (ret (12 : Int)) fun a19 => bnd (bnd (ret x5) fun a17 => bnd (ret (3 : Int)) fun b18 => lft (some (decide (a17 = b18)))) fun b20 => ret (a19, b20)) fun b22 => ret (a21, b22)) fun a23 => zm (fun s => s) (fun s t => t) (m_law_net a23.2.1 a23.2.2)) fun x25 => bnd (bnd (ret x25) fun a29 => lft (m_law_text a29)) fun x31 => bnd (bnd (ret x31) fun a35 => lft (okO ((m_read_net a35)))) fun x37 => bnd (bnd (bnd (bnd (ret x25) fun a41 => lft (m_net_text a41)) fun a42 => bnd (ret x31) fun b43 => lft (some (!decide (a42 = b43)))) fun b50 => bif b50 then ret true else (bnd (bnd (ret x37) fun a44 => bnd (ret x25) fun b45 => lft (neD ((dTh (daC (dTup (dTh (daC (dOpt dInt) (daC (dOpt dInt) (daC (dTup (dTh (daC (dOpt (dSum dInt dStr)) (daOne (dOpt dInt))))) (daC dBool (daC (dOpt (dSum dInt dStr)) (daOne (dTup (dTh (daC dStr (daOne (dOpt dInt))))))))))))) (daOne (dTup (dTh (daC (dOpt dInt) (daC (dOpt dInt) (daOne dBool)))))))).d a44) (dNet.d b45))) fun b49 => bif b49 then ret true else (bnd (bnd (bnd (ret x37) fun x46 => lft (((coC (coM (coC (coB (coI : Int → Option Int)) (coC (coB (coI : Int → Option Int)) (coC (coM (coC (coO (coE (coI : Int → Option Int) (coN : Str → Option Int))) (coB (coI : Int → Option Int)))) (coC (coI : Bool → Option Bool) (coC (coO (coE (coI : Int → Option Int) (coN : Str → Option Int))) (coM (coC (coI : Str → Option Str) (coB (coI : Int → Option Int)))))))))) (coM (coC (coB (coI : Int → Option Int)) (coC (coB (coI : Int → Option Int)) (coI : Bool → Option Bool))))) : ((List ((Option Int) × (Option Int) × (List ((Option (Int ⊕ Str)) × (Option Int))) × Bool × (Option (Int ⊕ Str)) × (List (Str × (Option Int))))) × (List ((Option Int) × (Option Int) × Bool))) → Option Net) x46)) fun a47 => lft (m_law_is_net a47)) fun b48 => ret (!b48)))) fun b51 => bif b51 then rtF (bnd (ret false) fun x52 s => some (x52, s)) else (fun s => some (.nx ((), s)))) () q68) fun z55 => bnd (ret true) fun x65 s => some (x65, s)
theorem ok_law {f : Addr} {fd : FuncData} (F : Fun K "law" "law" s_law f fd) (T : Txt K mg) (c_law_net : Kn P w K mg base CX0 4 "_law_net" ["tape", "most", "small"] sp_law_net) (c_law_text : Kn P w K mg base CX0 2 "_law_text" ["net"] sp_law_text) (c_read_net : Kn P w K mg base (L2.CX P w) 5 "read_net" ["text"] (sp_read_net K)) (c_net_text : Kn P w K mg base CX0 3 "net_text" ["net"] sp_net_text) (c_law_is_net : Kn P w K mg base CX0 3 "_law_is_net" ["thing"] sp_law_is_net) (hL : ∀ ns : List Int, ns.length ≤ 63 → ∃ s1, m_law (ns, 0, 0) = some (true, s1)) : FnOk P w K mg base CX0 6 f fd ["script"] (spLaw K) := by
  refine F.ok sc_law (fun vs H Q E h => ?_) (fun cdv A outer s H vs Q E hr h => ?_)
  · obtain ⟨a, ns, rfl, _⟩ := h; rfl
  · obtain ⟨a, ns, rfl, hS, hn, hQ⟩ := h
    obtain ⟨s1, hm⟩ := hL ns hn
    refine ⟨_, (pss_cons (ps_set (i := 1) sc_law.nd rfl (Or.inl rfl) (pe_lst (pa_cons (pe_callTy (kc_list (K := K)) (by rfl) T.list (by decide +kernel) (pa_cons (pv 0) pa_nil)) (pa_cons pe_int (pa_cons pe_int pa_nil))))) (pss_cons (ps_for PassesOwn.never (by rfl) (pi_range1 (by rfl) T.range (pa_cons pe_int pa_nil)) (pg_name (i := 2) sc_law.nd rfl (by first | exact Or.inl rfl | exact Or.inr rfl)) (pss_cons (ps_set (i := 3) sc_law.nd rfl (Or.inl rfl) (pe_kn c_law_net hr (by decide) (by rfl) (pa_cons (pv 1) (pa_cons pe_int (pa_cons (pe_cmpR op_eq (pv 2) pe_int (nomark _)) pa_nil))))) (pss_cons (ps_set (i := 4) sc_law.nd rfl (Or.inl rfl) (pe_kn c_law_text hr (by decide) (by rfl) (pa_cons (pv 3) pa_nil))) (pss_cons (ps_set (i := 5) sc_law.nd rfl (Or.inl rfl) (pe_knL c_read_net hr (by decide) (by rfl) (pa_cons (pv 4) pa_nil))) (pss_cons (ps_if (PW.pt (pw_or (pt_cmpR op_ne (pe_kn c_net_text hr (by decide) (by rfl) (pa_cons (pv 3) pa_nil)) (pv 4) (nomark _)) (pw_or (pt_cmpR (kop_neD (K := K) hr.units) (pv 5) (pv 3) (nomark _)) (pw_or1 (pt_not (pt_val (pe_kn c_law_is_net hr (by decide) (by rfl) (pa_cons (pv 5) pa_nil)))))))) (pss_cons (ps_ret pe_bl) pss_nil) pss_nil) pss_nil))))) (pss_cons (ps_ret pe_bl) pss_nil))), ?_⟩
    refine law_start (i := 1) (R := rBool) rfl hS hm (fun vtape F => ?_) (fun v F1 H1 r => by rw [show v = .bl true from r]; exact hQ H1)
    show B _ [some (V.ref a), some vtape, none, none, none, none] F (oLh tapeA vtape) _ _
    exact b_forE (z0 := ()) (Sl := (fun (z : Unit) (F : Hp) (σ : L2.St) => ∃ (u1 : Option V) (u2 : Option V) (u3 : Option V) (u4 : Option V), σ = [some (V.ref a), some vtape, u1, u2, u3, u4])) (ei_rng1 ev_int) (fun F66 s67 => ⟨_, _, _, _, rfl⟩) (fun z4 x5 v6 F7 w8 s9 h10 r11 => by obtain ⟨o12, o13, o14, o15, e16⟩ := h10; subst e16; exact b_go go_name (fun _ k => by subst k; exact b_σ (σ' := [some (V.ref a), some vtape, some v6, o13, o14, o15]) rfl (b_set (ev_callS vtape emb_id (ea_cons (ev_var (R := rV vtape) (x := ()) rfl rfl) (ea_cons ev_int (ea_one (ev_op vl_eqI (ev_var r11 rfl) ev_int))))) fun v24 x25 F26 s27 r28 => b_σ (σ' := [some (V.ref a), some vtape, some v6, some v24, o14, o15]) rfl (b_set (ev_callP (ea_one (ev_var r28 rfl))) fun v30 x31 F32 s33 r34 => b_σ (σ' := [some (V.ref a), some vtape, some v6, some v24, some v30, o15]) rfl (b_set (ev_callPX (ea_one (ev_var r34 rfl))) fun v36 x37 F38 s39 r40 => b_σ (σ' := [some (V.ref a), some vtape, some v6, some v24, some v30, some v36]) rfl (b_ifRF (et_or (et_test (ev_op vl_neS (ev_callP (ea_one (ev_var (rNet.mono (s33.trans s39) r28) rfl))) (ev_var (rStr.mono s39 r34) rfl))) (et_or (et_test (ev_op (vl_neD (dTh (daC (dTup (dTh (daC (dOpt dInt) (daC (dOpt dInt) (daC (dTup (dTh (daC (dOpt (dSum dInt dStr)) (daOne (dOpt dInt))))) (daC dBool (daC (dOpt (dSum dInt dStr)) (daOne (dTup (dTh (daC dStr (daOne (dOpt dInt))))))))))))) (daOne (dTup (dTh (daC (dOpt dInt) (daC (dOpt dInt) (daOne dBool)))))))) dNet) (ev_var r40 rfl) (ev_var (rNet.mono (s33.trans s39) r28) rfl))) (et_not (et_B (ev_callP (ea_one (ev_cvP (R := (rTh (arC (rTup (rTh (arC (rOpt rInt) (arC (rOpt rInt) (arC (rTup (rTh (arC (rOpt (rSum rInt rStr)) (arOne (rOpt rInt))))) (arC rBool (arC (rOpt (rSum rInt rStr)) (arOne (rTup (rTh (arC rStr (arOne (rOpt rInt))))))))))))) (arOne (rTup (rTh (arC (rOpt rInt) (arC (rOpt rInt) (arOne rBool))))))))) (R' := rNet) (cvp_th (coa_C (cop_T (cvp_th (coa_C (cop_B cop_I) (coa_C (cop_B cop_I) (coa_C (cop_T (cvp_th (coa_C (cop_O (cop_E cop_I cop_N)) (cva_one (cop_B cop_I))))) (coa_C cop_I (coa_C (cop_O (cop_E cop_I cop_N)) (cva_one (cop_T (cvp_th (coa_C cop_I (cva_one (cop_B cop_I))))))))))))) (cva_one (cop_T (cvp_th (coa_C (cop_B cop_I) (coa_C (cop_B cop_I) (cva_one cop_I)))))))) (ev_var r40 rfl)))))))) (b_ret pr_id ev_bl) (b_nxF pr_id (fun F53 s54 => ⟨_, _, _, _, rfl⟩)))))))) (fun z55 F56 w57 s58 h59 => by obtain ⟨o60, o61, o62, o63, e64⟩ := h59; subst e64; exact b_ret pr_id ev_bl) (fun _ _ _ _ s ⟨a0, a1, a2, a3, e⟩ => ⟨a0, a1, a2, a3, e⟩)
end
end Law

namespace Law
open PySem L2 T
/-! the tape, and what nets are drawn -/
theorem drawL {many : Int} (h : 0 < many) (h2 : many.natAbs.log2 < 9000) (s : Tape) : Tot (m_law_draw many) s (fun w => 0 ≤ w.1 ∧ w.1 < many) := by
  have hm := fun i => modI_ok (i := i) h
  have hd : ∀ i, divI i many = some (i / many) := fun i => if_pos ⟨h, h2⟩
  have hP : (0 : Int) < 2305843009213693951 := by decide
  have hp := fun i => modI_ok (i := i) hP
  have h3 := fun j => mulI_ok (i := 1000003) (j := j) (Or.inl (by decide))
  have h4 := fun j => mulI_ok (i := 1181783497276652981) (j := j) (Or.inl (by decide))
  have h5 : powI 10 18 = some (10 ^ 18) := by decide
  have h6 := fun i : Int => mulI_ok (i := i % 2305843009213693951) (j := i % 2305843009213693951) (Or.inl ⟨by omega, by omega⟩)
  unfold m_law_draw
  rw [tot_bnd, tot_ret]
  refine tot_cut (fun _ => True) ?_ fun _ s1 _ => ?_
  · rw [tot_bnd]
    simp only [tot_bnd, tot_ret, tot_gtLS, tot_lft, ex_some]
    rw [tot_bif]
    refine ⟨fun _ => ?_, fun _ => ⟨_, rfl, trivial⟩⟩
    rw [tot_bnd, tot_ret]
    refine tot_cut (fun _ => True) ?_ fun c s2 _ => ?_
    · simp only [tot_bnd, tot_ret, tot_zm, tot_nw, tot_rb, tot_fzL, tot_drL, tot_gtLS, tot_upLS, tot_lft, tot_gtL, tot_upL, tot_bif, tot_some, tot_rtF, ex_some, ex_someT, and_true, true_and, implies_true, few0, few1, few2, few3, tot_zmI, tot_wp, tot_psh, tot_pshL, tot_gtI, tot_upI, tot_bndX, tot_tryM, tot_tryO, tot_tryR]
      intro hl
      have hl2 : (0 : Int) < s.1.length := of_decide_eq_true hl
      rw [modI_ok hl2]
      simp only [ex_some]
      obtain ⟨b, hb, _⟩ := atI_ok (xs := s.1) (i := s.2.1 % s.1.length) (Int.emod_nonneg _ (by omega)) (Int.emod_lt_of_pos _ hl2)
      exact ⟨b, hb⟩
    · refine tot_cut (fun _ => True) ?_ fun c2 s3 _ => ?_
      · refine tot_cut (fun _ => True) ?_ fun c4 s4 _ => ?_
        · simp only [tot_bnd, tot_ret, tot_zm, tot_nw, tot_rb, tot_fzL, tot_drL, tot_gtLS, tot_upLS, tot_lft, tot_gtL, tot_upL, tot_bif, tot_some, tot_rtF, ex_some, ex_someT, and_true, true_and, implies_true, few0, few1, few2, few3, tot_zmI, tot_wp, tot_psh, tot_pshL, tot_gtI, tot_upI, tot_bndX, tot_tryM, tot_tryO, tot_tryR, h5]
        · simp only [tot_bnd, tot_ret, tot_zm, tot_nw, tot_rb, tot_fzL, tot_drL, tot_gtLS, tot_upLS, tot_lft, tot_gtL, tot_upL, tot_bif, tot_some, tot_rtF, ex_some, ex_someT, and_true, true_and, implies_true, few0, few1, few2, few3, tot_zmI, tot_wp, tot_psh, tot_pshL, tot_gtI, tot_upI, tot_bndX, tot_tryM, tot_tryO, tot_tryR, h3, h4, hp, h6]
      · simp only [tot_bnd, tot_ret, tot_zm, tot_nw, tot_rb, tot_fzL, tot_drL, tot_gtLS, tot_upLS, tot_lft, tot_gtL, tot_upL, tot_bif, tot_some, tot_rtF, ex_some, ex_someT, and_true, true_and, implies_true, few0, few1, few2, few3, tot_zmI, tot_wp, tot_psh, tot_pshL, tot_gtI, tot_upI, tot_bndX, tot_tryM, tot_tryO, tot_tryR]
  · simp only [tot_bnd, tot_ret, tot_zm, tot_nw, tot_rb, tot_fzL, tot_drL, tot_gtLS, tot_upLS, tot_lft, tot_gtL, tot_upL, tot_bif, tot_some, tot_rtF, ex_some, ex_someT, and_true, true_and, implies_true, few0, few1, few2, few3, tot_zmI, tot_wp, tot_psh, tot_pshL, tot_gtI, tot_upI, tot_bndX, tot_tryM, tot_tryO, tot_tryR, hm, hd]
    exact ⟨Int.emod_nonneg _ (by omega), Int.emod_lt_of_pos _ h⟩
theorem draw {many : Int} (h : 0 < many) (h2 : many < 2 ^ 64) (s : Tape) : Tot (m_law_draw many) s (fun w => 0 ≤ w.1 ∧ w.1 < many) := drawL h (log2_lt h h2) s
def OutOk (n : Int) (o : Out) : Prop := (∀ t, o.1 = some t → 0 ≤ t ∧ t < n) ∧ 1 ≤ o.2 ∧ o.2 ≤ 60
def ActOk (m : Int) (a : Act) : Prop := (a.1 = "open" ∨ a.1 = "shut" ∨ a.1 = "turn") ∧ 0 ≤ a.2 ∧ a.2 < m
structure VesOk (k n m : Int) (v : Vessel) : Prop where
  size : 1 ≤ v.1
  size2 : v.1 ≤ 60
  brim : v.1 ≤ v.2.1
  brim2 : v.2.1 ≤ 200
  outs : ∀ o ∈ v.2.2.1, OutOk n o
  outs1 : 1 ≤ v.2.2.1.length
  outs3 : v.2.2.1.length ≤ 3
  spill : ∀ t, v.2.2.2.2.1 = some t → k < t ∧ t < n
  acts : ∀ a ∈ v.2.2.2.2.2, ActOk m a
  acts3 : v.2.2.2.2.2.length ≤ 3
structure NetOk (net : Net) : Prop where
  n1 : 1 ≤ net.1.length
  n2 : net.1.length ≤ 90
  m2 : net.2.length ≤ 90
  ves : ∀ (k : Nat) v, net.1[k]? = some v → VesOk k net.1.length net.2.length v
  spo : ∀ p ∈ net.2, 0 ≤ p.1 ∧ p.1 < net.1.length ∧ 0 ≤ p.2.1 ∧ p.2.1 ≤ 60
theorem intB_lt (b : Bool) : 0 ≤ intB b ∧ intB b < 2 := by cases b <;> decide
theorem outs_ok {many : Int} {small : Bool} (h : 0 < many) (h2 : many < 2 ^ 64) (s : Tape) : Tot (m_law_outs many small) s (fun w => (∀ o ∈ w.1, OutOk many o) ∧ 1 ≤ w.1.length ∧ w.1.length ≤ 3) := by
  have hd := fun i => divI_ok (i := i) (j := 3) (by decide) (by decide)
  have hD := fun (k : Int) (a : 0 < k) (b : k < 2 ^ 64) (s : Tape) => draw a b s
  unfold m_law_outs
  simp only [tot_bnd, tot_ret, tot_zm, tot_nw, tot_rb, tot_fzL, tot_drL, tot_gtLS, tot_upLS, tot_lft, tot_gtL, tot_upL, tot_bif, tot_some, tot_rtF, ex_some, ex_someT, and_true, true_and, implies_true, few0, few1, few2, few3, tot_zmI, tot_wp, tot_psh, tot_pshL, tot_gtI, tot_upI, tot_bndX, tot_tryM, tot_tryO, tot_tryR]
  refine (draw (by decide) (by decide) _).mono fun w1 h1 => ?_
  refine (draw (by decide) (by decide) _).mono fun w2 h2' => ?_
  refine (draw (by decide) (by decide) _).mono fun w3 h3 => ?_
  refine at_in (fun x => 0 ≤ x ∧ x < 3) h3.1 (by simpa using h3.2) (by simp; omega) fun c hc => ?_
  obtain ⟨k, hk⟩ : ∃ k : Nat, 1 + c = (k : Int) := ⟨(1 + c).toNat, by omega⟩
  rw [hk, rng_ok (by omega)]
  simp only [tot_bnd, tot_ret, tot_zm, tot_nw, tot_rb, tot_fzL, tot_drL, tot_gtLS, tot_upLS, tot_lft, tot_gtL, tot_upL, tot_bif, tot_some, tot_rtF, ex_some, ex_someT, and_true, true_and, implies_true, few0, few1, few2, few3, tot_zmI, tot_wp, tot_psh, tot_pshL, tot_gtI, tot_upI, tot_bndX, tot_tryM, tot_tryO, tot_tryR]
  refine tot_fd (fun pre _ st => (∀ o ∈ st.2, OutOk many o) ∧ st.2.length = pre.length) ⟨by simp, rfl⟩ ?_ ?_
  · rintro pre x post z s1 e ⟨i1, i2⟩
    have hl : pre.length < 3 := by
      have := congrArg List.length e
      rw [rngL_len] at this; simp at this; omega
    simp only [tot_bnd, tot_ret, tot_zm, tot_nw, tot_rb, tot_fzL, tot_drL, tot_gtLS, tot_upLS, tot_lft, tot_gtL, tot_upL, tot_bif, tot_some, tot_rtF, ex_some, ex_someT, and_true, true_and, implies_true, few0, few1, few2, few3, tot_zmI, tot_wp, tot_psh, tot_pshL, tot_gtI, tot_upI, tot_bndX, tot_tryM, tot_tryO, tot_tryR]
    refine (draw h h2 _).mono fun w4 h4 => ?_
    refine (draw h h2 _).mono fun w5 h5 => ?_
    refine (draw (by decide) (by decide) _).mono fun w6 h6 => ?_
    refine at_in (fun x => ∀ t, x = some t → 0 ≤ t ∧ t < many) h6.1 (by simpa using h6.2) (by simp; omega) fun t ht => ?_
    refine (draw (by decide) (by decide) _).mono fun w7 h7 => ?_
    refine at_in (fun x => 0 < x ∧ x ≤ 60) (intB_lt _).1 (by simpa using (intB_lt _).2) (by simp) fun q hq => ?_
    refine (draw (by omega) (by omega) _).mono fun w8 h8 => ?_
    refine (draw (by decide) (by decide) _).mono fun w9 h9 => ?_
    simp only [hd, tot_bnd, tot_ret, tot_zm, tot_nw, tot_rb, tot_fzL, tot_drL, tot_gtLS, tot_upLS, tot_lft, tot_gtL, tot_upL, tot_bif, tot_some, tot_rtF, ex_some, ex_someT, and_true, true_and, implies_true, few0, few1, few2, few3, tot_zmI, tot_wp, tot_psh, tot_pshL, tot_gtI, tot_upI, tot_bndX, tot_tryM, tot_tryO, tot_tryR]
    refine at_in (fun x => 0 ≤ x ∧ x < 60) (by omega) (by simp; omega) (by simp; omega) fun p hp => ?_
    rw [app_ok (by show _ < 1000000; rw [i2]; omega)]
    simp only [tot_bnd, tot_ret, tot_zm, tot_nw, tot_rb, tot_fzL, tot_drL, tot_gtLS, tot_upLS, tot_lft, tot_gtL, tot_upL, tot_bif, tot_some, tot_rtF, ex_some, ex_someT, and_true, true_and, implies_true, few0, few1, few2, few3, tot_zmI, tot_wp, tot_psh, tot_pshL, tot_gtI, tot_upI, tot_bndX, tot_tryM, tot_tryO, tot_tryR]
    refine ⟨?_, by simp [i2]⟩
    intro o ho
    rcases List.mem_append.mp ho with ho | ho
    · exact i1 o ho
    · obtain rfl := List.mem_singleton.mp ho
      exact ⟨ht, by show 1 ≤ 1 + p; omega, by show 1 + p ≤ 60; omega⟩
  · rintro z s1 ⟨i1, i2⟩
    rw [rngL_len] at i2
    exact ⟨i1, by dsimp only; omega, by dsimp only; omega⟩

theorem mulB {i : Int} {b : Bool} : mulI i (intB b) = some (i * intB b) := mulI_ok (Or.inr (by cases b <;> decide))
theorem vessel_ok {number many spouts : Int} {small : Bool} (h0 : 0 ≤ number) (h : number < many) (h2 : many < 2 ^ 64) (h3 : 0 ≤ spouts) (h4 : spouts < 2 ^ 64) (s : Tape) : Tot (m_law_vessel number many spouts small) s (fun w => VesOk number many spouts w.1) := by
  have hd := fun i => divI_ok (i := i) (j := 3) (by decide) (by decide)
  unfold m_law_vessel
  refine tot_cut (fun w => 1 ≤ w.1 ∧ w.1 ≤ 60) ?_ fun size s1 hs => ?_
  · simp only [tot_bnd, tot_ret, tot_zm, tot_nw, tot_rb, tot_fzL, tot_drL, tot_gtLS, tot_upLS, tot_lft, tot_gtL, tot_upL, tot_bif, tot_some, tot_rtF, ex_some, ex_someT, and_true, true_and, implies_true, few0, few1, few2, few3, tot_zmI, tot_wp, tot_psh, tot_pshL, tot_gtI, tot_upI, tot_bndX, tot_tryM, tot_tryO, tot_tryR]
    refine at_in (fun x => 0 < x ∧ x ≤ 60) (intB_lt _).1 (by simpa using (intB_lt _).2) (by simp) fun q hq => ?_
    refine (draw (by omega) (by omega) _).mono fun w1 h1 => ?_
    refine at_in (fun x => 0 < x ∧ x ≤ 60) (intB_lt _).1 (by simpa using (intB_lt _).2) (by simp) fun q2 hq2 => ?_
    refine (draw (by omega) (by omega) _).mono fun w2 h2 => ?_
    refine (draw (by decide) (by decide) _).mono fun w3 h3 => ?_
    simp only [tot_bnd, tot_ret, tot_zm, tot_nw, tot_rb, tot_fzL, tot_drL, tot_gtLS, tot_upLS, tot_lft, tot_gtL, tot_upL, tot_bif, tot_some, tot_rtF, ex_some, ex_someT, and_true, true_and, implies_true, few0, few1, few2, few3, tot_zmI, tot_wp, tot_psh, tot_pshL, tot_gtI, tot_upI, tot_bndX, tot_tryM, tot_tryO, tot_tryR, hd]
    refine at_in (fun x => 0 ≤ x ∧ x < 60) (by omega) (by simp; omega) (by simp; omega) fun p hp => ?_
    exact ⟨by omega, by omega⟩
  refine tot_cut (fun w => size ≤ w.1 ∧ w.1 ≤ 200) ?_ fun brim s2 hb => ?_
  · simp only [tot_bnd, tot_ret, tot_zm, tot_nw, tot_rb, tot_fzL, tot_drL, tot_gtLS, tot_upLS, tot_lft, tot_gtL, tot_upL, tot_bif, tot_some, tot_rtF, ex_some, ex_someT, and_true, true_and, implies_true, few0, few1, few2, few3, tot_zmI, tot_wp, tot_psh, tot_pshL, tot_gtI, tot_upI, tot_bndX, tot_tryM, tot_tryO, tot_tryR]
    refine (draw (by omega) (by omega) _).mono fun w1 h1 => ?_
    refine (draw (by decide) (by decide) _).mono fun w2 h2 => ?_
    rw [mulB]
    simp only [tot_bnd, tot_ret, tot_zm, tot_nw, tot_rb, tot_fzL, tot_drL, tot_gtLS, tot_upLS, tot_lft, tot_gtL, tot_upL, tot_bif, tot_some, tot_rtF, ex_some, ex_someT, and_true, true_and, implies_true, few0, few1, few2, few3, tot_zmI, tot_wp, tot_psh, tot_pshL, tot_gtI, tot_upI, tot_bndX, tot_tryM, tot_tryO, tot_tryR]
    have hB : 0 ≤ w2.1 * intB (!small) ∧ w2.1 * intB (!small) < 2 := by
      cases small
      · show 0 ≤ w2.1 * 1 ∧ w2.1 * 1 < 2; omega
      · show 0 ≤ w2.1 * 0 ∧ w2.1 * 0 < 2; omega
    dsimp only at hs
    refine at_in (fun x => 0 ≤ x ∧ x ≤ 200 - size) hB.1 (by simpa using hB.2) (by simp; omega) fun p hp => ?_
    exact ⟨by first | omega | (dsimp only; omega), by first | omega | (dsimp only; omega)⟩
  dsimp only at hs hb
  refine tot_cut (fun w => size ≤ w.1 ∧ w.1 ≤ 200) ?_ fun brim2 s3 hb2 => ?_
  · simp only [tot_bnd, tot_ret, tot_zm, tot_nw, tot_rb, tot_fzL, tot_drL, tot_gtLS, tot_upLS, tot_lft, tot_gtL, tot_upL, tot_bif, tot_some, tot_rtF, ex_some, ex_someT, and_true, true_and, implies_true, few0, few1, few2, few3, tot_zmI, tot_wp, tot_psh, tot_pshL, tot_gtI, tot_upI, tot_bndX, tot_tryM, tot_tryO, tot_tryR]
    refine (draw (by decide) (by decide) _).mono fun w1 h1 => ⟨fun _ => ?_, fun _ => hb⟩
    exact (draw (by decide) (by decide) _).mono fun w2 h2 => ⟨by omega, by omega⟩
  rw [tot_bnd, tot_ret]
  refine tot_cut (fun w => ∀ t, w.1 = some t → number < t ∧ t < many) ?_ fun spill s4 hp => ?_
  · refine tot_cut (fun w => w.1 = true → number + 1 < many) ?_ fun b s5 hbb => ?_
    · simp only [tot_bnd, tot_ret, tot_zm, tot_nw, tot_rb, tot_fzL, tot_drL, tot_gtLS, tot_upLS, tot_lft, tot_gtL, tot_upL, tot_bif, tot_some, tot_rtF, ex_some, ex_someT, and_true, true_and, implies_true, few0, few1, few2, few3, tot_zmI, tot_wp, tot_psh, tot_pshL, tot_gtI, tot_upI, tot_bndX, tot_tryM, tot_tryO, tot_tryR]
      refine ⟨fun e => (draw (by decide) (by decide) _).mono fun w1 h1 _ => of_decide_eq_true e, fun _ e => by cases e⟩
    · simp only [tot_bnd, tot_ret, tot_zm, tot_nw, tot_rb, tot_fzL, tot_drL, tot_gtLS, tot_upLS, tot_lft, tot_gtL, tot_upL, tot_bif, tot_some, tot_rtF, ex_some, ex_someT, and_true, true_and, implies_true, few0, few1, few2, few3, tot_zmI, tot_wp, tot_psh, tot_pshL, tot_gtI, tot_upI, tot_bndX, tot_tryM, tot_tryO, tot_tryR]
      refine ⟨fun e => ?_, fun _ t e => by cases e⟩
      have := hbb e
      refine (draw (by omega) (by omega) _).mono fun w2 h2 t e => ?_
      cases e; omega
  dsimp only at hb2 hp
  simp only [tot_bnd, tot_ret, tot_zm, tot_nw, tot_rb, tot_fzL, tot_drL, tot_gtLS, tot_upLS, tot_lft, tot_gtL, tot_upL, tot_some, tot_rtF, ex_some, ex_someT, and_true, true_and, implies_true, few0, few1, few2, few3, tot_zmI, tot_wp, tot_psh, tot_pshL, tot_gtI, tot_upI, tot_bndX, tot_tryM, tot_tryO, tot_tryR]
  refine Tot.mono (Q := fun (w : Unit × (Tape × List Act)) => (∀ a ∈ w.2.2, ActOk spouts a) ∧ w.2.2.length ≤ 3) ?_ fun w ha => ?_
  · rw [tot_bif]
    refine ⟨fun e => ?_, fun _ => by rw [tot_some]; exact ⟨by simp, by simp⟩⟩
    have hsp : 0 < spouts := of_decide_eq_true e
    simp only [tot_bnd, tot_ret, tot_zm, tot_nw, tot_rb, tot_fzL, tot_drL, tot_gtLS, tot_upLS, tot_lft, tot_gtL, tot_upL, tot_bif, tot_some, tot_rtF, ex_some, ex_someT, and_true, true_and, implies_true, few0, few1, few2, few3, tot_zmI, tot_wp, tot_psh, tot_pshL, tot_gtI, tot_upI, tot_bndX, tot_tryM, tot_tryO, tot_tryR]
    refine (draw (by decide) (by decide) _).mono fun w1 h1 => ?_
    obtain ⟨k, hk⟩ : ∃ k : Nat, w1.1 / 3 = (k : Int) := ⟨(w1.1 / 3).toNat, by omega⟩
    rw [hd, ex_some, hk, rng_ok (by omega), ex_some]
    refine tot_fd (fun pre _ st => (∀ a ∈ st.2, ActOk spouts a) ∧ st.2.length = pre.length) ⟨by simp, rfl⟩ ?_ ?_
    · rintro pre x post z s1 e ⟨i1, i2⟩
      have hl : pre.length < 4 := by
        have := congrArg List.length e
        rw [rngL_len] at this; simp at this; omega
      simp only [tot_bnd, tot_ret, tot_zm, tot_nw, tot_rb, tot_fzL, tot_drL, tot_gtLS, tot_upLS, tot_lft, tot_gtL, tot_upL, tot_bif, tot_some, tot_rtF, ex_some, ex_someT, and_true, true_and, implies_true, few0, few1, few2, few3, tot_zmI, tot_wp, tot_psh, tot_pshL, tot_gtI, tot_upI, tot_bndX, tot_tryM, tot_tryO, tot_tryR]
      refine (draw (by decide) (by decide) _).mono fun w4 h4 => ?_
      refine at_in (fun x => x = "open" ∨ x = "shut" ∨ x = "turn") h4.1 (by simpa using h4.2) (by simp) fun t ht => ?_
      refine (draw (by omega) (by omega) _).mono fun w5 h5 => ?_
      rw [app_ok (by show _ < 1000000; rw [i2]; omega)]
      simp only [tot_bnd, tot_ret, tot_zm, tot_nw, tot_rb, tot_fzL, tot_drL, tot_gtLS, tot_upLS, tot_lft, tot_gtL, tot_upL, tot_bif, tot_some, tot_rtF, ex_some, ex_someT, and_true, true_and, implies_true, few0, few1, few2, few3, tot_zmI, tot_wp, tot_psh, tot_pshL, tot_gtI, tot_upI, tot_bndX, tot_tryM, tot_tryO, tot_tryR]
      refine ⟨?_, by simp [i2]⟩
      intro o ho
      rcases List.mem_append.mp ho with ho | ho
      · exact i1 o ho
      · obtain rfl := List.mem_singleton.mp ho
        exact ⟨ht, h5⟩
    · rintro z s1 ⟨i1, i2⟩
      rw [rngL_len] at i2
      exact ⟨i1, by first | omega | (dsimp only; omega)⟩
  refine (outs_ok (by omega) (by omega) _).mono fun w1 h1 => ?_
  refine (draw (by decide) (by decide) _).mono fun w2 h2 => ?_
  exact ⟨hs.1, hs.2, hb2.1, hb2.2, h1.1, h1.2.1, h1.2.2, hp, ha.1, ha.2⟩
theorem net_ok {most : Int} {small : Bool} (h : 1 ≤ most) (h2 : most ≤ 90) (s : Tape) : Tot (m_law_net most small) s (fun w => NetOk w.1 ∧ (w.1.1.length : Int) ≤ most ∧ w.1.2.length ≤ 12) := by
  have hd := fun i => divI_ok (i := i) (j := 3) (by decide) (by decide)
  unfold m_law_net
  refine tot_cut (fun w => 1 ≤ w.1 ∧ w.1 ≤ most) ?_ fun many s1 hm => ?_
  · simp only [tot_bnd, tot_ret, tot_zm, tot_nw, tot_rb, tot_fzL, tot_drL, tot_gtLS, tot_upLS, tot_lft, tot_gtL, tot_upL, tot_bif, tot_some, tot_rtF, ex_some, ex_someT, and_true, true_and, implies_true, few0, few1, few2, few3, tot_zmI, tot_wp, tot_psh, tot_pshL, tot_gtI, tot_upI, tot_bndX, tot_tryM, tot_tryO, tot_tryR]
    refine (draw (by omega) (by omega) _).mono fun w1 h1 => ⟨by first | omega | (dsimp only; omega), by first | omega | (dsimp only; omega)⟩
  refine tot_cut (fun w => 0 ≤ w.1 ∧ w.1 ≤ 12) ?_ fun spouts s2 hs => ?_
  · simp only [tot_bnd, tot_ret, tot_zm, tot_nw, tot_rb, tot_fzL, tot_drL, tot_gtLS, tot_upLS, tot_lft, tot_gtL, tot_upL, tot_bif, tot_some, tot_rtF, ex_some, ex_someT, and_true, true_and, implies_true, few0, few1, few2, few3, tot_zmI, tot_wp, tot_psh, tot_pshL, tot_gtI, tot_upI, tot_bndX, tot_tryM, tot_tryO, tot_tryR]
    refine (draw (by decide) (by decide) _).mono fun w1 h1 => ?_
    refine (draw (by decide) (by decide) _).mono fun w2 h2 => ?_
    refine (draw (by decide) (by decide) _).mono fun w3 h3 => ?_
    simp only [tot_bnd, tot_ret, tot_zm, tot_nw, tot_rb, tot_fzL, tot_drL, tot_gtLS, tot_upLS, tot_lft, tot_gtL, tot_upL, tot_bif, tot_some, tot_rtF, ex_some, ex_someT, and_true, true_and, implies_true, few0, few1, few2, few3, tot_zmI, tot_wp, tot_psh, tot_pshL, tot_gtI, tot_upI, tot_bndX, tot_tryM, tot_tryO, tot_tryR, hd]
    refine at_in (fun x => 0 ≤ x ∧ x ≤ 12) (by omega) (by simp; omega) (by simp; omega) fun p hp => ?_
    exact hp
  dsimp only at hm hs
  obtain ⟨n, rfl⟩ : ∃ n : Nat, many = (n : Int) := ⟨many.toNat, by omega⟩
  obtain ⟨m, rfl⟩ : ∃ m : Nat, spouts = (m : Int) := ⟨spouts.toNat, by omega⟩
  refine tot_cut (fun w => w.1.length = n ∧ ∀ (k : Nat) v, w.1[k]? = some v → VesOk k n m v) ?_ fun vessels s3 hv => ?_
  · simp only [tot_bnd, tot_ret, tot_zm, tot_nw, tot_rb, tot_fzL, tot_drL, tot_gtLS, tot_upLS, tot_lft, tot_gtL, tot_upL, tot_bif, tot_some, tot_rtF, ex_some, ex_someT, and_true, true_and, implies_true, few0, few1, few2, few3, tot_zmI, tot_wp, tot_psh, tot_pshL, tot_gtI, tot_upI, tot_bndX, tot_tryM, tot_tryO, tot_tryR]
    rw [rng_ok (by omega)]
    simp only [tot_bnd, tot_ret, tot_zm, tot_nw, tot_rb, tot_fzL, tot_drL, tot_gtLS, tot_upLS, tot_lft, tot_gtL, tot_upL, tot_bif, tot_some, tot_rtF, ex_some, ex_someT, and_true, true_and, implies_true, few0, few1, few2, few3, tot_zmI, tot_wp, tot_psh, tot_pshL, tot_gtI, tot_upI, tot_bndX, tot_tryM, tot_tryO, tot_tryR]
    rw [chk_ok (by rw [rngL_len]; show n < 1000000; omega)]
    simp only [tot_bnd, tot_ret, tot_zm, tot_nw, tot_rb, tot_fzL, tot_drL, tot_gtLS, tot_upLS, tot_lft, tot_gtL, tot_upL, tot_bif, tot_some, tot_rtF, ex_some, ex_someT, and_true, true_and, implies_true, few0, few1, few2, few3, tot_zmI, tot_wp, tot_psh, tot_pshL, tot_gtI, tot_upI, tot_bndX, tot_tryM, tot_tryO, tot_tryR]
    refine tot_mp (fun pre ys _ => ys.length = pre.length ∧ ∀ (k : Nat) v, ys[k]? = some v → VesOk k n m v) ⟨rfl, by simp⟩ ?_ ?_
    · rintro pre x post ys s1 e ⟨i1, i2⟩
      have hx : x = (pre.length : Int) ∧ pre.length < n := by
        have e1 := congrArg (fun l => l[pre.length]?) e
        have e2 := congrArg List.length e
        rw [rngL_len] at e2
        simp at e2
        have hl : pre.length < n := by omega
        simp [rngL_eq, hl] at e1
        exact ⟨by omega, hl⟩
      simp only [tot_bnd, tot_ret, tot_zm, tot_nw, tot_rb, tot_fzL, tot_drL, tot_gtLS, tot_upLS, tot_lft, tot_gtL, tot_upL, tot_bif, tot_some, tot_rtF, ex_some, ex_someT, and_true, true_and, implies_true, few0, few1, few2, few3, tot_zmI, tot_wp, tot_psh, tot_pshL, tot_gtI, tot_upI, tot_bndX, tot_tryM, tot_tryO, tot_tryR]
      refine (vessel_ok (by omega) (by omega) (by omega) (by omega) (by omega) _).mono fun w1 h1 => ?_
      refine ⟨by simp [i1], fun k v hk => ?_⟩
      by_cases hkl : k < ys.length
      · rw [List.getElem?_append_left hkl] at hk
        exact i2 k v hk
      · rw [List.getElem?_append_right (by omega)] at hk
        have : k - ys.length = 0 := by
          by_cases h0 : k - ys.length = 0
          · exact h0
          · have : (k - ys.length) ≥ 1 := by omega
            rw [List.getElem?_eq_none (by simpa using this)] at hk; cases hk
        rw [this] at hk
        cases hk
        have e3 : k = pre.length := by omega
        subst e3
        rw [hx.1] at h1
        exact h1
    · rintro ys s1 ⟨i1, i2⟩
      rw [rngL_len] at i1
      exact ⟨i1, i2⟩
  dsimp only at hv
  simp only [tot_bnd, tot_ret, tot_zm, tot_nw, tot_rb, tot_fzL, tot_drL, tot_gtLS, tot_upLS, tot_lft, tot_gtL, tot_upL, tot_bif, tot_some, tot_rtF, ex_some, ex_someT, and_true, true_and, implies_true, few0, few1, few2, few3, tot_zmI, tot_wp, tot_psh, tot_pshL, tot_gtI, tot_upI, tot_bndX, tot_tryM, tot_tryO, tot_tryR]
  rw [rng_ok (by omega)]
  simp only [tot_bnd, tot_ret, tot_zm, tot_nw, tot_rb, tot_fzL, tot_drL, tot_gtLS, tot_upLS, tot_lft, tot_gtL, tot_upL, tot_bif, tot_some, tot_rtF, ex_some, ex_someT, and_true, true_and, implies_true, few0, few1, few2, few3, tot_zmI, tot_wp, tot_psh, tot_pshL, tot_gtI, tot_upI, tot_bndX, tot_tryM, tot_tryO, tot_tryR]
  refine tot_fd (fun pre _ st => (∀ p ∈ st.2, 0 ≤ p.1 ∧ p.1 < (n : Int) ∧ 0 ≤ p.2.1 ∧ p.2.1 ≤ 60) ∧ st.2.length = pre.length) ⟨by simp, rfl⟩ ?_ ?_
  · rintro pre x post z s1 e ⟨i1, i2⟩
    have hl : pre.length < 13 := by
      have := congrArg List.length e
      rw [rngL_len] at this; simp at this; omega
    simp only [tot_bnd, tot_ret, tot_zm, tot_nw, tot_rb, tot_fzL, tot_drL, tot_gtLS, tot_upLS, tot_lft, tot_gtL, tot_upL, tot_bif, tot_some, tot_rtF, ex_some, ex_someT, and_true, true_and, implies_true, few0, few1, few2, few3, tot_zmI, tot_wp, tot_psh, tot_pshL, tot_gtI, tot_upI, tot_bndX, tot_tryM, tot_tryO, tot_tryR]
    refine (draw (by decide) (by decide) _).mono fun w4 h4 => ?_
    refine at_in (fun x => 0 < x ∧ x ≤ 61) (intB_lt _).1 (by simpa using (intB_lt _).2) (by simp) fun q hq => ?_
    refine (draw (by omega) (by omega) _).mono fun w8 h8 => ?_
    refine (draw (by decide) (by decide) _).mono fun w9 h9 => ?_
    simp only [tot_bnd, tot_ret, tot_zm, tot_nw, tot_rb, tot_fzL, tot_drL, tot_gtLS, tot_upLS, tot_lft, tot_gtL, tot_upL, tot_bif, tot_some, tot_rtF, ex_some, ex_someT, and_true, true_and, implies_true, few0, few1, few2, few3, tot_zmI, tot_wp, tot_psh, tot_pshL, tot_gtI, tot_upI, tot_bndX, tot_tryM, tot_tryO, tot_tryR, hd]
    refine at_in (fun x => 0 ≤ x ∧ x ≤ 60) (by omega) (by simp; omega) (by simp; omega) fun p hp => ?_
    refine (draw (by omega) (by omega) _).mono fun w10 h10 => ?_
    refine (draw (by decide) (by decide) _).mono fun w11 h11 => ?_
    rw [app_ok (by show _ < 1000000; rw [i2]; omega)]
    simp only [tot_bnd, tot_ret, tot_zm, tot_nw, tot_rb, tot_fzL, tot_drL, tot_gtLS, tot_upLS, tot_lft, tot_gtL, tot_upL, tot_bif, tot_some, tot_rtF, ex_some, ex_someT, and_true, true_and, implies_true, few0, few1, few2, few3, tot_zmI, tot_wp, tot_psh, tot_pshL, tot_gtI, tot_upI, tot_bndX, tot_tryM, tot_tryO, tot_tryR]
    refine ⟨?_, by simp [i2]⟩
    intro o ho
    rcases List.mem_append.mp ho with ho | ho
    · exact i1 o ho
    · obtain rfl := List.mem_singleton.mp ho
      exact ⟨h10.1, h10.2, hp⟩
  · rintro z s1 ⟨i1, i2⟩
    rw [rngL_len] at i2
    refine ⟨⟨by first | omega | (dsimp only; omega), by first | omega | (dsimp only; omega), by first | omega | (dsimp only; omega), ?_, ?_⟩, by first | omega | (dsimp only; omega), by first | omega | (dsimp only; omega)⟩
    · dsimp only; rw [hv.1, i2]; exact hv.2
    · dsimp only; rw [hv.1]; exact i1

/-! a tick, plainly -/
structure StOk (net : Net) (st : State) : Prop where
  held : st.1.length = net.1.length
  com : st.2.1.length = net.1.length
  doors : st.2.2.length = net.2.length
abbrev v0 : Vessel := (1, 1, [], false, none, [])
abbrev p0 : Spout := (0, 0, false)
def firstS (net : Net) : State := (List.replicate net.1.length 0, List.replicate net.1.length 0, net.2.map (·.2.2))
theorem firstS_ok (net : Net) : StOk net (firstS net) := ⟨by simp [firstS], by simp [firstS], by simp [firstS]⟩
theorem rep_flat {α : Type} (x : α) : ∀ n, (List.replicate n [x]).flatten = List.replicate n x
  | 0 => rfl
  | n + 1 => by rw [List.replicate_succ, List.flatten_cons, rep_flat x n, List.replicate_succ]; rfl
def addAt (xs : List Int) (k : Nat) (a : Int) : List Int := xs.set k (xs.getD k 0 + a)
theorem addAt_len (xs : List Int) (k : Nat) (a : Int) : (addAt xs k a).length = xs.length := by simp [addAt]
def baseS (net : Net) (st : State) (p : List Int) : List Int := (List.range net.1.length).map fun k => st.1.getD k 0 + st.2.1.getD k 0 + p.getD k 0
def stepF (net : Net) (st : State) (has : List Int) (k : Nat) : List Int := if st.2.2.getD k false = true then addAt has (net.2.getD k p0).1.toNat (net.2.getD k p0).2.1 else has
def filledS (net : Net) (st : State) (p : List Int) : List Int := (List.range net.2.length).foldl (stepF net st) (baseS net st p)
theorem stepF_len (net : Net) (st : State) (b : List Int) (k : Nat) : (stepF net st b k).length = b.length := by
  unfold stepF; split <;> simp [addAt_len]
theorem fold_len (net : Net) (st : State) (n : Nat) (b : List Int) : ((List.range n).foldl (stepF net st) b).length = b.length := by
  induction n with
  | zero => rfl
  | succ n ih => rw [List.range_succ, List.foldl_append]; show (stepF net st _ n).length = _; rw [stepF_len, ih]
theorem baseS_len (net : Net) (st : State) (p : List Int) : (baseS net st p).length = net.1.length := by simp [baseS]
theorem filledS_len (net : Net) (st : State) (p : List Int) : (filledS net st p).length = net.1.length := by rw [filledS, fold_len, baseS_len]
def flowS (net : Net) (st : State) (n : Nat) : Int := ((List.range n).map fun k => if st.2.2.getD k false = true then (net.2.getD k p0).2.1 else 0).sum

/-! what a vessel gives -/
def amt (t : Option Int) (g : List (Option Int × Int)) : Int := ((g.filter fun q => decide (q.1 = t)).map (·.2)).sum
def laterOf (n : Nat) (g : List (Option Int × Int)) : List Int := (List.range n).map fun (k : Nat) => amt (some (k : Int)) g
abbrev pourOf (n : Nat) (g : List (Option Int × Int)) : Pour := (laterOf n g, amt none g)
theorem amt_app (t : Option Int) (g h : List (Option Int × Int)) : amt t (g ++ h) = amt t g + amt t h := by simp [amt]
theorem amt_nil (t : Option Int) : amt t [] = 0 := rfl
theorem amt_one (t u : Option Int) (a : Int) : amt t [(u, a)] = if u = t then a else 0 := by
  unfold amt
  by_cases h : u = t <;> simp [h]
theorem laterOf_len (n : Nat) (g : List (Option Int × Int)) : (laterOf n g).length = n := by simp [laterOf]
def TgOk (n : Int) (t : Option Int) : Prop := ∀ k, t = some k → 0 ≤ k ∧ k < n
theorem give_ok {n : Nat} {t : Option Int} {a : Int} {g : List (Option Int × Int)} (h : TgOk n t) : mPourGive t a (pourOf n g) = some ((), pourOf n (g ++ [(t, a)])) := by
  cases t with
  | none =>
    show some ((), (laterOf n g, amt none g + a)) = _
    have e1 : amt none (g ++ [(none, a)]) = amt none g + a := by rw [amt_app, amt_one]; simp
    have e2 : laterOf n (g ++ [(none, a)]) = laterOf n g := by
      unfold laterOf
      refine List.map_congr_left fun k _ => ?_
      rw [amt_app, amt_one]; simp
    show _ = some ((), (laterOf n _, amt none _))
    rw [e1, e2]
  | some k =>
    obtain ⟨h0, h1⟩ := h k rfl
    unfold mPourGive
    simp only
    rw [atI_dI 0 h0 (by rw [laterOf_len]; exact h1)]
    simp only [Option.bind]
    rw [setI_ok h0 (by rw [laterOf_len]; exact h1)]
    show some ((), (_, amt none g)) = _
    have e1 : amt none (g ++ [(some k, a)]) = amt none g := by rw [amt_app, amt_one]; simp
    have e2 : laterOf n (g ++ [(some k, a)]) = (laterOf n g).set k.toNat ((laterOf n g).getD k.toNat 0 + a) := by
      refine List.ext_getElem (by simp [laterOf_len]) fun i hi1 hi2 => ?_
      have hi : i < n := by rw [laterOf_len] at hi1; exact hi1
      have hk : k.toNat < n := by omega
      rw [List.getElem_set]
      simp only [laterOf, List.getElem_map, List.getElem_range, amt_app, amt_one]
      by_cases hik : k.toNat = i
      · subst hik
        have : (some k : Option Int) = some ((k.toNat : Nat) : Int) := by rw [Int.toNat_of_nonneg h0]
        rw [if_pos this, if_pos rfl]
        simp [hk]
      · have : ¬ (some k : Option Int) = some (i : Int) := fun e => hik (by cases e; simp)
        rw [if_neg this, if_neg hik]; omega
    show _ = some ((), (laterOf n _, amt none _))
    rw [e1, e2]
def hereOf (v : Vessel) (a : Int) : Int := if v.2.1 < a then v.2.1 else a
def wholeOf (v : Vessel) : Int := (v.2.2.1.map (·.2)).sum
def tipsOf (v : Vessel) (a : Int) (k : Nat) (stuck : Option Int) : Bool := decide (v.1 ≤ hereOf v a) && !decide (some (k : Int) = stuck)
def tipPours (v : Vessel) (a : Int) : List (Option Int × Int) := v.2.2.1.map (fun o => (o.1, hereOf v a / wholeOf v * o.2)) ++ (if v.2.2.2.1 = true then [] else [(none, hereOf v a % wholeOf v)])
def pours (v : Vessel) (a : Int) (k : Nat) (stuck : Option Int) : List (Option Int × Int) := (v.2.2.2.2.1, a - hereOf v a) :: (if tipsOf v a k stuck = true then tipPours v a else [])
def stayOf (v : Vessel) (a : Int) (k : Nat) (stuck : Option Int) : Int := if tipsOf v a k stuck = true then (if v.2.2.2.1 = true then hereOf v a % wholeOf v else 0) else hereOf v a
theorem sum_ge {xs : List Int} (h : ∀ x ∈ xs, 1 ≤ x ∧ x ≤ 60) : (xs.length : Int) ≤ xs.sum ∧ xs.sum ≤ 60 * xs.length := by
  induction xs with
  | nil => simp
  | cons x xs ih =>
    have h1 := h x List.mem_cons_self
    have h2 := ih fun y hy => h y (List.mem_cons_of_mem _ hy)
    simp only [List.sum_cons, List.length_cons]
    omega
theorem whole_pos {k n m : Int} {v : Vessel} (h : VesOk k n m v) : 1 ≤ wholeOf v ∧ wholeOf v ≤ 180 := by
  have h1 := sum_ge (xs := v.2.2.1.map (·.2)) (by
    intro x hx
    obtain ⟨o, ho, rfl⟩ := List.mem_map.mp hx
    exact (h.outs o ho).2)
  have h2 := h.outs1
  have h3 := h.outs3
  rw [List.length_map] at h1
  unfold wholeOf
  omega

/-! doors and ticks -/
def actF (d : List Bool) (a : Act) : List Bool := d.set a.2.toNat (if a.1 = "turn" then !d.getD a.2.toNat false else decide (a.1 = "open"))
def vesF (net : Net) (d : List Bool) (t : Int) : List Bool := (net.1.getD t.toNat v0).2.2.2.2.2.foldl actF d
def doorsS (net : Net) (d : List Bool) (ts : List Int) : List Bool := ts.foldl (vesF net) d
theorem foldl_len {α β : Type} {f : List β → α → List β} (h : ∀ d a, (f d a).length = d.length) (xs : List α) : ∀ d, (xs.foldl f d).length = d.length := by
  induction xs with
  | nil => intro d; rfl
  | cons x xs ih => intro d; rw [List.foldl_cons, ih, h]
theorem actF_len (d : List Bool) (a : Act) : (actF d a).length = d.length := by simp [actF]
theorem vesF_len (net : Net) (d : List Bool) (t : Int) : (vesF net d t).length = d.length := foldl_len actF_len _ _
theorem doorsS_len (net : Net) (d : List Bool) (ts : List Int) : (doorsS net d ts).length = d.length := foldl_len (vesF_len net) _ _
theorem ves_at {net : Net} (h : NetOk net) {t : Int} (h0 : 0 ≤ t) (h1 : t < net.1.length) : VesOk t net.1.length net.2.length (net.1.getD t.toNat v0) := by
  have := h.ves t.toNat _ (get_at v0 (show t.toNat < net.1.length by omega))
  rwa [Int.toNat_of_nonneg h0] at this
section
variable (net : Net) (has : List Int) (stuck : Option Int)
def staysS (j : Nat) : List Int := (List.range j).map fun k => stayOf (net.1.getD k v0) (has.getD k 0) k stuck
def poursS (j : Nat) : List (Option Int × Int) := (List.range j).flatMap fun k => pours (net.1.getD k v0) (has.getD k 0) k stuck
def tippedS (j : Nat) : List Int := ((List.range j).filter fun k => tipsOf (net.1.getD k v0) (has.getD k 0) k stuck).map fun (k : Nat) => (k : Int)
theorem stays_succ (j : Nat) : staysS net has stuck (j + 1) = staysS net has stuck j ++ [stayOf (net.1.getD j v0) (has.getD j 0) j stuck] := by simp [staysS, List.range_succ]
theorem pours_succ (j : Nat) : poursS net has stuck (j + 1) = poursS net has stuck j ++ pours (net.1.getD j v0) (has.getD j 0) j stuck := by simp [poursS, List.range_succ]
theorem tipped_succ (j : Nat) : tippedS net has stuck (j + 1) = tippedS net has stuck j ++ (if tipsOf (net.1.getD j v0) (has.getD j 0) j stuck = true then [(j : Int)] else []) := by
  unfold tippedS
  rw [List.range_succ, List.filter_append, List.map_append]
  congr 1
  rw [List.filter_cons, List.filter_nil]
  split <;> rfl
theorem tipped_lt {j : Nat} : ∀ t ∈ tippedS net has stuck j, 0 ≤ t ∧ t < j := by
  intro t ht
  obtain ⟨k, hk, rfl⟩ := List.mem_map.mp ht
  have := (List.mem_filter.mp hk).1
  simp at this
  omega
theorem stays_len (j : Nat) : (staysS net has stuck j).length = j := by simp [staysS]
theorem tipped_len (j : Nat) : (tippedS net has stuck j).length ≤ j := by
  unfold tippedS
  rw [List.length_map]
  exact Nat.le_trans (List.length_filter_le _ _) (by simp)
end
def tickS (net : Net) (st : State) (p : List Int) (stuck : Option Int) : State × List Int × Int :=
  ((staysS net (filledS net st p) stuck net.1.length, laterOf net.1.length (poursS net (filledS net st p) stuck net.1.length), doorsS net st.2.2 (tippedS net (filledS net st p) stuck net.1.length)),
    tippedS net (filledS net st p) stuck net.1.length, amt none (poursS net (filledS net st p) stuck net.1.length))
theorem tickS_ok {net : Net} {st : State} (p : List Int) (stuck : Option Int) (hs : StOk net st) : StOk net (tickS net st p stuck).1 := ⟨stays_len _ _ _ _, laterOf_len _ _, by rw [← hs.doors]; exact doorsS_len _ _ _⟩
theorem pour_zero {n : Nat} {g : List (Option Int × Int)} {t : Option Int} : pourOf n (g ++ [(t, 0)]) = pourOf n g := by
  have e : ∀ u, amt u (g ++ [(t, 0)]) = amt u g := fun u => by rw [amt_app, amt_one]; simp
  show (laterOf n _, amt none _) = (laterOf n g, amt none g)
  unfold laterOf
  simp only [e]
theorem pourNew_ok {n : Nat} (h : n < 1000) : pourNew (n : Int) = some (pourOf n []) := by
  unfold pourNew
  rw [repL_ok h (by simp), rep_flat]
  show some (_, _) = some (laterOf n [], amt none [])
  unfold laterOf
  simp only [amt_nil]
  rw [List.map_const', List.length_range]

/-! the law's own tick -/
theorem isN (o : Option Int) : o.isNone = decide (o = none) := by cases o <;> rfl
theorem idx_act {m : Int} {a : Act} (h : ActOk m a) (b : Bool) : ∃ i, idxO [("turn" : Str), "open", "shut"] a.1 = some i ∧ atI [!b, true, false] i = some (if a.1 = "turn" then !b else decide (a.1 = "open")) := by
  rcases h.1 with e | e | e
  · rw [e]
    exact ⟨1, by decide +kernel, by
      rw [if_neg (by decide +kernel)]
      show some true = _
      rw [decide_eq_true rfl]⟩
  · rw [e]
    exact ⟨2, by decide +kernel, by
      rw [if_neg (by decide +kernel)]
      show some false = _
      rw [decide_eq_false (by decide +kernel)]⟩
  · rw [e]
    exact ⟨0, by decide +kernel, by
      rw [if_pos rfl]
      rfl⟩

/-! nets that are drawn are nets -/
theorem whole_ok {a lo hi : Int} (h : lo ≤ a) (h2 : a ≤ hi) : m_is_whole a lo hi = some true := by
  unfold m_is_whole
  rw [tot_rn]
  simp only [tot_bnd, tot_ret, tot_zm, tot_nw, tot_rb, tot_fzL, tot_drL, tot_gtLS, tot_upLS, tot_lft, tot_gtL, tot_upL, tot_bif, tot_some, tot_rtF, ex_some, ex_someT, and_true, true_and, implies_true, few0, few1, few2, few3, tot_zmI, tot_wp, tot_psh, tot_pshL, tot_gtI, tot_upI, tot_bndX, tot_tryM, tot_tryO, tot_tryR]
  simp [h, h2]
theorem row_net_ok (x : Net) : m_is_row_net x 2 2 = some true := by
  unfold m_is_row_net; rw [tot_rn]; simp only [tot_bnd, tot_ret, tot_zm, tot_nw, tot_rb, tot_fzL, tot_drL, tot_gtLS, tot_upLS, tot_lft, tot_gtL, tot_upL, tot_bif, tot_some, tot_rtF, ex_some, ex_someT, and_true, true_and, implies_true, few0, few1, few2, few3, tot_zmI, tot_wp, tot_psh, tot_pshL, tot_gtI, tot_upI, tot_bndX, tot_tryM, tot_tryO, tot_tryR]; simp
theorem row_vessel_ok (x : Vessel) : m_is_row_vessel x 6 6 = some true := by
  unfold m_is_row_vessel; rw [tot_rn]; simp only [tot_bnd, tot_ret, tot_zm, tot_nw, tot_rb, tot_fzL, tot_drL, tot_gtLS, tot_upLS, tot_lft, tot_gtL, tot_upL, tot_bif, tot_some, tot_rtF, ex_some, ex_someT, and_true, true_and, implies_true, few0, few1, few2, few3, tot_zmI, tot_wp, tot_psh, tot_pshL, tot_gtI, tot_upI, tot_bndX, tot_tryM, tot_tryO, tot_tryR]; simp
theorem row_spout_ok (x : Spout) : m_is_row_spout x 3 3 = some true := by
  unfold m_is_row_spout; rw [tot_rn]; simp only [tot_bnd, tot_ret, tot_zm, tot_nw, tot_rb, tot_fzL, tot_drL, tot_gtLS, tot_upLS, tot_lft, tot_gtL, tot_upL, tot_bif, tot_some, tot_rtF, ex_some, ex_someT, and_true, true_and, implies_true, few0, few1, few2, few3, tot_zmI, tot_wp, tot_psh, tot_pshL, tot_gtI, tot_upI, tot_bndX, tot_tryM, tot_tryO, tot_tryR]; simp
theorem row_out_ok (x : Out) : m_is_row_out x 2 2 = some true := by
  unfold m_is_row_out; rw [tot_rn]; simp only [tot_bnd, tot_ret, tot_zm, tot_nw, tot_rb, tot_fzL, tot_drL, tot_gtLS, tot_upLS, tot_lft, tot_gtL, tot_upL, tot_bif, tot_some, tot_rtF, ex_some, ex_someT, and_true, true_and, implies_true, few0, few1, few2, few3, tot_zmI, tot_wp, tot_psh, tot_pshL, tot_gtI, tot_upI, tot_bndX, tot_tryM, tot_tryO, tot_tryR]; simp
theorem row_act_ok (x : Act) : m_is_row_act x 2 2 = some true := by
  unfold m_is_row_act; rw [tot_rn]; simp only [tot_bnd, tot_ret, tot_zm, tot_nw, tot_rb, tot_fzL, tot_drL, tot_gtLS, tot_upLS, tot_lft, tot_gtL, tot_upL, tot_bif, tot_some, tot_rtF, ex_some, ex_someT, and_true, true_and, implies_true, few0, few1, few2, few3, tot_zmI, tot_wp, tot_psh, tot_pshL, tot_gtI, tot_upI, tot_bndX, tot_tryM, tot_tryO, tot_tryR]; simp
theorem row_vessels_ok {x : List Vessel} {lo hi : Int} (h : lo ≤ x.length) (h2 : (x.length : Int) ≤ hi) : m_is_row_vessels x lo hi = some true := by
  unfold m_is_row_vessels; rw [tot_rn]; simp only [tot_bnd, tot_ret, tot_zm, tot_nw, tot_rb, tot_fzL, tot_drL, tot_gtLS, tot_upLS, tot_lft, tot_gtL, tot_upL, tot_bif, tot_some, tot_rtF, ex_some, ex_someT, and_true, true_and, implies_true, few0, few1, few2, few3, tot_zmI, tot_wp, tot_psh, tot_pshL, tot_gtI, tot_upI, tot_bndX, tot_tryM, tot_tryO, tot_tryR]; simp [h, h2]
theorem row_spouts_ok {x : List Spout} {lo hi : Int} (h : lo ≤ x.length) (h2 : (x.length : Int) ≤ hi) : m_is_row_spouts x lo hi = some true := by
  unfold m_is_row_spouts; rw [tot_rn]; simp only [tot_bnd, tot_ret, tot_zm, tot_nw, tot_rb, tot_fzL, tot_drL, tot_gtLS, tot_upLS, tot_lft, tot_gtL, tot_upL, tot_bif, tot_some, tot_rtF, ex_some, ex_someT, and_true, true_and, implies_true, few0, few1, few2, few3, tot_zmI, tot_wp, tot_psh, tot_pshL, tot_gtI, tot_upI, tot_bndX, tot_tryM, tot_tryO, tot_tryR]; simp [h, h2]
theorem row_outs_ok {x : List Out} {lo hi : Int} (h : lo ≤ x.length) (h2 : (x.length : Int) ≤ hi) : m_is_row_outs x lo hi = some true := by
  unfold m_is_row_outs; rw [tot_rn]; simp only [tot_bnd, tot_ret, tot_zm, tot_nw, tot_rb, tot_fzL, tot_drL, tot_gtLS, tot_upLS, tot_lft, tot_gtL, tot_upL, tot_bif, tot_some, tot_rtF, ex_some, ex_someT, and_true, true_and, implies_true, few0, few1, few2, few3, tot_zmI, tot_wp, tot_psh, tot_pshL, tot_gtI, tot_upI, tot_bndX, tot_tryM, tot_tryO, tot_tryR]; simp [h, h2]
theorem row_acts_ok {x : List Act} {lo hi : Int} (h : lo ≤ x.length) (h2 : (x.length : Int) ≤ hi) : m_is_row_acts x lo hi = some true := by
  unfold m_is_row_acts; rw [tot_rn]; simp only [tot_bnd, tot_ret, tot_zm, tot_nw, tot_rb, tot_fzL, tot_drL, tot_gtLS, tot_upLS, tot_lft, tot_gtL, tot_upL, tot_bif, tot_some, tot_rtF, ex_some, ex_someT, and_true, true_and, implies_true, few0, few1, few2, few3, tot_zmI, tot_wp, tot_psh, tot_pshL, tot_gtI, tot_upI, tot_bndX, tot_tryM, tot_tryO, tot_tryR]; simp [h, h2]
theorem is_out_ok {n : Int} {o : Out} (h : OutOk n o) : m_is_out o n = some true := by
  unfold m_is_out
  rw [tot_rn]
  simp only [tot_bnd, tot_ret, tot_zm, tot_nw, tot_rb, tot_fzL, tot_drL, tot_gtLS, tot_upLS, tot_lft, tot_gtL, tot_upL, tot_bif, tot_some, tot_rtF, ex_some, ex_someT, and_true, true_and, implies_true, few0, few1, few2, few3, tot_zmI, tot_wp, tot_psh, tot_pshL, tot_gtI, tot_upI, tot_bndX, tot_tryM, tot_tryO, tot_tryR, row_out_ok, whole_ok h.2.1 h.2.2, Bool.not_true, Bool.false_eq_true, false_implies, Bool.not_false]
  cases e : o.1 with
  | none => simp
  | some t =>
    have := h.1 t e
    simp [whole_ok (a := t) (lo := 0) (hi := n - 1) (by omega) (by omega)]
theorem is_act_ok {m : Int} {a : Act} (h : ActOk m a) : m_is_act a m = some true := by
  unfold m_is_act
  rw [tot_rn]
  simp only [tot_bnd, tot_ret, tot_zm, tot_nw, tot_rb, tot_fzL, tot_drL, tot_gtLS, tot_upLS, tot_lft, tot_gtL, tot_upL, tot_bif, tot_some, tot_rtF, ex_some, ex_someT, and_true, true_and, implies_true, few0, few1, few2, few3, tot_zmI, tot_wp, tot_psh, tot_pshL, tot_gtI, tot_upI, tot_bndX, tot_tryM, tot_tryO, tot_tryR, row_act_ok, whole_ok (a := a.2) (lo := 0) (hi := m - 1) (by have := h.2; omega) (by have := h.2; omega), Bool.not_true, Bool.false_eq_true, false_implies, Bool.not_false]
  rcases h.1 with e | e | e <;> simp [e]
theorem is_spout_ok {n : Int} {p : Spout} (h : 0 ≤ p.1 ∧ p.1 < n ∧ 0 ≤ p.2.1 ∧ p.2.1 ≤ 60) : m_is_spout p n = some true := by
  unfold m_is_spout
  rw [tot_rn]
  simp only [tot_bnd, tot_ret, tot_zm, tot_nw, tot_rb, tot_fzL, tot_drL, tot_gtLS, tot_upLS, tot_lft, tot_gtL, tot_upL, tot_bif, tot_some, tot_rtF, ex_some, ex_someT, and_true, true_and, implies_true, few0, few1, few2, few3, tot_zmI, tot_wp, tot_psh, tot_pshL, tot_gtI, tot_upI, tot_bndX, tot_tryM, tot_tryO, tot_tryR, row_spout_ok, whole_ok (a := p.1) (lo := 0) (hi := n - 1) (by omega) (by omega), whole_ok h.2.2.1 h.2.2.2, Bool.not_true, Bool.false_eq_true, false_implies, Bool.not_false]
  try simp

theorem all_true {α : Type} (xs : List α) : (xs.map fun _ => true).all id = true := by simp
theorem is_vessel_ok {k n m : Int} {v : Vessel} (h : VesOk k n m v) : m_is_vessel v k n m = some true := by
  have h1 := h.outs1
  have h3 := h.outs3
  have a3 := h.acts3
  unfold m_is_vessel
  rw [tot_rn]
  simp only [tot_bnd, tot_ret, tot_zm, tot_nw, tot_rb, tot_fzL, tot_drL, tot_gtLS, tot_upLS, tot_lft, tot_gtL, tot_upL, tot_bif, tot_some, tot_rtF, ex_some, ex_someT, and_true, true_and, implies_true, few0, few1, few2, few3, tot_zmI, tot_wp, tot_psh, tot_pshL, tot_gtI, tot_upI, tot_bndX, tot_tryM, tot_tryO, tot_tryR, row_vessel_ok, whole_ok h.size h.size2, whole_ok h.brim h.brim2, row_outs_ok (x := v.2.2.1) (lo := 1) (hi := 3) (by omega) (by omega), row_acts_ok (x := v.2.2.2.2.2) (lo := 0) (hi := 3) (by omega) (by omega), chk_ok (show v.2.2.1.length < lim by show _ < 1000000; omega), chk_ok (show v.2.2.2.2.2.length < lim by show _ < 1000000; omega), Bool.not_true, Bool.false_eq_true, false_implies, Bool.not_false, true_implies, and_true, reduceCtorEq, Bool.true_eq_false]
  have acts : ∀ s : Unit, Tot (mp (fun x86 => bnd (bnd (ret x86) fun a92 => bnd (ret m) fun b93 => ret (a92, b93)) fun a94 => lft (m_is_act a94.1 a94.2)) v.2.2.2.2.2) s fun w => w.1.all id = true := fun s =>
    tot_mp_fn (fun _ => true) (fun x hx s1 => by simp only [tot_bnd, tot_ret, tot_zm, tot_nw, tot_rb, tot_fzL, tot_drL, tot_gtLS, tot_upLS, tot_lft, tot_gtL, tot_upL, tot_bif, tot_some, tot_rtF, ex_some, ex_someT, and_true, true_and, implies_true, few0, few1, few2, few3, tot_zmI, tot_wp, tot_psh, tot_pshL, tot_gtI, tot_upI, tot_bndX, tot_tryM, tot_tryO, tot_tryR, is_act_ok (h.acts x hx)]) (all_true _)
  refine tot_mp_fn (fun _ => true) (fun x hx s1 => by simp only [tot_bnd, tot_ret, tot_zm, tot_nw, tot_rb, tot_fzL, tot_drL, tot_gtLS, tot_upLS, tot_lft, tot_gtL, tot_upL, tot_bif, tot_some, tot_rtF, ex_some, ex_someT, and_true, true_and, implies_true, few0, few1, few2, few3, tot_zmI, tot_wp, tot_psh, tot_pshL, tot_gtI, tot_upI, tot_bndX, tot_tryM, tot_tryO, tot_tryR, is_out_ok (h.outs x hx)]) ?_
  simp only [all_true, Bool.not_true, Bool.false_eq_true, false_implies, true_implies, true_and]
  refine ⟨fun e => ?_, fun _ => acts _⟩
  cases e2 : v.2.2.2.2.1 with
  | none => rw [e2] at e; cases e
  | some t =>
    have := h.spill t e2
    refine ⟨t, rfl, true, whole_ok (by omega) (by omega), ?_⟩
    simp only [Bool.not_true, Bool.false_eq_true, false_implies, true_implies, true_and]
    exact acts _
theorem is_net_ok {net : Net} (h : NetOk net) (h1 : net.1.length ≤ 12) (h2 : net.2.length ≤ 12) : m_is_net net = some true := by
  have h3 := h.n1
  unfold m_is_net
  rw [tot_rn]
  simp only [tot_bnd, tot_ret, tot_zm, tot_nw, tot_rb, tot_fzL, tot_drL, tot_gtLS, tot_upLS, tot_lft, tot_gtL, tot_upL, tot_bif, tot_some, tot_rtF, ex_some, ex_someT, and_true, true_and, implies_true, few0, few1, few2, few3, tot_zmI, tot_wp, tot_psh, tot_pshL, tot_gtI, tot_upI, tot_bndX, tot_tryM, tot_tryO, tot_tryR, row_net_ok, row_vessels_ok (x := net.1) (lo := 1) (hi := 12) (by omega) (by omega), row_spouts_ok (x := net.2) (lo := 0) (hi := 12) (by omega) (by omega), chk_ok (show net.2.length < lim by show _ < 1000000; omega), chk_ok (show (enumL net.1).length < lim by rw [enumL_len]; show _ < 1000000; omega), Bool.not_true, Bool.false_eq_true, false_implies, Bool.not_false, true_implies, and_true, reduceCtorEq, Bool.true_eq_false]
  refine tot_mp_fn (fun _ => true) (fun x hx s1 => ?_) ?_
  · obtain ⟨k, hk⟩ := List.getElem?_of_mem hx
    obtain ⟨e1, e2⟩ := enumL_at hk
    have := h.ves k x.2 e2
    rw [← e1] at this
    simp only [tot_bnd, tot_ret, tot_zm, tot_nw, tot_rb, tot_fzL, tot_drL, tot_gtLS, tot_upLS, tot_lft, tot_gtL, tot_upL, tot_bif, tot_some, tot_rtF, ex_some, ex_someT, and_true, true_and, implies_true, few0, few1, few2, few3, tot_zmI, tot_wp, tot_psh, tot_pshL, tot_gtI, tot_upI, tot_bndX, tot_tryM, tot_tryO, tot_tryR, is_vessel_ok this]
  simp only [all_true, Bool.not_true, Bool.false_eq_true, false_implies, true_implies, true_and]
  exact tot_mp_fn (fun _ => true) (fun x hx s1 => by simp only [tot_bnd, tot_ret, tot_zm, tot_nw, tot_rb, tot_fzL, tot_drL, tot_gtLS, tot_upLS, tot_lft, tot_gtL, tot_upL, tot_bif, tot_some, tot_rtF, ex_some, ex_someT, and_true, true_and, implies_true, few0, few1, few2, few3, tot_zmI, tot_wp, tot_psh, tot_pshL, tot_gtI, tot_upI, tot_bndX, tot_tryM, tot_tryO, tot_tryR, is_spout_ok (h.spo x hx)]) (all_true _)

/-! texts: what is joined is split again -/
abbrev sg (c : Nat) : Str := ⟨#[c]⟩
def cl (x : Str) : List Nat := x.cps.toList
theorem cl_inj {x y : Str} (h : cl x = cl y) : x = y := PySem.Str.ext' (Array.toList_inj.mp h)
theorem cl_app (x y : Str) : cl (x ++ y) = cl x ++ cl y := by
  show (x.cps ++ y.cps).toList = _
  rw [Array.toList_append]; rfl
theorem len_cl (x : Str) : x.length = (cl x).length := rfl
def jnL (c : Nat) : List (List Nat) → List Nat
  | [] => []
  | [x] => x
  | x :: y :: r => x ++ c :: jnL c (y :: r)
theorem jn_cl (c : Nat) : ∀ ys : List Str, cl (PySem.Str.join (sg c) ys) = jnL c (ys.map cl)
  | [] => rfl
  | [x] => rfl
  | x :: y :: r => by
    show cl (x ++ sg c ++ PySem.Str.join (sg c) (y :: r)) = cl x ++ c :: jnL c (cl y :: r.map cl)
    rw [cl_app, cl_app, jn_cl c (y :: r), List.append_assoc]; rfl
theorem join_cl (c : Nat) (ys : List Str) : cl (PySem.Txt.join (sg c) ys) = jnL c (ys.map cl) := by
  show cl (PySem.Builtin.Str.glued (sg c) ys) = _
  rw [PySem.StrLaws.glued_eq_join, jn_cl]
theorem app_cut {c : Nat} : ∀ {x y a b : List Nat}, c ∉ x → c ∉ y → x ++ c :: a = y ++ c :: b → x = y ∧ a = b
  | [], [], a, b, _, _, e => by simpa using e
  | [], y :: ys, a, b, _, hy, e => by
    obtain ⟨e1, _⟩ := List.cons.inj e
    exact absurd (by rw [e1]; exact List.mem_cons_self) hy
  | x :: xs, [], a, b, hx, _, e => by
    obtain ⟨e1, _⟩ := List.cons.inj e
    exact absurd (by rw [← e1]; exact List.mem_cons_self) hx
  | x :: xs, y :: ys, a, b, hx, hy, e => by
    obtain ⟨e1, e2⟩ := List.cons.inj e
    obtain ⟨h1, h2⟩ := app_cut (fun q => hx (List.mem_cons_of_mem _ q)) (fun q => hy (List.mem_cons_of_mem _ q)) e2
    exact ⟨by rw [e1, h1], h2⟩
theorem jn_inj {c : Nat} : ∀ {ps qs : List (List Nat)}, ps ≠ [] → qs ≠ [] → (∀ p ∈ ps, c ∉ p) → (∀ q ∈ qs, c ∉ q) → jnL c ps = jnL c qs → ps = qs
  | [], _, h, _, _, _, _ => absurd rfl h
  | _ :: _, [], _, h, _, _, _ => absurd rfl h
  | [x], [y], _, _, _, _, e => by rw [show x = y from e]
  | [x], y :: z :: r, _, _, h1, _, e => by
    have : c ∈ x := by rw [show x = y ++ c :: jnL c (z :: r) from e]; simp
    exact absurd this (h1 x List.mem_cons_self)
  | x :: z :: r, [y], _, _, _, h2, e => by
    have : c ∈ y := by rw [← show x ++ c :: jnL c (z :: r) = y from e]; simp
    exact absurd this (h2 y List.mem_cons_self)
  | x :: z :: r, y :: w :: t, _, _, h1, h2, e => by
    have e : x ++ c :: jnL c (z :: r) = y ++ c :: jnL c (w :: t) := e
    obtain ⟨e1, e2⟩ := app_cut (h1 x List.mem_cons_self) (h2 y List.mem_cons_self) e
    have := jn_inj (List.cons_ne_nil _ _) (List.cons_ne_nil _ _) (fun p hp => h1 p (List.mem_cons_of_mem _ hp)) (fun p hp => h2 p (List.mem_cons_of_mem _ hp)) e2
    rw [e1, this]
theorem split_ne (x y : Str) : PySem.Txt.split x y ≠ [] := by
  unfold PySem.Txt.split
  split
  · exact List.cons_ne_nil _ _
  · split
    · exact List.cons_ne_nil _ _
    · rw [PySem.StrLaws.partsBetween_eq]
      obtain ⟨p, r, e⟩ := PySem.StrLaws.partsFrom_ne x y.length 0 (PySem.Builtin.Str.occurrences x y 0 x.length (x.length + 1))
      rw [e]; exact List.cons_ne_nil _ _
theorem split_join {c : Nat} {ys : List Str} (hn : ys ≠ []) (hf : ∀ y ∈ ys, c ∉ cl y) : PySem.Txt.split (PySem.Txt.join (sg c) ys) (sg c) = ys := by
  generalize hx : PySem.Txt.join (sg c) ys = x
  have e1 : jnL c ((PySem.Txt.split x (sg c)).map cl) = jnL c (ys.map cl) := by
    rw [← jn_cl, PySem.StrLaws.join_split, ← join_cl, hx]
  have e2 := jn_inj (c := c) (by simpa using split_ne x (sg c)) (by simpa using hn) (fun p hp => by
    obtain ⟨q, hq, rfl⟩ := List.mem_map.mp hp
    exact PySem.StrLaws.split_free x c q hq) (fun p hp => by
    obtain ⟨q, hq, rfl⟩ := List.mem_map.mp hp
    exact hf q hq) e1
  exact List.map_inj_right (fun _ _ => cl_inj) |>.mp e2
theorem part_at {c : Nat} {a b : Str} (h : c ∉ cl a) : PySem.Txt.partition (a ++ sg c ++ b) (sg c) = (a, sg c, b) := by
  have hc : cl (a ++ sg c ++ b) = cl a ++ c :: cl b := by rw [cl_app, cl_app, List.append_assoc]; rfl
  have at_ : (cl (a ++ sg c ++ b))[(cl a).length]? = some c := by rw [hc]; simp
  have no : ∀ k, k < (cl a).length → (cl (a ++ sg c ++ b))[k]? ≠ some c := fun k hk e => by
    rw [hc, List.getElem?_append_left hk] at e
    exact h (List.mem_of_getElem? e)
  have hA := fun k => PySem.StrLaws.subAt_one (a ++ sg c ++ b) c k
  unfold PySem.Txt.partition
  rcases PySem.StrLaws.occ_head (a ++ sg c ++ b) (sg c) 1 (Nat.le_refl 1) with ⟨e, hn⟩ | ⟨i, r, e, hi, hn⟩
  · exact absurd ((hA _).mpr at_) (hn _)
  · have i1 : i = (cl a).length := by
      have h1 := (hA i).mp hi
      rcases Nat.lt_trichotomy i (cl a).length with q | q | q
      · exact absurd h1 (no i q)
      · exact q
      · exact absurd ((hA _).mpr at_) (hn _ q)
    rw [e]
    dsimp only
    subst i1
    have len : (a ++ sg c ++ b).length = (cl a).length + 1 + (cl b).length := by
      rw [len_cl, hc, List.length_append, List.length_cons]; omega
    refine Prod.ext (cl_inj ?_) (Prod.ext rfl (cl_inj ?_))
    · show cl (PySem.Builtin.Str.strSub (a ++ sg c ++ b) 0 (cl a).length) = cl a
      unfold cl
      rw [PySem.StrLaws.strSub_toList]
      show ((cl (a ++ sg c ++ b)).drop 0).take _ = cl a
      rw [hc, List.drop_zero, Nat.sub_zero, List.take_left']
      rfl
    · show cl (PySem.Builtin.Str.strSub (a ++ sg c ++ b) ((cl a).length + 1) (a ++ sg c ++ b).length) = cl b
      rw [len]
      unfold cl
      rw [PySem.StrLaws.strSub_toList]
      show ((cl (a ++ sg c ++ b)).drop ((cl a).length + 1)).take ((cl a).length + 1 + (cl b).length - ((cl a).length + 1)) = cl b
      rw [hc]
      have e1 : (cl a ++ c :: cl b).drop ((cl a).length + 1) = cl b := by
        rw [List.drop_append]
        simp
      rw [e1]
      exact List.take_of_length_le (by omega)

end Law

namespace Law
open PySem L2 T
/-! the text of a net -/
def numT (n : Int) : Str := (toString n : String)
def NumOk (n : Int) : Prop := 0 ≤ n ∧ n ≤ 200
theorem num_all : ∀ n : Nat, n < 201 → m_read_number (numT (n : Int)) = some (some (n : Int)) ∧ strI (n : Int) = some (numT (n : Int)) ∧ (cl (numT (n : Int))).all (fun d => decide (48 ≤ d) && decide (d ≤ 57)) = true ∧ 1 ≤ (cl (numT (n : Int))).length ∧ (cl (numT (n : Int))).length ≤ 3 ∧ m_read_target (numT (n : Int)) = some (some (.inl (n : Int))) := by decide +kernel
structure NumF (n : Int) : Prop where
  rd : m_read_number (numT n) = some (some n)
  st : strI n = some (numT n)
  dig : ∀ d ∈ cl (numT n), 48 ≤ d ∧ d ≤ 57
  l1 : 1 ≤ (cl (numT n)).length
  l3 : (cl (numT n)).length ≤ 3
  tg : m_read_target (numT n) = some (some (.inl n))
theorem num_f {n : Int} (h : NumOk n) : NumF n := by
  obtain ⟨k, rfl⟩ : ∃ k : Nat, n = (k : Int) := ⟨n.toNat, by have := h.1; omega⟩
  obtain ⟨a, b, c, d, e, f⟩ := num_all k (by have := h.2; omega)
  exact ⟨a, b, fun x hx => by have := List.all_eq_true.mp c x hx; simpa using this, d, e, f⟩
def tgT : Option Int → Str
  | none => "ground"
  | some n => numT n
def TOk (t : Option Int) : Prop := ∀ n, t = some n → NumOk n
theorem tg_goal {t : Option Int} (h : TOk t) : m_law_goal t = some (tgT t) ∧ m_target_text t = some (tgT t) ∧ m_read_target (tgT t) = some (t.map Sum.inl) := by
  cases t with
  | none => exact ⟨by decide +kernel, by decide +kernel, by decide +kernel⟩
  | some n =>
    have f := num_f (h n rfl)
    refine ⟨?_, ?_, f.tg⟩
    · unfold m_law_goal
      rw [tot_rn]
      simp only [tot_bnd, tot_ret, tot_zm, tot_nw, tot_rb, tot_fzL, tot_drL, tot_gtLS, tot_upLS, tot_lft, tot_gtL, tot_upL, tot_bif, tot_some, tot_rtF, ex_some, ex_someT, and_true, true_and, implies_true, few0, few1, few2, few3, tot_zmI, tot_wp, tot_psh, tot_pshL, tot_gtI, tot_upI, tot_bndX, tot_tryM, tot_tryO, tot_tryR, strO, f.st, few2, Option.isNone_some, intB]
      exact ⟨_, T.atI_nat (k := 0) rfl, rfl⟩
    · unfold m_target_text
      rw [tot_rn]
      simp [tot_bnd, tot_ret, tot_zm, tot_nw, tot_rb, tot_fzL, tot_drL, tot_gtLS, tot_upLS, tot_lft, tot_gtL, tot_upL, tot_bif, tot_some, tot_rtF, ex_some, ex_someT, and_true, true_and, implies_true, few0, few1, few2, few3, tot_zmI, tot_wp, tot_psh, tot_pshL, tot_gtI, tot_upI, tot_bndX, tot_tryM, tot_tryO, tot_tryR, strO, f.st, tgT]
theorem tg_free {t : Option Int} (h : TOk t) {c : Nat} (hc : c < 48) : c ∉ cl (tgT t) ∧ (cl (tgT t)).length ≤ 6 := by
  cases t with
  | none =>
    have e : cl (tgT none) = [103, 114, 111, 117, 110, 100] := by decide +kernel
    rw [e]
    refine ⟨fun q => ?_, by decide⟩
    simp at q; omega
  | some n =>
    have f := num_f (h n rfl)
    exact ⟨fun q => by have := f.dig c q; omega, by have := f.l3; show (cl (numT n)).length ≤ 6; omega⟩
/-! lengths -/
theorem sum_le {B : Nat} : ∀ {ys : List Str}, (∀ y ∈ ys, y.length ≤ B) → (ys.map (·.length)).sum ≤ ys.length * B
  | [], _ => by simp
  | y :: ys, h => by
    have h1 := h y List.mem_cons_self
    have h2 := sum_le fun x hx => h x (List.mem_cons_of_mem y hx)
    rw [List.map_cons, List.sum_cons, List.length_cons, Nat.add_mul, Nat.one_mul]; omega
theorem jn_len {c B n : Nat} {ys : List Str} (h : ∀ y ∈ ys, y.length ≤ B) (hn : ys.length ≤ n) : (PySem.Txt.join (sg c) ys).length ≤ n * (B + 1) ∧ (n * (B + 1) ≤ 16777216 → joinS (sg c) ys = some (PySem.Txt.join (sg c) ys)) := by
  have h1 := sum_le h
  have h2 : ys.length * B ≤ n * B := Nat.mul_le_mul_right _ hn
  have e : n * (B + 1) = n * B + n := by rw [Nat.mul_add, Nat.mul_one]
  have hl : (sg c).length = 1 := rfl
  have h3 : (ys.map (·.length)).sum + ys.length * (sg c).length ≤ n * (B + 1) := by rw [hl, e]; omega
  refine ⟨?_, fun q => if_pos (by omega)⟩
  show (PySem.Builtin.Str.glued (sg c) ys).length ≤ _
  rw [PySem.StrLaws.glued_eq_join]
  exact Nat.le_trans (PySem.StrLaws.join_length_le (sg c) ys) h3
theorem s_star : ("*" : Str) = sg 42 := by decide +kernel
theorem s_dot : ("." : Str) = sg 46 := by decide +kernel
theorem s_comma : ("," : Str) = sg 44 := by decide +kernel
theorem s_sp : (" " : Str) = sg 32 := by decide +kernel
theorem s_nl : ("\n" : Str) = sg 10 := by decide +kernel
theorem add_ok {a b : Str} (h : a.length + b.length ≤ 1000000) : addS a b = some (a ++ b) := by
  unfold addS; rw [if_pos (Nat.le_trans h lim_size)]
theorem len_app (a b : Str) : (a ++ b).length = a.length + b.length := by rw [len_cl, cl_app, List.length_append]; rfl
/-! pairs -/
def outT (o : Out) : Str := tgT o.1 ++ sg 42 ++ numT o.2
def actT (a : Act) : Str := a.1 ++ sg 46 ++ numT a.2
structure OutF (o : Out) : Prop where
  t : TOk o.1
  n : NumOk o.2
structure ActF (a : Act) : Prop where
  w : a.1 = "open" ∨ a.1 = "shut" ∨ a.1 = "turn"
  n : NumOk a.2
theorem words_cl : cl "open" = [111, 112, 101, 110] ∧ cl "shut" = [115, 104, 117, 116] ∧ cl "turn" = [116, 117, 114, 110] := by decide +kernel
theorem act_word {a : Act} (h : ActF a) {c : Nat} (hc : c < 48) : c ∉ cl a.1 ∧ (cl a.1).length = 4 := by
  obtain ⟨w1, w2, w3⟩ := words_cl
  rcases h.w with e | e | e <;> rw [e]
  · rw [w1]; exact ⟨fun q => by simp at q; omega, rfl⟩
  · rw [w2]; exact ⟨fun q => by simp at q; omega, rfl⟩
  · rw [w3]; exact ⟨fun q => by simp at q; omega, rfl⟩
theorem outT_f {o : Out} (h : OutF o) : (outT o).length ≤ 10 ∧ ∀ c, c < 42 ∨ c = 44 ∨ c = 46 → c ∉ cl (outT o) := by
  have f := num_f h.n
  have g := fun c hc => tg_free (c := c) h.t hc
  refine ⟨?_, fun c hc q => ?_⟩
  · have := (g 0 (by decide)).2
    have := f.l3
    unfold outT
    rw [len_app, len_app]
    show (cl (tgT o.1)).length + 1 + (cl (numT o.2)).length ≤ 10
    omega
  · unfold outT at q
    rw [cl_app, cl_app] at q
    rcases List.mem_append.mp q with q | q
    · rcases List.mem_append.mp q with q | q
      · exact (g c (by omega)).1 q
      · have : c = 42 := by simpa [cl] using q
        omega
    · have := f.dig c q; omega
theorem actT_f {a : Act} (h : ActF a) : (actT a).length ≤ 8 ∧ ∀ c, c < 46 → c ∉ cl (actT a) := by
  have f := num_f h.n
  refine ⟨?_, fun c hc q => ?_⟩
  · have := (act_word h (c := 0) (by decide)).2
    have := f.l3
    unfold actT
    rw [len_app, len_app]
    show (cl a.1).length + 1 + (cl (numT a.2)).length ≤ 8
    omega
  · unfold actT at q
    rw [cl_app, cl_app] at q
    rcases List.mem_append.mp q with q | q
    · rcases List.mem_append.mp q with q | q
      · exact (act_word h (by omega)).1 q
      · have : c = 46 := by simpa [cl] using q
        omega
    · have := f.dig c q; omega

end Law

namespace Law
open PySem L2 T
/-! pairs read again -/
def outsT (os : List Out) : Str := PySem.Txt.join (sg 44) (os.map outT)
def actsT (as : List Act) : Str := if as = [] then "-" else PySem.Txt.join (sg 44) (as.map actT)
theorem jn_free {c d : Nat} (hd : d ≠ c) : ∀ {ps : List (List Nat)}, (∀ p ∈ ps, d ∉ p) → d ∉ jnL c ps
  | [], _, q => nomatch q
  | [x], h, q => h x List.mem_cons_self q
  | x :: y :: r, h, q => by
    have q : d ∈ x ++ c :: jnL c (y :: r) := q
    rcases List.mem_append.mp q with q | q
    · exact h x List.mem_cons_self q
    · rcases List.mem_cons.mp q with q | q
      · exact hd q
      · exact jn_free hd (fun p hp => h p (List.mem_cons_of_mem _ hp)) q
theorem outs_f {os : List Out} (h : ∀ o ∈ os, OutF o) (hl : os.length ≤ 3) : (outsT os).length ≤ 33 ∧ (∀ c, c < 42 → c ∉ cl (outsT os)) ∧ joinS (sg 44) (os.map outT) = some (outsT os) := by
  have h1 : ∀ y ∈ os.map outT, y.length ≤ 10 := fun y hy => by
    obtain ⟨o, ho, rfl⟩ := List.mem_map.mp hy
    exact (outT_f (h o ho)).1
  obtain ⟨a, b⟩ := jn_len (c := 44) (n := 3) h1 (by rw [List.length_map]; exact hl)
  refine ⟨a, fun c hc => ?_, b (by decide)⟩
  unfold outsT
  rw [join_cl]
  refine jn_free (by omega) fun p hp => ?_
  obtain ⟨y, hy, rfl⟩ := List.mem_map.mp hp
  obtain ⟨o, ho, rfl⟩ := List.mem_map.mp hy
  exact (outT_f (h o ho)).2 c (Or.inl hc)
theorem acts_f {as : List Act} (h : ∀ a ∈ as, ActF a) (hl : as.length ≤ 3) : (actsT as).length ≤ 27 ∧ (∀ c, c < 44 → c ∉ cl (actsT as)) ∧ joinS (sg 44) (as.map actT) = some (PySem.Txt.join (sg 44) (as.map actT)) := by
  have h1 : ∀ y ∈ as.map actT, y.length ≤ 8 := fun y hy => by
    obtain ⟨o, ho, rfl⟩ := List.mem_map.mp hy
    exact (actT_f (h o ho)).1
  obtain ⟨a, b⟩ := jn_len (c := 44) (n := 3) h1 (by rw [List.length_map]; exact hl)
  have hd : cl "-" = [45] := by decide +kernel
  refine ⟨?_, fun c hc => ?_, b (by decide)⟩
  · unfold actsT
    split
    · show (cl "-").length ≤ 27
      rw [hd]; decide
    · exact a
  · unfold actsT
    split
    · rw [hd]; intro q; simp at q; omega
    · rw [join_cl]
      refine jn_free (by omega) fun p hp => ?_
      obtain ⟨y, hy, rfl⟩ := List.mem_map.mp hp
      obtain ⟨o, ho, rfl⟩ := List.mem_map.mp hy
      exact (actT_f (h o ho)).2 c (by omega)
theorem split_ok {c : Nat} {ys : List Str} (hn : ys ≠ []) (hf : ∀ y ∈ ys, c ∉ cl y) (hl : (PySem.Txt.join (sg c) ys).length ≤ 900000) : splitS (PySem.Txt.join (sg c) ys) (sg c) = some ys := by
  unfold splitS
  rw [if_pos ⟨rfl, by omega⟩, split_join hn hf]
theorem part_ok {c : Nat} {a b : Str} (h : c ∉ cl a) (hl : (a ++ sg c ++ b).length ≤ 1000000) : partS (a ++ sg c ++ b) (sg c) = some (a, sg c, b) := by
  unfold partS
  rw [if_pos ⟨rfl, hl⟩, part_at h]
theorem pairs_ok {α : Type} {f : α → Str × Str × Str} {g : α → Str} {c : Nat} {xs : List α} (hn : xs ≠ []) (hx : xs.length ≤ 3) (hf : ∀ x ∈ xs, 44 ∉ cl (g x)) (hl : ∀ x ∈ xs, (g x).length ≤ 10) (hp : ∀ x ∈ xs, partS (g x) (sg c) = some (f x)) : m_read_pairs (PySem.Txt.join (sg 44) (xs.map g)) (sg c) = some (xs.map f) := by
  have h1 : ∀ y ∈ xs.map g, y.length ≤ 10 := fun y hy => by
    obtain ⟨o, ho, rfl⟩ := List.mem_map.mp hy
    exact hl o ho
  obtain ⟨a, _⟩ := jn_len (c := 44) (n := 3) h1 (by rw [List.length_map]; exact hx)
  have hs : splitS (PySem.Txt.join (sg 44) (xs.map g)) (sg 44) = some (xs.map g) := split_ok (by simpa using hn) (fun y hy => by
    obtain ⟨o, ho, rfl⟩ := List.mem_map.mp hy
    exact hf o ho) (by omega)
  unfold m_read_pairs
  rw [tot_rn]
  simp only [tot_bnd, tot_ret, tot_zm, tot_nw, tot_rb, tot_fzL, tot_drL, tot_gtLS, tot_upLS, tot_lft, tot_gtL, tot_upL, tot_bif, tot_some, tot_rtF, ex_some, ex_someT, and_true, true_and, implies_true, few0, few1, few2, few3, tot_zmI, tot_wp, tot_psh, tot_pshL, tot_gtI, tot_upI, tot_bndX, tot_tryM, tot_tryO, tot_tryR, s_comma, hs, chk_ok (show (xs.map g).length < lim by rw [List.length_map]; show _ < 1000000; omega)]
  have key : ∀ (zs : List α), (∀ x ∈ zs, x ∈ xs) → ∀ Q : List (Str × Str × Str) × Unit → Prop, Q (zs.map f, ()) → Tot (mp (fun x4 => bnd (ret x4) fun a10 => bnd (ret (sg c)) fun b11 => lft (partS a10 b11)) (zs.map g)) () Q := by
    intro zs
    induction zs with
    | nil => intro _ Q q; exact tot_mp0.mpr q
    | cons z zs ih =>
      intro hz Q q
      rw [List.map_cons, tot_mpc]
      simp only [tot_bnd, tot_ret, tot_zm, tot_nw, tot_rb, tot_fzL, tot_drL, tot_gtLS, tot_upLS, tot_lft, tot_gtL, tot_upL, tot_bif, tot_some, tot_rtF, ex_some, ex_someT, and_true, true_and, implies_true, few0, few1, few2, few3, tot_zmI, tot_wp, tot_psh, tot_pshL, tot_gtI, tot_upI, tot_bndX, tot_tryM, tot_tryO, tot_tryR, hp z (hz z List.mem_cons_self)]
      exact ih (fun x hx => hz x (List.mem_cons_of_mem _ hx)) _ q
  exact key xs (fun _ h => h) _ rfl
theorem read_outs {os : List Out} (h : ∀ o ∈ os, OutF o) (hl : os.length ≤ 3) (h1 : 1 ≤ os.length) : m_read_pairs (outsT os) (sg 42) = some (os.map fun o => (tgT o.1, sg 42, numT o.2)) := by
  refine pairs_ok (fun e => by rw [e] at h1; exact absurd h1 (by decide)) hl (fun o ho => (outT_f (h o ho)).2 44 (Or.inr (Or.inl rfl))) (fun o ho => (outT_f (h o ho)).1) fun o ho => ?_
  exact part_ok (tg_free (h o ho).t (by decide)).1 (by have := (outT_f (h o ho)).1; unfold outT at this; omega)
theorem read_acts {as : List Act} (h : ∀ a ∈ as, ActF a) (hl : as.length ≤ 3) (h1 : as ≠ []) : m_read_pairs (PySem.Txt.join (sg 44) (as.map actT)) (sg 46) = some (as.map fun a => (a.1, sg 46, numT a.2)) := by
  refine pairs_ok h1 hl (fun o ho => (actT_f (h o ho)).2 44 (by decide)) (fun o ho => by have := (actT_f (h o ho)).1; omega) fun o ho => ?_
  exact part_ok (act_word (h o ho) (by decide)).1 (by have := (actT_f (h o ho)).1; unfold actT at this; omega)

end Law

namespace Law
open PySem L2 T
/-! vessels and spouts written and read -/
def holdT (b : Bool) : Str := bif b then "holds" else "loses"
def openT (b : Bool) : Str := bif b then "open" else "shut"
def vesW (v : Vessel) : List Str := ["vessel", numT v.1, numT v.2.1, outsT v.2.2.1, holdT v.2.2.2.1, tgT v.2.2.2.2.1, actsT v.2.2.2.2.2]
def spoW (p : Spout) : List Str := ["spout", numT p.1, numT p.2.1, openT p.2.2]
def vesT (v : Vessel) : Str := PySem.Txt.join (sg 32) (vesW v)
def spoT (p : Spout) : Str := PySem.Txt.join (sg 32) (spoW p)
structure VesF (v : Vessel) : Prop where
  s : NumOk v.1
  b : NumOk v.2.1
  o : ∀ o ∈ v.2.2.1, OutF o
  ol : v.2.2.1.length ≤ 3
  o1 : 1 ≤ v.2.2.1.length
  t : TOk v.2.2.2.2.1
  a : ∀ a ∈ v.2.2.2.2.2, ActF a
  al : v.2.2.2.2.2.length ≤ 3
structure SpoF (p : Spout) : Prop where
  t : NumOk p.1
  f : NumOk p.2.1
theorem words_all : (∀ c : Nat, c < 48 → c ∉ cl "vessel" ∧ c ∉ cl "spout" ∧ ∀ b, c ∉ cl (holdT b) ∧ c ∉ cl (openT b)) := by decide +kernel
theorem words_len : (cl "vessel").length = 6 ∧ (cl "spout").length = 5 ∧ ∀ b, (cl (holdT b)).length = 5 ∧ (cl (openT b)).length = 4 := by decide +kernel
theorem vesW_f {v : Vessel} (h : VesF v) : ∀ y ∈ vesW v, y.length ≤ 33 ∧ ∀ c, c < 42 → c ∉ cl y := by
  intro y hy
  obtain ⟨w1, w2, w3⟩ := words_len
  have wa := words_all
  simp only [vesW, List.mem_cons, List.not_mem_nil, or_false] at hy
  rcases hy with rfl | rfl | rfl | rfl | rfl | rfl | rfl
  · exact ⟨by show (cl "vessel").length ≤ 33; omega, fun c hc => (wa c (by omega)).1⟩
  · have f := num_f h.s
    exact ⟨by have := f.l3; show (cl (numT v.1)).length ≤ 33; omega, fun c hc q => by have := f.dig c q; omega⟩
  · have f := num_f h.b
    exact ⟨by have := f.l3; show (cl (numT v.2.1)).length ≤ 33; omega, fun c hc q => by have := f.dig c q; omega⟩
  · have f := outs_f h.o h.ol
    exact ⟨f.1, f.2.1⟩
  · exact ⟨by show (cl (holdT v.2.2.2.1)).length ≤ 33; have := (w3 v.2.2.2.1).1; omega, fun c hc => ((wa c (by omega)).2.2 _).1⟩
  · exact ⟨by have := (tg_free h.t (c := 0) (by decide)).2; show (cl (tgT v.2.2.2.2.1)).length ≤ 33; omega, fun c hc => (tg_free h.t (by omega)).1⟩
  · have f := acts_f h.a h.al
    exact ⟨by have := f.1; omega, fun c hc => f.2.1 c (by omega)⟩
theorem spoW_f {p : Spout} (h : SpoF p) : ∀ y ∈ spoW p, y.length ≤ 33 ∧ ∀ c, c < 42 → c ∉ cl y := by
  intro y hy
  obtain ⟨w1, w2, w3⟩ := words_len
  have wa := words_all
  simp only [spoW, List.mem_cons, List.not_mem_nil, or_false] at hy
  rcases hy with rfl | rfl | rfl | rfl
  · exact ⟨by show (cl "spout").length ≤ 33; omega, fun c hc => (wa c (by omega)).2.1⟩
  · have f := num_f h.t
    exact ⟨by have := f.l3; show (cl (numT p.1)).length ≤ 33; omega, fun c hc q => by have := f.dig c q; omega⟩
  · have f := num_f h.f
    exact ⟨by have := f.l3; show (cl (numT p.2.1)).length ≤ 33; omega, fun c hc q => by have := f.dig c q; omega⟩
  · exact ⟨by show (cl (openT p.2.2)).length ≤ 33; have := (w3 p.2.2).2; omega, fun c hc => ((wa c (by omega)).2.2 _).2⟩
theorem line_f {ws : List Str} (hl : ws.length ≤ 7) (hn : ws ≠ []) (h : ∀ y ∈ ws, y.length ≤ 33 ∧ ∀ c, c < 42 → c ∉ cl y) : (PySem.Txt.join (sg 32) ws).length ≤ 238 ∧ 10 ∉ cl (PySem.Txt.join (sg 32) ws) ∧ joinS (sg 32) ws = some (PySem.Txt.join (sg 32) ws) ∧ splitS (PySem.Txt.join (sg 32) ws) (sg 32) = some ws := by
  obtain ⟨a, b⟩ := jn_len (c := 32) (n := 7) (fun y hy => (h y hy).1) hl
  refine ⟨a, ?_, b (by decide), split_ok hn (fun y hy => (h y hy).2 32 (by decide)) (by omega)⟩
  rw [join_cl]
  refine jn_free (by decide) fun p hp => ?_
  obtain ⟨y, hy, rfl⟩ := List.mem_map.mp hp
  exact (h y hy).2 10 (by decide)
abbrev PVes := Option Int × Option Int × List (Option (Int ⊕ Str) × Option Int) × Bool × Option (Int ⊕ Str) × List (Str × Option Int)
abbrev PSpo := Option Int × Option Int × Bool
def emV (v : Vessel) : PVes := (some v.1, some v.2.1, v.2.2.1.map fun o => (o.1.map Sum.inl, some o.2), v.2.2.2.1, v.2.2.2.2.1.map Sum.inl, v.2.2.2.2.2.map fun a => (a.1, some a.2))
def emS (p : Spout) : PSpo := (some p.1, some p.2.1, p.2.2)
theorem hold_in (b : Bool) : (([("holds" : Str), "loses"]).any fun x => decide (x = holdT b)) = true ∧ decide (holdT b = "holds") = b := by cases b <;> decide +kernel
theorem open_in (b : Bool) : (([("open" : Str), "shut"]).any fun x => decide (x = openT b)) = true ∧ decide (openT b = "open") = b := by cases b <;> decide +kernel
theorem acts_ne {as : List Act} (h : ∀ a ∈ as, ActF a) (hl : as.length ≤ 3) : decide (actsT as = "-") = decide (as = []) := by
  by_cases c : as = []
  · subst c; simp [actsT]
  · simp only [c, decide_false, decide_eq_false_iff_not]
    intro e
    have e1 : cl (actsT as) = [45] := by rw [e]; decide +kernel
    unfold actsT at e1
    rw [if_neg c, join_cl] at e1
    obtain ⟨a, r, rfl⟩ := List.exists_cons_of_ne_nil c
    have w := act_word (h a List.mem_cons_self) (c := 0) (by decide)
    have hlen : 4 ≤ (jnL 44 ((List.map actT (a :: r)).map cl)).length := by
      have e3 : cl (actT a) = cl a.1 ++ 46 :: cl (numT a.2) := by unfold actT; rw [cl_app, cl_app, List.append_assoc]; rfl
      cases r with
      | nil =>
        show 4 ≤ (cl (actT a)).length
        rw [e3, List.length_append]; omega
      | cons b r =>
        show 4 ≤ (cl (actT a) ++ 44 :: _).length
        rw [List.length_append, e3, List.length_append]; omega
    rw [e1] at hlen
    exact absurd hlen (by decide)
theorem at6 (a b c d e f : Str) : atI [a, b, c, d, e, f] 0 = some a ∧ atI [a, b, c, d, e, f] 1 = some b ∧ atI [a, b, c, d, e, f] 2 = some c ∧ atI [a, b, c, d, e, f] 3 = some d ∧ atI [a, b, c, d, e, f] 4 = some e ∧ atI [a, b, c, d, e, f] 5 = some f := ⟨T.atI_nat (k := 0) rfl, T.atI_nat (k := 1) rfl, T.atI_nat (k := 2) rfl, T.atI_nat (k := 3) rfl, T.atI_nat (k := 4) rfl, T.atI_nat (k := 5) rfl⟩
theorem at3 (a b c : Str) : atI [a, b, c] 0 = some a ∧ atI [a, b, c] 1 = some b ∧ atI [a, b, c] 2 = some c := ⟨T.atI_nat (k := 0) rfl, T.atI_nat (k := 1) rfl, T.atI_nat (k := 2) rfl⟩
theorem mp_at {α β γ : Type} {f : β → M Unit γ} {g : α → β} {k : α → γ} : ∀ {xs : List α}, (∀ x ∈ xs, ∀ s, Tot (f (g x)) s (fun w => w = (k x, s))) → Tot (mp f (xs.map g)) () (fun w => w = (xs.map k, ()))
  | [], _ => tot_mp0.mpr rfl
  | x :: xs, h => by
    rw [List.map_cons, tot_mpc]
    refine (h x List.mem_cons_self ()).mono fun w e => ?_
    subst e
    refine (mp_at (fun y hy => h y (List.mem_cons_of_mem _ hy))).mono fun w e => ?_
    subst e; rfl
theorem read_ves {v : Vessel} (h : VesF v) : m_read_vessel (vesW v).tail = some (.inl (emV v)) := by
  have t1 := num_f h.s
  have t2 := num_f h.b
  have t3 := (tg_goal h.t).2.2
  have ho := read_outs h.o h.ol h.o1
  have hi := hold_in v.2.2.2.1
  have hl := h.ol
  have hal := h.al
  have hne := acts_ne h.a h.al
  unfold m_read_vessel
  rw [tot_rn]
  have e0 : (vesW v).tail = [numT v.1, numT v.2.1, outsT v.2.2.1, holdT v.2.2.2.1, tgT v.2.2.2.2.1, actsT v.2.2.2.2.2] := rfl
  rw [e0]
  obtain ⟨a0, a1, a2, a3, a4, a5⟩ := at6 (numT v.1) (numT v.2.1) (outsT v.2.2.1) (holdT v.2.2.2.1) (tgT v.2.2.2.2.1) (actsT v.2.2.2.2.2)
  refine tot_cut (fun w => w = (false, ())) ?_ fun b s1 e => ?_
  · simp only [tot_bnd, tot_ret, tot_zm, tot_nw, tot_rb, tot_fzL, tot_drL, tot_gtLS, tot_upLS, tot_lft, tot_gtL, tot_upL, tot_bif, tot_some, tot_rtF, ex_some, ex_someT, and_true, true_and, implies_true, few0, few1, few2, few3, tot_zmI, tot_wp, tot_psh, tot_pshL, tot_gtI, tot_upI, tot_bndX, tot_tryM, tot_tryO, tot_tryR, a3, few2, hi.1]
    simp
  cases e
  rw [tot_bif]
  refine ⟨fun e => (nomatch e), fun _ => ?_⟩
  refine tot_cut (fun w => w = (v.2.2.1.map fun o => (o.1.map Sum.inl, some o.2), ())) ?_ fun b s1 e => ?_
  · simp only [tot_bnd, tot_ret, tot_zm, tot_nw, tot_rb, tot_fzL, tot_drL, tot_gtLS, tot_upLS, tot_lft, tot_gtL, tot_upL, tot_bif, tot_some, tot_rtF, ex_some, ex_someT, and_true, true_and, implies_true, few0, few1, few2, few3, tot_zmI, tot_wp, tot_psh, tot_pshL, tot_gtI, tot_upI, tot_bndX, tot_tryM, tot_tryO, tot_tryR, a2, s_star, ho, chk_ok (show (v.2.2.1.map fun o => (tgT o.1, sg 42, numT o.2)).length < lim by rw [List.length_map]; show _ < 1000000; omega)]
    refine (mp_at (k := fun o => (o.1.map Sum.inl, some o.2)) fun o ho s => ?_).mono fun w e => by subst e; rfl
    simp only [tot_bnd, tot_ret, tot_zm, tot_nw, tot_rb, tot_fzL, tot_drL, tot_gtLS, tot_upLS, tot_lft, tot_gtL, tot_upL, tot_bif, tot_some, tot_rtF, ex_some, ex_someT, and_true, true_and, implies_true, few0, few1, few2, few3, tot_zmI, tot_wp, tot_psh, tot_pshL, tot_gtI, tot_upI, tot_bndX, tot_tryM, tot_tryO, tot_tryR, (tg_goal (h.o o ho).t).2.2, (num_f (h.o o ho).n).rd]
  cases e
  refine tot_cut (fun w => w = ([], ())) (by simp only [tot_bnd, tot_ret, tot_zm, tot_nw, tot_rb, tot_fzL, tot_drL, tot_gtLS, tot_upLS, tot_lft, tot_gtL, tot_upL, tot_bif, tot_some, tot_rtF, ex_some, ex_someT, and_true, true_and, implies_true, few0, few1, few2, few3, tot_zmI, tot_wp, tot_psh, tot_pshL, tot_gtI, tot_upI, tot_bndX, tot_tryM, tot_tryO, tot_tryR, few0]) fun b s1 e => ?_
  cases e
  refine tot_cut (fun w => w = (v.2.2.2.2.2.map fun a => (a.1, some a.2), ())) ?_ fun b s1 e => ?_
  · simp only [tot_bnd, tot_ret, tot_zm, tot_nw, tot_rb, tot_fzL, tot_drL, tot_gtLS, tot_upLS, tot_lft, tot_gtL, tot_upL, tot_bif, tot_some, tot_rtF, ex_some, ex_someT, and_true, true_and, implies_true, few0, few1, few2, few3, tot_zmI, tot_wp, tot_psh, tot_pshL, tot_gtI, tot_upI, tot_bndX, tot_tryM, tot_tryO, tot_tryR, a5, hne]
    refine ⟨fun c => ?_, fun c => ?_⟩
    · have c2 : v.2.2.2.2.2 ≠ [] := by simpa using c
      have ha := read_acts h.a h.al c2
      have ea : actsT v.2.2.2.2.2 = PySem.Txt.join (sg 44) (v.2.2.2.2.2.map actT) := if_neg c2
      simp only [tot_bnd, tot_ret, tot_zm, tot_nw, tot_rb, tot_fzL, tot_drL, tot_gtLS, tot_upLS, tot_lft, tot_gtL, tot_upL, tot_bif, tot_some, tot_rtF, ex_some, ex_someT, and_true, true_and, implies_true, few0, few1, few2, few3, tot_zmI, tot_wp, tot_psh, tot_pshL, tot_gtI, tot_upI, tot_bndX, tot_tryM, tot_tryO, tot_tryR, s_dot, ea, ha, chk_ok (show (v.2.2.2.2.2.map fun a => (a.1, sg 46, numT a.2)).length < lim by rw [List.length_map]; show _ < 1000000; omega)]
      refine (mp_at (k := fun a => (a.1, some a.2)) fun a ha s => ?_).mono fun w e => by subst e; rfl
      simp only [tot_bnd, tot_ret, tot_zm, tot_nw, tot_rb, tot_fzL, tot_drL, tot_gtLS, tot_upLS, tot_lft, tot_gtL, tot_upL, tot_bif, tot_some, tot_rtF, ex_some, ex_someT, and_true, true_and, implies_true, few0, few1, few2, few3, tot_zmI, tot_wp, tot_psh, tot_pshL, tot_gtI, tot_upI, tot_bndX, tot_tryM, tot_tryO, tot_tryR, (num_f (h.a a ha).n).rd]
    · have c2 : v.2.2.2.2.2 = [] := by simpa using c
      rw [c2]; rfl
  cases e
  simp only [tot_bnd, tot_ret, tot_zm, tot_nw, tot_rb, tot_fzL, tot_drL, tot_gtLS, tot_upLS, tot_lft, tot_gtL, tot_upL, tot_bif, tot_some, tot_rtF, ex_some, ex_someT, and_true, true_and, implies_true, few0, few1, few2, few3, tot_zmI, tot_wp, tot_psh, tot_pshL, tot_gtI, tot_upI, tot_bndX, tot_tryM, tot_tryO, tot_tryR, a0, a1, a3, a4, t1.rd, t2.rd, t3, hi.2]
  rfl
theorem read_spo {p : Spout} (h : SpoF p) : m_read_spout (spoW p).tail = some (.inl (emS p)) := by
  have t1 := num_f h.t
  have t2 := num_f h.f
  have hi := open_in p.2.2
  unfold m_read_spout
  rw [tot_rn]
  have e0 : (spoW p).tail = [numT p.1, numT p.2.1, openT p.2.2] := rfl
  rw [e0]
  obtain ⟨a0, a1, a2⟩ := at3 (numT p.1) (numT p.2.1) (openT p.2.2)
  refine tot_cut (fun w => w = (false, ())) ?_ fun b s1 e => ?_
  · simp only [tot_bnd, tot_ret, tot_zm, tot_nw, tot_rb, tot_fzL, tot_drL, tot_gtLS, tot_upLS, tot_lft, tot_gtL, tot_upL, tot_bif, tot_some, tot_rtF, ex_some, ex_someT, and_true, true_and, implies_true, few0, few1, few2, few3, tot_zmI, tot_wp, tot_psh, tot_pshL, tot_gtI, tot_upI, tot_bndX, tot_tryM, tot_tryO, tot_tryR, a2, few2, hi.1]
    simp
  cases e
  rw [tot_bif]
  refine ⟨fun e => (nomatch e), fun _ => ?_⟩
  simp only [tot_bnd, tot_ret, tot_zm, tot_nw, tot_rb, tot_fzL, tot_drL, tot_gtLS, tot_upLS, tot_lft, tot_gtL, tot_upL, tot_bif, tot_some, tot_rtF, ex_some, ex_someT, and_true, true_and, implies_true, few0, few1, few2, few3, tot_zmI, tot_wp, tot_psh, tot_pshL, tot_gtI, tot_upI, tot_bndX, tot_tryM, tot_tryO, tot_tryR, a0, a1, a2, t1.rd, t2.rd, hi.2]
  rfl

end Law

namespace Law
open PySem L2 T
/-! vessels and spouts written -/
theorem outT_ok {o : Out} (h : OutF o) : addS (tgT o.1) (sg 42) = some (tgT o.1 ++ sg 42) ∧ addS (tgT o.1 ++ sg 42) (numT o.2) = some (outT o) := by
  have := (outT_f h).1
  unfold outT at this
  rw [len_app, len_app] at this
  exact ⟨add_ok (by omega), add_ok (by rw [len_app]; omega)⟩
theorem actT_ok {a : Act} (h : ActF a) : addS a.1 (sg 46) = some (a.1 ++ sg 46) ∧ addS (a.1 ++ sg 46) (numT a.2) = some (actT a) := by
  have := (actT_f h).1
  unfold actT at this
  rw [len_app, len_app] at this
  exact ⟨add_ok (by omega), add_ok (by rw [len_app]; omega)⟩
theorem de_act : ∀ xs : List Act, (∀ a ∈ xs, ActF a) → ∃ b, neD ((dTup dAct).d xs) ((dTup dAct).d []) = some b ∧ (b = true ↔ xs ≠ []) := by
  intro xs h
  have hs : ∀ a ∈ xs, PySem.PyData.strOk a.1 = true := fun a ha => by
    have hw : PySem.PyData.strOk "open" = true ∧ PySem.PyData.strOk "shut" = true ∧ PySem.PyData.strOk "turn" = true := by decide +kernel
    rcases (h a ha).w with e | e | e <;> rw [e]
    · exact hw.1
    · exact hw.2.1
    · exact hw.2.2
  have dl : DL (dTup dAct) 3 (fun xs => ∀ a ∈ xs, PySem.PyData.strOk a.1 = true ∧ True) := dl_tup (dl_th (dla_c dl_str (dla_one de_int.dl)))
  cases xs with
  | nil => exact ⟨false, neL_refl dl (by decide) (fun a ha => nomatch ha), by simp⟩
  | cons x xs => exact ⟨true, neL_diff dl dl (by decide) (fun a ha => ⟨hs a ha, trivial⟩) (fun a ha => nomatch ha) (by show PySem.PyData.eqv (.tuple (_ :: _)) (.tuple []) = false; rw [PySem.PyData.eqv]; rfl), by simp⟩
theorem ves_text {v : Vessel} (h : VesF v) : m_vessel_text v = some (vesT v) := by
  have t1 := num_f h.s
  have t2 := num_f h.b
  have t3 := (tg_goal h.t).2.1
  have fo := (outs_f h.o h.ol).2.2
  have fa := (acts_f h.a h.al).2.2
  have hl := h.ol
  have hal := h.al
  obtain ⟨b, eb, hb⟩ := de_act v.2.2.2.2.2 h.a
  have line := line_f (ws := vesW v) (by show 7 ≤ 7; decide) (List.cons_ne_nil _ _) (vesW_f h)
  unfold m_vessel_text
  rw [tot_rn]
  refine tot_cut (fun w => w = (v, ())) (by simp only [tot_bnd, tot_ret, tot_zm, tot_nw, tot_rb, tot_fzL, tot_drL, tot_gtLS, tot_upLS, tot_lft, tot_gtL, tot_upL, tot_bif, tot_some, tot_rtF, ex_some, ex_someT, and_true, true_and, implies_true, few0, few1, few2, few3, tot_zmI, tot_wp, tot_psh, tot_pshL, tot_gtI, tot_upI, tot_bndX, tot_tryM, tot_tryO, tot_tryR]) fun x s e => ?_
  cases e
  refine tot_cut (fun w => w = ([("vessel" : Str), numT v.1, numT v.2.1], ())) (by simp only [tot_bnd, tot_ret, tot_zm, tot_nw, tot_rb, tot_fzL, tot_drL, tot_gtLS, tot_upLS, tot_lft, tot_gtL, tot_upL, tot_bif, tot_some, tot_rtF, ex_some, ex_someT, and_true, true_and, implies_true, few0, few1, few2, few3, tot_zmI, tot_wp, tot_psh, tot_pshL, tot_gtI, tot_upI, tot_bndX, tot_tryM, tot_tryO, tot_tryR, t1.st, t2.st, few3]) fun x s e => ?_
  cases e
  rw [tot_nw]
  refine tot_cut (fun w => w = (outsT v.2.2.1, ((), [("vessel" : Str), numT v.1, numT v.2.1]))) ?_ fun x s e => ?_
  · simp only [tot_bnd, tot_ret, tot_zm, tot_nw, tot_rb, tot_fzL, tot_drL, tot_gtLS, tot_upLS, tot_lft, tot_gtL, tot_upL, tot_bif, tot_some, tot_rtF, ex_some, ex_someT, and_true, true_and, implies_true, few0, few1, few2, few3, tot_zmI, tot_wp, tot_psh, tot_pshL, tot_gtI, tot_upI, tot_bndX, tot_tryM, tot_tryO, tot_tryR, s_comma, s_star, chk_ok (show v.2.2.1.length < lim by show _ < 1000000; omega)]
    refine tot_mp_fn outT (fun o ho s => ?_) ?_
    · simp only [tot_bnd, tot_ret, tot_zm, tot_nw, tot_rb, tot_fzL, tot_drL, tot_gtLS, tot_upLS, tot_lft, tot_gtL, tot_upL, tot_bif, tot_some, tot_rtF, ex_some, ex_someT, and_true, true_and, implies_true, few0, few1, few2, few3, tot_zmI, tot_wp, tot_psh, tot_pshL, tot_gtI, tot_upI, tot_bndX, tot_tryM, tot_tryO, tot_tryR, (tg_goal (h.o o ho).t).2.1, (outT_ok (h.o o ho)).1, (num_f (h.o o ho).n).st, (outT_ok (h.o o ho)).2]
    · exact ⟨_, fo, rfl⟩
  cases e
  refine tot_cut (fun w => w.2 = ((), [("vessel" : Str), numT v.1, numT v.2.1, outsT v.2.2.1])) ?_ fun x s e => ?_
  · simp only [tot_bnd, tot_ret, tot_zm, tot_nw, tot_rb, tot_fzL, tot_drL, tot_gtLS, tot_upLS, tot_lft, tot_gtL, tot_upL, tot_bif, tot_some, tot_rtF, ex_some, ex_someT, and_true, true_and, implies_true, few0, few1, few2, few3, tot_zmI, tot_wp, tot_psh, tot_pshL, tot_gtI, tot_upI, tot_bndX, tot_tryM, tot_tryO, tot_tryR]
    exact ⟨_, T.app_ok (show 3 < 1000000 by decide), rfl⟩
  dsimp only at e; subst e
  refine tot_cut (fun w => w = (holdT v.2.2.2.1, ((), [("vessel" : Str), numT v.1, numT v.2.1, outsT v.2.2.1]))) ?_ fun x s e => ?_
  · simp only [tot_bnd, tot_ret, tot_zm, tot_nw, tot_rb, tot_fzL, tot_drL, tot_gtLS, tot_upLS, tot_lft, tot_gtL, tot_upL, tot_bif, tot_some, tot_rtF, ex_some, ex_someT, and_true, true_and, implies_true, few0, few1, few2, few3, tot_zmI, tot_wp, tot_psh, tot_pshL, tot_gtI, tot_upI, tot_bndX, tot_tryM, tot_tryO, tot_tryR]
    cases v.2.2.2.1 <;> simp [holdT]
  cases e
  refine tot_cut (fun w => w.2 = ((), [("vessel" : Str), numT v.1, numT v.2.1, outsT v.2.2.1, holdT v.2.2.2.1])) ?_ fun x s e => ?_
  · simp only [tot_bnd, tot_ret, tot_zm, tot_nw, tot_rb, tot_fzL, tot_drL, tot_gtLS, tot_upLS, tot_lft, tot_gtL, tot_upL, tot_bif, tot_some, tot_rtF, ex_some, ex_someT, and_true, true_and, implies_true, few0, few1, few2, few3, tot_zmI, tot_wp, tot_psh, tot_pshL, tot_gtI, tot_upI, tot_bndX, tot_tryM, tot_tryO, tot_tryR]
    exact ⟨_, T.app_ok (show 4 < 1000000 by decide), rfl⟩
  dsimp only at e; subst e
  refine tot_cut (fun w => w = (tgT v.2.2.2.2.1, ((), [("vessel" : Str), numT v.1, numT v.2.1, outsT v.2.2.1, holdT v.2.2.2.1]))) (by simp only [tot_bnd, tot_ret, tot_zm, tot_nw, tot_rb, tot_fzL, tot_drL, tot_gtLS, tot_upLS, tot_lft, tot_gtL, tot_upL, tot_bif, tot_some, tot_rtF, ex_some, ex_someT, and_true, true_and, implies_true, few0, few1, few2, few3, tot_zmI, tot_wp, tot_psh, tot_pshL, tot_gtI, tot_upI, tot_bndX, tot_tryM, tot_tryO, tot_tryR, t3]) fun x s e => ?_
  cases e
  refine tot_cut (fun w => w.2 = ((), [("vessel" : Str), numT v.1, numT v.2.1, outsT v.2.2.1, holdT v.2.2.2.1, tgT v.2.2.2.2.1])) ?_ fun x s e => ?_
  · simp only [tot_bnd, tot_ret, tot_zm, tot_nw, tot_rb, tot_fzL, tot_drL, tot_gtLS, tot_upLS, tot_lft, tot_gtL, tot_upL, tot_bif, tot_some, tot_rtF, ex_some, ex_someT, and_true, true_and, implies_true, few0, few1, few2, few3, tot_zmI, tot_wp, tot_psh, tot_pshL, tot_gtI, tot_upI, tot_bndX, tot_tryM, tot_tryO, tot_tryR]
    exact ⟨_, T.app_ok (show 5 < 1000000 by decide), rfl⟩
  dsimp only at e; subst e
  refine tot_cut (fun w => w = (actsT v.2.2.2.2.2, ((), [("vessel" : Str), numT v.1, numT v.2.1, outsT v.2.2.1, holdT v.2.2.2.1, tgT v.2.2.2.2.1]))) ?_ fun x s e => ?_
  · simp only [tot_bnd, tot_ret, tot_zm, tot_nw, tot_rb, tot_fzL, tot_drL, tot_gtLS, tot_upLS, tot_lft, tot_gtL, tot_upL, tot_bif, tot_some, tot_rtF, ex_some, ex_someT, and_true, true_and, implies_true, few0, few1, few2, few3, tot_zmI, tot_wp, tot_psh, tot_pshL, tot_gtI, tot_upI, tot_bndX, tot_tryM, tot_tryO, tot_tryR, few0, eb]
    refine ⟨fun c => ?_, fun c => ?_⟩
    · have c2 := hb.mp c
      simp only [tot_bnd, tot_ret, tot_zm, tot_nw, tot_rb, tot_fzL, tot_drL, tot_gtLS, tot_upLS, tot_lft, tot_gtL, tot_upL, tot_bif, tot_some, tot_rtF, ex_some, ex_someT, and_true, true_and, implies_true, few0, few1, few2, few3, tot_zmI, tot_wp, tot_psh, tot_pshL, tot_gtI, tot_upI, tot_bndX, tot_tryM, tot_tryO, tot_tryR, s_comma, s_dot, chk_ok (show v.2.2.2.2.2.length < lim by show _ < 1000000; omega)]
      refine tot_mp_fn actT (fun a ha s => ?_) ?_
      · simp only [tot_bnd, tot_ret, tot_zm, tot_nw, tot_rb, tot_fzL, tot_drL, tot_gtLS, tot_upLS, tot_lft, tot_gtL, tot_upL, tot_bif, tot_some, tot_rtF, ex_some, ex_someT, and_true, true_and, implies_true, few0, few1, few2, few3, tot_zmI, tot_wp, tot_psh, tot_pshL, tot_gtI, tot_upI, tot_bndX, tot_tryM, tot_tryO, tot_tryR, (actT_ok (h.a a ha)).1, (num_f (h.a a ha).n).st, (actT_ok (h.a a ha)).2]
      · refine ⟨_, fa, ?_⟩
        unfold actsT
        rw [if_neg c2]
    · have c2 : v.2.2.2.2.2 = [] := by
        by_cases q : v.2.2.2.2.2 = []
        · exact q
        · rw [hb.mpr q] at c; cases c
      unfold actsT
      rw [if_pos c2]
  cases e
  simp only [tot_bnd, tot_ret, tot_zm, tot_nw, tot_rb, tot_fzL, tot_drL, tot_gtLS, tot_upLS, tot_lft, tot_gtL, tot_upL, tot_bif, tot_some, tot_rtF, ex_some, ex_someT, and_true, true_and, implies_true, few0, few1, few2, few3, tot_zmI, tot_wp, tot_psh, tot_pshL, tot_gtI, tot_upI, tot_bndX, tot_tryM, tot_tryO, tot_tryR, s_sp]
  exact ⟨_, T.app_ok (show 6 < 1000000 by decide), _, line.2.2.1, rfl⟩
theorem spo_text {p : Spout} (h : SpoF p) : m_spout_text p = some (spoT p) := by
  have t1 := num_f h.t
  have t2 := num_f h.f
  have line := line_f (ws := spoW p) (by show 4 ≤ 7; decide) (List.cons_ne_nil _ _) (spoW_f h)
  unfold m_spout_text
  rw [tot_rn]
  have e4 : few ([("spout" : Str), numT p.1, numT p.2.1, openT p.2.2]) = some [("spout" : Str), numT p.1, numT p.2.1, openT p.2.2] := rfl
  have e4t : few ([("spout" : Str), numT p.1, numT p.2.1, "open"]) = some [("spout" : Str), numT p.1, numT p.2.1, "open"] := rfl
  have e4f : few ([("spout" : Str), numT p.1, numT p.2.1, "shut"]) = some [("spout" : Str), numT p.1, numT p.2.1, "shut"] := rfl
  simp only [tot_bnd, tot_ret, tot_zm, tot_nw, tot_rb, tot_fzL, tot_drL, tot_gtLS, tot_upLS, tot_lft, tot_gtL, tot_upL, tot_bif, tot_some, tot_rtF, ex_some, ex_someT, and_true, true_and, implies_true, few0, few1, few2, few3, tot_zmI, tot_wp, tot_psh, tot_pshL, tot_gtI, tot_upI, tot_bndX, tot_tryM, tot_tryO, tot_tryR, t1.st, t2.st, s_sp]
  have l2 : joinS (sg 32) ["spout", numT p.1, numT p.2.1, openT p.2.2] = some (spoT p) := line.2.2.1
  cases hq : p.2.2 with
  | true =>
    rw [hq] at l2
    simp only [true_implies, Bool.true_eq_false, false_implies, and_true, e4t, ex_some]
    exact ⟨_, l2, rfl⟩
  | false =>
    rw [hq] at l2
    simp only [true_implies, Bool.false_eq_true, false_implies, true_and, e4f, ex_some]
    exact ⟨_, l2, rfl⟩

end Law

namespace Law
open PySem L2 T
/-! nets written and read -/
theorem ves_f {k : Nat} {n m : Nat} {v : Vessel} (h : VesOk k n m v) (hn : n ≤ 90) (hm : m ≤ 90) : VesF v := by
  have a1 := h.size
  have a2 := h.size2
  have a3 := h.brim
  have a4 := h.brim2
  refine ⟨⟨by omega, by omega⟩, ⟨by omega, by omega⟩, fun o ho => ?_, h.outs3, h.outs1, fun t ht => ?_, fun a ha => ?_, h.acts3⟩
  · have := h.outs o ho
    refine ⟨fun t ht => ?_, by have := this.2.1; omega, by have := this.2.2; omega⟩
    have := this.1 t ht
    exact ⟨by omega, by omega⟩
  · have := h.spill t ht
    exact ⟨by omega, by omega⟩
  · have := h.acts a ha
    exact ⟨this.1, by have := this.2.1; omega, by have := this.2.2; omega⟩
theorem net_f {net : Net} (h : NetOk net) : (∀ v ∈ net.1, VesF v) ∧ ∀ p ∈ net.2, SpoF p := by
  refine ⟨fun v hv => ?_, fun p hp => ?_⟩
  · obtain ⟨k, hk⟩ := List.getElem?_of_mem hv
    exact ves_f (h.ves k v hk) h.n2 h.m2
  · have := h.spo p hp
    have := h.n2
    exact ⟨⟨by omega, by omega⟩, ⟨by omega, by omega⟩⟩
def netL (net : Net) : List Str := net.1.map vesT ++ net.2.map spoT
def netT (net : Net) : Str := PySem.Txt.join (sg 10) (netL net)
theorem vesT_f {v : Vessel} (h : VesF v) : (vesT v).length ≤ 238 ∧ 10 ∉ cl (vesT v) ∧ joinS (sg 32) (vesW v) = some (vesT v) ∧ splitS (vesT v) (sg 32) = some (vesW v) := line_f (ws := vesW v) (by show 7 ≤ 7; decide) (List.cons_ne_nil _ _) (vesW_f h)
theorem spoT_f {p : Spout} (h : SpoF p) : (spoT p).length ≤ 238 ∧ 10 ∉ cl (spoT p) ∧ joinS (sg 32) (spoW p) = some (spoT p) ∧ splitS (spoT p) (sg 32) = some (spoW p) := line_f (ws := spoW p) (by show 4 ≤ 7; decide) (List.cons_ne_nil _ _) (spoW_f h)
theorem netL_f {net : Net} (h : NetOk net) : (∀ y ∈ netL net, y.length ≤ 238 ∧ 10 ∉ cl y) ∧ netL net ≠ [] ∧ (netL net).length ≤ 180 ∧ joinS (sg 10) (netL net) = some (netT net) ∧ splitS (netT net) (sg 10) = some (netL net) := by
  obtain ⟨hv, hs⟩ := net_f h
  have n1 := h.n1
  have n2 := h.n2
  have m2 := h.m2
  have h1 : ∀ y ∈ netL net, y.length ≤ 238 ∧ 10 ∉ cl y := fun y hy => by
    rcases List.mem_append.mp hy with hy | hy
    · obtain ⟨v, hv2, rfl⟩ := List.mem_map.mp hy
      exact ⟨(vesT_f (hv v hv2)).1, (vesT_f (hv v hv2)).2.1⟩
    · obtain ⟨p, hp, rfl⟩ := List.mem_map.mp hy
      exact ⟨(spoT_f (hs p hp)).1, (spoT_f (hs p hp)).2.1⟩
  have hl : (netL net).length ≤ 180 := by unfold netL; rw [List.length_append, List.length_map, List.length_map]; omega
  have hn : netL net ≠ [] := fun e => by
    have := congrArg List.length e
    unfold netL at this
    rw [List.length_append, List.length_map, List.length_map, List.length_nil] at this
    omega
  obtain ⟨a, b⟩ := jn_len (c := 10) (fun y hy => (h1 y hy).1) hl
  exact ⟨h1, hn, hl, b (by decide), split_ok hn (fun y hy => (h1 y hy).2) (by omega)⟩
theorem net_text_ok {net : Net} (h : NetOk net) : m_net_text net = some (netT net) := by
  obtain ⟨hv, hs⟩ := net_f h
  obtain ⟨l1, l2, l3, l4, l5⟩ := netL_f h
  have n2 := h.n2
  have m2 := h.m2
  unfold m_net_text
  rw [tot_rn]
  simp only [tot_bnd, tot_ret, tot_zm, tot_nw, tot_rb, tot_fzL, tot_drL, tot_gtLS, tot_upLS, tot_lft, tot_gtL, tot_upL, tot_some, tot_rtF, ex_some, ex_someT, and_true, true_and, implies_true, few0, few1, few2, few3, tot_zmI, tot_wp, tot_psh, tot_pshL, tot_gtI, tot_upI, tot_bndX, tot_tryM, tot_tryO, tot_tryR, s_nl, chk_ok (show net.1.length < lim by show _ < 1000000; omega), chk_ok (show net.2.length < lim by show _ < 1000000; omega)]
  refine tot_mp_fn vesT (fun v hv2 s => by simp only [tot_bnd, tot_ret, tot_zm, tot_nw, tot_rb, tot_fzL, tot_drL, tot_gtLS, tot_upLS, tot_lft, tot_gtL, tot_upL, tot_bif, tot_some, tot_rtF, ex_some, ex_someT, and_true, true_and, implies_true, few0, few1, few2, few3, tot_zmI, tot_wp, tot_psh, tot_pshL, tot_gtI, tot_upI, tot_bndX, tot_tryM, tot_tryO, tot_tryR, ves_text (hv v hv2)]) ?_
  refine tot_mp_fn spoT (fun p hp s => by simp only [tot_bnd, tot_ret, tot_zm, tot_nw, tot_rb, tot_fzL, tot_drL, tot_gtLS, tot_upLS, tot_lft, tot_gtL, tot_upL, tot_bif, tot_some, tot_rtF, ex_some, ex_someT, and_true, true_and, implies_true, few0, few1, few2, few3, tot_zmI, tot_wp, tot_psh, tot_pshL, tot_gtI, tot_upI, tot_bndX, tot_tryM, tot_tryO, tot_tryR, spo_text (hs p hp)]) ?_
  have lc : catL (net.1.map vesT) (net.2.map spoT) = some (netL net) := catL_ok (by rw [List.length_map, List.length_map]; show _ < 1000000; omega)
  simp only [tot_bnd, tot_ret, tot_zm, tot_nw, tot_rb, tot_fzL, tot_drL, tot_gtLS, tot_upLS, tot_lft, tot_gtL, tot_upL, tot_bif, tot_some, tot_rtF, ex_some, ex_someT, and_true, true_and, implies_true, few0, few1, few2, few3, tot_zmI, tot_wp, tot_psh, tot_pshL, tot_gtI, tot_upI, tot_bndX, tot_tryM, tot_tryO, tot_tryR, lc, l4]

end Law

namespace Law
open PySem L2 T
/-! the law's own text; nets read -/
theorem holdT_at (b : Bool) : atI [("loses" : Str), "holds"] (intB b) = some (holdT b) ∧ atI [("shut" : Str), "open"] (intB b) = some (openT b) := by cases b <;> exact ⟨rfl, rfl⟩
theorem de_actE : ∀ xs : List Act, (∀ a ∈ xs, ActF a) → ∃ b, eqD ((dTup dAct).d xs) ((dTup dAct).d []) = some b ∧ (b = true ↔ xs = []) := by
  intro xs h
  have hs : ∀ a ∈ xs, PySem.PyData.strOk a.1 = true := fun a ha => by
    have hw : PySem.PyData.strOk "open" = true ∧ PySem.PyData.strOk "shut" = true ∧ PySem.PyData.strOk "turn" = true := by decide +kernel
    rcases (h a ha).w with e | e | e <;> rw [e]
    · exact hw.1
    · exact hw.2.1
    · exact hw.2.2
  have dl : DL (dTup dAct) 3 (fun xs => ∀ a ∈ xs, PySem.PyData.strOk a.1 = true ∧ True) := dl_tup (dl_th (dla_c dl_str (dla_one de_int.dl)))
  cases xs with
  | nil => exact ⟨true, eqL_refl dl (by decide) (fun a ha => nomatch ha), by simp⟩
  | cons x xs => exact ⟨false, eqL_diff dl dl (by decide) (fun a ha => ⟨hs a ha, trivial⟩) (fun a ha => nomatch ha) (by show PySem.PyData.eqv (.tuple (_ :: _)) (.tuple []) = false; rw [PySem.PyData.eqv]; rfl), by simp⟩
theorem law_text_ok {net : Net} (h : NetOk net) : m_law_text net = some (netT net) := by
  obtain ⟨hv, hs⟩ := net_f h
  obtain ⟨l1, l2, l3, l4, l5⟩ := netL_f h
  have n2 := h.n2
  have m2 := h.m2
  unfold m_law_text
  rw [tot_rn]
  simp only [tot_bnd, tot_ret, tot_zm, tot_nw, tot_rb, tot_fzL, tot_drL, tot_gtLS, tot_upLS, tot_lft, tot_gtL, tot_upL, tot_some, tot_rtF, ex_some, ex_someT, and_true, true_and, implies_true, few0, few1, few2, few3, tot_zmI, tot_wp, tot_psh, tot_pshL, tot_gtI, tot_upI, tot_bndX, tot_tryM, tot_tryO, tot_tryR, few0]
  refine tot_fd (fun pre _ s => s = ((), pre.map vesT)) rfl ?_ ?_
  · rintro pre v post z s ep rfl
    have hf := hv v (by rw [ep]; simp)
    have hl := congrArg List.length ep
    rw [List.length_append, List.length_cons] at hl
    have t1 := num_f hf.s
    have t2 := num_f hf.b
    have fo := (outs_f hf.o hf.ol).2.2
    have fa := (acts_f hf.a hf.al).2.2
    have ol := hf.ol
    have al := hf.al
    refine tot_cut (fun w => w = ([("vessel" : Str), numT v.1, numT v.2.1, outsT v.2.2.1], ((), pre.map vesT))) ?_ fun x s e => ?_
    · simp only [tot_bnd, tot_ret, tot_zm, tot_nw, tot_rb, tot_fzL, tot_drL, tot_gtLS, tot_upLS, tot_lft, tot_gtL, tot_upL, tot_bif, tot_some, tot_rtF, ex_some, ex_someT, and_true, true_and, implies_true, few0, few1, few2, few3, tot_zmI, tot_wp, tot_psh, tot_pshL, tot_gtI, tot_upI, tot_bndX, tot_tryM, tot_tryO, tot_tryR, t1.st, t2.st, s_comma, s_star, chk_ok (show v.2.2.1.length < lim by show _ < 1000000; omega)]
      refine tot_mp_fn outT (fun o ho s => ?_) ?_
      · simp only [tot_bnd, tot_ret, tot_zm, tot_nw, tot_rb, tot_fzL, tot_drL, tot_gtLS, tot_upLS, tot_lft, tot_gtL, tot_upL, tot_bif, tot_some, tot_rtF, ex_some, ex_someT, and_true, true_and, implies_true, few0, few1, few2, few3, tot_zmI, tot_wp, tot_psh, tot_pshL, tot_gtI, tot_upI, tot_bndX, tot_tryM, tot_tryO, tot_tryR, (tg_goal (hf.o o ho).t).1, (outT_ok (hf.o o ho)).1, (num_f (hf.o o ho).n).st, (outT_ok (hf.o o ho)).2]
      · exact ⟨_, fo, _, rfl, rfl⟩
    cases e
    rw [tot_nw]
    refine tot_cut (fun w => w = ([("vessel" : Str), numT v.1, numT v.2.1, outsT v.2.2.1, holdT v.2.2.2.1, tgT v.2.2.2.2.1], (((), pre.map vesT), [("vessel" : Str), numT v.1, numT v.2.1, outsT v.2.2.1]))) ?_ fun x s e => ?_
    · simp only [tot_bnd, tot_ret, tot_zm, tot_nw, tot_rb, tot_fzL, tot_drL, tot_gtLS, tot_upLS, tot_lft, tot_gtL, tot_upL, tot_bif, tot_some, tot_rtF, ex_some, ex_someT, and_true, true_and, implies_true, few0, few1, few2, few3, tot_zmI, tot_wp, tot_psh, tot_pshL, tot_gtI, tot_upI, tot_bndX, tot_tryM, tot_tryO, tot_tryR, few2, (holdT_at v.2.2.2.1).1, (tg_goal hf.t).1, few1]
      exact ⟨_, rfl, rfl⟩
    cases e
    rw [tot_rb]
    refine tot_cut (fun w => w = (PySem.Txt.join (sg 44) (v.2.2.2.2.2.map actT), (((), pre.map vesT), [("vessel" : Str), numT v.1, numT v.2.1, outsT v.2.2.1, holdT v.2.2.2.1, tgT v.2.2.2.2.1]))) ?_ fun x s e => ?_
    · simp only [tot_bnd, tot_ret, tot_zm, tot_nw, tot_rb, tot_fzL, tot_drL, tot_gtLS, tot_upLS, tot_lft, tot_gtL, tot_upL, tot_bif, tot_some, tot_rtF, ex_some, ex_someT, and_true, true_and, implies_true, few0, few1, few2, few3, tot_zmI, tot_wp, tot_psh, tot_pshL, tot_gtI, tot_upI, tot_bndX, tot_tryM, tot_tryO, tot_tryR, s_comma, s_dot, chk_ok (show v.2.2.2.2.2.length < lim by show _ < 1000000; omega)]
      refine tot_mp_fn actT (fun a ha s => ?_) ⟨_, fa, rfl⟩
      simp only [tot_bnd, tot_ret, tot_zm, tot_nw, tot_rb, tot_fzL, tot_drL, tot_gtLS, tot_upLS, tot_lft, tot_gtL, tot_upL, tot_bif, tot_some, tot_rtF, ex_some, ex_someT, and_true, true_and, implies_true, few0, few1, few2, few3, tot_zmI, tot_wp, tot_psh, tot_pshL, tot_gtI, tot_upI, tot_bndX, tot_tryM, tot_tryO, tot_tryR, (actT_ok (hf.a a ha)).1, (num_f (hf.a a ha).n).st, (actT_ok (hf.a a ha)).2]
    cases e
    refine tot_cut (fun w => w.2 = (((), pre.map vesT), [("vessel" : Str), numT v.1, numT v.2.1, outsT v.2.2.1, holdT v.2.2.2.1, tgT v.2.2.2.2.1, PySem.Txt.join (sg 44) (v.2.2.2.2.2.map actT)])) ?_ fun x s e => ?_
    · simp only [tot_bnd, tot_ret, tot_zm, tot_nw, tot_rb, tot_fzL, tot_drL, tot_gtLS, tot_upLS, tot_lft, tot_gtL, tot_upL, tot_bif, tot_some, tot_rtF, ex_some, ex_someT, and_true, true_and, implies_true, few0, few1, few2, few3, tot_zmI, tot_wp, tot_psh, tot_pshL, tot_gtI, tot_upI, tot_bndX, tot_tryM, tot_tryO, tot_tryR]
      exact ⟨_, T.app_ok (show 6 < 1000000 by decide), rfl⟩
    dsimp only at e; subst e
    obtain ⟨b, eb, hb⟩ := de_actE v.2.2.2.2.2 hf.a
    refine tot_cut (fun w => w.2 = (((), pre.map vesT), vesW v)) ?_ fun x s e => ?_
    · simp only [tot_bnd, tot_ret, tot_zm, tot_nw, tot_rb, tot_fzL, tot_drL, tot_gtLS, tot_upLS, tot_lft, tot_gtL, tot_upL, tot_bif, tot_some, tot_rtF, ex_some, ex_someT, and_true, true_and, implies_true, few0, few1, few2, few3, tot_zmI, tot_wp, tot_psh, tot_pshL, tot_gtI, tot_upI, tot_bndX, tot_tryM, tot_tryO, tot_tryR, few0, eb]
      refine ⟨fun c => ?_, fun c => ?_⟩
      · have c2 := hb.mp c
        refine ⟨_, show setI _ (-1) _ = some _ from rfl, ?_⟩
        unfold vesW actsT
        rw [if_pos c2]; rfl
      · have c2 : v.2.2.2.2.2 ≠ [] := fun q => by rw [hb.mpr q] at c; cases c
        unfold vesW actsT
        rw [if_neg c2]
    dsimp only at e; subst e
    rw [tot_fzL]
    simp only [tot_bnd, tot_ret, tot_zm, tot_nw, tot_rb, tot_fzL, tot_drL, tot_gtLS, tot_upLS, tot_lft, tot_gtL, tot_upL, tot_bif, tot_some, tot_rtF, ex_some, ex_someT, and_true, true_and, implies_true, few0, few1, few2, few3, tot_zmI, tot_wp, tot_psh, tot_pshL, tot_gtI, tot_upI, tot_bndX, tot_tryM, tot_tryO, tot_tryR, s_sp, (vesT_f hf).2.2.1]
    refine ⟨_, T.app_ok (show (pre.map vesT).length < 1000000 by rw [List.length_map]; omega), ?_⟩
    rw [List.map_append]; rfl
  · rintro z s rfl
    simp only [tot_bnd, tot_ret, tot_zm, tot_nw, tot_rb, tot_fzL, tot_drL, tot_gtLS, tot_upLS, tot_lft, tot_gtL, tot_upL, tot_some, tot_rtF, ex_some, ex_someT, and_true, true_and, implies_true, few0, few1, few2, few3, tot_zmI, tot_wp, tot_psh, tot_pshL, tot_gtI, tot_upI, tot_bndX, tot_tryM, tot_tryO, tot_tryR]
    refine tot_fd (fun pre _ s => s = ((), net.1.map vesT ++ pre.map spoT)) (by simp) ?_ ?_
    · rintro pre p post z s ep rfl
      have hf := hs p (by rw [ep]; simp)
      have hl := congrArg List.length ep
      rw [List.length_append, List.length_cons] at hl
      have t1 := num_f hf.t
      have t2 := num_f hf.f
      have e4 : few ([("spout" : Str), numT p.1, numT p.2.1, openT p.2.2]) = some (spoW p) := rfl
      simp only [tot_bnd, tot_ret, tot_zm, tot_nw, tot_rb, tot_fzL, tot_drL, tot_gtLS, tot_upLS, tot_lft, tot_gtL, tot_upL, tot_bif, tot_some, tot_rtF, ex_some, ex_someT, and_true, true_and, implies_true, few0, few1, few2, few3, tot_zmI, tot_wp, tot_psh, tot_pshL, tot_gtI, tot_upI, tot_bndX, tot_tryM, tot_tryO, tot_tryR, s_sp, t1.st, t2.st, few2, (holdT_at p.2.2).2, e4, (spoT_f hf).2.2.1]
      refine ⟨_, T.app_ok (show (net.1.map vesT ++ pre.map spoT).length < 1000000 by rw [List.length_append, List.length_map, List.length_map]; omega), ?_⟩
      rw [List.map_append, List.append_assoc]; rfl
    · rintro z s rfl
      simp only [tot_bnd, tot_ret, tot_zm, tot_nw, tot_rb, tot_fzL, tot_drL, tot_gtLS, tot_upLS, tot_lft, tot_gtL, tot_upL, tot_bif, tot_some, tot_rtF, ex_some, ex_someT, and_true, true_and, implies_true, few0, few1, few2, few3, tot_zmI, tot_wp, tot_psh, tot_pshL, tot_gtI, tot_upI, tot_bndX, tot_tryM, tot_tryO, tot_tryR, s_nl]
      exact ⟨_, l4, rfl⟩

end Law

namespace Law
open PySem L2 T
/-! nets read -/
abbrev PNet := List PVes × List PSpo
def emN (net : Net) : PNet := (net.1.map emV, net.2.map emS)
theorem loop_read {net : Net} (h : NetOk net) {f : Unit → Str → (Unit × List PVes) × List PSpo → Option (Fl (Unit × ((Unit × List PVes) × List PSpo)) ((PNet ⊕ Str) × Unit))}
    (hv : ∀ v, VesF v → ∀ V S, V.length < 1000 → Tot (f () (vesT v)) (((), V), S) (fun r => r = .nx ((), (((), V ++ [emV v]), S))))
    (hs : ∀ p, SpoF p → ∀ V S, S.length < 1000 → Tot (f () (spoT p)) (((), V), S) (fun r => r = .nx ((), (((), V), S ++ [emS p])))) {Q : Fl (Unit × ((Unit × List PVes) × List PSpo)) ((PNet ⊕ Str) × Unit) → Prop}
    (q : Q (.nx ((), (((), net.1.map emV), net.2.map emS)))) : Tot (fdE f () (netL net)) (((), []), []) Q := by
  obtain ⟨fv, fs⟩ := net_f h
  have n2 := h.n2
  have m2 := h.m2
  have k2 : ∀ (ps : List Spout), (∀ p ∈ ps, SpoF p) → ∀ V S, S.length + ps.length < 1000 → ∀ Q : Fl (Unit × ((Unit × List PVes) × List PSpo)) ((PNet ⊕ Str) × Unit) → Prop, Q (.nx ((), (((), V), S ++ ps.map emS))) → Tot (fdE f () (ps.map spoT)) (((), V), S) Q := by
    intro ps
    induction ps with
    | nil => intro _ V S _ Q q; rw [List.map_nil, List.append_nil] at q; exact tot_fdE0.mpr q
    | cons p ps ih =>
      intro hp V S hl Q q
      rw [List.length_cons] at hl
      rw [List.map_cons, tot_fdEc]
      refine (hs p (hp p List.mem_cons_self) V S (by omega)).mono fun r e => ?_
      subst e
      refine ih (fun x hx => hp x (List.mem_cons_of_mem _ hx)) V _ (by rw [List.length_append, List.length_singleton]; omega) Q ?_
      rw [List.append_assoc]; exact q
  have k1 : ∀ (vs : List Vessel), (∀ v ∈ vs, VesF v) → ∀ V, V.length + vs.length < 1000 → ∀ Q : Fl (Unit × ((Unit × List PVes) × List PSpo)) ((PNet ⊕ Str) × Unit) → Prop, Tot (fdE f () (net.2.map spoT)) (((), V ++ vs.map emV), []) Q → Tot (fdE f () (vs.map vesT ++ net.2.map spoT)) (((), V), []) Q := by
    intro vs
    induction vs with
    | nil => intro _ V _ Q q; rw [List.map_nil, List.append_nil] at q; exact q
    | cons v vs ih =>
      intro hp V hl Q q
      rw [List.length_cons] at hl
      rw [List.map_cons, List.cons_append, tot_fdEc]
      refine (hv v (hp v List.mem_cons_self) V [] (by omega)).mono fun r e => ?_
      subst e
      refine ih (fun x hx => hp x (List.mem_cons_of_mem _ hx)) _ (by rw [List.length_append, List.length_singleton]; omega) Q ?_
      rw [List.append_assoc]; exact q
  refine k1 net.1 fv [] (by simp; omega) Q ?_
  refine k2 net.2 fs _ [] (by simp; omega) Q ?_
  exact q
theorem conv_back (net : Net) : (coC (coM (coC (coB (coI : Int → Option Int)) (coC (coB (coI : Int → Option Int)) (coC (coM (coC (coO (coE (coI : Int → Option Int) (coN : Str → Option Int))) (coB (coI : Int → Option Int)))) (coC (coI : Bool → Option Bool) (coC (coO (coE (coI : Int → Option Int) (coN : Str → Option Int))) (coM (coC (coI : Str → Option Str) (coB (coI : Int → Option Int)))))))))) (coM (coC (coB (coI : Int → Option Int)) (coC (coB (coI : Int → Option Int)) (coI : Bool → Option Bool)))) : PNet → Option Net) (emN net) = some net := by
  have mk : ∀ {α β : Type} {f : β → Option α} {g : α → β} (xs : List α), (∀ x, f (g x) = some x) → coM f (xs.map g) = some xs := by
    intro α β f g xs h
    induction xs with
    | nil => rfl
    | cons x xs ih =>
      show (f (g x)).bind (fun y => (mapO f (xs.map g)).map fun ys => y :: ys) = _
      rw [h x, show mapO f (xs.map g) = some xs from ih]; rfl
  have tg : ∀ t : Option Int, coO (coE (coI : Int → Option Int) (coN : Str → Option Int)) (t.map Sum.inl) = some t := fun t => by cases t <;> rfl
  obtain ⟨vs, ps⟩ := net
  unfold emN coC
  dsimp only
  rw [mk vs, mk ps]
  · rfl
  · rintro ⟨a, b, c⟩; rfl
  · rintro ⟨a, b, os, hd, t, as⟩
    show (some a).bind (fun x => (((some b).bind fun y => ((coM _ (os.map _)).bind fun z => ((some hd).bind fun u => ((coO _ (t.map Sum.inl)).bind fun w => (coM _ (as.map _)).map fun q => (w, q)).map fun q => (u, q)).map fun q => (z, q)).map fun q => (y, q))).map fun q => (x, q)) = _
    rw [mk os, mk as, tg t]
    · rfl
    · rintro ⟨w, n⟩; rfl
    · rintro ⟨o, n⟩
      show (coO _ (o.map Sum.inl)).bind (fun x => (some n).map fun q => (x, q)) = _
      rw [tg o]; rfl

end Law

namespace Law
open PySem L2 T
theorem read_net_ok {net : Net} (h : NetOk net) (h1 : net.1.length ≤ 12) (h2 : net.2.length ≤ 12) : m_read_net (netT net) = some (.inl (emN net)) := by
  obtain ⟨l1, l2, l3, l4, l5⟩ := netL_f h
  have n2 := h.n2
  have m2 := h.m2
  unfold m_read_net
  rw [tot_rn]
  refine tot_cut (fun w => w = (false, ())) (by simp only [tot_bnd, tot_ret, tot_zm, tot_nw, tot_rb, tot_fzL, tot_drL, tot_gtLS, tot_upLS, tot_lft, tot_gtL, tot_upL, tot_bif, tot_some, tot_rtF, ex_some, ex_someT, and_true, true_and, implies_true, few0, few1, few2, few3, tot_zmI, tot_wp, tot_psh, tot_pshL, tot_gtI, tot_upI, tot_bndX, tot_tryM, tot_tryO, tot_tryR]; rfl) fun b s e => ?_
  cases e
  rw [tot_bif]
  refine ⟨fun e => (nomatch e), fun _ => ?_⟩
  simp only [tot_bnd, tot_ret, tot_zm, tot_nw, tot_rb, tot_fzL, tot_drL, tot_gtLS, tot_upLS, tot_lft, tot_gtL, tot_upL, tot_some, tot_rtF, ex_some, ex_someT, and_true, true_and, implies_true, few0, few1, few2, few3, tot_zmI, tot_wp, tot_psh, tot_pshL, tot_gtI, tot_upI, tot_bndX, tot_tryM, tot_tryO, tot_tryR, few0, s_nl, l5]
  rw [tot_fthn]
  refine loop_read h ?_ ?_ ?_
  · intro v hv V S hV
    have f := vesT_f hv
    have a0 : atI (vesW v) 0 = some ("vessel" : Str) := T.atI_nat (k := 0) rfl
    have ec : cutV' (vesW v) (some 1) none = (vesW v).tail := by rfl
    refine tot_cut (fun w => w = (vesW v, (((), V), S))) (by simp only [tot_bnd, tot_ret, tot_zm, tot_nw, tot_rb, tot_fzL, tot_drL, tot_gtLS, tot_upLS, tot_lft, tot_gtL, tot_upL, tot_bif, tot_some, tot_rtF, ex_some, ex_someT, and_true, true_and, implies_true, few0, few1, few2, few3, tot_zmI, tot_wp, tot_psh, tot_pshL, tot_gtI, tot_upI, tot_bndX, tot_tryM, tot_tryO, tot_tryR, s_sp, f.2.2.2]) fun x s e => ?_
    cases e
    rw [tot_fthnF]
    simp only [tot_bnd, tot_ret, tot_zm, tot_nw, tot_rb, tot_fzL, tot_drL, tot_gtLS, tot_upLS, tot_lft, tot_gtL, tot_upL, tot_bif, tot_some, tot_rtF, ex_some, ex_someT, and_true, true_and, implies_true, few0, few1, few2, few3, tot_zmI, tot_wp, tot_psh, tot_pshL, tot_gtI, tot_upI, tot_bndX, tot_tryM, tot_tryO, tot_tryR, a0, decide_true, true_implies, Bool.true_eq_false, false_implies, and_true, ec]
    exact ⟨_, read_ves hv, _, T.app_ok (show V.length < 1000000 by omega), rfl⟩
  · intro p hp V S hS
    have f := spoT_f hp
    have a0 : atI (spoW p) 0 = some ("spout" : Str) := T.atI_nat (k := 0) rfl
    have ec : cutV' (spoW p) (some 1) none = (spoW p).tail := by rfl
    have ne : decide (("spout" : Str) = "vessel") = false := by decide +kernel
    refine tot_cut (fun w => w = (spoW p, (((), V), S))) (by simp only [tot_bnd, tot_ret, tot_zm, tot_nw, tot_rb, tot_fzL, tot_drL, tot_gtLS, tot_upLS, tot_lft, tot_gtL, tot_upL, tot_bif, tot_some, tot_rtF, ex_some, ex_someT, and_true, true_and, implies_true, few0, few1, few2, few3, tot_zmI, tot_wp, tot_psh, tot_pshL, tot_gtI, tot_upI, tot_bndX, tot_tryM, tot_tryO, tot_tryR, s_sp, f.2.2.2]) fun x s e => ?_
    cases e
    rw [tot_fthnF]
    simp only [tot_bnd, tot_ret, tot_zm, tot_nw, tot_rb, tot_fzL, tot_drL, tot_gtLS, tot_upLS, tot_lft, tot_gtL, tot_upL, tot_bif, tot_some, tot_rtF, ex_some, ex_someT, and_true, true_and, implies_true, few0, few1, few2, few3, tot_zmI, tot_wp, tot_psh, tot_pshL, tot_gtI, tot_upI, tot_bndX, tot_tryM, tot_tryO, tot_tryR, a0, ne, true_implies, Bool.false_eq_true, false_implies, true_and, ec]
    rw [tot_fthnF]
    simp only [tot_bnd, tot_ret, tot_zm, tot_nw, tot_rb, tot_fzL, tot_drL, tot_gtLS, tot_upLS, tot_lft, tot_gtL, tot_upL, tot_bif, tot_some, tot_rtF, ex_some, ex_someT, and_true, true_and, implies_true, few0, few1, few2, few3, tot_zmI, tot_wp, tot_psh, tot_pshL, tot_gtI, tot_upI, tot_bndX, tot_tryM, tot_tryO, tot_tryR, a0, decide_true, true_implies, Bool.true_eq_false, false_implies, and_true, ec]
    exact ⟨_, read_spo hp, _, T.app_ok (show S.length < 1000000 by omega), rfl⟩
  · dsimp only
    refine tot_cut (fun w => w.1 = emN net) (by simp only [tot_bnd, tot_ret, tot_zm, tot_nw, tot_rb, tot_fzL, tot_drL, tot_gtLS, tot_upLS, tot_lft, tot_gtL, tot_upL, tot_bif, tot_some, tot_rtF, ex_some, ex_someT, and_true, true_and, implies_true, few0, few1, few2, few3, tot_zmI, tot_wp, tot_psh, tot_pshL, tot_gtI, tot_upI, tot_bndX, tot_tryM, tot_tryO, tot_tryR]; rfl) fun x s e => ?_
    dsimp only at e; subst e
    simp only [tot_bnd, tot_ret, tot_zm, tot_nw, tot_rb, tot_fzL, tot_drL, tot_gtLS, tot_upLS, tot_lft, tot_gtL, tot_upL, tot_bif, tot_some, tot_rtF, ex_some, ex_someT, and_true, true_and, implies_true, few0, few1, few2, few3, tot_zmI, tot_wp, tot_psh, tot_pshL, tot_gtI, tot_upI, tot_bndX, tot_tryM, tot_tryO, tot_tryR, conv_back, is_net_ok h h1 h2, net_text_ok h]
    simp

end Law

namespace Law
open PySem L2 T
/-! the law's own look at a net -/
theorem law_whole_ok {x lo hi : Int} (h : lo ≤ x) (h2 : x ≤ hi) : m_law_whole x lo hi = some true := by
  unfold m_law_whole
  rw [tot_rn]
  simp [tot_bnd, tot_ret, tot_zm, tot_nw, tot_rb, tot_fzL, tot_drL, tot_gtLS, tot_upLS, tot_lft, tot_gtL, tot_upL, tot_bif, tot_some, tot_rtF, ex_some, ex_someT, and_true, true_and, implies_true, few0, few1, few2, few3, tot_zmI, tot_wp, tot_psh, tot_pshL, tot_gtI, tot_upI, tot_bndX, tot_tryM, tot_tryO, tot_tryR, h, h2]
theorem tot_fdE_skip {S ρ α : Type} {f : Unit → α → S → Option (Fl (Unit × S) ρ)} {xs : List α} {s : S} {Q : Fl (Unit × S) ρ → Prop} (h : ∀ x ∈ xs, Tot (f () x) s (fun r => r = .nx ((), s))) (q : Q (.nx ((), s))) : Tot (fdE f () xs) s Q := by
  induction xs with
  | nil => exact tot_fdE0.mpr q
  | cons x xs ih =>
    rw [tot_fdEc]
    refine (h x List.mem_cons_self).mono fun r e => ?_
    subst e
    exact ih fun y hy => h y (List.mem_cons_of_mem _ hy)
theorem law_ves_ok {k n m : Nat} {v : Vessel} (h : VesOk k n m v) : m_law_is_vessel v (k : Int) (n : Int) (m : Int) = some true := by
  have a1 := h.size
  have a2 := h.size2
  have a3 := h.brim
  have a4 := h.brim2
  have o1 := h.outs1
  have o3 := h.outs3
  have c3 := h.acts3
  unfold m_law_is_vessel
  rw [tot_rn]
  refine tot_cut (fun w => w = (false, ())) (by simp [tot_bnd, tot_ret, tot_zm, tot_nw, tot_rb, tot_fzL, tot_drL, tot_gtLS, tot_upLS, tot_lft, tot_gtL, tot_upL, tot_bif, tot_some, tot_rtF, ex_some, ex_someT, and_true, true_and, implies_true, few0, few1, few2, few3, tot_zmI, tot_wp, tot_psh, tot_pshL, tot_gtI, tot_upI, tot_bndX, tot_tryM, tot_tryO, tot_tryR, law_whole_ok a1 a2, law_whole_ok a3 a4]; try (first | omega | exact ⟨fun _ => by omega, by omega⟩)) fun b s e => ?_
  cases e
  rw [tot_bif]
  refine ⟨fun e => (nomatch e), fun _ => ?_⟩
  refine tot_cut (fun w => w = (false, ())) (by simp [tot_bnd, tot_ret, tot_zm, tot_nw, tot_rb, tot_fzL, tot_drL, tot_gtLS, tot_upLS, tot_lft, tot_gtL, tot_upL, tot_bif, tot_some, tot_rtF, ex_some, ex_someT, and_true, true_and, implies_true, few0, few1, few2, few3, tot_zmI, tot_wp, tot_psh, tot_pshL, tot_gtI, tot_upI, tot_bndX, tot_tryM, tot_tryO, tot_tryR, law_whole_ok a1 a2, law_whole_ok a3 a4]; try (first | omega | exact ⟨fun _ => by omega, by omega⟩)) fun b s e => ?_
  cases e
  rw [tot_bif]
  refine ⟨fun e => (nomatch e), fun _ => ?_⟩
  refine tot_cut (fun w => w = (false, ())) (by simp [tot_bnd, tot_ret, tot_zm, tot_nw, tot_rb, tot_fzL, tot_drL, tot_gtLS, tot_upLS, tot_lft, tot_gtL, tot_upL, tot_bif, tot_some, tot_rtF, ex_some, ex_someT, and_true, true_and, implies_true, few0, few1, few2, few3, tot_zmI, tot_wp, tot_psh, tot_pshL, tot_gtI, tot_upI, tot_bndX, tot_tryM, tot_tryO, tot_tryR, law_whole_ok a1 a2, law_whole_ok a3 a4]; try (first | omega | exact ⟨fun _ => by omega, by omega⟩)) fun b s e => ?_
  cases e
  rw [tot_bif]
  refine ⟨fun e => (nomatch e), fun _ => ?_⟩
  refine tot_cut (fun w => w = (false, ())) (by simp [tot_bnd, tot_ret, tot_zm, tot_nw, tot_rb, tot_fzL, tot_drL, tot_gtLS, tot_upLS, tot_lft, tot_gtL, tot_upL, tot_bif, tot_some, tot_rtF, ex_some, ex_someT, and_true, true_and, implies_true, few0, few1, few2, few3, tot_zmI, tot_wp, tot_psh, tot_pshL, tot_gtI, tot_upI, tot_bndX, tot_tryM, tot_tryO, tot_tryR, law_whole_ok a1 a2, law_whole_ok a3 a4]; try (first | omega | exact ⟨fun _ => by omega, by omega⟩)) fun b s e => ?_
  cases e
  rw [tot_bif]
  refine ⟨fun e => (nomatch e), fun _ => ?_⟩
  have lc : catL (v.2.2.1.map (Sum.inl : Out → Out ⊕ Act)) (v.2.2.2.2.2.map Sum.inr) = some (v.2.2.1.map Sum.inl ++ v.2.2.2.2.2.map Sum.inr) := catL_ok (by rw [List.length_map, List.length_map]; show _ < 1000000; omega)
  simp only [tot_bnd, tot_ret, tot_zm, tot_nw, tot_rb, tot_fzL, tot_drL, tot_gtLS, tot_upLS, tot_lft, tot_gtL, tot_upL, tot_some, tot_rtF, ex_some, ex_someT, and_true, true_and, implies_true, few0, few1, few2, few3, tot_zmI, tot_wp, tot_psh, tot_pshL, tot_gtI, tot_upI, tot_bndX, tot_tryM, tot_tryO, tot_tryR, lc]
  rw [tot_fthn]
  refine tot_fdE_skip (fun x _ => ?_) ?_
  · refine tot_cut (fun w => w = (false, ())) ?_ fun b s e => ?_
    · cases x <;> simp [tot_bnd, tot_ret, tot_zm, tot_nw, tot_rb, tot_fzL, tot_drL, tot_gtLS, tot_upLS, tot_lft, tot_gtL, tot_upL, tot_bif, tot_some, tot_rtF, ex_some, ex_someT, and_true, true_and, implies_true, few0, few1, few2, few3, tot_zmI, tot_wp, tot_psh, tot_pshL, tot_gtI, tot_upI, tot_bndX, tot_tryM, tot_tryO, tot_tryR]
    cases e
    rw [tot_bif]
    exact ⟨fun e => (nomatch e), fun _ => by simp only [tot_bnd, tot_ret, tot_zm, tot_nw, tot_rb, tot_fzL, tot_drL, tot_gtLS, tot_upLS, tot_lft, tot_gtL, tot_upL, tot_bif, tot_some, tot_rtF, ex_some, ex_someT, and_true, true_and, implies_true, few0, few1, few2, few3, tot_zmI, tot_wp, tot_psh, tot_pshL, tot_gtI, tot_upI, tot_bndX, tot_tryM, tot_tryO, tot_tryR]⟩
  dsimp only
  simp only [tot_bnd, tot_ret, tot_zm, tot_nw, tot_rb, tot_fzL, tot_drL, tot_gtLS, tot_upLS, tot_lft, tot_gtL, tot_upL, tot_some, tot_rtF, ex_some, ex_someT, and_true, true_and, implies_true, few0, few1, few2, few3, tot_zmI, tot_wp, tot_psh, tot_pshL, tot_gtI, tot_upI, tot_bndX, tot_tryM, tot_tryO, tot_tryR]
  rw [tot_fthn]
  refine tot_fdE_skip (fun o ho => ?_) ?_
  · have q := h.outs o ho
    have w1 := law_whole_ok q.2.1 q.2.2
    refine tot_cut (fun w => w = (false, ())) ?_ fun b s e => ?_
    · obtain ⟨t, pn⟩ := o
      cases t with
      | none => simp [tot_bnd, tot_ret, tot_zm, tot_nw, tot_rb, tot_fzL, tot_drL, tot_gtLS, tot_upLS, tot_lft, tot_gtL, tot_upL, tot_bif, tot_some, tot_rtF, ex_some, ex_someT, and_true, true_and, implies_true, few0, few1, few2, few3, tot_zmI, tot_wp, tot_psh, tot_pshL, tot_gtI, tot_upI, tot_bndX, tot_tryM, tot_tryO, tot_tryR, w1]
      | some t =>
        have w2 := law_whole_ok (x := t) (lo := 0) (hi := (n : Int) - 1) (q.1 t rfl).1 (by have := (q.1 t rfl).2; omega)
        simp [tot_bnd, tot_ret, tot_zm, tot_nw, tot_rb, tot_fzL, tot_drL, tot_gtLS, tot_upLS, tot_lft, tot_gtL, tot_upL, tot_bif, tot_some, tot_rtF, ex_some, ex_someT, and_true, true_and, implies_true, few0, few1, few2, few3, tot_zmI, tot_wp, tot_psh, tot_pshL, tot_gtI, tot_upI, tot_bndX, tot_tryM, tot_tryO, tot_tryR, w1, w2]
    cases e
    rw [tot_bif]
    exact ⟨fun e => (nomatch e), fun _ => by simp only [tot_bnd, tot_ret, tot_zm, tot_nw, tot_rb, tot_fzL, tot_drL, tot_gtLS, tot_upLS, tot_lft, tot_gtL, tot_upL, tot_bif, tot_some, tot_rtF, ex_some, ex_someT, and_true, true_and, implies_true, few0, few1, few2, few3, tot_zmI, tot_wp, tot_psh, tot_pshL, tot_gtI, tot_upI, tot_bndX, tot_tryM, tot_tryO, tot_tryR]⟩
  dsimp only
  simp only [tot_bnd, tot_ret, tot_zm, tot_nw, tot_rb, tot_fzL, tot_drL, tot_gtLS, tot_upLS, tot_lft, tot_gtL, tot_upL, tot_some, tot_rtF, ex_some, ex_someT, and_true, true_and, implies_true, few0, few1, few2, few3, tot_zmI, tot_wp, tot_psh, tot_pshL, tot_gtI, tot_upI, tot_bndX, tot_tryM, tot_tryO, tot_tryR]
  rw [tot_fthn]
  refine tot_fdE_skip (fun a ha => ?_) ?_
  · have q := h.acts a ha
    have w1 := law_whole_ok (x := a.2) (lo := 0) (hi := (m : Int) - 1) q.2.1 (by have := q.2.2; omega)
    refine tot_cut (fun w => w = (false, ())) ?_ fun b s e => ?_
    · obtain ⟨w, n⟩ := a
      have qw : w = "open" ∨ w = "shut" ∨ w = "turn" := q.1
      have e3 : few ([("open" : Str), "shut", "turn"]) = some [("open" : Str), "shut", "turn"] := rfl
      have hw : (([("open" : Str), "shut", "turn"]).any fun b => decide (b = w)) = true := by rcases qw with rfl | rfl | rfl <;> simp
      simp only [tot_bnd, tot_ret, tot_zm, tot_nw, tot_rb, tot_fzL, tot_drL, tot_gtLS, tot_upLS, tot_lft, tot_gtL, tot_upL, tot_bif, tot_some, tot_rtF, ex_some, ex_someT, and_true, true_and, implies_true, few0, few1, few2, few3, tot_zmI, tot_wp, tot_psh, tot_pshL, tot_gtI, tot_upI, tot_bndX, tot_tryM, tot_tryO, tot_tryR, e3, hw, w1, Bool.not_true, Bool.false_eq_true, false_implies, true_implies, true_and, and_true]
    cases e
    rw [tot_bif]
    exact ⟨fun e => (nomatch e), fun _ => by simp only [tot_bnd, tot_ret, tot_zm, tot_nw, tot_rb, tot_fzL, tot_drL, tot_gtLS, tot_upLS, tot_lft, tot_gtL, tot_upL, tot_bif, tot_some, tot_rtF, ex_some, ex_someT, and_true, true_and, implies_true, few0, few1, few2, few3, tot_zmI, tot_wp, tot_psh, tot_pshL, tot_gtI, tot_upI, tot_bndX, tot_tryM, tot_tryO, tot_tryR]⟩
  dsimp only
  cases ht : v.2.2.2.2.1 with
  | none => simp [tot_bnd, tot_ret, tot_zm, tot_nw, tot_rb, tot_fzL, tot_drL, tot_gtLS, tot_upLS, tot_lft, tot_gtL, tot_upL, tot_bif, tot_some, tot_rtF, ex_some, ex_someT, and_true, true_and, implies_true, few0, few1, few2, few3, tot_zmI, tot_wp, tot_psh, tot_pshL, tot_gtI, tot_upI, tot_bndX, tot_tryM, tot_tryO, tot_tryR, ht]
  | some t =>
    have q := h.spill t ht
    have w2 := law_whole_ok (x := t) (lo := (k : Int) + 1) (hi := (n : Int) - 1) (by omega) (by omega)
    simp [tot_bnd, tot_ret, tot_zm, tot_nw, tot_rb, tot_fzL, tot_drL, tot_gtLS, tot_upLS, tot_lft, tot_gtL, tot_upL, tot_bif, tot_some, tot_rtF, ex_some, ex_someT, and_true, true_and, implies_true, few0, few1, few2, few3, tot_zmI, tot_wp, tot_psh, tot_pshL, tot_gtI, tot_upI, tot_bndX, tot_tryM, tot_tryO, tot_tryR, ht, w2]

end Law

namespace Law
open PySem L2 T
theorem law_is_net_ok {net : Net} (h : NetOk net) (h1 : net.1.length ≤ 12) (h2 : net.2.length ≤ 12) : m_law_is_net net = some true := by
  have n1 := h.n1
  unfold m_law_is_net
  rw [tot_rn]
  have c2 : chk ([Sum.inl net.1, Sum.inr net.2] : List (List Vessel ⊕ List Spout)) = some [Sum.inl net.1, Sum.inr net.2] := chk_ok (show 2 < 1000000 by decide)
  refine tot_cut (fun w => w = (false, ())) ?_ fun b s e => ?_
  · simp only [tot_bnd, tot_ret, tot_zm, tot_nw, tot_rb, tot_fzL, tot_drL, tot_gtLS, tot_upLS, tot_lft, tot_gtL, tot_upL, tot_bif, tot_some, tot_rtF, ex_some, ex_someT, and_true, true_and, implies_true, few0, few1, few2, few3, tot_zmI, tot_wp, tot_psh, tot_pshL, tot_gtI, tot_upI, tot_bndX, tot_tryM, tot_tryO, tot_tryR, c2, tot_mpc, tot_mp0]
    simp
  cases e
  rw [tot_bif]
  refine ⟨fun e => (nomatch e), fun _ => ?_⟩
  refine tot_cut (fun w => w = (false, ())) (by simp [tot_bnd, tot_ret, tot_zm, tot_nw, tot_rb, tot_fzL, tot_drL, tot_gtLS, tot_upLS, tot_lft, tot_gtL, tot_upL, tot_bif, tot_some, tot_rtF, ex_some, ex_someT, and_true, true_and, implies_true, few0, few1, few2, few3, tot_zmI, tot_wp, tot_psh, tot_pshL, tot_gtI, tot_upI, tot_bndX, tot_tryM, tot_tryO, tot_tryR]; try (first | omega | exact ⟨⟨fun _ => by omega, by omega⟩, by omega⟩ | exact ⟨fun _ => by omega, by omega, by omega⟩)) fun b s e => ?_
  cases e
  rw [tot_bif]
  refine ⟨fun e => (nomatch e), fun _ => ?_⟩
  refine tot_cut (fun w => w = (rngL 0 net.1.length, ())) (by simp only [tot_bnd, tot_ret, tot_zm, tot_nw, tot_rb, tot_fzL, tot_drL, tot_gtLS, tot_upLS, tot_lft, tot_gtL, tot_upL, tot_bif, tot_some, tot_rtF, ex_some, ex_someT, and_true, true_and, implies_true, few0, few1, few2, few3, tot_zmI, tot_wp, tot_psh, tot_pshL, tot_gtI, tot_upI, tot_bndX, tot_tryM, tot_tryO, tot_tryR, rng_ok (show net.1.length ≤ 1000000 by omega)]) fun q s e => ?_
  cases e
  rw [tot_fthn]
  refine tot_fdE_skip (fun y hy => ?_) ?_
  · obtain ⟨k, hk⟩ := List.getElem?_of_mem hy
    obtain ⟨rfl, hl⟩ := rngL_at hk
    have hv := h.ves k _ (get_at v0 hl)
    refine tot_cut (fun w => w = (false, ())) (by simp only [tot_bnd, tot_ret, tot_zm, tot_nw, tot_rb, tot_fzL, tot_drL, tot_gtLS, tot_upLS, tot_lft, tot_gtL, tot_upL, tot_bif, tot_some, tot_rtF, ex_some, ex_someT, and_true, true_and, implies_true, few0, few1, few2, few3, tot_zmI, tot_wp, tot_psh, tot_pshL, tot_gtI, tot_upI, tot_bndX, tot_tryM, tot_tryO, tot_tryR, atI_d v0 hl, law_ves_ok hv]; rfl) fun b s e => ?_
    cases e
    rw [tot_bif]
    exact ⟨fun e => (nomatch e), fun _ => by simp only [tot_bnd, tot_ret, tot_zm, tot_nw, tot_rb, tot_fzL, tot_drL, tot_gtLS, tot_upLS, tot_lft, tot_gtL, tot_upL, tot_bif, tot_some, tot_rtF, ex_some, ex_someT, and_true, true_and, implies_true, few0, few1, few2, few3, tot_zmI, tot_wp, tot_psh, tot_pshL, tot_gtI, tot_upI, tot_bndX, tot_tryM, tot_tryO, tot_tryR]⟩
  dsimp only
  simp only [tot_bnd, tot_ret, tot_zm, tot_nw, tot_rb, tot_fzL, tot_drL, tot_gtLS, tot_upLS, tot_lft, tot_gtL, tot_upL, tot_some, tot_rtF, ex_some, ex_someT, and_true, true_and, implies_true, few0, few1, few2, few3, tot_zmI, tot_wp, tot_psh, tot_pshL, tot_gtI, tot_upI, tot_bndX, tot_tryM, tot_tryO, tot_tryR]
  rw [tot_fthn]
  refine tot_fdE_skip (fun p hp => ?_) ?_
  · have q := h.spo p hp
    have w1 := law_whole_ok (x := p.1) (lo := 0) (hi := (net.1.length : Int) - 1) q.1 (by omega)
    have w2 := law_whole_ok (x := p.2.1) (lo := 0) (hi := 60) q.2.2.1 q.2.2.2
    refine tot_cut (fun w => w = (false, ())) (by simp [tot_bnd, tot_ret, tot_zm, tot_nw, tot_rb, tot_fzL, tot_drL, tot_gtLS, tot_upLS, tot_lft, tot_gtL, tot_upL, tot_bif, tot_some, tot_rtF, ex_some, ex_someT, and_true, true_and, implies_true, few0, few1, few2, few3, tot_zmI, tot_wp, tot_psh, tot_pshL, tot_gtI, tot_upI, tot_bndX, tot_tryM, tot_tryO, tot_tryR]) fun b s e => ?_
    cases e
    rw [tot_bif]
    refine ⟨fun e => (nomatch e), fun _ => ?_⟩
    refine tot_cut (fun w => w = (false, ())) (by simp [tot_bnd, tot_ret, tot_zm, tot_nw, tot_rb, tot_fzL, tot_drL, tot_gtLS, tot_upLS, tot_lft, tot_gtL, tot_upL, tot_bif, tot_some, tot_rtF, ex_some, ex_someT, and_true, true_and, implies_true, few0, few1, few2, few3, tot_zmI, tot_wp, tot_psh, tot_pshL, tot_gtI, tot_upI, tot_bndX, tot_tryM, tot_tryO, tot_tryR, w1, w2]) fun b s e => ?_
    cases e
    rw [tot_bif]
    exact ⟨fun e => (nomatch e), fun _ => by simp only [tot_bnd, tot_ret, tot_zm, tot_nw, tot_rb, tot_fzL, tot_drL, tot_gtLS, tot_upLS, tot_lft, tot_gtL, tot_upL, tot_bif, tot_some, tot_rtF, ex_some, ex_someT, and_true, true_and, implies_true, few0, few1, few2, few3, tot_zmI, tot_wp, tot_psh, tot_pshL, tot_gtI, tot_upI, tot_bndX, tot_tryM, tot_tryO, tot_tryR]⟩
  simp only [tot_bnd, tot_ret, tot_zm, tot_nw, tot_rb, tot_fzL, tot_drL, tot_gtLS, tot_upLS, tot_lft, tot_gtL, tot_upL, tot_bif, tot_some, tot_rtF, ex_some, ex_someT, and_true, true_and, implies_true, few0, few1, few2, few3, tot_zmI, tot_wp, tot_psh, tot_pshL, tot_gtI, tot_upI, tot_bndX, tot_tryM, tot_tryO, tot_tryR]
abbrev dPOut := (dTh (daC (dOpt (dSum dInt dStr)) (daOne (dOpt dInt))))
abbrev dPAct := (dTh (daC dStr (daOne (dOpt dInt))))
abbrev dPVes := (dTh (daC (dOpt dInt) (daC (dOpt dInt) (daC (dTup dPOut) (daC dBool (daC (dOpt (dSum dInt dStr)) (daOne (dTup dPAct))))))))
abbrev dPSpo := (dTh (daC (dOpt dInt) (daC (dOpt dInt) (daOne dBool))))
abbrev dPNet := (dTh (daC (dTup dPVes) (daOne (dTup dPSpo))))
theorem data_same (net : Net) : dPNet.d (emN net) = dNet.d net := by
  have tg : ∀ t : Option Int, (dOpt (dSum dInt dStr)).d (t.map Sum.inl) = (dOpt dInt).d t := fun t => by cases t <;> rfl
  have eo : ∀ os : List Out, (dTup dPOut).d (os.map fun o => (o.1.map Sum.inl, some o.2)) = (dTup dOut).d os := fun os => by
    show PySem.PyData.tuple ((os.map _).map _) = PySem.PyData.tuple (os.map _)
    rw [List.map_map]
    congr 1
    refine List.map_congr_left fun o _ => ?_
    show PySem.PyData.tuple [_, _] = PySem.PyData.tuple [_, _]
    rw [tg]; rfl
  have ea : ∀ as : List Act, (dTup dPAct).d (as.map fun a => (a.1, some a.2)) = (dTup dAct).d as := fun as => by
    show PySem.PyData.tuple ((as.map _).map _) = PySem.PyData.tuple (as.map _)
    rw [List.map_map]
    rfl
  have ev : ∀ v : Vessel, dPVes.d (emV v) = dVessel.d v := fun v => by
    show PySem.PyData.tuple [_, _, _, _, _, _] = PySem.PyData.tuple [_, _, _, _, _, _]
    have e1 := eo v.2.2.1
    have e2 := tg v.2.2.2.2.1
    have e3 := ea v.2.2.2.2.2
    unfold emV
    dsimp only
    rw [e1, e2, e3]
    rfl
  show PySem.PyData.tuple [PySem.PyData.tuple ((net.1.map emV).map dPVes.d), PySem.PyData.tuple ((net.2.map emS).map dPSpo.d)] = PySem.PyData.tuple [PySem.PyData.tuple (net.1.map dVessel.d), PySem.PyData.tuple (net.2.map dSpout.d)]
  rw [List.map_map, List.map_map]
  have e1 : net.1.map (dPVes.d ∘ emV) = net.1.map dVessel.d := List.map_congr_left fun v _ => ev v
  rw [e1]
  rfl

end Law

namespace Law
open PySem L2 T
/-! nets as data -/
theorem strOk_words : PySem.PyData.strOk "open" = true ∧ PySem.PyData.strOk "shut" = true ∧ PySem.PyData.strOk "turn" = true ∧ PySem.PyData.strOk "many" = true ∧ PySem.PyData.strOk "vessel" = true := by decide +kernel
def NetL (n : Net) : Prop := ∀ v ∈ n.1, ∀ a ∈ v.2.2.2.2.2, PySem.PyData.strOk a.1 = true
theorem NetOk.l {n : Net} (h : NetOk n) : NetL n := fun v hv a ha => by
  obtain ⟨k, hk⟩ := List.getElem?_of_mem hv
  have := strOk_words
  rcases ((h.ves k v hk).acts a ha).1 with e | e | e <;> rw [e] <;> simp [this]
theorem dl_out : DL dOut 2 (fun _ => True) := (dl_th (dla_c (dl_opt de_int.dl (by decide)) (dla_one de_int.dl))).imp fun _ _ => ⟨fun _ _ => trivial, trivial⟩
theorem dl_act : DL dAct 2 (fun a => PySem.PyData.strOk a.1 = true) := (dl_th (dla_c dl_str (dla_one de_int.dl))).imp fun _ h => ⟨h, trivial⟩
theorem dl_vessel : DL dVessel 4 (fun v => ∀ a ∈ v.2.2.2.2.2, PySem.PyData.strOk a.1 = true) :=
  (dl_th (dla_c (de_int.dl.up (by decide)) (dla_c (de_int.dl.up (by decide)) (dla_c (dl_tup dl_out) (dla_c (de_bool.dl.up (by decide)) (dla_c ((dl_opt de_int.dl (by decide)).up (by decide)) (dla_one (dl_tup dl_act)))))))).imp fun _ h => ⟨trivial, trivial, fun _ _ => trivial, trivial, fun _ _ => trivial, h⟩
theorem dl_spout : DL dSpout 2 (fun _ => True) := (dl_th (dla_c de_int.dl (dla_c de_int.dl (dla_one de_bool.dl)))).imp fun _ _ => ⟨trivial, trivial, trivial⟩
theorem dl_net : DL dNet 6 NetL := (dl_th (dla_c (dl_tup dl_vessel) (dla_one ((dl_tup dl_spout).up (by decide))))).imp fun _ h => ⟨h, fun _ _ => trivial⟩

theorem law_true (ns : List Int) : ∃ s1, m_law (ns, 0, 0) = some (true, s1) := by
  have e : Tot m_law (ns, 0, 0) (fun w => w.1 = true) := by
    have e4 : rng 0 4 = some (rngL 0 4) := rng_ok (n := 4) (by decide)
    unfold m_law
    simp only [tot_bnd, tot_ret, tot_zm, tot_nw, tot_rb, tot_fzL, tot_drL, tot_gtLS, tot_upLS, tot_lft, tot_gtL, tot_upL, tot_some, tot_rtF, ex_some, ex_someT, and_true, true_and, implies_true, few0, few1, few2, few3, tot_zmI, tot_wp, tot_psh, tot_pshL, tot_gtI, tot_upI, tot_bndX, tot_tryM, tot_tryO, tot_tryR, e4]
    rw [tot_fthn]
    refine tot_fdE (fun _ _ _ => True) trivial ?_ (fun z s1 _ => by simp only [tot_bnd, tot_ret, tot_zm, tot_nw, tot_rb, tot_fzL, tot_drL, tot_gtLS, tot_upLS, tot_lft, tot_gtL, tot_upL, tot_bif, tot_some, tot_rtF, ex_some, ex_someT, and_true, true_and, implies_true, few0, few1, few2, few3, tot_zmI, tot_wp, tot_psh, tot_pshL, tot_gtI, tot_upI, tot_bndX, tot_tryM, tot_tryO, tot_tryR])
    intro pre x post z s _ _
    refine tot_cut (fun w => NetOk w.1 ∧ w.1.1.length ≤ 12 ∧ w.1.2.length ≤ 12) ?_ fun net s1 hn => ?_
    · simp only [tot_bnd, tot_ret, tot_zm, tot_nw, tot_rb, tot_fzL, tot_drL, tot_gtLS, tot_upLS, tot_lft, tot_gtL, tot_upL, tot_bif, tot_some, tot_rtF, ex_some, ex_someT, and_true, true_and, implies_true, few0, few1, few2, few3, tot_zmI, tot_wp, tot_psh, tot_pshL, tot_gtI, tot_upI, tot_bndX, tot_tryM, tot_tryO, tot_tryR]
      exact (net_ok (most := 12) (by decide) (by decide) _).mono fun w2 h2 => ⟨h2.1, by have := h2.2.1; omega, h2.2.2⟩
    dsimp only at hn
    obtain ⟨h, h1, h2⟩ := hn
    have e1 : neD (dPNet.d (emN net)) (dNet.d net) = some false := by rw [data_same]; exact neL_refl dl_net (by decide) h.l
    simp only [tot_bnd, tot_ret, tot_zm, tot_nw, tot_rb, tot_fzL, tot_drL, tot_gtLS, tot_upLS, tot_lft, tot_gtL, tot_upL, tot_bif, tot_some, tot_rtF, ex_some, ex_someT, and_true, true_and, implies_true, few0, few1, few2, few3, tot_zmI, tot_wp, tot_psh, tot_pshL, tot_gtI, tot_upI, tot_bndX, tot_tryM, tot_tryO, tot_tryR, law_text_ok h, okO_inl (read_net_ok h h1 h2), net_text_ok h, conv_back, law_is_net_ok h h1 h2, e1]
    simp
  obtain ⟨⟨b, s1⟩, e1, e2⟩ := e
  dsimp only at e2
  subst e2
  exact ⟨s1, e1⟩

end Law

namespace Law
open PySem PySem.Spec PyProof.Rows L2 T
/-! the head -/
def fn : List He.DefD := [dd ("is_whole", none) "is_whole" "is_whole" s_is_whole, dd ("is_row", none) "is_row" "is_row" s_is_row_net, dd ("is_out", none) "is_out" "is_out" s_is_out, dd ("is_act", none) "is_act" "is_act" s_is_act, dd ("is_vessel", none) "is_vessel" "is_vessel" s_is_vessel, dd ("is_spout", none) "is_spout" "is_spout" s_is_spout, dd ("is_net", none) "is_net" "is_net" s_is_net, dd ("_law_draw", none) "_law_draw" "_law_draw" s_law_draw, dd ("_law_outs", none) "_law_outs" "_law_outs" s_law_outs, dd ("_law_vessel", none) "_law_vessel" "_law_vessel" s_law_vessel, dd ("_law_net", none) "_law_net" "_law_net" s_law_net, dd ("target_text", none) "target_text" "target_text" s_target_text, dd ("vessel_text", none) "vessel_text" "vessel_text" s_vessel_text, dd ("spout_text", none) "spout_text" "spout_text" s_spout_text, dd ("net_text", none) "net_text" "net_text" s_net_text, dd ("read_number", none) "read_number" "read_number" s_read_number, dd ("read_target", none) "read_target" "read_target" s_read_target, dd ("read_pairs", none) "read_pairs" "read_pairs" s_read_pairs, dd ("read_vessel", none) "read_vessel" "read_vessel" s_read_vessel, dd ("read_spout", none) "read_spout" "read_spout" s_read_spout, dd ("read_net", none) "read_net" "read_net" s_read_net, dd ("_law_goal", none) "_law_goal" "_law_goal" s_law_goal, dd ("_law_text", none) "_law_text" "_law_text" s_law_text, dd ("_law_whole", none) "_law_whole" "_law_whole" s_law_whole, dd ("_law_is_vessel", none) "_law_is_vessel" "_law_is_vessel" s_law_is_vessel, dd ("_law_is_net", none) "_law_is_net" "_law_is_net" s_law_is_net, dd ("law", none) "law" "law" s_law]
def fa : List He.Fa := [.glo "is_whole", .glo "is_row", .glo "is_out", .glo "is_act", .glo "is_vessel", .glo "is_spout", .glo "is_net", .glo "_law_draw", .glo "_law_outs", .glo "_law_vessel", .glo "_law_net", .glo "target_text", .glo "vessel_text", .glo "spout_text", .glo "net_text", .glo "read_number", .glo "read_target", .glo "read_pairs", .glo "read_vessel", .glo "read_spout", .glo "read_net", .glo "_law_goal", .glo "_law_text", .glo "_law_whole", .glo "_law_is_vessel", .glo "_law_is_net", .glo "law", .free "all", .free "bool", .free "enumerate", .free "int", .free "isinstance", .free "len", .free "list", .free "range", .free "str", .free "tuple", .str "FIGURES" "0123456789", .int "MOST" 12, .int "MOST_BRIM" 200, .int "MOST_FIGURES" 9, .int "MOST_SIZE" 60, .glo "WORDS", .glo "NoText", .exc "NoText"]
def tb : List (Str × List He.Dv) := [("WORDS", [.str "open", .str "shut", .str "turn"])]
def loose : List Str := (["TipError", "NoText", "MOST", "MOST_SIZE", "MOST_BRIM", "WORDS", "is_whole", "is_row", "is_out", "is_act", "is_vessel", "is_spout", "is_net", "FIGURES", "MOST_FIGURES", "target_text", "vessel_text", "spout_text", "net_text", "read_number", "read_target", "read_pairs", "read_vessel", "read_spout", "read_net", "_law_draw", "_law_whole", "_law_outs", "_law_vessel", "_law_net"] : List Str) ++ (["_law_is_net", "_law_is_vessel", "_law_goal", "_law_text"] : List Str)
def xtab : XTab := []
abbrev R : PySem.W.OpenRow := PySem.W.OpenLaw.row PySem.Challenge.rw_tipwell_k14_nets_written_and_read
abbrev hk : PySem.W.Hook := hookX 5 xtab tb fa fn
def ob (s : PySem.W.SharedT) : Bool × Bool × He.AlD := obsX xtab tb fa fn (He.frG (HandSHeadRun.getT s) (He.asD (HandSHeadRun.getT s) 5))
theorem ob_eq (s : PySem.W.SharedT) : ob s = hk.obs s.abs := obsX_eq (HandSHeadRun.getT_eq s)
theorem run (w : World) : HandSHeadRun.RunEq R (PySem.W.view R.prog [38]) hk ob 6000 loose w := by
  intro os
  kernel_rfl
theorem facts {P : Program} {w : World} {K : PySem.W.Frag} {h : Heap} {mg : Str → Option Value} {f : Addr} (X : K.In h) (G : h.Ns mainGlobals mg) (hfa : mg ("law" : Str) = some (.ref f)) (c00 : SaysX xtab tb fa fn K) (hL : ∀ ns : List Int, ns.length ≤ 63 → ∃ s1, m_law (ns, 0, 0) = some (true, s1)) :
    ∃ fd : FuncData, (∀ (s : Shared) (v : Value), BindsTo s fd ⟨[v], []⟩ [("script", v)]) ∧ ∀ base : Heap, K.In base → base.Ns mainGlobals mg → FnOk P w K mg base CX0 6 f fd ["script"] (spLaw K) := by
  have c0 : SaysT tb fa fn K := c00.T
  have c : He.SaysD fa fn K := c0.D
  obtain ⟨d0, D0⟩ := c.def_ 0 (d := dd ("is_whole", none) "is_whole" "is_whole" s_is_whole) rfl
  obtain ⟨d1, D1⟩ := c.def_ 1 (d := dd ("is_row", none) "is_row" "is_row" s_is_row_net) rfl
  obtain ⟨d2, D2⟩ := c.def_ 2 (d := dd ("is_out", none) "is_out" "is_out" s_is_out) rfl
  obtain ⟨d3, D3⟩ := c.def_ 3 (d := dd ("is_act", none) "is_act" "is_act" s_is_act) rfl
  obtain ⟨d4, D4⟩ := c.def_ 4 (d := dd ("is_vessel", none) "is_vessel" "is_vessel" s_is_vessel) rfl
  obtain ⟨d5, D5⟩ := c.def_ 5 (d := dd ("is_spout", none) "is_spout" "is_spout" s_is_spout) rfl
  obtain ⟨d6, D6⟩ := c.def_ 6 (d := dd ("is_net", none) "is_net" "is_net" s_is_net) rfl
  obtain ⟨d7, D7⟩ := c.def_ 7 (d := dd ("_law_draw", none) "_law_draw" "_law_draw" s_law_draw) rfl
  obtain ⟨d8, D8⟩ := c.def_ 8 (d := dd ("_law_outs", none) "_law_outs" "_law_outs" s_law_outs) rfl
  obtain ⟨d9, D9⟩ := c.def_ 9 (d := dd ("_law_vessel", none) "_law_vessel" "_law_vessel" s_law_vessel) rfl
  obtain ⟨d10, D10⟩ := c.def_ 10 (d := dd ("_law_net", none) "_law_net" "_law_net" s_law_net) rfl
  obtain ⟨d11, D11⟩ := c.def_ 11 (d := dd ("target_text", none) "target_text" "target_text" s_target_text) rfl
  obtain ⟨d12, D12⟩ := c.def_ 12 (d := dd ("vessel_text", none) "vessel_text" "vessel_text" s_vessel_text) rfl
  obtain ⟨d13, D13⟩ := c.def_ 13 (d := dd ("spout_text", none) "spout_text" "spout_text" s_spout_text) rfl
  obtain ⟨d14, D14⟩ := c.def_ 14 (d := dd ("net_text", none) "net_text" "net_text" s_net_text) rfl
  obtain ⟨d15, D15⟩ := c.def_ 15 (d := dd ("read_number", none) "read_number" "read_number" s_read_number) rfl
  obtain ⟨d16, D16⟩ := c.def_ 16 (d := dd ("read_target", none) "read_target" "read_target" s_read_target) rfl
  obtain ⟨d17, D17⟩ := c.def_ 17 (d := dd ("read_pairs", none) "read_pairs" "read_pairs" s_read_pairs) rfl
  obtain ⟨d18, D18⟩ := c.def_ 18 (d := dd ("read_vessel", none) "read_vessel" "read_vessel" s_read_vessel) rfl
  obtain ⟨d19, D19⟩ := c.def_ 19 (d := dd ("read_spout", none) "read_spout" "read_spout" s_read_spout) rfl
  obtain ⟨d20, D20⟩ := c.def_ 20 (d := dd ("read_net", none) "read_net" "read_net" s_read_net) rfl
  obtain ⟨d21, D21⟩ := c.def_ 21 (d := dd ("_law_goal", none) "_law_goal" "_law_goal" s_law_goal) rfl
  obtain ⟨d22, D22⟩ := c.def_ 22 (d := dd ("_law_text", none) "_law_text" "_law_text" s_law_text) rfl
  obtain ⟨d23, D23⟩ := c.def_ 23 (d := dd ("_law_whole", none) "_law_whole" "_law_whole" s_law_whole) rfl
  obtain ⟨d24, D24⟩ := c.def_ 24 (d := dd ("_law_is_vessel", none) "_law_is_vessel" "_law_is_vessel" s_law_is_vessel) rfl
  obtain ⟨d25, D25⟩ := c.def_ 25 (d := dd ("_law_is_net", none) "_law_is_net" "_law_is_net" s_law_is_net) rfl
  obtain ⟨d26, D26⟩ := c.def_ 26 (d := dd ("law", none) "law" "law" s_law) rfl
  have F0 := fun_of_D (st := s_is_whole) D0
  have F1 := fun_of_D (st := s_is_row_net) D1
  have F2 := fun_of_D (st := s_is_out) D2
  have F3 := fun_of_D (st := s_is_act) D3
  have F4 := fun_of_D (st := s_is_vessel) D4
  have F5 := fun_of_D (st := s_is_spout) D5
  have F6 := fun_of_D (st := s_is_net) D6
  have F7 := fun_of_D (st := s_law_draw) D7
  have F8 := fun_of_D (st := s_law_outs) D8
  have F9 := fun_of_D (st := s_law_vessel) D9
  have F10 := fun_of_D (st := s_law_net) D10
  have F11 := fun_of_D (st := s_target_text) D11
  have F12 := fun_of_D (st := s_vessel_text) D12
  have F13 := fun_of_D (st := s_spout_text) D13
  have F14 := fun_of_D (st := s_net_text) D14
  have F15 := fun_of_D (st := s_read_number) D15
  have F16 := fun_of_D (st := s_read_target) D16
  have F17 := fun_of_D (st := s_read_pairs) D17
  have F18 := fun_of_D (st := s_read_vessel) D18
  have F19 := fun_of_D (st := s_read_spout) D19
  have F20 := fun_of_D (st := s_read_net) D20
  have F21 := fun_of_D (st := s_law_goal) D21
  have F22 := fun_of_D (st := s_law_text) D22
  have F23 := fun_of_D (st := s_law_whole) D23
  have F24 := fun_of_D (st := s_law_is_vessel) D24
  have F25 := fun_of_D (st := s_law_is_net) D25
  have F26 := fun_of_D (st := s_law) D26
  have e := hfa.symm.trans (He.glo_ok X G (c.fact 26 (f := .glo "law") rfl))
  cases e
  have T : Txt K mg := ⟨He.free_ok X G (c.fact 27 (f := .free "all") rfl), He.free_ok X G (c.fact 28 (f := .free "bool") rfl), He.free_ok X G (c.fact 29 (f := .free "enumerate") rfl), He.free_ok X G (c.fact 30 (f := .free "int") rfl), He.free_ok X G (c.fact 31 (f := .free "isinstance") rfl), He.free_ok X G (c.fact 32 (f := .free "len") rfl), He.free_ok X G (c.fact 33 (f := .free "list") rfl), He.free_ok X G (c.fact 34 (f := .free "range") rfl), He.free_ok X G (c.fact 35 (f := .free "str") rfl), He.free_ok X G (c.fact 36 (f := .free "tuple") rfl), He.str_ok X G (c.fact 37 (f := .str "FIGURES" "0123456789") rfl), He.int_ok X G (c.fact 38 (f := .int "MOST" 12) rfl), He.int_ok X G (c.fact 39 (f := .int "MOST_BRIM" 200) rfl), He.int_ok X G (c.fact 40 (f := .int "MOST_FIGURES" 9) rfl), He.int_ok X G (c.fact 41 (f := .int "MOST_SIZE" 60) rfl), ⟨He.glo_ok X G (c.fact 42 (f := .glo "WORDS") rfl), fun H => c0.tup 0 (x := "WORDS") rfl H⟩, ⟨He.glo_ok X G (c.fact 43 (f := .glo "NoText") rfl), (He.exc_ok (c.fact 44 (f := .exc "NoText") rfl)).1, (He.exc_ok (c.fact 44 (f := .exc "NoText") rfl)).2.1, (He.exc_ok (c.fact 44 (f := .exc "NoText") rfl)).2.2.1, (He.exc_ok (c.fact 44 (f := .exc "NoText") rfl)).2.2.2⟩⟩
  have b := FunD.bindsA (ps := ["script"]) D26 fun _ _ _ _ _ _ us hl => match us, hl with | [_], _ => rfl
  refine ⟨d26, fun s v => b s [v] rfl, fun base _ _ => ?_⟩
  have c_law_draw : Kn P w K mg base CX0 1 "_law_draw" ["tape", "many"] sp_law_draw := kn_of F7 (He.glo_ok X G (c.fact 7 (f := .glo "_law_draw") rfl)) (F7.binds (ps := ["tape", "many"]) fun _ _ _ _ _ _ us hl => match us, hl with | [_, _], _ => rfl) (ok_law_draw F7 T)
  have c_law_outs : Kn P w K mg base CX0 2 "_law_outs" ["tape", "many", "small"] sp_law_outs := kn_of F8 (He.glo_ok X G (c.fact 8 (f := .glo "_law_outs") rfl)) (F8.binds (ps := ["tape", "many", "small"]) fun _ _ _ _ _ _ us hl => match us, hl with | [_, _, _], _ => rfl) (ok_law_outs F8 T c_law_draw)
  have c_law_vessel : Kn P w K mg base CX0 3 "_law_vessel" ["tape", "number", "many", "spouts", "small"] sp_law_vessel := kn_of F9 (He.glo_ok X G (c.fact 9 (f := .glo "_law_vessel") rfl)) (F9.binds (ps := ["tape", "number", "many", "spouts", "small"]) fun _ _ _ _ _ _ us hl => match us, hl with | [_, _, _, _, _], _ => rfl) (ok_law_vessel F9 T c_law_draw c_law_outs)
  have c_law_net : Kn P w K mg base CX0 4 "_law_net" ["tape", "most", "small"] sp_law_net := kn_of F10 (He.glo_ok X G (c.fact 10 (f := .glo "_law_net") rfl)) (F10.binds (ps := ["tape", "most", "small"]) fun _ _ _ _ _ _ us hl => match us, hl with | [_, _, _], _ => rfl) (ok_law_net F10 T c_law_draw c_law_vessel)
  have c_law_goal : Kn P w K mg base CX0 1 "_law_goal" ["target"] sp_law_goal := kn_of F21 (He.glo_ok X G (c.fact 21 (f := .glo "_law_goal") rfl)) (F21.binds (ps := ["target"]) fun _ _ _ _ _ _ us hl => match us, hl with | [_], _ => rfl) (ok_law_goal F21 T)
  have c_law_text : Kn P w K mg base CX0 2 "_law_text" ["net"] sp_law_text := kn_of F22 (He.glo_ok X G (c.fact 22 (f := .glo "_law_text") rfl)) (F22.binds (ps := ["net"]) fun _ _ _ _ _ _ us hl => match us, hl with | [_], _ => rfl) (ok_law_text F22 T c_law_goal)
  have c_read_pairs : Kn P w K mg base CX0 1 "read_pairs" ["word", "sign"] sp_read_pairs := kn_of F17 (He.glo_ok X G (c.fact 17 (f := .glo "read_pairs") rfl)) (F17.binds (ps := ["word", "sign"]) fun _ _ _ _ _ _ us hl => match us, hl with | [_, _], _ => rfl) (ok_read_pairs F17 T)
  have c_read_number : Kn P w K mg base CX0 1 "read_number" ["word"] sp_read_number := kn_of F15 (He.glo_ok X G (c.fact 15 (f := .glo "read_number") rfl)) (F15.binds (ps := ["word"]) fun _ _ _ _ _ _ us hl => match us, hl with | [_], _ => rfl) (ok_read_number F15 T)
  have c_read_target : Kn P w K mg base CX0 2 "read_target" ["word"] sp_read_target := kn_of F16 (He.glo_ok X G (c.fact 16 (f := .glo "read_target") rfl)) (F16.binds (ps := ["word"]) fun _ _ _ _ _ _ us hl => match us, hl with | [_], _ => rfl) (ok_read_target F16 T c_read_number)
  have c_read_vessel : Kn P w K mg base (L2.CX P w) 3 "read_vessel" ["words"] (sp_read_vessel K) := kn_of F18 (He.glo_ok X G (c.fact 18 (f := .glo "read_vessel") rfl)) (F18.binds (ps := ["words"]) fun _ _ _ _ _ _ us hl => match us, hl with | [_], _ => rfl) (ok_read_vessel F18 T c_read_pairs c_read_target c_read_number)
  have c_read_spout : Kn P w K mg base (L2.CX P w) 2 "read_spout" ["words"] (sp_read_spout K) := kn_of F19 (He.glo_ok X G (c.fact 19 (f := .glo "read_spout") rfl)) (F19.binds (ps := ["words"]) fun _ _ _ _ _ _ us hl => match us, hl with | [_], _ => rfl) (ok_read_spout F19 T c_read_number)
  have c_is_row_net : Kn P w K mg base CX0 1 "is_row" ["thing", "low", "high"] sp_is_row_net := kn_of F1 (He.glo_ok X G (c.fact 1 (f := .glo "is_row") rfl)) (F1.binds (ps := ["thing", "low", "high"]) fun _ _ _ _ _ _ us hl => match us, hl with | [_, _, _], _ => rfl) (ok_is_row_net F1 T)
  have c_is_row_vessels : Kn P w K mg base CX0 1 "is_row" ["thing", "low", "high"] sp_is_row_vessels := kn_of F1 (He.glo_ok X G (c.fact 1 (f := .glo "is_row") rfl)) (F1.binds (ps := ["thing", "low", "high"]) fun _ _ _ _ _ _ us hl => match us, hl with | [_, _, _], _ => rfl) (ok_is_row_vessels F1 T)
  have c_is_row_spouts : Kn P w K mg base CX0 1 "is_row" ["thing", "low", "high"] sp_is_row_spouts := kn_of F1 (He.glo_ok X G (c.fact 1 (f := .glo "is_row") rfl)) (F1.binds (ps := ["thing", "low", "high"]) fun _ _ _ _ _ _ us hl => match us, hl with | [_, _, _], _ => rfl) (ok_is_row_spouts F1 T)
  have c_is_row_vessel : Kn P w K mg base CX0 1 "is_row" ["thing", "low", "high"] sp_is_row_vessel := kn_of F1 (He.glo_ok X G (c.fact 1 (f := .glo "is_row") rfl)) (F1.binds (ps := ["thing", "low", "high"]) fun _ _ _ _ _ _ us hl => match us, hl with | [_, _, _], _ => rfl) (ok_is_row_vessel F1 T)
  have c_is_whole : Kn P w K mg base CX0 1 "is_whole" ["thing", "low", "high"] sp_is_whole := kn_of F0 (He.glo_ok X G (c.fact 0 (f := .glo "is_whole") rfl)) (F0.binds (ps := ["thing", "low", "high"]) fun _ _ _ _ _ _ us hl => match us, hl with | [_, _, _], _ => rfl) (ok_is_whole F0 T)
  have c_is_row_outs : Kn P w K mg base CX0 1 "is_row" ["thing", "low", "high"] sp_is_row_outs := kn_of F1 (He.glo_ok X G (c.fact 1 (f := .glo "is_row") rfl)) (F1.binds (ps := ["thing", "low", "high"]) fun _ _ _ _ _ _ us hl => match us, hl with | [_, _, _], _ => rfl) (ok_is_row_outs F1 T)
  have c_is_row_out : Kn P w K mg base CX0 1 "is_row" ["thing", "low", "high"] sp_is_row_out := kn_of F1 (He.glo_ok X G (c.fact 1 (f := .glo "is_row") rfl)) (F1.binds (ps := ["thing", "low", "high"]) fun _ _ _ _ _ _ us hl => match us, hl with | [_, _, _], _ => rfl) (ok_is_row_out F1 T)
  have c_is_out : Kn P w K mg base CX0 2 "is_out" ["thing", "many"] sp_is_out := kn_of F2 (He.glo_ok X G (c.fact 2 (f := .glo "is_out") rfl)) (F2.binds (ps := ["thing", "many"]) fun _ _ _ _ _ _ us hl => match us, hl with | [_, _], _ => rfl) (ok_is_out F2 T c_is_row_out c_is_whole)
  have c_is_row_acts : Kn P w K mg base CX0 1 "is_row" ["thing", "low", "high"] sp_is_row_acts := kn_of F1 (He.glo_ok X G (c.fact 1 (f := .glo "is_row") rfl)) (F1.binds (ps := ["thing", "low", "high"]) fun _ _ _ _ _ _ us hl => match us, hl with | [_, _, _], _ => rfl) (ok_is_row_acts F1 T)
  have c_is_row_act : Kn P w K mg base CX0 1 "is_row" ["thing", "low", "high"] sp_is_row_act := kn_of F1 (He.glo_ok X G (c.fact 1 (f := .glo "is_row") rfl)) (F1.binds (ps := ["thing", "low", "high"]) fun _ _ _ _ _ _ us hl => match us, hl with | [_, _, _], _ => rfl) (ok_is_row_act F1 T)
  have c_is_act : Kn P w K mg base CX0 2 "is_act" ["thing", "spouts"] sp_is_act := kn_of F3 (He.glo_ok X G (c.fact 3 (f := .glo "is_act") rfl)) (F3.binds (ps := ["thing", "spouts"]) fun _ _ _ _ _ _ us hl => match us, hl with | [_, _], _ => rfl) (ok_is_act F3 T c_is_row_act c_is_whole)
  have c_is_vessel : Kn P w K mg base CX0 3 "is_vessel" ["thing", "number", "many", "spouts"] sp_is_vessel := kn_of F4 (He.glo_ok X G (c.fact 4 (f := .glo "is_vessel") rfl)) (F4.binds (ps := ["thing", "number", "many", "spouts"]) fun _ _ _ _ _ _ us hl => match us, hl with | [_, _, _, _], _ => rfl) (ok_is_vessel F4 T c_is_row_vessel c_is_whole c_is_row_outs c_is_out c_is_row_acts c_is_act)
  have c_is_row_spout : Kn P w K mg base CX0 1 "is_row" ["thing", "low", "high"] sp_is_row_spout := kn_of F1 (He.glo_ok X G (c.fact 1 (f := .glo "is_row") rfl)) (F1.binds (ps := ["thing", "low", "high"]) fun _ _ _ _ _ _ us hl => match us, hl with | [_, _, _], _ => rfl) (ok_is_row_spout F1 T)
  have c_is_spout : Kn P w K mg base CX0 2 "is_spout" ["thing", "many"] sp_is_spout := kn_of F5 (He.glo_ok X G (c.fact 5 (f := .glo "is_spout") rfl)) (F5.binds (ps := ["thing", "many"]) fun _ _ _ _ _ _ us hl => match us, hl with | [_, _], _ => rfl) (ok_is_spout F5 T c_is_row_spout c_is_whole)
  have c_is_net : Kn P w K mg base CX0 4 "is_net" ["thing"] sp_is_net := kn_of F6 (He.glo_ok X G (c.fact 6 (f := .glo "is_net") rfl)) (F6.binds (ps := ["thing"]) fun _ _ _ _ _ _ us hl => match us, hl with | [_], _ => rfl) (ok_is_net F6 T c_is_row_net c_is_row_vessels c_is_row_spouts c_is_vessel c_is_spout)
  have c_target_text : Kn P w K mg base CX0 1 "target_text" ["target"] sp_target_text := kn_of F11 (He.glo_ok X G (c.fact 11 (f := .glo "target_text") rfl)) (F11.binds (ps := ["target"]) fun _ _ _ _ _ _ us hl => match us, hl with | [_], _ => rfl) (ok_target_text F11 T)
  have c_vessel_text : Kn P w K mg base CX0 2 "vessel_text" ["vessel"] sp_vessel_text := kn_of F12 (He.glo_ok X G (c.fact 12 (f := .glo "vessel_text") rfl)) (F12.binds (ps := ["vessel"]) fun _ _ _ _ _ _ us hl => match us, hl with | [_], _ => rfl) (ok_vessel_text F12 T c_target_text)
  have c_spout_text : Kn P w K mg base CX0 1 "spout_text" ["spout"] sp_spout_text := kn_of F13 (He.glo_ok X G (c.fact 13 (f := .glo "spout_text") rfl)) (F13.binds (ps := ["spout"]) fun _ _ _ _ _ _ us hl => match us, hl with | [_], _ => rfl) (ok_spout_text F13 T)
  have c_net_text : Kn P w K mg base CX0 3 "net_text" ["net"] sp_net_text := kn_of F14 (He.glo_ok X G (c.fact 14 (f := .glo "net_text") rfl)) (F14.binds (ps := ["net"]) fun _ _ _ _ _ _ us hl => match us, hl with | [_], _ => rfl) (ok_net_text F14 T c_vessel_text c_spout_text)
  have c_read_net : Kn P w K mg base (L2.CX P w) 5 "read_net" ["text"] (sp_read_net K) := kn_of F20 (He.glo_ok X G (c.fact 20 (f := .glo "read_net") rfl)) (F20.binds (ps := ["text"]) fun _ _ _ _ _ _ us hl => match us, hl with | [_], _ => rfl) (ok_read_net F20 T c_read_vessel c_read_spout c_is_net c_net_text)
  have c_law_whole : Kn P w K mg base CX0 1 "_law_whole" ["thing", "low", "high"] sp_law_whole := kn_of F23 (He.glo_ok X G (c.fact 23 (f := .glo "_law_whole") rfl)) (F23.binds (ps := ["thing", "low", "high"]) fun _ _ _ _ _ _ us hl => match us, hl with | [_, _, _], _ => rfl) (ok_law_whole F23 T)
  have c_law_is_vessel : Kn P w K mg base CX0 2 "_law_is_vessel" ["thing", "number", "many", "spouts"] sp_law_is_vessel := kn_of F24 (He.glo_ok X G (c.fact 24 (f := .glo "_law_is_vessel") rfl)) (F24.binds (ps := ["thing", "number", "many", "spouts"]) fun _ _ _ _ _ _ us hl => match us, hl with | [_, _, _, _], _ => rfl) (ok_law_is_vessel F24 T c_law_whole)
  have c_law_is_net : Kn P w K mg base CX0 3 "_law_is_net" ["thing"] sp_law_is_net := kn_of F25 (He.glo_ok X G (c.fact 25 (f := .glo "_law_is_net") rfl)) (F25.binds (ps := ["thing"]) fun _ _ _ _ _ _ us hl => match us, hl with | [_], _ => rfl) (ok_law_is_net F25 T c_law_is_vessel c_law_whole)
  exact ok_law F26 T c_law_net c_law_text c_read_net c_net_text c_law_is_net hL
end Law
open PySem PySem.W PySem.Calls PyProof.Rows in
theorem Law.holds (hL : ∀ ns : List Int, ns.length ≤ 63 → ∃ s1, Law.m_law (ns, 0, 0) = some (true, s1)) : PySem.Challenge.rw_tipwell_k14_nets_written_and_read.Holds := by
  w_on; o_law
  refine HandSHeadRun.head_any (r := OpenLaw.row PySem.Challenge.rw_tipwell_k14_nets_written_and_read) (q := view (OpenLaw.row PySem.Challenge.rw_tipwell_k14_nets_written_and_read).prog [38]) (H := Law.hk) (ob := Law.ob) (M := 6000) (loose := Law.loose) (d := HandSHeadRun.topDef (OpenLaw.row PySem.Challenge.rw_tipwell_k14_nets_written_and_read).prog 38) (kwd := []) Law.ob_eq
    (by kernel_rfl) (fun s => by kernel_rfl) Law.run (by kernel_rfl) (by kernel_rfl) (by kernel_rfl) (by rfl) (by first | assumption | decide +kernel) (by decide +kernel) ⟨rfl, rfl, rfl, rfl, rfl, by decide +kernel⟩ ?hw ?hc
  case hw => w_witness2
  case hc =>
    refine L2.walk_ofE (l := PySem.Challenge.rw_tipwell_k14_nets_written_and_read) (n := 63) (k := 6) (x := "script") (CX := L2.CX0) rfl (by decide) (by kernel_rfl) ⟨rfl, by decide, by decide⟩ ?F (fun _ _ _ _ z => z)
    intro w mg fa h Y G hmg0
    obtain ⟨K, KX, c⟩ := Y
    have hmg : mg ("law" : PySem.Str) = some (.ref fa) := by
      have e : (HandSHeadRun.topDef (OpenLaw.row PySem.Challenge.rw_tipwell_k14_nets_written_and_read).prog 38).name = ("law" : PySem.Str) := by kernel_rfl
      rw [← e]
      exact hmg0
    obtain ⟨fd, hb, hF⟩ := Law.facts (P := (PySem.Challenge.rw_tipwell_k14_nets_written_and_read).prog) (w := w) KX G hmg c hL
    exact ⟨K, fd, T.spLaw K, KX, hb, fun H a ns hl _ hS => ⟨a, ns, rfl, hS, hl, fun _ => rfl⟩, hF⟩

theorem PySem.Challenge.cw_tipwell_k14_nets_written_and_read_holds : PySem.Challenge.rw_tipwell_k14_nets_written_and_read.Holds := by
  exact Law.holds fun ns hn => Law.law_true ns
